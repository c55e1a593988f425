import PyProof.Rows.All
import Wide.All
import OpenK.AllK
import Wide.FinOn
import HandS.ForMost
import HandS.EndBits
import HandS.Wide
import HandS.TupAny
import HandS.IsInst
import HandS.Evl
import HandS.Steps
import KE.Datum
import KE.IntTextLaws
import KE.IntTextText
import HandS.Style
import HandS.TupLe
import HandS.SortKw
import HandS.Keys
import KE.SortKeyHeap
import KE.SortData
import HandS.Defaults
import KE.DatumMoreOrd
import HandS.TupMul
import HandS.Dict
import PySem.Challenge.RW_stemkeep_k01_worths_keys_references
set_option Elab.async false
set_option linter.all false
set_option maxRecDepth 100000
set_option maxHeartbeats 4000000
namespace Sk
open PySem PySem.Spec PyProof.Rows L2
/-! ### powers of middling numbers -/
def CPowW (i j : Int) : Prop := 0 ≤ j ∧ j ≤ 1000 ∧ i.natAbs < 2 ^ 4096
theorem op_powW {X : Cx} : OpR X (binaryOp .Pow) (rI CPowW fun i j => .int (i ^ j.toNat)) := opI fun i j _ _ _ _ _ hc q => by
  obtain ⟨h0, h1, h2⟩ := hc
  refine pow_int h0 ?_ q
  have b : Builtin.Int.intBits i ≤ 4096 := by
    have h3 := PySem.Flt.log2_lt_of (n := i.natAbs) (by decide : 0 < 4096) h2
    unfold Builtin.Int.intBits
    split <;> omega
  have b2 : (Builtin.Int.intBits i : Int) ≤ 4096 := by omega
  have b3 : (Builtin.Int.intBits i : Int) * j ≤ 4096 * 1000 := Int.mul_le_mul b2 h1 h0 (by decide)
  omega
/-! ### rules that lean on the written part, K told (a comprehension's block has it too) -/
section
variable {X : Cx}
theorem k_ix_list (K : PySem.W.Frag) (e : X.K = K := by rfl) : IxR X (rIxL K) := by subst e; exact ix_list
theorem k_ix_tup (K : PySem.W.Frag) (e : X.K = K := by rfl) : IxR X (rIxT K) := by subst e; exact ix_tup
theorem k_sl_list (K : PySem.W.Frag) (e : X.K = K := by rfl) : SlR X (rSlL K) := by subst e; exact sl_list
theorem k_sl_tup (K : PySem.W.Frag) (e : X.K = K := by rfl) : SlR X (rSlA K) := by subst e; exact sl_tupA
theorem k_len (K : PySem.W.Frag) (e : X.K = K := by rfl) : CallR X (.builtin "len") (Evl.rLenS K) := by subst e; exact call_len_seq
theorem k_catA (K : PySem.W.Frag) (e : X.K = K := by rfl) : OpR X (binaryOp .Add) (rCatA K) := by subst e; exact op_catA
theorem k_eqD (K : PySem.W.Frag) (hu : X.A.units + 64 < cLine) (e : X.K = K := by rfl) : OpR X (compareOp .Eq) (rEqD K) := by subst e; exact op_eqD hu
theorem k_neD (K : PySem.W.Frag) (hu : X.A.units + 64 < cLine) (e : X.K = K := by rfl) : OpR X (compareOp .NotEq) (rNeD K) := by subst e; exact op_neD hu
theorem k_in (K : PySem.W.Frag) (e : X.K = K := by rfl) : OpR X (compareOp .In) (rIn K false) := by subst e; exact op_in_seq
theorem k_notIn (K : PySem.W.Frag) (e : X.K = K := by rfl) : OpR X (compareOp .NotIn) (rIn K true) := by subst e; exact op_notIn_seq
theorem k_list (K : PySem.W.Frag) (e : X.K = K := by rfl) : CallR X (.type "list") (Evl.rListS K) := by subst e; exact call_list_of
def rTupOf (K : PySem.W.Frag) : List V → Hp → VK → Prop := fun xs H Q => ∃ p ys, xs = [.ref p] ∧ ((SqL K H p ys ∧ ∀ l, H l = none → Q (.ref l) (upd H l (.tup ys))) ∨ (SqT K H p ys ∧ Q (.ref p) H))
theorem k_tuple (K : PySem.W.Frag) (e : X.K = K := by rfl) : CallR X (.type "tuple") (rTupOf K) := by subst e; exact call_tuple_of
theorem k_isi (K : PySem.W.Frag) (e : X.K = K := by rfl) : CallR X (.builtin "isinstance") (rIsi K) := by subst e; exact call_isi
theorem k_all (K : PySem.W.Frag) (hc : X.calm = true := by rfl) (e : X.K = K := by rfl) : CallR X (.builtin "all") (rAll K) := by subst e; exact cr_all hc
def rJoin (K : PySem.W.Frag) : V → List V → Hp → VK → Prop := fun x xs H Q => ∃ a p, ∃ ys : List Str, x = .str a ∧ xs = [.ref p] ∧ (SqL K H p (ys.map V.str) ∨ SqT K H p (ys.map V.str)) ∧
  (ys.map (·.length)).sum + ys.length * a.length ≤ 16777216 ∧ Q (.str (Txt.join a ys)) H
theorem k_mt_join (K : PySem.W.Frag) (e : X.K = K := by rfl) : MtR X "str.join" (rJoin K) := by subst e; exact mt_join
theorem k_pi_list (K : PySem.W.Frag) {tg l : Expr} {tl : TE} (hl : PE X l tl) (e : X.K = K := by rfl) : PI X tg l (iList K tl) := by subst e; exact pi_list hl
theorem k_pi_tup (K : PySem.W.Frag) {tg l : Expr} {tl : TE} (hl : PE X l tl) (e : X.K = K := by rfl) : PI X tg l (iTup K tl) := by subst e; exact pi_tup hl
end
/-! ### heaps but for one object -/
def Chg (b : Addr) (H H' : Hp) : Prop := ∀ a o, a ≠ b → H a = some o → H' a = some o
theorem Chg.refl (b : Addr) (H : Hp) : Chg b H H := fun _ _ _ h => h
theorem Chg.trans {b : Addr} {H H1 H2 : Hp} (a : Chg b H H1) (c : Chg b H1 H2) : Chg b H H2 := fun x o n h => c x o n (a x o n h)
theorem Chg.upd {b : Addr} {H : Hp} {o : HO} : Chg b H (upd H b o) := fun a u n h => by rw [upd_ne n]; exact h
theorem Chg.new {b p : Addr} {H : Hp} {o : HO} (h : H p = none) : Chg b H (L2.upd H p o) := fun a u n e => by rw [upd_ne (ne_of_none e h)]; exact e
theorem Chg.same {b : Addr} {H H' : Hp} (h : Same H H') : Chg b H H' := fun a o _ e => h a o e
theorem same_new {H : Hp} {p : Addr} {o : HO} (h : H p = none) : Same H (upd H p o) := fun b u e => by
  rw [upd_ne (ne_of_none e h)]
  exact e
/-! ### the bag -/
def BagAt (N : Nat) (b : Addr) (H : Hp) : Prop := ∃ x y z : Int, H b = some (.lst [.int x, .int y, .int z]) ∧ 0 ≤ y ∧ y < 2 ^ 130 ∧ 0 ≤ z ∧ z ≤ (N : Int)
theorem BagAt.mono {N M : Nat} {b : Addr} {H : Hp} (h : BagAt N b H) (l : N ≤ M) : BagAt M b H := by
  obtain ⟨x, y, z, e, a, c, d, f⟩ := h
  exact ⟨x, y, z, e, a, c, d, by omega⟩
theorem BagAt.same {N : Nat} {b : Addr} {H H' : Hp} (h : BagAt N b H) (s : Same H H') : BagAt N b H' := by
  obtain ⟨x, y, z, e, r⟩ := h
  exact ⟨x, y, z, s _ _ e, r⟩
theorem BagAt.chg {N : Nat} {b c : Addr} {H H' : Hp} (h : BagAt N b H) (s : Chg c H H') (n : b ≠ c) : BagAt N b H' := by
  obtain ⟨x, y, z, e, r⟩ := h
  exact ⟨x, y, z, s _ _ n e, r⟩
theorem BagAt.new {N : Nat} {b p : Addr} {H : Hp} {o : HO} (h : BagAt N b H) (n : H p = none) : BagAt N b (upd H p o) := h.same (same_new n)
theorem BagAt.ne {N : Nat} {b p : Addr} {H : Hp} (h : BagAt N b H) (n : H p = none) : b ≠ p := by
  obtain ⟨x, y, z, e, _⟩ := h
  exact ne_of_none e n
theorem BagAt.neT {N : Nat} {b a : Addr} {H : Hp} {xs : List V} (h : BagAt N b H) (e : H a = some (.tup xs)) : a ≠ b := by
  obtain ⟨x, y, z, e2, _⟩ := h
  exact ne_of e e2 (by intro z; cases z)
theorem BagAt.rd {K : PySem.W.Frag} {N : Nat} {b : Addr} {H : Hp} (h : BagAt N b H) : ∃ xs, SqL K H b xs := by
  obtain ⟨x, y, z, e, _⟩ := h
  exact ⟨_, .inl (.inl e)⟩
/-- a draw: some number below m, the bag one turn older -/
def spDraw : Sp := fun vs H Q _ => ∃ (b : Addr) (m : Int) (N : Nat), vs = [.ref b, .int m] ∧ 0 < m ∧ m < 2 ^ 256 ∧ N < 2 ^ 60 ∧ BagAt N b H ∧
  ∀ (H' : Hp) (r : Int), Chg b H H' → BagAt (N + 1) b H' → 0 ≤ r → r < m → Q (.int r) H'
theorem div_ok {m : Int} (h : 0 < m) (l : m < 2 ^ 256) : CDivW 0 m := wide_div (b := 256) h (by omega) (by decide) (by decide)
theorem pow_ok {i : Int} (h0 : 0 ≤ i) (h : i < 2 ^ 140) : CPowW i 3 := ⟨by decide, by decide, by
  have h1 : i.natAbs < 2 ^ 140 := by omega
  exact Nat.lt_of_lt_of_le h1 (Nat.pow_le_pow_right (by decide) (by decide))⟩
theorem mul_ok {i j : Int} (h0 : i.natAbs < 2 ^ 256) (h : j.natAbs < 2 ^ 256) : CMulW i j := wide_mul h0 h (by decide) (by decide) (by decide)
end Sk

namespace Sk
open PySem PySem.Spec PyProof.Rows L2
/-! ### texts by their signs -/
abbrev tl (s : Str) : List Nat := s.cps.toList
def Wc (c : Nat) : Prop := 32 ≤ c ∧ c ≤ 126 ∧ c ≠ 37
instance (c : Nat) : Decidable (Wc c) := by unfold Wc; infer_instance
def WorthS (s : Str) : Prop := ∀ c ∈ tl s, Wc c
instance (s : Str) : Decidable (WorthS s) := by unfold WorthS; infer_instance
def lawSigns : Str := Str.ofString " !\"#$&'()*+,-./0123456789:;<=>?@ABCDEFGHIJKLMNOPQRSTUVWXYZ[\\]^_`abcdefghijklmnopqrstuvwxyz{|}~"
theorem lawSigns_worth : WorthS lawSigns := by decide +kernel
theorem lawSigns_len : lawSigns.length = 94 := by decide +kernel
theorem lawSigns_mem {c : Nat} : c ∈ tl lawSigns ↔ Wc c := by
  constructor
  · exact fun h => lawSigns_worth c h
  · intro h
    have h1 : c < 127 := by have := h.2.1; omega
    have key : ∀ d < 127, Wc d → d ∈ tl lawSigns := by decide +kernel
    exact key c h1 h
theorem len_tl (s : Str) : s.length = (tl s).length := by simp [Str.length, tl]
theorem tl_inj {a b : Str} (h : tl a = tl b) : a = b := by
  obtain ⟨a⟩ := a
  obtain ⟨b⟩ := b
  exact congrArg Str.mk (Array.toList_inj.mp h)
theorem tl_cat (a b : Str) : tl (a ++ b) = tl a ++ tl b := TL.tl_append a b
theorem joinL_nil : ∀ l : List (List Nat), TL.joinL [] l = l.flatten
  | [] => rfl
  | [p] => by simp [TL.joinL]
  | p :: q :: r => by
    show p ++ ([] ++ TL.joinL [] (q :: r)) = _
    rw [joinL_nil (q :: r)]
    simp
theorem tl_join0 {e : Str} (he : tl e = []) (ys : List Str) : tl (Txt.join e ys) = (ys.map tl).flatten := by
  have h := TL.tl_join e ys
  rw [show Txt.join e ys = Str.join e ys from TL.join_eq e ys]
  exact h.trans (by
    show TL.joinL (tl e) (ys.map tl) = _
    rw [he, joinL_nil])
theorem empty_tl : tl (Str.ofString "") = [] := by decide +kernel
theorem worth_join {e : Str} (he : tl e = []) {ys : List Str} (h : ∀ y ∈ ys, WorthS y) : WorthS (Txt.join e ys) := by
  intro c hc
  rw [tl_join0 he, List.mem_flatten] at hc
  obtain ⟨l, hl, hc⟩ := hc
  obtain ⟨y, hy, rfl⟩ := List.mem_map.mp hl
  exact h y hy c hc
theorem len_join1 {e : Str} (he : tl e = []) {ys : List Str} (h : ∀ y ∈ ys, y.length = 1) : (Txt.join e ys).length = ys.length := by
  rw [len_tl, tl_join0 he]
  induction ys with
  | nil => rfl
  | cons y r ih =>
    rw [List.map_cons, List.flatten_cons, List.length_append, ih (fun z hz => h z (List.mem_cons_of_mem _ hz)), ← len_tl, h y List.mem_cons_self, List.length_cons]
    omega
theorem cut_to (z : Str) {m : Int} (h : 0 ≤ m) : tl (cutS z none (some m)) = (tl z).take m.toNat := by
  obtain ⟨n, rfl⟩ : ∃ n : Nat, m = (n : Int) := ⟨m.toNat, by omega⟩
  show ((z.cps.toList.drop (HT.sIx z.length 0 none)).take (HT.sIx z.length z.length (some (n : Int)) - HT.sIx z.length 0 none)) = _
  rw [HT.sIx_none, HT.sIx_nat, List.drop_zero, Nat.sub_zero, len_tl, Int.toNat_natCast, List.take_eq_take_iff]
  show min (min n (tl z).length) (tl z).length = min n (tl z).length
  omega
theorem worth_cut {z : Str} (h : WorthS z) {m : Int} (h0 : 0 ≤ m) : WorthS (cutS z none (some m)) := by
  intro c hc
  rw [cut_to z h0] at hc
  exact h c (List.mem_of_mem_take hc)
theorem len_cut (z : Str) {m : Int} (h0 : 0 ≤ m) : ((cutS z none (some m)).length : Int) ≤ m := by
  rw [len_tl, cut_to z h0, List.length_take]
  omega
theorem worth_int (i : Int) : WorthS (Str.ofString (toString i)) := by
  intro c hc
  refine Decidable.byContradiction fun hn => ?_
  have h2 : c ≠ 45 ∧ (c < 48 ∨ 57 < c) := by
    unfold Wc at hn
    omega
  exact PyProof.Rows.int_text_free' c h2 i hc
theorem worth_sign {c : Nat} (h : Wc c) : WorthS ⟨#[c]⟩ := by
  intro d hd
  have : d = c := by simpa [tl] using hd
  rw [this]
  exact h
/-- an item of a list that is as long as the draw's bound -/
theorem at_lt {α : Type} {xs : List α} {r : Int} (h0 : 0 ≤ r) (h : r < xs.length) : ∃ v, v ∈ xs ∧ atI xs r = some v := by
  obtain ⟨n, rfl⟩ : ∃ n : Nat, r = (n : Int) := ⟨r.toNat, by omega⟩
  have hn : n < xs.length := by omega
  exact ⟨xs[n], List.getElem_mem hn, atI_nat (List.getElem?_eq_getElem hn)⟩
theorem at_map {α : Type} {xs : List α} (f : α → V) {r : Int} (h0 : 0 ≤ r) (h : r < xs.length) : ∃ v, v ∈ xs ∧ atI (xs.map f) r = some (f v) := by
  obtain ⟨n, rfl⟩ : ∃ n : Nat, r = (n : Int) := ⟨r.toNat, by omega⟩
  have hn : n < xs.length := by omega
  exact ⟨xs[n], List.getElem_mem hn, atI_nat (by rw [List.getElem?_map, List.getElem?_eq_getElem hn]; rfl)⟩
/-- two tests that leave all as it is, joined -/
theorem rd_and {σ : L2.St} {H : Hp} {Q : Bool → Hp → Prop} {t u : TT} {b1 b2 : Bool} (h1 : ∀ R : Bool → Hp → Prop, R b1 H → t σ H R) (h2 : b1 = true → ∀ R : Bool → Hp → Prop, R b2 H → u σ H R) (q : Q (b1 && b2) H) : tAnd t u σ H Q := by
  refine h1 _ ?_
  cases b1 with
  | true => exact iteT (h2 rfl _ q)
  | false => exact iteF q
theorem rd_or {σ : L2.St} {H : Hp} {Q : Bool → Hp → Prop} {t u : TT} {b1 b2 : Bool} (h1 : ∀ R : Bool → Hp → Prop, R b1 H → t σ H R) (h2 : b1 = false → ∀ R : Bool → Hp → Prop, R b2 H → u σ H R) (q : Q (b1 || b2) H) : tOr t u σ H Q := by
  refine h1 _ ?_
  cases b1 with
  | true => exact iteT q
  | false => exact iteF (h2 rfl _ q)
def spCell (K : PySem.W.Frag) : Sp := fun vs H Q _ => ∃ (a : Addr) (ns : List Int) (k : Int), vs = [.ref a, .int k] ∧ SqL K H a (ns.map V.int) ∧ 0 ≤ k ∧ ∀ r : Int, Q (.int r) H
def spBag : Sp := fun vs H Q _ => ∃ (c n : Int), vs = [.int c, .int n] ∧ 0 ≤ n ∧ n ≤ 1000 ∧ ∀ H' b, H b = none → Same H H' → BagAt 0 b H' → Q (.ref b) H'
def spSigns : Sp := fun vs H Q _ => vs = [] ∧ Q (.str lawSigns) H
def spText : Sp := fun vs H Q _ => ∃ (b : Addr) (m : Int) (N : Nat), vs = [.ref b, .int m] ∧ 0 ≤ m ∧ m ≤ 1000 ∧ N < 2 ^ 50 ∧ BagAt N b H ∧
  ∀ (H' : Hp) (s : Str), Chg b H H' → BagAt (N + 2000) b H' → (s.length : Int) ≤ m → WorthS s → Q (.str s) H'
end Sk

namespace Sk
open PySem PySem.Spec PyProof.Rows L2
theorem Chg.mut {b p : Addr} {H H' : Hp} {o : HO} (c : Chg b H H') (n : H p = none) : Chg b H (L2.upd H' p o) := fun a u h e => by
  rw [upd_ne (ne_of_none e n)]
  exact c a u h e
theorem Chg.sql {K : PySem.W.Frag} {b a : Addr} {H H' : Hp} {xs : List V} (c : Chg b H H') (n : a ≠ b) (h : SqL K H a xs) : SqL K H' a xs := by
  rcases h with (h | ⟨o, h⟩) | h
  · exact .inl (.inl (c _ _ n h))
  · exact .inl (.inr ⟨o, c _ _ n h⟩)
  · exact .inr h
theorem BagAt.mut {N : Nat} {b p : Addr} {H' : Hp} {o : HO} (h : BagAt N b H') (n : b ≠ p) : BagAt N b (upd H' p o) := by
  obtain ⟨x, y, z, e, r⟩ := h
  exact ⟨x, y, z, by rw [upd_ne n]; exact e, r⟩
/-! ### readings of draws -/
section
variable {K : PySem.W.Frag} {σ : L2.St} {H : Hp} {Q : VK} {E : XK} {b : Addr} {N : Nat}
theorem rd_draw {te : TE} {i : Nat} {m : Int} (hi : σ[i]? = some (some (.ref b))) (he : ∀ R : VK, R (.int m) H → te σ H R) (m0 : 0 < m) (m1 : m < 2 ^ 256) (hN : N < 2 ^ 60) (hB : BagAt N b H)
    (q : ∀ H' r, Chg b H H' → BagAt (N + 1) b H' → 0 ≤ r → r < m → Q (.int r) H') : tCall spDraw [] E (tCons (tVar i) (tCons te tNil)) σ H Q :=
  ⟨_, hi, he _ ⟨b, m, N, rfl, m0, m1, hN, hB, q⟩⟩
theorem rd_menu {ta : TA} {xs : List V} {i : Nat} {k : Int} (ha : ∀ R : List V → Hp → Prop, R xs H → ta σ H R) (hi : σ[i]? = some (some (.ref b))) (hk : k = xs.length) (h0 : 0 < xs.length) (h1 : xs.length < 1000) (hN : N < 2 ^ 60) (hB : BagAt N b H)
    (q : ∀ H' v, v ∈ xs → Chg b H H' → BagAt (N + 1) b H' → Q v H') : tOp (rIxL K) (tLst ta) (tCall spDraw [] E (tCons (tVar i) (tCons (tC (.int k)) tNil))) σ H Q := by
  refine ha _ ⟨Nat.le_of_lt (small1000 (by omega)), fun p hp => ?_⟩
  refine ⟨_, hi, b, k, N, rfl, by omega, by omega, hN, hB.new hp, fun H1 r c1 B1 r0 r1 => ?_⟩
  obtain ⟨v, hv, e⟩ := at_lt (xs := xs) r0 (by omega)
  have hp1 : H1 p = some (.lst xs) := c1 _ _ (hB.ne hp).symm upd_same
  exact ⟨p, xs, r, v, rfl, rfl, .inl (.inl hp1), e, q H1 v hv ((Chg.new hp).trans c1) B1⟩
theorem wipe1 {σ : L2.St} {k : Nat} {x : V} : wipe ((wipe σ [k]).set k (some x)) [k] = wipe σ [k] := by
  show ((σ.set k none).set k (some x)).set k none = σ.set k none
  rw [List.set_set, List.set_set]
/-- [elt for k in range(n)], elt drawn -/
theorem lc_draws {te : TE} {k n c : Nat} {H1 : Hp} {D : Addr} {Qd : Hp → Prop} (f : V → Prop) (hn : n ≤ 100000) (hD : H1 D = none) (hB : BagAt N b H1)
    (helt : ∀ H2 M x, Chg b H1 H2 → BagAt M b H2 → M < N + c * n → ∀ R : VK, (∀ H3 y, Chg b H2 H3 → BagAt (M + c) b H3 → f y → R y H3) → te ((wipe σ [k]).set k (some x)) H2 R) (hc : 0 < c)
    (hd : ∀ H2 ys, ys.length = n → (∀ y ∈ ys, f y) → Chg b H1 H2 → BagAt (N + c * n) b H2 → H2 D = some (.lst ys) → Qd H2) :
    ∃ W : Nat → Nat → Hp → Prop, (∃ m, W 0 m (upd H1 D (.lst []))) ∧ ∀ i m H, W i m H →
      ((Itr 0 n).stop i H ∧ Qd H) ∨ ((Itr 0 n).go i H ∧ ∃ Nx : Hp → Prop, (∀ H', Nx H' → ∃ m', m' < m ∧ W (i + 1) m' H') ∧ ∀ x H', (Itr 0 n).yld i H x H' → gName k x (wipe σ [k]) H' fun σ2 H2 => wipe σ2 [k] = wipe σ [k] ∧ tYes σ2 H2 fun b H3 =>
        if b = true then te σ2 H3 fun y H4 => ∃ acc, H4 D = some (.lst acc) ∧ acc.length < sizeLine ∧ Nx (upd H4 D (.lst (acc ++ [y]))) else Nx H3) := by
  have nb := hB.ne hD
  refine lc_range (lo := 0) (n := n) (fun i H2 => ∃ ys, ys.length = i ∧ (∀ y ∈ ys, f y) ∧ Chg b H1 H2 ∧ BagAt (N + c * i) b H2 ∧ H2 D = some (.lst ys)) ?_ ?_ ?_
  · exact ⟨[], rfl, (fun _ h => nomatch h), .new hD, hB.new hD, upd_same⟩
  · rintro i H2 hi ⟨ys, rfl, hf, c2, B2, e2⟩
    refine ⟨wipe1, ?_⟩
    show te _ H2 _
    have hm : c * ys.length < c * n := Nat.mul_lt_mul_of_pos_left hi hc
    refine helt H2 _ _ c2 B2 (by omega) _ fun H3 y c3 B3 hy => ?_
    have e3 : H3 D = some (.lst ys) := c3 _ _ nb.symm e2
    refine ⟨ys, e3, Evl.sz_lt (by omega), ys ++ [y], by simp, fun z hz => ?_, (c2.trans c3).mut hD, ?_, upd_same⟩
    · rcases List.mem_append.mp hz with h | h
      · exact hf z h
      · rw [List.mem_singleton.mp h]; exact hy
    · rw [Nat.mul_succ, ← Nat.add_assoc]
      exact B3.mut nb
  · rintro H2 ⟨ys, e, hf, c2, B2, e2⟩
    exact hd H2 ys e hf c2 B2 e2
end
/-- a list of texts -/
theorem strs_of {ys : List V} {f : Str → Prop} (h : ∀ y ∈ ys, ∃ s, y = .str s ∧ f s) : ∃ zs : List Str, ys = zs.map V.str ∧ ∀ z ∈ zs, f z := by
  induction ys with
  | nil => exact ⟨[], rfl, fun _ h => nomatch h⟩
  | cons y r ih =>
    obtain ⟨zs, rfl, hz⟩ := ih fun z hz => h z (List.mem_cons_of_mem _ hz)
    obtain ⟨s, rfl, hs⟩ := h y List.mem_cons_self
    refine ⟨s :: zs, rfl, fun z hm => ?_⟩
    rcases List.mem_cons.mp hm with rfl | hm
    · exact hs
    · exact hz z hm
theorem sum_le {zs : List Str} {c : Nat} (h : ∀ z ∈ zs, z.length ≤ c) : (zs.map (·.length)).sum ≤ c * zs.length := by
  induction zs with
  | nil => simp
  | cons z r ih =>
    rw [List.map_cons, List.sum_cons, List.length_cons, Nat.mul_succ]
    have h1 := ih fun y hy => h y (List.mem_cons_of_mem _ hy)
    have h2 := h z List.mem_cons_self
    omega
end Sk
namespace Sk
open PySem PySem.Spec PyProof.Rows L2
/-! ### names, keys, references -/
def NameS (s : Str) : Prop := 1 ≤ s.length ∧ s.length ≤ 8 ∧ ∀ c ∈ tl s, 97 ≤ c ∧ c ≤ 122
def KeyS (s : Str) : Prop := 1 ≤ s.length ∧ s.length ≤ 40 ∧ WorthS s
def spName : Sp := fun vs H Q _ => ∃ (b : Addr) (N : Nat), vs = [.ref b] ∧ N < 2 ^ 50 ∧ BagAt N b H ∧
  ∀ (H' : Hp) (s : Str), Chg b H H' → BagAt (N + 20) b H' → NameS s → Q (.str s) H'
def spKey : Sp := fun vs H Q _ => ∃ (b : Addr) (N : Nat), vs = [.ref b] ∧ N < 2 ^ 49 ∧ BagAt N b H ∧
  ∀ (H' : Hp) (s : Str), Chg b H H' → BagAt (N + 2001) b H' → KeyS s → Q (.str s) H'
/-- a tuple of a name and a tuple of keys -/
def RefAt (H : Hp) (v : V) (n : Str) (ks : List Str) : Prop := ∃ a k, v = .ref a ∧ H a = some (.tup [.str n, .ref k]) ∧ H k = some (.tup (ks.map V.str))
structure RefS (n : Str) (ks : List Str) : Prop where
  name : NameS n
  len : ks.length ≤ 6
  keys : ∀ k ∈ ks, KeyS k
def spRef : Sp := fun vs H Q _ => ∃ (b : Addr) (N : Nat), vs = [.ref b] ∧ N < 2 ^ 48 ∧ BagAt N b H ∧
  ∀ (H' : Hp) (v : V) (n : Str) (ks : List Str), Chg b H H' → BagAt (N + 20000) b H' → RefAt H' v n ks → RefS n ks → Q v H'
theorem RefAt.same {H H' : Hp} {v : V} {n : Str} {ks : List Str} (h : RefAt H v n ks) (s : Same H H') : RefAt H' v n ks := by
  obtain ⟨a, k, rfl, h1, h2⟩ := h
  exact ⟨a, k, rfl, s _ _ h1, s _ _ h2⟩
theorem RefAt.chg {H H' : Hp} {b : Addr} {N : Nat} {v : V} {n : Str} {ks : List Str} (h : RefAt H v n ks) (c : Chg b H H') (B : BagAt N b H) : RefAt H' v n ks := by
  obtain ⟨a, k, rfl, h1, h2⟩ := h
  exact ⟨a, k, rfl, c _ _ (B.neT h1) h1, c _ _ (B.neT h2) h2⟩
theorem RefAt.new {H : Hp} {p : Addr} {o : HO} {v : V} {n : Str} {ks : List Str} (h : RefAt H v n ks) (e : H p = none) : RefAt (upd H p o) v n ks := h.same (same_new e)
end Sk

namespace Sk
open PySem PySem.Spec PyProof.Rows L2
open PySem.W (Datum Tup)
/-! ### == of data -/
def rEqP (K : PySem.W.Frag) : R2 := fun x y H Q => ∃ d e, Dp K H x d ∧ Dp K H y e ∧ d.plain = true ∧ e.plain = true ∧ d.depth ≤ 64 ∧ Q (.bl (PyData.eqv d e)) H
def rNeP (K : PySem.W.Frag) : R2 := fun x y H Q => ∃ d e, Dp K H x d ∧ Dp K H y e ∧ d.plain = true ∧ e.plain = true ∧ d.depth ≤ 64 ∧ Q (.bl (!PyData.eqv d e)) H
section
variable {X : Cx}
theorem k_eqP (K : PySem.W.Frag) (hu : X.A.units + 64 < cLine) (e : X.K = K := by rfl) : OpR X (compareOp .Eq) (rEqP K) := by
  subst e
  intro pins s σ H x y v u Q I rx ry h
  obtain ⟨d, e, hd, he, sd, se, dl, q⟩ := h
  obtain ⟨as, r1⟩ := Dp.reads I d x v hd rx
  obtain ⟨bs, r2⟩ := Dp.reads I e y u he ry
  exact PySem.SeqAt.eq_plain r1 r2 sd se (by omega) ⟨.bl _, H, I, rfl, q⟩
theorem k_neP (K : PySem.W.Frag) (hu : X.A.units + 64 < cLine) (e : X.K = K := by rfl) : OpR X (compareOp .NotEq) (rNeP K) := by
  subst e
  intro pins s σ H x y v u Q I rx ry h
  obtain ⟨d, e, hd, he, sd, se, dl, q⟩ := h
  obtain ⟨as, r1⟩ := Dp.reads I d x v hd rx
  obtain ⟨bs, r2⟩ := Dp.reads I e y u he ry
  exact PySem.SeqAt.ne_plain r1 r2 sd se (by omega) ⟨.bl _, H, I, rfl, q⟩
end
/-- a value that bears a datum -/
abbrev DV {α : Type} [DecidableEq α] [Datum α] (K : PySem.W.Frag) (H : Hp) (v : V) (x : α) : Prop := Dp K H v (Datum.toD x)
section
variable {α : Type} [DecidableEq α] [Datum α] {K : PySem.W.Frag} {H : Hp} {v w : V} {x y : α} {Q : VK}
theorem rd_eqP (h1 : DV K H v x) (h2 : DV K H w y) (hd : Datum.depth α ≤ 64) (q : Q (.bl (decide (x = y))) H) : rEqP K v w H Q :=
  ⟨_, _, h1, h2, Datum.plain x, Datum.plain y, Nat.le_trans (Datum.depth_le x) hd, by rw [Datum.eqv]; exact q⟩
theorem rd_neP (h1 : DV K H v x) (h2 : DV K H w y) (hd : Datum.depth α ≤ 64) (q : Q (.bl (!decide (x = y))) H) : rNeP K v w H Q :=
  ⟨_, _, h1, h2, Datum.plain x, Datum.plain y, Nat.le_trans (Datum.depth_le x) hd, by rw [Datum.eqv]; exact q⟩
theorem dv_all {f : α → V} : ∀ {xs : List α}, (∀ x ∈ xs, DV K H (f x) x) → DpAll K H (xs.map f) (xs.map Datum.toD)
  | [], _ => .nil
  | x :: r, h => .cons (h x List.mem_cons_self) (dv_all fun y hy => h y (List.mem_cons_of_mem _ hy))
theorem dv_lst {f : α → V} {a : Addr} {xs : List α} (h : SqL K H a (xs.map f)) (hx : ∀ x ∈ xs, DV K H (f x) x) : DV K H (.ref a) xs := Dp.lst h (dv_all hx)
theorem dv_tup {f : α → V} {a : Addr} {xs : List α} (h : SqT K H a (xs.map f)) (hx : ∀ x ∈ xs, DV K H (f x) x) : DV K H (.ref a) (Tup.mk xs) := Dp.tup h (dv_all hx)
end
theorem dv_strs {K : PySem.W.Frag} {H : Hp} {a : Addr} {ks : List Str} (h : SqT K H a (ks.map V.str)) : DV K H (.ref a) (Tup.mk ks) := dv_tup h fun x _ => Dp.str x
theorem dv_ints {K : PySem.W.Frag} {H : Hp} {a : Addr} {ks : List Int} (h : SqL K H a (ks.map V.int)) : DV K H (.ref a) ks := dv_lst h fun x _ => Dp.int x
theorem dv_bools {K : PySem.W.Frag} {H : Hp} {a : Addr} {ks : List Bool} (h : SqL K H a (ks.map V.bl)) : DV K H (.ref a) ks := dv_lst h fun x _ => Dp.bl x
/-! ### stems -/
def stemB (n1 : Str) (k1 : List Str) (n2 : Str) (k2 : List Str) : Bool := decide (n1 = n2) && decide (k2.take k1.length = k1)
def meetB (n1 : Str) (k1 : List Str) (n2 : Str) (k2 : List Str) : Bool := stemB n1 k1 n2 k2 || stemB n2 k2 n1 k1
def spRel (f : Str → List Str → Str → List Str → Bool) : Sp := fun vs H Q _ => ∃ v1 v2 n1 k1 n2 k2, vs = [v1, v2] ∧ RefAt H v1 n1 k1 ∧ RefAt H v2 n2 k2 ∧ k1.length ≤ 1000 ∧ k2.length ≤ 1000 ∧
  ∀ H', Same H H' → Q (.bl (f n1 k1 n2 k2)) H'
theorem cutV_to {xs : List V} {n : Nat} : cutV xs none (some (n : Int)) = xs.take n := by
  unfold cutV
  rw [HT.sIx_none, HT.sIx_nat, List.drop_zero, Nat.sub_zero, List.take_eq_take_iff]
  omega
theorem cutV_from {xs : List V} {n : Nat} : cutV xs (some (n : Int)) none = xs.drop n := by
  unfold cutV
  rw [HT.sIx_none, HT.sIx_nat]
  by_cases h : n ≤ xs.length
  · rw [Nat.min_eq_left h]
    exact List.take_of_length_le (by rw [List.length_drop]; omega)
  · rw [List.drop_eq_nil_of_le (by omega : xs.length ≤ min n xs.length), List.drop_eq_nil_of_le (by omega)]
    exact List.take_nil
/-- t[:n] of a tuple: some tuple of its first n -/
theorem rd_takeT {K : PySem.W.Frag} {H : Hp} {a : Addr} {xs : List V} {n : Nat} {Q : VK} (h : SqT K H a xs) (q : ∀ p H', Same H H' → SqT K H' p (xs.take n) → Q (.ref p) H') : rSlA K (.ref a) none (some (n : Int)) H Q := by
  refine ⟨a, xs, rfl, h, fun ⟨_, e⟩ => q a H (.refl H) ?_, fun _ p hp => q p _ (same_new hp) ?_⟩
  · rw [HT.sIx_nat] at e
    rw [List.take_of_length_le (by omega)]
    exact h
  · rw [cutV_to]
    exact .inl (.inl upd_same)
theorem rd_dropT {K : PySem.W.Frag} {H : Hp} {a : Addr} {xs : List V} {n : Nat} {Q : VK} (h : SqT K H a xs) (q : ∀ p H', Same H H' → SqT K H' p (xs.drop n) → Q (.ref p) H') : rSlA K (.ref a) (some (n : Int)) none H Q := by
  refine ⟨a, xs, rfl, h, fun ⟨e, _⟩ => q a H (.refl H) ?_, fun _ p hp => q p _ (same_new hp) ?_⟩
  · rw [HT.sIx_nat] at e
    by_cases hn : n = 0
    · rw [hn, List.drop_zero]
      exact h
    · have h0 : xs = [] := List.length_eq_zero_iff.mp (by omega)
      subst h0
      rw [List.drop_nil]
      exact h
  · rw [cutV_from]
    exact .inl (.inl upd_same)
end Sk
namespace Sk
open PySem PySem.Spec PyProof.Rows L2
section
variable {K : PySem.W.Frag} {σ : L2.St}
theorem same_mut {H H' : Hp} {p : Addr} {o : HO} (s : Same H H') (n : H p = none) : Same H (upd H' p o) := fun a u e => by
  rw [upd_ne (ne_of_none e n)]
  exact s a u e
/-- [elt for k in range(n) if ..], nothing but new things made -/
theorem lc_pure_range {te : TE} {tt : TT} {k n : Nat} {H1 : Hp} {D : Addr} {Qd : Hp → Prop} (p : Nat → Bool) (f : Nat → V) (hn : n ≤ 100000) (hD : H1 D = none)
    (ht : ∀ i H2, i < n → Same H1 H2 → ∀ R : Bool → Hp → Prop, (∀ H3, Same H2 H3 → R (p i) H3) → tt ((wipe σ [k]).set k (some (.int (0 + (i : Int))))) H2 R)
    (he : ∀ i H2, i < n → p i = true → Same H1 H2 → ∀ R : VK, (∀ H3, Same H2 H3 → R (f i) H3) → te ((wipe σ [k]).set k (some (.int (0 + (i : Int))))) H2 R)
    (hd : ∀ H2, Same H1 H2 → H2 D = some (.lst (((List.range n).filter p).map f)) → Qd H2) :
    ∃ W : Nat → Nat → Hp → Prop, (∃ m, W 0 m (upd H1 D (.lst []))) ∧ ∀ i m H, W i m H →
      ((Itr 0 n).stop i H ∧ Qd H) ∨ ((Itr 0 n).go i H ∧ ∃ Nx : Hp → Prop, (∀ H', Nx H' → ∃ m', m' < m ∧ W (i + 1) m' H') ∧ ∀ x H', (Itr 0 n).yld i H x H' → gName k x (wipe σ [k]) H' fun σ2 H2 => wipe σ2 [k] = wipe σ [k] ∧ tt σ2 H2 fun b H3 =>
        if b = true then te σ2 H3 fun y H4 => ∃ acc, H4 D = some (.lst acc) ∧ acc.length < sizeLine ∧ Nx (upd H4 D (.lst (acc ++ [y]))) else Nx H3) := by
  refine lc_range (lo := 0) (n := n) (fun i H2 => Same H1 H2 ∧ H2 D = some (.lst (((List.range i).filter p).map f))) ?_ ?_ ?_
  · exact ⟨same_new hD, upd_same⟩
  · rintro i H2 hi ⟨s2, e2⟩
    refine ⟨wipe1, ?_⟩
    refine ht i H2 hi s2 _ fun H3 s3 => ?_
    have e3 := s3 _ _ e2
    cases hp : p i with
    | true =>
      show (if true = true then _ else _)
      rw [if_pos rfl]
      refine he i H3 hi hp (s2.trans s3) _ fun H4 s4 => ?_
      refine ⟨_, s4 _ _ e3, Evl.sz_lt ?_, same_mut ((s2.trans s3).trans s4) hD, ?_⟩
      · rw [List.length_map]
        have := List.length_filter_le p (List.range i)
        rw [List.length_range] at this
        omega
      · rw [upd_same, List.range_succ, List.filter_append, List.filter_cons, hp, if_pos rfl, List.filter_nil, List.map_append]
        rfl
    | false =>
      show (if false = true then _ else _)
      rw [if_neg Bool.false_ne_true]
      refine ⟨s2.trans s3, ?_⟩
      rw [e3, List.range_succ, List.filter_append, List.filter_cons, hp, if_neg Bool.false_ne_true, List.filter_nil, List.append_nil]
  · rintro H2 ⟨s2, e2⟩
    exact hd H2 s2 e2
/-- [elt for x in xs if ..] -/
theorem lc_pure_list {te : TE} {tt : TT} {k : Nat} {H1 : Hp} {D a : Addr} {xs : List V} {Qd : Hp → Prop} (p : V → Bool) (f : V → V) (hn : xs.length ≤ 100000) (hD : H1 D = none) (hS : SqL K H1 a xs)
    (ht : ∀ x H2, x ∈ xs → Same H1 H2 → ∀ R : Bool → Hp → Prop, (∀ H3, Same H2 H3 → R (p x) H3) → tt ((wipe σ [k]).set k (some x)) H2 R)
    (he : ∀ x H2, x ∈ xs → p x = true → Same H1 H2 → ∀ R : VK, (∀ H3, Same H2 H3 → R (f x) H3) → te ((wipe σ [k]).set k (some x)) H2 R)
    (hd : ∀ H2, Same H1 H2 → H2 D = some (.lst ((xs.filter p).map f)) → Qd H2) :
    ∃ W : Nat → Nat → Hp → Prop, (∃ m, W 0 m (upd H1 D (.lst []))) ∧ ∀ i m H, W i m H →
      ((Itl K a).stop i H ∧ Qd H) ∨ ((Itl K a).go i H ∧ ∃ Nx : Hp → Prop, (∀ H', Nx H' → ∃ m', m' < m ∧ W (i + 1) m' H') ∧ ∀ x H', (Itl K a).yld i H x H' → gName k x (wipe σ [k]) H' fun σ2 H2 => wipe σ2 [k] = wipe σ [k] ∧ tt σ2 H2 fun b H3 =>
        if b = true then te σ2 H3 fun y H4 => ∃ acc, H4 D = some (.lst acc) ∧ acc.length < sizeLine ∧ Nx (upd H4 D (.lst (acc ++ [y]))) else Nx H3) := by
  refine lc_list (K := K) (a := a) (xs := xs) (fun i H2 => Same H1 H2 ∧ H2 D = some (.lst (((xs.take i).filter p).map f))) ?_ ?_ ?_ ?_
  · exact ⟨same_new hD, upd_same⟩
  · exact fun i H2 _ h => h.1.seq hS
  · rintro i x H2 hx ⟨s2, e2⟩
    have hm : x ∈ xs := List.mem_of_getElem? hx
    refine ⟨wipe1, ?_⟩
    refine ht x H2 hm s2 _ fun H3 s3 => ?_
    have e3 := s3 _ _ e2
    cases hp : p x with
    | true =>
      show (if true = true then _ else _)
      rw [if_pos rfl]
      refine he x H3 hm hp (s2.trans s3) _ fun H4 s4 => ?_
      refine ⟨_, s4 _ _ e3, Evl.sz_lt ?_, same_mut ((s2.trans s3).trans s4) hD, ?_⟩
      · rw [List.length_map]
        have := List.length_filter_le p (xs.take i)
        rw [List.length_take] at this
        have hi := (List.getElem?_eq_some_iff.mp hx).1
        omega
      · rw [upd_same, List.take_add_one, hx, List.filter_append]
        show _ = some (HO.lst ((_ ++ List.filter p [x]).map f))
        rw [List.filter_cons, hp, if_pos rfl, List.filter_nil, List.map_append]
        rfl
    | false =>
      show (if false = true then _ else _)
      rw [if_neg Bool.false_ne_true]
      refine ⟨s2.trans s3, ?_⟩
      rw [e3, List.take_add_one, hx, List.filter_append]
      show _ = some (HO.lst ((_ ++ List.filter p [x]).map f))
      rw [List.filter_cons, hp, if_neg Bool.false_ne_true, List.filter_nil, List.append_nil]
  · rintro H2 ⟨s2, e2⟩
    rw [List.take_length] at e2
    exact hd H2 s2 e2
end
end Sk
namespace Sk
open PySem PySem.Spec PyProof.Rows L2
section
variable {K : PySem.W.Frag} {H : Hp} {a b : Addr} {xs ys : List V} {n : Nat} {Q : VK}
theorem rd_takeH (h : H a = some (.tup xs)) (q : ∀ p H', Same H H' → H' p = some (.tup (xs.take n)) → Q (.ref p) H') : rSlA K (.ref a) none (some (n : Int)) H Q := by
  refine ⟨a, xs, rfl, .inl (.inl h), fun ⟨_, e⟩ => q a H (.refl H) ?_, fun _ p hp => q p _ (same_new hp) ?_⟩
  · rw [HT.sIx_nat] at e
    rw [List.take_of_length_le (by omega)]
    exact h
  · rw [cutV_to]
    exact upd_same
theorem rd_dropH (h : H a = some (.tup xs)) (q : ∀ p H', Same H H' → H' p = some (.tup (xs.drop n)) → Q (.ref p) H') : rSlA K (.ref a) (some (n : Int)) none H Q := by
  refine ⟨a, xs, rfl, .inl (.inl h), fun ⟨e, _⟩ => q a H (.refl H) ?_, fun _ p hp => q p _ (same_new hp) ?_⟩
  · rw [HT.sIx_nat] at e
    by_cases hn : n = 0
    · rw [hn, List.drop_zero]
      exact h
    · have h0 : xs = [] := List.length_eq_zero_iff.mp (by omega)
      subst h0
      rw [List.drop_nil]
      exact h
  · rw [cutV_from]
    exact upd_same
theorem rd_dropI {j : Int} (hj : j = (n : Int)) (h : H a = some (.tup xs)) (q : ∀ p H', Same H H' → H' p = some (.tup (xs.drop n)) → Q (.ref p) H') : rSlA K (.ref a) (some j) none H Q := by
  subst hj
  exact rd_dropH h q
theorem rd_takeI {j : Int} (hj : j = (n : Int)) (h : H a = some (.tup xs)) (q : ∀ p H', Same H H' → H' p = some (.tup (xs.take n)) → Q (.ref p) H') : rSlA K (.ref a) none (some j) H Q := by
  subst hj
  exact rd_takeH h q
theorem rd_catH (h : H a = some (.tup xs)) (h2 : H b = some (.tup ys)) (l : xs.length + ys.length ≤ 100000) (q : ∀ p H', Same H H' → H' p = some (.tup (xs ++ ys)) → Q (.ref p) H') : rCatA K (.ref a) (.ref b) H Q := by
  refine ⟨a, b, xs, ys, rfl, rfl, .inl (.inl h), .inl (.inl h2), Evl.sz_of l, fun e => ?_, fun _ e => ?_, fun _ _ p hp => q p _ (same_new hp) upd_same⟩
  · subst e
    exact q b H (.refl H) h2
  · subst e
    exact q a H (.refl H) (by rw [List.append_nil]; exact h)
end
end Sk
namespace Sk
open PySem PySem.Spec PyProof.Rows L2
/-- (n, k) made of a name and a tuple of keys -/
theorem rd_ref {H : Hp} {k : Addr} {n : Str} {ks : List Str} {Q : VK} (h : H k = some (.tup (ks.map V.str))) (q : ∀ v H', Same H H' → RefAt H' v n ks → Q v H') :
    [V.str n, V.ref k].length ≤ sizeLine ∧ ∀ p, H p = none → Q (.ref p) (upd H p (.tup [.str n, .ref k])) :=
  ⟨Evl.sz_of (by show 2 ≤ 100000; decide), fun p hp => q _ _ (same_new hp) ⟨p, k, rfl, upd_same, same_new hp _ _ h⟩⟩
theorem keys_app {xs ys : List Str} (hx : ∀ k ∈ xs, KeyS k) (hy : ∀ k ∈ ys, KeyS k) : ∀ k ∈ xs ++ ys, KeyS k := fun k h => by
  rcases List.mem_append.mp h with h | h
  · exact hx k h
  · exact hy k h
def spBeside : Sp := fun vs H Q _ => ∃ (b : Addr) (v : V) (N : Nat) (n : Str) (ks : List Str), vs = [.ref b, v] ∧ N < 2 ^ 47 ∧ BagAt N b H ∧ RefAt H v n ks ∧ RefS n ks ∧
  ∀ (H' : Hp) (v : V) (n : Str) (ks : List Str), Chg b H H' → BagAt (N + 40000) b H' → RefAt H' v n ks → RefS n ks → Q v H'
end Sk
namespace Sk
open PySem PySem.Spec PyProof.Rows L2
theorem same_chg {b : Addr} {H0 H1 H2 : Hp} (s : Same H0 H1) (c : Chg b H1 H2) (n : H0 b = none) : Same H0 H2 := fun a o e => c a o (ne_of_none e n) (s a o e)
theorem same_upd {p : Addr} {H0 H1 : Hp} {o : HO} (s : Same H0 H1) (n : H0 p = none) : Same H0 (upd H1 p o) := same_mut s n
theorem RefAt.updL {H : Hp} {p : Addr} {o : HO} {xs : List V} {v : V} {n : Str} {ks : List Str} (h : RefAt H v n ks) (e : H p = some (.lst xs)) : RefAt (upd H p o) v n ks := by
  obtain ⟨a, k, rfl, h1, h2⟩ := h
  have n1 : a ≠ p := ne_of h1 e (by intro z; cases z)
  have n2 : k ≠ p := ne_of h2 e (by intro z; cases z)
  exact ⟨a, k, rfl, by rw [upd_ne n1]; exact h1, by rw [upd_ne n2]; exact h2⟩
def AllRef (H : Hp) (vs : List V) : Prop := ∀ v ∈ vs, ∃ n ks, RefAt H v n ks ∧ RefS n ks
theorem AllRef.map {H H' : Hp} {vs : List V} (h : AllRef H vs) (f : ∀ v n ks, RefAt H v n ks → RefAt H' v n ks) : AllRef H' vs := fun v hv => by
  obtain ⟨n, ks, r, s⟩ := h v hv
  exact ⟨n, ks, f v n ks r, s⟩
def spLaw (K : PySem.W.Frag) : Sp := fun vs H Q _ => ∃ (a : Addr) (ns : List Int), vs = [.ref a] ∧ SqL K H a (ns.map V.int) ∧ ns.length ≤ 63 ∧ (∀ z ∈ ns, Builtin.Int.intBits z ≤ 1048576) ∧ ∀ H', Q (.bl true) H'
theorem spLaw_start {K : PySem.W.Frag} {H : Hp} {a : Addr} {ns : List Int} (hl : ns.length ≤ 63) (hb : ∀ z ∈ ns, Builtin.Int.intBits z ≤ 1048576) (hO : Only H) (hS : SqL K H a (ns.map V.int)) : spLaw K [.ref a] H (fun v _ => v = .bl true) fun _ _ _ => False :=
  ⟨a, ns, rfl, hS, hl, hb, fun _ => rfl⟩
theorem turns_of (n m : Int) (h1 : 1 ≤ m) (h2 : m ≤ 1000) : ∃ k : Int, (if (if n < m then n else m) > 1 then (if n < m then n else m) else 1) = k ∧ 1 ≤ k ∧ k ≤ m := by
  refine ⟨_, rfl, ?_, ?_⟩ <;> repeat' split
  all_goals omega
/-- isinstance(b, bool) of a truth -/
theorem rd_isBool {K : PySem.W.Frag} {b : Bool} {H : Hp} {Q : VK} (q : Q (.bl true) H) : rIsi K [.bl b, .ty "bool"] H Q :=
  ⟨_, _, _, _, true, rfl, .ty "bool", .base (.bl b), kit_ty (by decide +kernel), q⟩
end Sk

namespace Sk
open PySem PySem.Spec PyProof.Rows L2
open PySem.NumText (AllDigits digitsVal digitsVal_snoc digitsVal_pos toDigits_digitsVal takeWhile_all)
/-! ### numbers of worths, on rows of signs -/
def isMark (c : Nat) : Bool := c == 43 || c == 45
def isFig (c : Nat) : Bool := decide (48 ≤ c) && decide (c ≤ 57)
theorem isFig_iff {c : Nat} : isFig c = true ↔ 48 ≤ c ∧ c ≤ 57 := by unfold isFig; rw [Bool.and_eq_true, decide_eq_true_eq, decide_eq_true_eq]
theorem isMark_iff {c : Nat} : isMark c = true ↔ c = 43 ∨ c = 45 := by unfold isMark; rw [Bool.or_eq_true, beq_iff_eq, beq_iff_eq]
def marksOf (l : List Nat) : List Nat := l.takeWhile isMark
def figsOf (l : List Nat) : List Nat := (l.dropWhile isMark).takeWhile isFig
def numL (l : List Nat) : Int := if (marksOf l).count 45 % 2 = 1 then 0 - (digitsVal (figsOf l) : Int) else (digitsVal (figsOf l) : Int)
def isNumF (l f : List Nat) : Bool := if f = [] ∨ (f.takeWhile isFig).length < f.length then false else (l == [48] || !(f.head? == some 48))
def isNumL (l : List Nat) : Bool := isNumF l (if l.take 1 = [45] then l.drop 1 else l)
theorem isNumF_of {l f : List Nat} (h1 : ¬ (f = [] ∨ (f.takeWhile isFig).length < f.length)) (h2 : l = [48] ∨ f.head? ≠ some 48) : isNumF l f = true := by
  unfold isNumF
  rw [if_neg h1]
  rcases h2 with h | h
  · rw [h]; rfl
  · rw [beq_eq_false_iff_ne.mpr h, Bool.not_false, Bool.or_true]
theorem isNumF_to {l f : List Nat} (h : isNumF l f = true) : ¬ (f = [] ∨ (f.takeWhile isFig).length < f.length) ∧ (l = [48] ∨ f.head? ≠ some 48) := by
  unfold isNumF at h
  split at h
  · cases h
  · rename_i hw
    refine ⟨hw, ?_⟩
    rw [Bool.or_eq_true, beq_iff_eq, Bool.not_eq_true', beq_eq_false_iff_ne] at h
    exact h
def decL (n : Nat) : List Nat := (Nat.toDigits 10 n).map Char.toNat
def intL (n : Int) : List Nat := if n < 0 then 45 :: decL n.natAbs else decL n.natAbs
theorem digChar {d : Nat} (h : d < 10) : (Nat.digitChar d).toNat = 48 + d := by
  have key : ∀ d < 10, (Nat.digitChar d).toNat = 48 + d := by decide
  exact key d h
theorem decL_lt {n : Nat} (h : n < 10) : decL n = [48 + n] := by
  unfold decL
  rw [Nat.toDigits_of_lt_base h, List.map_singleton, digChar h]
theorem decL_ge {n : Nat} (h : 10 ≤ n) : decL n = decL (n / 10) ++ [48 + n % 10] := by
  unfold decL
  rw [Nat.toDigits_of_base_le (by decide) h, List.map_append, List.map_singleton, digChar (Nat.mod_lt _ (by decide))]
theorem decL_ne (n : Nat) : decL n ≠ [] := by
  by_cases h : n < 10
  · rw [decL_lt h]; exact List.cons_ne_nil _ _
  · rw [decL_ge (by omega)]; exact List.append_ne_nil_of_right_ne_nil _ (List.cons_ne_nil _ _)
theorem decL_digits : ∀ n : Nat, AllDigits (decL n) := by
  intro n
  induction n using Nat.strongRecOn with
  | ind n ih =>
    by_cases h : n < 10
    · rw [decL_lt h]
      intro c hc
      rw [List.mem_singleton.mp hc]
      omega
    · rw [decL_ge (by omega)]
      intro c hc
      rcases List.mem_append.mp hc with hc | hc
      · exact ih (n / 10) (by omega) c hc
      · rw [List.mem_singleton.mp hc]
        omega
theorem decL_val : ∀ n : Nat, digitsVal (decL n) = n := by
  intro n
  induction n using Nat.strongRecOn with
  | ind n ih =>
    by_cases h : n < 10
    · rw [decL_lt h]
      show 0 * 10 + (48 + n - 48) = n
      omega
    · rw [decL_ge (by omega), digitsVal_snoc, ih (n / 10) (by omega)]
      omega
/-- the first figure is no nought, but of nought itself -/
theorem decL_head : ∀ n : Nat, n = 0 ∨ ∃ c r, decL n = c :: r ∧ 49 ≤ c := by
  intro n
  induction n using Nat.strongRecOn with
  | ind n ih =>
    by_cases h : n < 10
    · by_cases h0 : n = 0
      · exact .inl h0
      · exact .inr ⟨48 + n, [], decL_lt h, by omega⟩
    · rcases ih (n / 10) (by omega) with e | ⟨c, r, e, hc⟩
      · omega
      · exact .inr ⟨c, r ++ [48 + n % 10], by rw [decL_ge (by omega), e]; rfl, hc⟩
theorem mem_takeWhile {p : Nat → Bool} {c : Nat} : ∀ {l : List Nat}, c ∈ l.takeWhile p → p c = true
  | [], h => nomatch h
  | d :: r, h => by
    cases hd : p d with
    | false => rw [List.takeWhile_cons_of_neg (by rw [hd]; exact Bool.false_ne_true)] at h; cases h
    | true =>
      rw [List.takeWhile_cons_of_pos hd] at h
      rcases List.mem_cons.mp h with rfl | h
      · exact hd
      · exact mem_takeWhile h
theorem takeWhile_all' {p : Nat → Bool} {l : List Nat} (h : ∀ c ∈ l, p c = true) : l.takeWhile p = l := takeWhile_all h
theorem figs_all {l : List Nat} (h : AllDigits l) : l.takeWhile isFig = l := takeWhile_all fun c hc => isFig_iff.mpr (h c hc)
theorem dropWhile_head {p : Nat → Bool} {c : Nat} {r : List Nat} (h : p c = false) : (c :: r).dropWhile p = c :: r := by
  rw [List.dropWhile_cons_of_neg (by rw [h]; exact Bool.false_ne_true)]
theorem noMark {c : Nat} (h : 48 ≤ c ∧ c ≤ 57) : isMark c = false := by
  cases e : isMark c with
  | false => rfl
  | true => have := isMark_iff.mp e; omega
theorem num_digits {l : List Nat} (h : AllDigits l) : numL l = (digitsVal l : Int) := by
  cases l with
  | nil => rfl
  | cons c r =>
    have hm := noMark h.head
    unfold numL marksOf figsOf
    rw [List.takeWhile_cons_of_neg (by rw [hm]; exact Bool.false_ne_true), dropWhile_head hm, figs_all h]
    rfl
theorem num_minus {l : List Nat} (h : AllDigits l) : numL (45 :: l) = 0 - (digitsVal l : Int) := by
  have hm : isMark 45 = true := rfl
  have hn : (45 :: l).takeWhile isMark = [45] ∧ (45 :: l).dropWhile isMark = l := by
    rw [List.takeWhile_cons_of_pos hm, List.dropWhile_cons_of_pos hm]
    cases l with
    | nil => exact ⟨rfl, rfl⟩
    | cons c r =>
      have hm := noMark h.head
      rw [List.takeWhile_cons_of_neg (by rw [hm]; exact Bool.false_ne_true), dropWhile_head hm]
      exact ⟨rfl, rfl⟩
  unfold numL marksOf figsOf
  rw [hn.1, hn.2, figs_all h]
  rfl
theorem num_int (n : Int) : numL (intL n) = n := by
  unfold intL
  split
  · rw [num_minus (decL_digits _), decL_val]
    omega
  · rw [num_digits (decL_digits _), decL_val]
    omega
theorem dig_head45 {l : List Nat} (h : AllDigits l) : l.take 1 ≠ [45] := by
  cases l with
  | nil => exact fun e => nomatch e
  | cons c r =>
    intro e
    have e1 : c = 45 := (List.cons.inj e).1
    have := h.head
    omega
theorem isNum_int (n : Int) : isNumL (intL n) = true := by
  have hd := decL_digits n.natAbs
  have hne := decL_ne n.natAbs
  have hw : ¬ (decL n.natAbs = [] ∨ ((decL n.natAbs).takeWhile isFig).length < (decL n.natAbs).length) := by
    rw [figs_all hd]
    intro h
    rcases h with h | h
    · exact hne h
    · omega
  unfold intL isNumL
  split
  · rename_i hn
    rw [if_pos (show List.take 1 (45 :: decL n.natAbs) = [45] from rfl)]
    refine isNumF_of hw ?_
    rcases decL_head n.natAbs with e | ⟨c, r, e, hc⟩
    · omega
    · refine .inr ?_
      rw [List.drop_succ_cons, List.drop_zero, e]
      exact fun z => by have := Option.some.inj z; omega
  · rw [if_neg (dig_head45 hd)]
    refine isNumF_of hw ?_
    rcases decL_head n.natAbs with e | ⟨c, r, e, hc⟩
    · rw [e]
      exact .inl (decL_lt (by decide))
    · refine .inr ?_
      rw [e]
      exact fun z => by have := Option.some.inj z; omega
theorem all_of_len {l : List Nat} (h : ¬ (l.takeWhile isFig).length < l.length) : AllDigits l := by
  induction l with
  | nil => exact fun c hc => nomatch hc
  | cons d r ih =>
    cases hd : isFig d with
    | false =>
      rw [List.takeWhile_cons_of_neg (by rw [hd]; exact Bool.false_ne_true)] at h
      exact absurd (Nat.succ_pos _) h
    | true =>
      rw [List.takeWhile_cons_of_pos hd, List.length_cons, List.length_cons] at h
      intro c hc
      rcases List.mem_cons.mp hc with rfl | hc
      · exact isFig_iff.mp hd
      · exact ih (by omega) c hc
theorem dec_of {l : List Nat} (h : AllDigits l) (hne : l ≠ []) (hh : l = [48] ∨ l.head? ≠ some 48) : decL (digitsVal l) = l := by
  obtain ⟨c, r, rfl⟩ : ∃ c r, l = c :: r := by
    cases l with
    | nil => exact absurd rfl hne
    | cons c r => exact ⟨c, r, rfl⟩
  have e : Nat.toDigits 10 (digitsVal (c :: r)) = (c :: r).map Char.ofNat := by
    refine toDigits_digitsVal r.length (c :: r) rfl h ?_
    rcases hh with e | hh
    · have := (List.cons.inj e).2
      subst this
      exact .inl rfl
    · have h1 := h.head
      have h2 : c ≠ 48 := fun z => hh (by rw [z]; rfl)
      exact .inr ⟨c, r, rfl, by omega⟩
  unfold decL
  rw [e, List.map_map]
  refine (List.map_congr_left fun d hd => ?_).trans (List.map_id _)
  have hd := h d hd
  have key : ∀ d, d ≤ 57 → (Char.ofNat d).toNat = d := by decide
  exact key d hd.2
theorem isNum_own {l : List Nat} (h : isNumL l = true) : intL (numL l) = l := by
  unfold isNumL at h
  by_cases h45 : l.take 1 = [45]
  · rw [if_pos h45] at h
    obtain ⟨f, rfl⟩ : ∃ f, l = 45 :: f := by
      cases l with
      | nil => cases h45
      | cons c r => exact ⟨r, by rw [(List.cons.inj h45).1]⟩
    obtain ⟨hw, hh⟩ := isNumF_to h
    have hf : f ≠ [] := fun z => hw (.inl z)
    have hd : AllDigits f := all_of_len fun z => hw (.inr z)
    have hh : f.head? ≠ some 48 := hh.resolve_left fun z => by have := (List.cons.inj z).1; omega
    obtain ⟨c, r, rfl⟩ : ∃ c r, f = c :: r := by
      cases f with
      | nil => exact absurd rfl hf
      | cons c r => exact ⟨c, r, rfl⟩
    have h1 := hd.head
    have hp : 0 < digitsVal (c :: r) := digitsVal_pos (by
      have : c ≠ 48 := fun z => hh (by rw [z]; rfl)
      omega)
    have e := dec_of hd hf (.inr hh)
    rw [num_minus hd]
    unfold intL
    rw [if_pos (by omega), show (0 - (digitsVal (c :: r) : Int)).natAbs = digitsVal (c :: r) by omega, e]
  · rw [if_neg h45] at h
    obtain ⟨hw, hh⟩ := isNumF_to h
    have hf : l ≠ [] := fun z => hw (.inl z)
    have hd : AllDigits l := all_of_len fun z => hw (.inr z)
    rw [num_digits hd]
    unfold intL
    rw [if_neg (by omega), show (digitsVal l : Int).natAbs = digitsVal l by omega]
    exact dec_of hd hf hh
theorem isNum_iff (l : List Nat) : isNumL l = decide (intL (numL l) = l) := by
  cases h : isNumL l with
  | true => exact (decide_eq_true (isNum_own h)).symm
  | false =>
    refine (decide_eq_false fun e => ?_).symm
    rw [← e, isNum_int] at h
    cases h
/-- a number's own text -/
theorem tl_int (n : Int) : tl (Str.ofString (toString n)) = intL n := by
  rw [tl, Str.ofString_eq_toList, Int.toString_eq_repr, Int.repr_eq_if]
  show ((if 0 ≤ n then n.toNat.repr else "-" ++ (-n).toNat.repr).toList.map Char.toNat) = _
  unfold intL
  split
  · rw [if_neg (by omega), Nat.toList_repr]
    unfold decL
    rw [show n.natAbs = n.toNat by omega]
  · rw [if_pos (by omega), String.toList_append, Nat.toList_repr, List.map_append]
    unfold decL
    rw [show n.natAbs = (-n).toNat by omega]
    rfl
/-- the number of a text, whether it is a number's own -/
def numS (s : Str) : Int := numL (tl s)
def isNumS (s : Str) : Bool := isNumL (tl s)
def intS (n : Int) : Str := Str.ofString (toString n)
theorem isNumS_iff (s : Str) : isNumS s = decide (intS (numS s) = s) := by
  unfold isNumS numS intS
  rw [isNum_iff]
  exact decide_eq_decide.mpr ⟨fun h => tl_inj (by rw [tl_int]; exact h), fun h => by rw [← tl_int, h]⟩
theorem numS_int (n : Int) : numS (intS n) = n := by unfold numS intS; rw [tl_int, num_int]
theorem isNumS_int (n : Int) : isNumS (intS n) = true := by unfold isNumS intS; rw [tl_int, isNum_int]
end Sk

namespace Sk
open PySem PySem.Spec PyProof.Rows L2
/-! ### text * number -/
def rRepS : R2 := fun x y H Q => ∃ (z : Str) (n : Int), x = .str z ∧ y = .int n ∧ 0 ≤ n ∧ n ≤ 1000 ∧ z.length ≤ 10000 ∧ ∀ r : Str, (r.length : Int) = z.length * n → (∀ c ∈ tl r, c ∈ tl z) → Q (.str r) H
theorem mulOk {z : Str} {n : Int} (h0 : 0 ≤ n) (h1 : n ≤ 1000) (hz : z.length ≤ 10000) : MulOk z n := by
  refine ⟨?_, fun h _ => ?_, fun h _ => ?_⟩
  · rw [decide_eq_false (by omega), decide_eq_false (by omega)]; rfl
  · have h2 : (10000 : Int) ≤ (2 ^ 63 - 1) / n := by
      rw [Int.le_ediv_iff_mul_le (by omega)]
      omega
    omega
  · have h2 : z.length * n.toNat ≤ 10000 * 1000 := Nat.mul_le_mul hz (by omega)
    exact PyProof.Rows.short24 (by omega)
theorem foldl_app (l : List Nat) : ∀ (k : Nat) (acc : Array Nat), ((List.replicate k l.toArray).foldl (· ++ ·) acc).toList = acc.toList ++ (List.replicate k l).flatten
  | 0, acc => by simp
  | k + 1, acc => by
    rw [List.replicate_succ, List.foldl_cons, foldl_app l k, List.replicate_succ, List.flatten_cons, Array.toList_append, List.append_assoc]
theorem tl_mul (z : Str) {n : Int} (h0 : 0 ≤ n) : tl (Txt.mul z n) = (List.replicate n.toNat (tl z)).flatten := by
  unfold Txt.mul
  by_cases h : n < 1
  · rw [if_pos h, show n.toNat = 0 by omega]
    rfl
  · rw [if_neg h]
    by_cases h2 : (n == 1 || z.length == 0) = true
    · rw [if_pos h2]
      rcases Bool.or_eq_true _ _ ▸ h2 with e | e
      · rw [beq_iff_eq.mp e]
        show tl z = (List.replicate 1 (tl z)).flatten
        simp
      · have h3 : tl z = [] := List.length_eq_zero_iff.mp (by rw [← len_tl]; exact beq_iff_eq.mp e)
        rw [h3]
        simp
    · rw [if_neg h2]
      have e := foldl_app (tl z) n.toNat #[]
      rw [show (tl z).toArray = z.cps from Array.toArray_toList] at e
      exact e.trans (List.nil_append _)
theorem op_repS {X : Cx} : OpR X (binaryOp .Mult) rRepS := by
  intro pins s σ H x y v u Q I rx ry h
  obtain ⟨z, n, rfl, rfl, h0, h1, hz, q⟩ := h
  obtain ⟨t, rfl⟩ := rx
  obtain ⟨t', rfl⟩ := ry
  refine SB.mul (mulOk h0 h1 hz) fun t2 k => ⟨.str _, H, I.tok _, ⟨_, rfl⟩, q _ ?_ fun c hc => ?_⟩
  · have hk : ∀ k : Nat, (List.replicate k (tl z)).flatten.length = k * z.length := by
      intro k
      induction k with
      | zero => simp
      | succ k ih => rw [List.replicate_succ, List.flatten_cons, List.length_append, ih, ← len_tl, Nat.succ_mul, Nat.add_comm]
    rw [len_tl, tl_mul z h0, hk, Int.natCast_mul, Int.toNat_of_nonneg h0, Int.mul_comm]
  · rw [tl_mul z h0, List.mem_flatten] at hc
    obtain ⟨l, hl, hc⟩ := hc
    rw [(List.mem_replicate.mp hl).2] at hc
    exact hc
/-! ### slices of texts -/
theorem cut_from (z : Str) (a : Nat) : tl (cutS z (some (a : Int)) none) = (tl z).drop a := by
  show ((z.cps.toList.drop (HT.sIx z.length 0 (some (a : Int)))).take (HT.sIx z.length z.length none - HT.sIx z.length 0 (some (a : Int)))) = _
  rw [HT.sIx_none, HT.sIx_nat, len_tl]
  by_cases h : a ≤ (tl z).length
  · rw [Nat.min_eq_left h]
    exact List.take_of_length_le (by rw [List.length_drop]; exact Nat.le_refl _)
  · rw [List.drop_eq_nil_of_le (show z.cps.toList.length ≤ min a (tl z).length by show (tl z).length ≤ _; omega), List.drop_eq_nil_of_le (show (tl z).length ≤ a by omega)]
    exact List.take_nil
theorem cut_mid (z : Str) (a b : Nat) : tl (cutS z (some (a : Int)) (some (b : Int))) = ((tl z).drop a).take (b - a) := by
  show ((z.cps.toList.drop (HT.sIx z.length 0 (some (a : Int)))).take (HT.sIx z.length z.length (some (b : Int)) - HT.sIx z.length 0 (some (a : Int)))) = _
  rw [HT.sIx_nat, HT.sIx_nat, len_tl]
  by_cases h : a ≤ (tl z).length
  · rw [Nat.min_eq_left h, List.take_eq_take_iff]
    show min (min b (tl z).length - a) (List.drop a (tl z)).length = min (b - a) (List.drop a (tl z)).length
    rw [List.length_drop]
    omega
  · rw [List.drop_eq_nil_of_le (show z.cps.toList.length ≤ min a (tl z).length by show (tl z).length ≤ _; omega), List.drop_eq_nil_of_le (show (tl z).length ≤ a by omega), List.take_nil, List.take_nil]
theorem cut_toN (z : Str) (b : Nat) : tl (cutS z none (some (b : Int))) = (tl z).take b := by
  rw [cut_to z (by omega), Int.toNat_natCast]
/-! ### counting one sign -/
theorem cnt_count (c : Nat) : ∀ l : List Nat, cnt c l = (l.count c : Int)
  | [] => rfl
  | n :: r => by
    rw [cnt_cons, cnt_count c r, List.count_cons]
    by_cases h : n = c
    · rw [if_pos h, h, beq_self_eq_true, if_pos rfl]
      omega
    · rw [if_neg h, beq_eq_false_iff_ne.mpr h, if_neg Bool.false_ne_true]
      omega
theorem count_one (z : Str) (c : Nat) : Txt.count z ⟨#[c]⟩ = ((tl z).count c : Int) := (count_cnt z c).trans (cnt_count c _)
/-! ### numbers of worths -/
theorem takeWhile_pre {p : Nat → Bool} {pre rest : List Nat} (h : ∀ c ∈ pre, p c = true) (hr : rest = [] ∨ ∃ c r, rest = c :: r ∧ p c = false) : (pre ++ rest).takeWhile p = pre ∧ (pre ++ rest).dropWhile p = rest := by
  induction pre with
  | nil =>
    rcases hr with e | ⟨c, r, e, hc⟩
    · subst e; exact ⟨rfl, rfl⟩
    · subst e
      rw [List.nil_append, List.takeWhile_cons_of_neg (by rw [hc]; exact Bool.false_ne_true), List.dropWhile_cons_of_neg (by rw [hc]; exact Bool.false_ne_true)]
      exact ⟨rfl, rfl⟩
  | cons d r ih =>
    have hd := h d List.mem_cons_self
    rw [List.cons_append, List.takeWhile_cons_of_pos hd, List.dropWhile_cons_of_pos hd]
    obtain ⟨e1, e2⟩ := ih fun c hc => h c (List.mem_cons_of_mem _ hc)
    rw [e1, e2]
    exact ⟨rfl, rfl⟩
def aheadL (l some : List Nat) : List Nat := l.takeWhile fun c => decide (c ∈ some)
def spAhead : Sp := fun vs H Q _ => ∃ w z : Str, vs = [.str w, .str z] ∧ w.length ≤ 100000 ∧ Q (.int ((aheadL (tl w) (tl z)).length : Int)) H
def spNumberOf : Sp := fun vs H Q _ => ∃ w : Str, vs = [.str w] ∧ w.length ≤ 640 ∧ Q (.int (numS w)) H
def spIsNumber : Sp := fun vs H Q _ => ∃ w : Str, vs = [.str w] ∧ w.length ≤ 100000 ∧ Q (.bl (isNumS w)) H
def spNumberText : Sp := fun vs H Q _ => ∃ n : Int, vs = [.int n] ∧ n.natAbs.log2 < 1920 ∧ Q (.str (intS n)) H
theorem ahead_marks (l : List Nat) : aheadL l (tl (Str.ofString "+-")) = marksOf l := by
  unfold aheadL marksOf
  refine congrArg (fun p => List.takeWhile p l) (funext fun c => ?_)
  rw [show tl (Str.ofString "+-") = [43, 45] by decide +kernel]
  unfold isMark
  simp [List.mem_cons, beq_iff_eq, Bool.decide_or, decide_eq_decide]
  rw [Bool.beq_eq_decide_eq, Bool.beq_eq_decide_eq]
theorem ahead_figs (l : List Nat) : aheadL l (tl (Str.ofString "0123456789")) = l.takeWhile isFig := by
  unfold aheadL
  refine congrArg (fun p => List.takeWhile p l) (funext fun c => ?_)
  rw [show tl (Str.ofString "0123456789") = [48, 49, 50, 51, 52, 53, 54, 55, 56, 57] by decide +kernel]
  unfold isFig
  rw [← Bool.decide_and]
  refine decide_eq_decide.mpr ?_
  simp only [List.mem_cons, List.not_mem_nil, or_false]
  omega
end Sk

namespace Sk
open PySem PySem.Spec PyProof.Rows L2
open PySem.NumText (AllDigits digitsVal digitsVal_snoc)
theorem digitsVal_lt : ∀ (n : Nat) (l : List Nat), l.length = n → AllDigits l → digitsVal l < 10 ^ n := by
  intro n
  induction n with
  | zero =>
    intro l h _
    rw [List.length_eq_zero_iff.mp h]
    decide
  | succ n ih =>
    intro l h hd
    obtain ⟨r, c, rfl⟩ : ∃ r c, l = r ++ [c] := ⟨l.dropLast, l.getLast (by intro z; rw [z] at h; cases h), (List.dropLast_concat_getLast _).symm⟩
    rw [digitsVal_snoc]
    have h1 := ih r (by rw [List.length_append, List.length_singleton] at h; omega) fun d hd' => hd d (List.mem_append_left _ hd')
    have h2 := hd c (List.mem_append_right _ (List.mem_singleton.mpr rfl))
    rw [Nat.pow_succ]
    omega
theorem val_bits {l : List Nat} (h : AllDigits l) (hl : l.length ≤ 640) : ((digitsVal l : Nat) : Int).natAbs < 2 ^ 2560 := by
  rw [Int.natAbs_natCast]
  refine Nat.lt_of_lt_of_le (digitsVal_lt _ l rfl h) ?_
  refine Nat.le_trans (Nat.pow_le_pow_left (by decide : 10 ≤ 2 ^ 4) _) ?_
  rw [← Nat.pow_mul]
  exact Nat.pow_le_pow_right (by decide) (by omega)
theorem val_mul {l : List Nat} (h : AllDigits l) (hl : l.length ≤ 640) : CMulW ((digitsVal l : Nat) : Int) 10 := wide_mul (b := 4) (val_bits h hl) (by decide) (by decide) (by decide) (by decide)
theorem find_fig {c : Nat} (h : 48 ≤ c ∧ c ≤ 57) : Txt.find (Str.ofString "0123456789") ⟨#[c]⟩ = ((c - 48 : Nat) : Int) := by
  have key : ∀ k < 10, Txt.find (Str.ofString "0123456789") ⟨#[48 + k]⟩ = ((48 + k - 48 : Nat) : Int) := by decide +kernel
  have := key (c - 48) (by omega)
  rw [show 48 + (c - 48) = c by omega] at this
  exact this
theorem fig_mem {c : Nat} : decide (c ∈ tl (Str.ofString "0123456789")) = isFig c := by
  rw [show tl (Str.ofString "0123456789") = [48, 49, 50, 51, 52, 53, 54, 55, 56, 57] by decide +kernel]
  unfold isFig
  rw [← Bool.decide_and]
  refine decide_eq_decide.mpr ?_
  simp only [List.mem_cons, List.not_mem_nil, or_false]
  omega
theorem mark_mem {c : Nat} : decide (c ∈ tl (Str.ofString "+-")) = isMark c := by
  rw [show tl (Str.ofString "+-") = [43, 45] by decide +kernel, Bool.eq_iff_iff, decide_eq_true_eq, isMark_iff]
  simp only [List.mem_cons, List.not_mem_nil, or_false]
theorem eq_sign {c d : Nat} : decide (V.str ⟨#[c]⟩ = V.str ⟨#[d]⟩) = (c == d) := by
  rw [Bool.eq_iff_iff, decide_eq_true_eq, beq_iff_eq]
  exact ⟨fun z => by
    have := congrArg tl (V.str.inj z)
    exact (List.cons.inj this).1, fun z => by rw [z]⟩
def spLawNumber : Sp := fun vs H Q _ => ∃ x : Str, vs = [.str x] ∧ x.length ≤ 640 ∧ ∀ H', Same H H' → Q (.int (numS x)) H'
def spWritten : Sp := fun vs H Q _ => ∃ n : Int, vs = [.int n] ∧ (intL n).length ≤ 10000 ∧ ∀ H', Same H H' → Q (.str (intS n)) H'
theorem item_fig {k : Int} (h0 : 0 ≤ k) (h1 : k < 10) : atI (tl (Str.ofString "0123456789")) k = some (48 + k.toNat) := by
  have key : ∀ j : Nat, j < 10 → atI (tl (Str.ofString "0123456789")) (j : Int) = some (48 + j) := by decide +kernel
  have := key k.toNat (by omega)
  rw [Int.toNat_of_nonneg h0] at this
  exact this
theorem intL_abs (n : Int) : intL n = if n < 0 then 45 :: decL n.natAbs else decL n.natAbs := rfl
theorem intL_bits {n : Int} (h : (intL n).length ≤ 640) : n.natAbs < 2 ^ 2560 := by
  have h1 : (decL n.natAbs).length ≤ 640 := by
    unfold intL at h
    split at h
    · rw [List.length_cons] at h; omega
    · exact h
  have h2 := val_bits (decL_digits n.natAbs) h1
  rw [decL_val, Int.natAbs_natCast] at h2
  exact h2
theorem digitsVal_len : ∀ (l : List Nat), AllDigits l → (decL (digitsVal l)).length ≤ l.length + 1 := by
  have key : ∀ (m n : Nat), n < 10 ^ m → (decL n).length ≤ m + 1 := by
    intro m
    induction m with
    | zero => intro n h; rw [show n = 0 by omega, decL_lt (by decide)]; decide
    | succ m ih =>
      intro n h
      by_cases hn : n < 10
      · rw [decL_lt hn]; show 1 ≤ _; omega
      · rw [decL_ge (by omega), List.length_append, List.length_singleton]
        have := ih (n / 10) (by rw [Nat.pow_succ] at h; omega)
        omega
  exact fun l h => key _ _ (digitsVal_lt _ l rfl h)
theorem numS_len {x : Str} : (intL (numS x)).length ≤ x.length + 2 := by
  have hd : AllDigits (figsOf (tl x)) := fun c hc => isFig_iff.mp (mem_takeWhile hc)
  have h1 := digitsVal_len _ hd
  have h2 : (figsOf (tl x)).length ≤ x.length := by
    rw [len_tl]
    exact Nat.le_trans ((List.takeWhile_sublist _).length_le) ((List.dropWhile_sublist _).length_le)
  have h3 : (numS x).natAbs = digitsVal (figsOf (tl x)) := by
    unfold numS numL
    split <;> omega
  unfold intL
  rw [h3]
  split
  · rw [List.length_cons]; omega
  · omega
end Sk

namespace Sk
open PySem PySem.Spec PyProof.Rows L2
open PySem.W (KeepsBut AllAlike Sortable KeyedOut dataKind dataLe EachIs SortsAt copyHeap)
/-! ### sorted(xs, key=f), f a def of one's own that makes new things alone -/
/-- keys, told by the layer -/
abbrev KeyV (K : PySem.W.Frag) (H : Hp) : List V → List PyData → Prop := DpAll K H
theorem dpAll_snoc {K : PySem.W.Frag} {H : Hp} : ∀ {vs : List V} {ds : List PyData} {v : V} {d : PyData}, DpAll K H vs ds → Dp K H v d → DpAll K H (vs ++ [v]) (ds ++ [d])
  | _, _, _, _, .nil, h => .cons h .nil
  | _, _, _, _, .cons a b, h => .cons a (dpAll_snoc b h)
mutual
theorem dp_same {K : PySem.W.Frag} {H H' : Hp} (s : Same H H') : ∀ {v : V} {d : PyData}, Dp K H v d → Dp K H' v d
  | _, _, .non => .non
  | _, _, .bl b => .bl b
  | _, _, .int i => .int i
  | _, _, .str x => .str x
  | _, _, .lst h g => .lst (s.seq h) (dpAll_same s g)
  | _, _, .tup h g => .tup (by
      rcases h with (h | ⟨o, h⟩) | h
      · exact .inl (.inl (s _ _ h))
      · exact .inl (.inr ⟨o, s _ _ h⟩)
      · exact .inr h) (dpAll_same s g)
theorem dpAll_same {K : PySem.W.Frag} {H H' : Hp} (s : Same H H') : ∀ {vs : List V} {ds : List PyData}, DpAll K H vs ds → DpAll K H' vs ds
  | _, _, .nil => .nil
  | _, _, .cons h g => .cons (dp_same s h) (dpAll_same s g)
end
def rSortKey (K : PySem.W.Frag) (f : Addr) (sp : Sp) : List V → List V → Hp → VK → Prop := fun vs zs H Q => ∃ (a : Addr) (xs : List V) (key : V → PyData), vs = [.ref a] ∧ zs = [.ref f] ∧ SqL K H a xs ∧ xs.length < 100000 ∧
  AllAlike (xs.map key) ∧ Sortable (xs.map key) ∧ (∀ x ∈ xs, (key x).depth ≤ 40) ∧
  (∀ x ∈ xs, ∀ H1, Same H H1 → ∀ R : VK, (∀ v H2, Same H1 H2 → Dp K H2 v (key x) → R v H2) → sp [x] H1 R E0) ∧
  ∀ p H2, H p = none → Same H H2 → H2 p = some (.lst (xs.mergeSort (dataLe false key))) → Q (.ref p) H2
section
variable {X : Cx}
theorem eachReads {pins : List (Addr × Obj)} {σ : L2.St} {H : Hp} {s : Shared} (I : Inv X pins σ H s) : ∀ {ks : List V} {ds : List PyData} {us : List Value}, DpAll X.K H ks ds → Vals ks us → EachIs (fun v k => ∃ as, Reads s.heap v k as) us ds
  | _, _, _, .nil, .nil => .nil
  | _, _, _, .cons h g, .cons r t => .cons (Dp.reads I _ _ _ h r) (eachReads I g t)
theorem eachVals : ∀ {xs : List V} {us : List Value}, Vals xs us → EachIs (fun u x => RelV x u) us xs
  | _, _, .nil => .nil
  | _, _, .cons r t => .cons r (eachVals t)
theorem valsEach : ∀ {xs : List V} {us : List Value}, EachIs (fun u x => RelV x u) us xs → Vals xs us
  | _, _, .nil => .nil
  | _, _, .cons r t => .cons r (valsEach t)
end
end Sk
namespace Sk
open PySem PySem.Spec PyProof.Rows L2
open PySem.W (KeepsBut AllAlike Sortable KeyedOut dataKind dataLe EachIs SortsAt copyHeap copyHeap_at copyHeap_old keyH_end hideAll)
section
variable {X : Cx} {k : Nat} {f : Addr} {fd : FuncData} {xn : Str} {sp : Sp}
/-- what stands between two calls of the key -/
structure Mid (X : Cx) (pins : List (Addr × Obj)) (σ : L2.St) (H : Hp) (D kS : Addr) (e1 : Nat) (ds : List PyData) (s' : Shared) : Prop where
  ex : ∃ (Hi : Hp) (kA : Array Value) (e : Nat) (ks : List V), Inv X pins σ Hi s' ∧ Same H Hi ∧ Hi D = none ∧ Hi kS = none ∧
    s'.heap.get? kS = some (seqObj "list" kA e) ∧ s'.heap.get? D = some (seqObj "list" #[] e1) ∧ Vals ks kA.toList ∧ DpAll X.K Hi ks ds
theorem dpAll_len {K : PySem.W.Frag} {H : Hp} : ∀ {vs : List V} {ds : List PyData}, DpAll K H vs ds → vs.length = ds.length
  | _, _, .nil => rfl
  | _, _, .cons _ g => by rw [List.length_cons, List.length_cons, dpAll_len g]
theorem mid_turn (F : FnOk X.prog X.w X.K X.mg X.base CX0 k f fd [xn] sp) (hr : Room (k + 2) X.A) (hb : Binds X.K fd [xn] []) {pins : List (Addr × Obj)} {σ : L2.St} {H : Hp} {D kS : Addr} {e1 : Nat} {ds : List PyData} {d : PyData} {s' : Shared} {x : V} {u : Value} {E : Value → Shared → Prop}
    {next : Value → Sem (ForInStep PUnit)}
    (fD : FpOk X pins H D) (fS : FpOk X pins H kS) (hne : kS ≠ D) (hsz : ds.length < 100000)
    (m : Mid X pins σ H D kS e1 ds s') (rx : RelV x u) (hsp : ∀ H1, Same H H1 → ∀ R : VK, (∀ v H2, Same H1 H2 → Dp X.K H2 v d → R v H2) → sp [x] H1 R E0) :
    wpAny (model X.prog X.w) X.A.in1.in1 (do
      match ← (call (.ref f) [u]).attempt with
      | .ok k => Builtin.List.listUpdate (.ref kS) (·.push k); pure (ForInStep.yield PUnit.unit)
      | .error e => next e) (fun r s'' => r = .yield PUnit.unit ∧ Mid X pins σ H D kS e1 (ds ++ [d]) s'') E s' := by
  obtain ⟨Hi, kA, e, ks, I, sm, nD, nS, gS, gD, rk, dk⟩ := m.ex
  have stk : ∀ {b : Addr}, FpOk X pins H b → b ∉ frs X.stack := fun {b} fb hb' => by
    rcases List.mem_cons.mp (I.stkSub b hb') with z | z
    · exact fb.2.1 z
    · exact fb.2.2.1 z
  refine wpAny_bind (wpAny_attempt (wpAny_call (codeAny_mono (F.run X.A.in1.in1 X.stack s' Hi ⟨[u], []⟩ [u] [x] (fun v H2 => Same Hi H2 ∧ Dp X.K H2 v d) E0 hr.in1.in1 I.env0.in1.in1 (hb s' [u] I.kIn rfl) (.cons rx .nil) (hsp Hi sm _ fun v H2 s2 h2 => ⟨s2, h2⟩)) fun r s2 hq => ?_)))
  cases r with
  | error z => exact hq.elim
  | ok fl =>
    cases fl with
    | next => exact hq.elim
    | brk => exact hq.elim
    | cont => exact hq.elim
    | ret y =>
      obtain ⟨v0, H0', os, bare, un, hok, rv0, q0⟩ := hq
      have hq' : CE X.stack X.prog X.w Hi s' (fun v H2 => (Same Hi H2 ∧ Dp X.K H2 v d) ∧ H2 kS = none ∧ H2 D = none) y s2 := ⟨v0, H0', os, bare, un, hok, rv0, q0, un.free kS _ gS nS List.not_mem_nil, un.free D _ gD nD List.not_mem_nil⟩
      have gS2 := un.keep kS _ gS nS (stk fS) List.not_mem_nil
      have gD2 := un.keep D _ gD nD (stk fD) List.not_mem_nil
      obtain ⟨v, H2, I2, rv, ⟨s2', dv⟩, n2S, n2D⟩ := I.after hq'
      have hlen : kA.size ≤ sizeLine := by
        have h1 : kA.toList.length = kA.size := Array.length_toList
        have h2 := dpAll_len dk
        have h3 : ks.length = kA.toList.length := Vals.length rk
        exact Evl.sz_of (by omega)
      refine wpAny_bind (listUpdate_at gS2 rfl ?_ hlen (by rw [Array.size_push]; omega))
      have sb := Heap.SameBut.update s2.heap kS (Obj.mapSeq (·.push y))
      obtain ⟨c2, hc2⟩ : ∃ c2, (s2.heap.update kS (Obj.mapSeq (·.push y))).get? kS = some (seqObj "list" (kA.push y) c2) := ⟨_, get?_update_seq gS2 (·.push y)⟩
      have fS2 : FpOk X pins H2 kS := ⟨n2S, fS.2⟩
      refine wpAny_pure ⟨rfl, ⟨H2, kA.push y, c2, ks ++ [v], ?_, sm.trans s2', n2D, n2S, hc2, (sb.2 D hne.symm).trans gD2, ?_, dpAll_snoc (dpAll_same s2' dk) dv⟩⟩
      · exact I2.turned (t' := s2.toks) (fun b o hb e => (sb.2 b hb).trans e) n2S fS.2.1 fS.2.2.2.1 fS.2.2.2.2.1 fS.2.2.2.2.2
      · rw [Array.toList_push]
        exact rk.append (.cons rv .nil)
/-- sorted(xs, key=f) -/
theorem cr_sortKey (F : FnOk X.prog X.w X.K X.mg X.base CX0 k f fd [xn] sp) (hr : Room (k + 2) X.A) (hb : Binds X.K fd [xn] []) : CallRK X (.builtin "sorted") [Str.ofString "key"] (rSortKey X.K f sp) := by
  intro pins s σ H vs zs us ws Q I r rz h
  obtain ⟨a, xs, key, rfl, rfl, hs, hlen, hal, hsk, hdep, hsp, q⟩ := h
  obtain rfl := Vals.ref1 r
  obtain ⟨w1, rfl, e1⟩ := vals1 rz
  obtain rfl : w1 = Value.ref f := e1
  obtain ⟨its, rv, hl, hzL⟩ := I.list hs
  have hil : its.length = xs.length := (Vals.length rv).symm
  have hD : s.heap.objs.size ≤ s.heap.objs.size + 1 := Nat.le_succ _
  have nD : H (s.heap.objs.size + 1) = none := I.hok.fresh hD
  have fD : FpOk X pins H (s.heap.objs.size + 1) := I.fpOk hD nD
  refine PySem.W.sorted_of_sort hl.isList (by rw [hil]; exact hzL) (ksk_s1 _ _) (fun x => ksk_l1 _ _) fun E' => ?_
  show wpAny _ _ (ksk_tree (s.heap.objs.size + 1) (.ref f) false) _ E' _
  have ho := copyHeap_at s.heap its
  have hsi : its.toArray.size ≤ sizeLine := by rw [List.size_toArray, hil]; exact hzL
  have old1 : ∀ b o, s.heap.get? b = some o → (copyHeap s.heap its).get? b = some o := fun b o e => copyHeap_old e
  have ltD : ∀ b o, s.heap.get? b = some o → b ≠ s.heap.objs.size + 1 := fun b o e => by
    have := Heap.lt_size e
    exact Nat.ne_of_lt (Nat.lt_succ_of_lt this)
  generalize hDd : s.heap.objs.size + 1 = D at ho nD fD hD ltD ⊢
  generalize copyHeap s.heap its = g1 at ho old1 ⊢
  unfold ksk_tree
  refine wpAny_bind (listItems_at ho rfl ?_)
  refine wpAny_bind (listUpdate_at ho rfl ?_ hsi (Nat.zero_le _))
  obtain ⟨c1, hc1⟩ : ∃ c1, (g1.update D (Obj.mapSeq fun _ => (#[] : Array Value))).get? D = some (seqObj "list" #[] c1) := ⟨_, get?_update_seq ho fun _ => #[]⟩
  have sb1 := Heap.SameBut.update g1 D (Obj.mapSeq fun _ => (#[] : Array Value))
  refine wpAny_bind (seqEpoch_at hc1 rfl ?_)
  refine wpAny_bind (wpAny_newTuple ?_ (by rw [Array.length_toList]; exact hsi))
  refine wpAny_bind (wpAny_newList ?_ (Nat.zero_le _))
  refine wpAny_holding ?_
  dsimp only
  have old2 : ∀ b o, s.heap.get? b = some o → (g1.update D (Obj.mapSeq fun _ => (#[] : Array Value))).get? b = some o := fun b o e => (sb1.2 b (ltD b o e)).trans (old1 b o e)
  generalize g1.update D (Obj.mapSeq fun _ => (#[] : Array Value)) = g2 at hc1 old2 ⊢
  have old3 : ∀ b o, s.heap.get? b = some o → (g2.push { cls := .type "tuple", data := .seq its.toArray.toList.toArray }).get? b = some o := fun b o e => Heap.get?_push_of_some _ (old2 b o e)
  have hc3 : (g2.push { cls := .type "tuple", data := .seq its.toArray.toList.toArray }).get? D = some (seqObj "list" #[] c1) := Heap.get?_push_of_some _ hc1
  generalize g2.push { cls := .type "tuple", data := .seq its.toArray.toList.toArray } = g3 at hc3 old3 ⊢
  have gS : (g3.push { cls := .type "list", data := .seq ([] : List Value).toArray }).get? g3.objs.size = some (seqObj "list" #[] 0) := Heap.get?_push_size _ rfl
  have gD : (g3.push { cls := .type "list", data := .seq ([] : List Value).toArray }).get? D = some (seqObj "list" #[] c1) := Heap.get?_push_of_some _ hc3
  have hne : g3.objs.size ≠ D := Nat.ne_of_gt (Heap.lt_size hc3)
  have hS : s.heap.objs.size ≤ g3.objs.size := Nat.le_trans hD (Nat.le_of_lt (Heap.lt_size hc3))
  have nS : H g3.objs.size = none := I.hok.fresh hS
  have fS : FpOk X pins H g3.objs.size := I.fpOk hS nS
  have I4 : Inv X pins σ H { s with heap := g3.push { cls := .type "list", data := .seq ([] : List Value).toArray } } := I.kept (t' := s.toks) fun b o e => Heap.get?_push_of_some _ (old3 b o e)
  generalize g3.objs.size = kS at gS hne nS fS ⊢
  generalize g3.push { cls := .type "list", data := .seq ([] : List Value).toArray } = g4 at gS gD I4 ⊢
  unfold ksk_rest
  refine wpAny_bind (wpAny_rule ?_)
  rw [List.forIn_toArray]
  refine wpAny_bind (ksk_fold (fun i s' => Mid X pins σ H D kS c1 ((xs.take i).map key) s') its 0 _ ⟨H, #[], 0, [], I4, .refl H, nD, nS, gS, gD, .nil, .nil⟩ ?_ ?_)
  · intro j u s' hu m
    simp only [Nat.zero_add] at m ⊢
    have hj : j < xs.length := by rw [← hil]; exact (List.getElem?_eq_some_iff.mp hu).1
    have hx : xs[j]? = some xs[j] := List.getElem?_eq_getElem hj
    have rx : RelV xs[j] u := by
      obtain ⟨u', hu', r'⟩ := Vals.get rv hx
      rw [hu] at hu'
      cases hu'
      exact r'
    have et : (xs.take (j + 1)).map key = (xs.take j).map key ++ [key xs[j]] := by rw [List.take_add_one, hx, List.map_append]; rfl
    rw [et]
    exact mid_turn F hr hb fD fS hne (by rw [List.length_map, List.length_take]; omega) m rx (hsp _ (List.getElem_mem hj))
  · intro s' m
    rw [Nat.zero_add, hil, List.take_length] at m
    obtain ⟨Hi, kA, e, ks, I5, sm, nD5, nS5, gS5, gD5, rk, dk⟩ := m.ex
    refine wpAny_bind (listItems_at gS5 rfl ?_)
    have ek := eachReads I5 dk rk
    have hks : kA.size = its.length := by
      have h1 : kA.toList.length = kA.size := Array.length_toList
      have h2 := dpAll_len dk
      have h3 : ks.length = kA.toList.length := Vals.length rk
      rw [List.length_map] at h2
      omega
    have hu : ∀ d, d ∈ xs.map key → X.A.in1.in1.units + d.depth < cLine := fun d hd => by
      obtain ⟨x, hx, rfl⟩ := List.mem_map.mp hd
      have h1 := hdep x hx
      have h2 := hr.in1.in1.units
      omega
    have old5 : ∀ b o, (hideAll s'.heap [kS]).get? b = some o → s'.heap.get? b = some o := fun b o e => PySem.W.of_hideAll _ e
    refine keyH_end (h₁ := hideAll s'.heap [kS]) (fun b o _ e => old5 b o e) (PySem.W.hideAll_none _ (List.mem_singleton.mpr rfl)) gS5 gD5 hne (SortsAt.data ek hal hsk hu) hks (by rw [hil]; exact hzL) fun h' tk c kp gD6 => ⟨rfl, ?_⟩
    have eo := PySem.W.keyedOut_each key (⟨s'.heap, kA.toList, hal, rfl, ek⟩ : KeyedOut false (xs.map key) its _) (eachVals rv)
    have fD5 : FpOk X pins Hi D := ⟨nD5, fD.2⟩
    have fS5 : FpOk X pins Hi kS := ⟨nS5, fS.2⟩
    have I6 := I5.turnedL (h' := h') (t' := tk) (ch := [D, kS]) (fun b o hb e => kp b o (fun z => hb (by rw [z]; exact List.mem_cons_self)) (PySem.W.hideAll_get _ e fun z => hb (List.mem_cons_of_mem _ z))) fun b hb => by
      rcases List.mem_cons.mp hb with z | z
      · rw [z]; exact fD5
      · rw [List.mem_singleton.mp z]; exact fS5
    have hml : (xs.mergeSort (dataLe false key)).length = xs.length := List.length_mergeSort _
    have I7 := I6.take (h' := h') (t' := tk) (o := .lst (xs.mergeSort (dataLe false key))) (fun b o _ e => e) fD5 ⟨by rw [hml]; exact hzL, _, c, valsEach eo, gD6⟩
    exact ⟨.ref D, _, I7, rfl, q D _ nD (same_mut sm nD) upd_same⟩
end
end Sk

namespace Sk
open PySem PySem.Spec PyProof.Rows L2
open PySem.W (Datum DatumOrd Tup T3 dataLt dataLe alike AllAlike Sortable)
/-! ### a call with keywords alone -/
def pick {α : Type} (d : α) (ix : List (Bool × Nat)) (us ws : List α) : List α := ix.map fun p => if p.1 then ws.getD p.2 d else us.getD p.2 d
theorem vals_getD : ∀ {vs : List V} {us : List Value} (i : Nat), Vals vs us → RelV (vs.getD i .non) (us.getD i .none)
  | _, _, _, .nil => rfl
  | _, _, 0, .cons r _ => r
  | _, _, i + 1, .cons _ t => vals_getD i t
theorem pick_rel {ix : List (Bool × Nat)} {vs zs : List V} {us ws : List Value} (r : Vals vs us) (t : Vals zs ws) : Vals (pick .non ix vs zs) (pick .none ix us ws) := by
  unfold pick
  induction ix with
  | nil => exact .nil
  | cons p l ih =>
    obtain ⟨b, i⟩ := p
    refine .cons ?_ ih
    cases b with
    | true => exact vals_getD i t
    | false => exact vals_getD i r
theorem kbn_of {K : PySem.W.Frag} {x qual : Str} {st : Stmt} {f : Addr} {fd : FuncData} (F : Fun K x qual st f fd) (ps ks : List Str) (n : Nat) (ix : List (Bool × Nat))
    (h : ∀ (kV doc pm : Value) (an : Option Addr) (cdv ct : Value) (us ws : List Value), us.length = n → ws.length = ks.length → bindArgs (PySem.W.fnOf x qual (defArgs st) (defBody st) (defScope st) .none kV doc pm an cdv ct) ⟨us, ks.zip ws⟩ = pure (ps.zip (pick .none ix us ws))) :
    KBn K fd ps n ks (pick .none ix) (pick .non ix) := by
  obtain ⟨oc, od, kV, doc, pm, an, cdv, ct, osl, rfl, lk, hcd⟩ := F.ex
  exact ⟨fun s us ws _ l1 l2 => .of_eq (h kV doc pm an cdv ct us ws l1 l2), fun r t => pick_rel r t⟩
section
variable {X : Cx} {k n : Nat} {f : Addr} {fd : FuncData} {ps ks : List Str} {sp : Sp} {E : XK} {CX : CXT} {x : Str} {p pos : Pos} {kws : List Keyword} {tk : TA} {g : List Value → List Value → List Value} {gV : List V → List V → List V}
theorem pe_callN0 (F : FnOk X.prog X.w X.K X.mg X.base CX k f fd ps sp) (hr : Room k X.A) (hg : Gl X x) (hm : X.mg x = some (.ref f)) (hk : PySem.W.keepIn X.K (.ref f) = true) (hb : KBn X.K fd ps 0 ks g gV) (hx : Passes CX X E)
    (hkw : PK X kws tk) (hall : (backToKw pos (keywordEach kws X.env)).all (·.1.isSome) = true := by rfl) (hks : (backToKw pos (keywordEach kws X.env)).filterMap (·.1) = ks := by rfl)
    (hdb : (x == ("__debug__" : Str)) = false := by decide)
    (hpl : ((backTo pos (starEach [] X.env)).any (·.1) || (backToKw pos (keywordEach kws X.env)).any (·.1.isNone)) = false := by rfl) :
    PE X (.Call (.Name x p) [] kws pos) (tCallN 0 ks.length sp gV E tNil tk) := by
  refine ⟨fun pins s σ H Q I h => ?_⟩
  refine wpAny_Call_Name_kw (ld_glob I hg hm ?_ hdb)
  refine PySem.W.callWith_KW0 (h₀ := X.base) I.ok.mod.kin hk hall ?_ hpl
  refine thn (hkw.run pos pins s σ H _ I h) fun ws s2 ⟨zs, H2, I2, rz, l1, l2, q2⟩ => ⟨I2.kIn, ?_⟩
  rw [hks]
  exact run_fnN F hr hb hx I2 .nil rz l1 l2 q2
end
/-! ### < of data -/
def rLtP (K : PySem.W.Frag) : R2 := fun x y H Q => ∃ d e, Dp K H x d ∧ Dp K H y e ∧ alike d e = true ∧ d ≠ .none ∧ d.depth ≤ 64 ∧ Q (.bl (dataLt d e)) H
section
variable {X : Cx}
theorem k_ltP (K : PySem.W.Frag) (hu : X.A.units + 64 < cLine) (e : X.K = K := by rfl) : OpR X (compareOp .Lt) (rLtP K) := by
  subst e
  intro pins s σ H x y v u Q I rx ry h
  obtain ⟨d, e, hd, he, sd, sn, dl, q⟩ := h
  obtain ⟨as, r1⟩ := Dp.reads I d x v hd rx
  obtain ⟨bs, r2⟩ := Dp.reads I e y u he ry
  exact PySem.W.lt_data r1 r2 sd sn (by omega) ⟨.bl _, H, I, rfl, q⟩
end
def rGtP (K : PySem.W.Frag) : R2 := fun x y H Q => ∃ d e, Dp K H x d ∧ Dp K H y e ∧ alike d e = true ∧ d ≠ .none ∧ d.depth ≤ 64 ∧ Q (.bl (dataLt e d)) H
theorem k_gtP {X : Cx} (K : PySem.W.Frag) (hu : X.A.units + 64 < cLine) (e : X.K = K := by rfl) : OpR X (compareOp .Gt) (rGtP K) := by
  subst e
  intro pins s σ H x y v u Q I rx ry h
  obtain ⟨d, e, hd, he, sd, sn, dl, q⟩ := h
  obtain ⟨as, r1⟩ := Dp.reads I d x v hd rx
  obtain ⟨bs, r2⟩ := Dp.reads I e y u he ry
  exact PySem.W.gt_data r1 r2 sd sn (by omega) ⟨.bl _, H, I, rfl, q⟩
theorem rd_gtP {α : Type} [DecidableEq α] [DatumOrd α] {K : PySem.W.Frag} {H : Hp} {v w : V} {x y : α} {Q : VK} (h1 : DV K H v x) (h2 : DV K H w y) (hd : Datum.depth α ≤ 64) (q : Q (.bl (DatumOrd.lt y x)) H) : rGtP K v w H Q :=
  ⟨_, _, h1, h2, DatumOrd.alike x y, DatumOrd.notNone x, Nat.le_trans (Datum.depth_le x) hd, by rw [DatumOrd.lt_eq]; exact q⟩
theorem rd_ltP {α : Type} [DecidableEq α] [DatumOrd α] {K : PySem.W.Frag} {H : Hp} {v w : V} {x y : α} {Q : VK} (h1 : DV K H v x) (h2 : DV K H w y) (hd : Datum.depth α ≤ 64) (q : Q (.bl (DatumOrd.lt x y)) H) : rLtP K v w H Q :=
  ⟨_, _, h1, h2, DatumOrd.alike x y, DatumOrd.notNone x, Nat.le_trans (Datum.depth_le x) hd, by rw [DatumOrd.lt_eq]; exact q⟩
/-! ### the rank of a key -/
abbrev Rank := T3 Int Int Str
def rankT (s : Str) : Rank := if isNumS s then ⟨0, numS s, Str.ofString ""⟩ else ⟨1, 0, s⟩
def ltK (a b : Str) : Bool := DatumOrd.lt (rankT a) (rankT b)
def leK (a b : Str) : Bool := !ltK b a
def sortK (ks : List Str) : List Str := ks.mergeSort leK
def keyOf : V → PyData
  | .str s => Datum.toD (rankT s)
  | _ => .none
theorem sortK_map (ks : List Str) : (ks.map V.str).mergeSort (dataLe false keyOf) = (sortK ks).map V.str := by
  unfold sortK
  refine (List.map_mergeSort (r := leK) (s := dataLe false keyOf) (f := V.str) fun a _ b _ => ?_).symm
  show (!ltK b a) = !dataLt (Datum.toD (rankT b)) (Datum.toD (rankT a))
  rw [DatumOrd.lt_eq]
  rfl
theorem alikeK (ks : List Str) : AllAlike ((ks.map V.str).map keyOf) := by
  intro d hd e he
  rw [List.map_map] at hd he
  obtain ⟨a, _, rfl⟩ := List.mem_map.mp hd
  obtain ⟨b, _, rfl⟩ := List.mem_map.mp he
  exact DatumOrd.alike (rankT a) (rankT b)
theorem sortableK (ks : List Str) : Sortable ((ks.map V.str).map keyOf) := by
  refine .inl fun d hd => ?_
  rw [List.map_map] at hd
  obtain ⟨a, _, rfl⟩ := List.mem_map.mp hd
  exact ⟨_, _, rfl⟩
def spRank (K : PySem.W.Frag) : Sp := fun vs H Q _ => ∃ w : Str, vs = [.str w] ∧ w.length ≤ 640 ∧ ∀ v H', Same H H' → DV K H' v (rankT w) → Q v H'
def spBefore : Sp := fun vs H Q _ => ∃ a b : Str, vs = [.str a, .str b] ∧ a.length ≤ 640 ∧ b.length ≤ 640 ∧ ∀ H', Same H H' → Q (.bl (ltK a b)) H'
def spInOrder (K : PySem.W.Frag) : Sp := fun vs H Q _ => ∃ (a : Addr) (ks : List Str), vs = [.ref a] ∧ SqL K H a (ks.map V.str) ∧ ks.length < 100000 ∧ (∀ k ∈ ks, k.length ≤ 640) ∧
  ∀ p H', H p = none → Same H H' → H' p = some (.lst ((sortK ks).map V.str)) → Q (.ref p) H'
theorem dv_rank {K : PySem.W.Frag} {H : Hp} {p : Addr} {x : Int} {y : Int} {s : Str} (h : H p = some (.tup [.int x, .int y, .str s])) : DV K H (.ref p) (⟨x, y, s⟩ : Rank) :=
  Dp.tup (xs := [.int x, .int y, .str s]) (.inl (.inl h)) (.cons (.int x) (.cons (.int y) (.cons (.str s) .nil)))
end Sk

namespace Sk
open PySem PySem.Spec PyProof.Rows L2
section
variable {K : PySem.W.Frag} {σ : L2.St}
/-- the step that all pure comprehensions share -/
theorem lc_step {te : TE} {tt : TT} {H1 H2 : Hp} {D : Addr} {acc : List V} {b : Bool} {y : V} {σ2 : L2.St} {Nx : Hp → Prop} (hD : H1 D = none) (s2 : Same H1 H2) (e2 : H2 D = some (.lst acc)) (hl : acc.length < 100000)
    (ht : ∀ R : Bool → Hp → Prop, (∀ H3, Same H2 H3 → R b H3) → tt σ2 H2 R) (he : b = true → ∀ H3, Same H2 H3 → ∀ R : VK, (∀ H4, Same H3 H4 → R y H4) → te σ2 H3 R)
    (hn : ∀ H4, Same H1 H4 → H4 D = some (.lst (if b = true then acc ++ [y] else acc)) → Nx H4) :
    tt σ2 H2 fun b H3 => if b = true then te σ2 H3 fun y H4 => ∃ acc, H4 D = some (.lst acc) ∧ acc.length < sizeLine ∧ Nx (upd H4 D (.lst (acc ++ [y]))) else Nx H3 := by
  refine ht _ fun H3 s3 => ?_
  have e3 := s3 _ _ e2
  cases b with
  | true =>
    refine iteT (he rfl H3 s3 _ fun H4 s4 => ?_)
    exact ⟨_, s4 _ _ e3, Evl.sz_lt hl, hn _ (same_mut ((s2.trans s3).trans s4) hD) upd_same⟩
  | false => exact iteF (hn _ (s2.trans s3) e3)
theorem flt_snoc {α β : Type} {p : α → Bool} {f : α → β} {xs : List α} {i : Nat} {x : α} (h : xs[i]? = some x) : ((xs.take (i + 1)).filter p).map f = if p x = true then ((xs.take i).filter p).map f ++ [f x] else ((xs.take i).filter p).map f := by
  rw [List.take_add_one, h, List.filter_append]
  show ((_ ++ List.filter p [x]).map f) = _
  cases hp : p x with
  | true => rw [List.filter_cons, hp, if_pos rfl, List.filter_nil, List.map_append, if_pos rfl]; rfl
  | false => rw [List.filter_cons, hp, if_neg Bool.false_ne_true, List.filter_nil, List.append_nil, if_neg Bool.false_ne_true]
theorem flt_len {α β : Type} {p : α → Bool} {f : α → β} {xs : List α} {i : Nat} {x : α} (h : xs[i]? = some x) (hn : xs.length ≤ 100000) : (((xs.take i).filter p).map f).length < 100000 := by
  have hi := (List.getElem?_eq_some_iff.mp h).1
  have := List.length_filter_le p (xs.take i)
  rw [List.length_take] at this
  rw [List.length_map]
  omega
/-- over the signs of a text -/
theorem lc_pure_str {te : TE} {tt : TT} {k : Nat} {H1 : Hp} {D : Addr} {x : Str} {Qd : Hp → Prop} (p : Nat → Bool) (f : Nat → V) (hn : x.length ≤ 100000) (hD : H1 D = none)
    (ht : ∀ c H2, c ∈ tl x → Same H1 H2 → ∀ R : Bool → Hp → Prop, (∀ H3, Same H2 H3 → R (p c) H3) → tt ((wipe σ [k]).set k (some (.str ⟨#[c]⟩))) H2 R)
    (he : ∀ c H2, c ∈ tl x → p c = true → Same H1 H2 → ∀ R : VK, (∀ H3, Same H2 H3 → R (f c) H3) → te ((wipe σ [k]).set k (some (.str ⟨#[c]⟩))) H2 R)
    (hd : ∀ H2, Same H1 H2 → H2 D = some (.lst (((tl x).filter p).map f)) → Qd H2) :
    ∃ W : Nat → Nat → Hp → Prop, (∃ m, W 0 m (upd H1 D (.lst []))) ∧ ∀ i m H, W i m H →
      ((Its x).stop i H ∧ Qd H) ∨ ((Its x).go i H ∧ ∃ Nx : Hp → Prop, (∀ H', Nx H' → ∃ m', m' < m ∧ W (i + 1) m' H') ∧ ∀ y H', (Its x).yld i H y H' → gName k y (wipe σ [k]) H' fun σ2 H2 => wipe σ2 [k] = wipe σ [k] ∧ tt σ2 H2 fun b H3 =>
        if b = true then te σ2 H3 fun y H4 => ∃ acc, H4 D = some (.lst acc) ∧ acc.length < sizeLine ∧ Nx (upd H4 D (.lst (acc ++ [y]))) else Nx H3) := by
  have hx := len_tl x
  refine ⟨fun i m H => m = (tl x).length - i ∧ i ≤ (tl x).length ∧ Same H1 H ∧ H D = some (.lst ((((tl x).take i).filter p).map f)), ⟨_, rfl, Nat.zero_le _, same_new hD, upd_same⟩, ?_⟩
  rintro i m H ⟨em, hi, s2, e2⟩
  by_cases hlt : i < (tl x).length
  · refine .inr ⟨by
      show i < x.cps.size
      have h : x.cps.size = (tl x).length := hx
      omega, fun H4 => Same H1 H4 ∧ H4 D = some (.lst ((((tl x).take (i + 1)).filter p).map f)), fun H' h => ⟨(tl x).length - (i + 1), by omega, rfl, hlt, h⟩, ?_⟩
    rintro y H' ⟨rfl, c, hc, rfl⟩
    have hc' : (tl x)[i]? = some c := by rw [show tl x = x.cps.toList from rfl, Array.getElem?_toList]; exact hc
    have hm := List.mem_of_getElem? hc'
    refine ⟨wipe1, ?_⟩
    refine lc_step (b := p c) (y := f c) hD s2 e2 (flt_len hc' (by omega)) (ht c _ hm s2) (fun hp H3 s3 => he c H3 hm hp (s2.trans s3)) fun H4 s4 e4 => ⟨s4, ?_⟩
    rw [flt_snoc hc']
    exact e4
  · have ei : i = (tl x).length := by omega
    refine .inl ⟨by
      show x.cps.size ≤ i
      have h : x.cps.size = (tl x).length := hx
      omega, hd H s2 ?_⟩
    rw [ei, List.take_length] at e2
    exact e2
/-- over a tuple -/
theorem lc_pure_tup {te : TE} {tt : TT} {k : Nat} {H1 : Hp} {D a : Addr} {xs : List V} {Qd : Hp → Prop} (p : V → Bool) (f : V → V) (hn : xs.length ≤ 100000) (hD : H1 D = none) (hS : H1 a = some (.tup xs))
    (ht : ∀ x H2, x ∈ xs → Same H1 H2 → ∀ R : Bool → Hp → Prop, (∀ H3, Same H2 H3 → R (p x) H3) → tt ((wipe σ [k]).set k (some x)) H2 R)
    (he : ∀ x H2, x ∈ xs → p x = true → Same H1 H2 → ∀ R : VK, (∀ H3, Same H2 H3 → R (f x) H3) → te ((wipe σ [k]).set k (some x)) H2 R)
    (hd : ∀ H2, Same H1 H2 → H2 D = some (.lst ((xs.filter p).map f)) → Qd H2) :
    ∃ W : Nat → Nat → Hp → Prop, (∃ m, W 0 m (upd H1 D (.lst []))) ∧ ∀ i m H, W i m H →
      ((Itt K a).stop i H ∧ Qd H) ∨ ((Itt K a).go i H ∧ ∃ Nx : Hp → Prop, (∀ H', Nx H' → ∃ m', m' < m ∧ W (i + 1) m' H') ∧ ∀ x H', (Itt K a).yld i H x H' → gName k x (wipe σ [k]) H' fun σ2 H2 => wipe σ2 [k] = wipe σ [k] ∧ tt σ2 H2 fun b H3 =>
        if b = true then te σ2 H3 fun y H4 => ∃ acc, H4 D = some (.lst acc) ∧ acc.length < sizeLine ∧ Nx (upd H4 D (.lst (acc ++ [y]))) else Nx H3) := by
  refine lc_tup (K := K) (a := a) (xs := xs) (fun i H2 => Same H1 H2 ∧ H2 D = some (.lst (((xs.take i).filter p).map f))) ⟨same_new hD, upd_same⟩ (fun i H2 _ h => .inl (.inl (h.1 _ _ hS))) ?_ ?_
  · rintro i x H2 hx ⟨s2, e2⟩
    have hm : x ∈ xs := List.mem_of_getElem? hx
    refine ⟨wipe1, ?_⟩
    refine lc_step (b := p x) (y := f x) hD s2 e2 (flt_len hx hn) (ht x _ hm s2) (fun hp H3 s3 => he x H3 hm hp (s2.trans s3)) fun H4 s4 e4 => ⟨s4, ?_⟩
    rw [flt_snoc hx]
    exact e4
  · rintro H2 ⟨s2, e2⟩
    rw [List.take_length] at e2
    exact hd H2 s2 e2
end
theorem all_bools {α : Type} (l : List α) (f : α → Bool) : ((l.filter fun _ => true).map fun x => V.bl (f x)) = (l.map f).map V.bl := by
  rw [List.filter_eq_self.mpr (fun _ _ => rfl), List.map_map]
  rfl
/-! ### things of any kind -/
mutual
inductive Rd (H : Hp) : V → PyData → Prop where
  | non : Rd H .non .none
  | bl (b : Bool) : Rd H (.bl b) (.bool b)
  | int (i : Int) : Rd H (.int i) (.int i)
  | str (x : Str) : Rd H (.str x) (.str x)
  | lst {a : Addr} {xs : List V} {ds : List PyData} : H a = some (.lst xs) → RdAll H xs ds → Rd H (.ref a) (.list ds)
  | tup {a : Addr} {xs : List V} {ds : List PyData} : H a = some (.tup xs) → RdAll H xs ds → Rd H (.ref a) (.tuple ds)
  | dct {a : Addr} : H a = some (.dK []) → Rd H (.ref a) (.dict [])
inductive RdAll (H : Hp) : List V → List PyData → Prop where
  | nil : RdAll H [] []
  | cons {v : V} {vs : List V} {d : PyData} {ds : List PyData} : Rd H v d → RdAll H vs ds → RdAll H (v :: vs) (d :: ds)
end
mutual
theorem Rd.same {H H' : Hp} (s : Same H H') : ∀ {v : V} {d : PyData}, Rd H v d → Rd H' v d
  | _, _, .non => .non
  | _, _, .bl b => .bl b
  | _, _, .int i => .int i
  | _, _, .str x => .str x
  | _, _, .lst h g => .lst (s _ _ h) (RdAll.same s g)
  | _, _, .tup h g => .tup (s _ _ h) (RdAll.same s g)
  | _, _, .dct h => .dct (s _ _ h)
theorem RdAll.same {H H' : Hp} (s : Same H H') : ∀ {vs : List V} {ds : List PyData}, RdAll H vs ds → RdAll H' vs ds
  | _, _, .nil => .nil
  | _, _, .cons h g => .cons (Rd.same s h) (RdAll.same s g)
end
theorem RdAll.len {H : Hp} : ∀ {vs : List V} {ds : List PyData}, RdAll H vs ds → vs.length = ds.length
  | _, _, .nil => rfl
  | _, _, .cons _ g => by rw [List.length_cons, List.length_cons, RdAll.len g]
theorem RdAll.at {H : Hp} : ∀ {vs : List V} {ds : List PyData} {i : Nat} {v : V}, RdAll H vs ds → vs[i]? = some v → ∃ d, ds[i]? = some d ∧ Rd H v d
  | _, _, 0, _, .cons h _, e => ⟨_, rfl, by rw [← Option.some.inj e]; exact h⟩
  | _, _, i + 1, _, .cons _ g, e => RdAll.at (i := i) g e
theorem rdAll_strs {H : Hp} : ∀ ks : List Str, RdAll H (ks.map V.str) (ks.map PyData.str)
  | [] => .nil
  | k :: ks => .cons (.str k) (rdAll_strs ks)
inductive Bnd (B : Nat) : PyData → Prop where
  | non : Bnd B .none
  | bl (b : Bool) : Bnd B (.bool b)
  | int {i : Int} (h : i.natAbs ≤ 10 ^ 30 + B) : Bnd B (.int i)
  | str {x : Str} (h : x.length ≤ B) : Bnd B (.str x)
  | lst {ds : List PyData} (h : ds.length ≤ B) (a : ∀ d ∈ ds, Bnd B d) : Bnd B (.list ds)
  | tup {ds : List PyData} (h : ds.length ≤ B) (a : ∀ d ∈ ds, Bnd B d) : Bnd B (.tuple ds)
  | dct : Bnd B (.dict [])
def tyName : PyData → String
  | .none => "NoneType" | .bool _ => "bool" | .int _ => "int" | .str _ => "str" | .list _ => "list" | .tuple _ => "tuple" | .dict _ => "dict"
theorem Rd.ty {K : PySem.W.Frag} {H : Hp} {v : V} {d : PyData} (r : Rd H v d) : TyX K H v (.type (tyName d)) := by
  cases r with
  | non => exact .base .non
  | bl b => exact .base (.bl b)
  | int i => exact .base (.int i)
  | str x => exact .base (.str x)
  | lst h g => exact .base (.lst h)
  | tup h g => exact .base (.tup h)
  | dct h => exact .base (.dK h)
def instD (T : String) (d : PyData) : Bool := tyName d == T || (T == "int" && tyName d == "bool")
theorem kit_inst {K : PySem.W.Frag} {d : PyData} {T : String} (hT : T ∈ ["str", "tuple", "list", "int", "bool"]) : PySem.W.kitOne K (.type (tyName d)) (.type T) = some (instD T d) := by
  refine kit_ty (r := instD T d) ?_
  have key : ∀ n ∈ ["NoneType", "bool", "int", "str", "list", "tuple", "dict"], ∀ T ∈ ["str", "tuple", "list", "int", "bool"], kitB n T = some (n == T || (T == "int" && n == "bool")) := by decide +kernel
  refine key (tyName d) ?_ T hT
  cases d <;> simp [tyName]
def isWorthD : PyData → Bool
  | .str s => decide (WorthS s)
  | _ => false
def isNameD : PyData → Bool
  | .str s => decide (1 ≤ s.length) && decide (s.length ≤ 8) && (tl s).all fun c => decide (97 ≤ c ∧ c ≤ 122)
  | _ => false
def isKeyD : PyData → Bool
  | .str s => decide (WorthS s) && (decide (1 ≤ s.length) && decide (s.length ≤ 40))
  | _ => false
def isRefD : PyData → Bool
  | .tuple [n, .tuple ks] => isNameD n && (decide (ks.length ≤ 6) && ks.all isKeyD)
  | _ => false
def spThing (f : PyData → Bool) : Sp := fun vs H Q _ => ∃ v d, vs = [v] ∧ Rd H v d ∧ Bnd 100000 d ∧ ∀ H', Same H H' → Q (.bl (f d)) H'
theorem letters_mem {c : Nat} : decide (c ∈ tl (Str.ofString "abcdefghijklmnopqrstuvwxyz")) = decide (97 ≤ c ∧ c ≤ 122) := by
  have e : tl (Str.ofString "abcdefghijklmnopqrstuvwxyz") = (List.range 26).map (· + 97) := by decide +kernel
  rw [e]
  refine decide_eq_decide.mpr ?_
  rw [List.mem_map]
  constructor
  · rintro ⟨k, hk, rfl⟩
    have := List.mem_range.mp hk
    omega
  · intro h
    exact ⟨c - 97, List.mem_range.mpr (by omega), by omega⟩
theorem lawSigns_dec {c : Nat} : decide (c ∈ tl lawSigns) = decide (Wc c) := decide_eq_decide.mpr lawSigns_mem
theorem all_dec {l : List Nat} {p : Nat → Prop} [DecidablePred p] : (l.map fun c => decide (p c)).all id = decide (∀ c ∈ l, p c) := by
  rw [List.all_map, Bool.eq_iff_iff, List.all_eq_true, decide_eq_true_eq]
  exact ⟨fun h c hc => of_decide_eq_true (h c hc), fun h c hc => decide_eq_true (h c hc)⟩
end Sk
namespace Sk
open PySem PySem.Spec PyProof.Rows L2
theorem iteT_of {b : Bool} {A B : Prop} (h : if b = true then A else B) (e : b = true) : A := by rw [if_pos e] at h; exact h
theorem iteF_of {b : Bool} {A B : Prop} (h : if b = true then A else B) (e : b = false) : B := by
  rw [if_neg (by rw [e]; exact Bool.false_ne_true)] at h
  exact h
theorem instD_str_ne {H : Hp} {v : V} {d : PyData} (r : Rd H v d) (e : ¬ instD "str" d = true) : instD "str" d = false := Bool.eq_false_iff.mpr e
end Sk
namespace Sk
open PySem PySem.Spec PyProof.Rows L2
mutual
theorem Rd.uniq {H : Hp} : ∀ {v : V} {d e : PyData}, Rd H v d → Rd H v e → d = e
  | _, _, _, .non, r => by cases r; rfl
  | _, _, _, .bl b, r => by cases r; rfl
  | _, _, _, .int i, r => by cases r; rfl
  | _, _, _, .str x, r => by cases r; rfl
  | _, _, _, .lst h g, r => by
    cases r with
    | lst h' g' => rw [h] at h'; cases h'; rw [RdAll.uniq g g']
    | tup h' g' => rw [h] at h'; cases h'
    | dct h' => rw [h] at h'; cases h'
  | _, _, _, .tup h g, r => by
    cases r with
    | lst h' g' => rw [h] at h'; cases h'
    | tup h' g' => rw [h] at h'; cases h'; rw [RdAll.uniq g g']
    | dct h' => rw [h] at h'; cases h'
  | _, _, _, .dct h, r => by
    cases r with
    | lst h' g' => rw [h] at h'; cases h'
    | tup h' g' => rw [h] at h'; cases h'
    | dct h' => rfl
theorem RdAll.uniq {H : Hp} : ∀ {vs : List V} {ds es : List PyData}, RdAll H vs ds → RdAll H vs es → ds = es
  | _, _, _, .nil, r => by cases r; rfl
  | _, _, _, .cons h g, r => by
    cases r with
    | cons h' g' => rw [Rd.uniq h h', RdAll.uniq g g']
end
open Classical in
noncomputable def datOf (H : Hp) (v : V) : PyData := if h : ∃ d, Rd H v d then h.choose else .none
theorem datOf_eq {H : Hp} {v : V} {d : PyData} (r : Rd H v d) : datOf H v = d := by
  have h : ∃ d, Rd H v d := ⟨d, r⟩
  unfold datOf
  rw [dif_pos h]
  exact Rd.uniq h.choose_spec r
theorem RdAll.map {H : Hp} : ∀ {vs : List V} {ds : List PyData}, RdAll H vs ds → ds = vs.map (datOf H)
  | _, _, .nil => rfl
  | _, _, .cons h g => by rw [List.map_cons, datOf_eq h, ← RdAll.map g]
theorem RdAll.each {H : Hp} : ∀ {vs : List V} {ds : List PyData}, RdAll H vs ds → ∀ v ∈ vs, Rd H v (datOf H v)
  | _, _, .nil, v, h => nomatch h
  | _, _, .cons h g, v, hv => by
    rcases List.mem_cons.mp hv with rfl | hv
    · rw [datOf_eq h]; exact h
    · exact RdAll.each g v hv
end Sk

namespace Sk
open PySem PySem.Spec PyProof.Rows L2
/-! ### good names, keys, references, as things -/
theorem nameS_is {s : Str} (h : NameS s) : isNameD (.str s) = true := by
  obtain ⟨h1, h2, h3⟩ := h
  show (decide (1 ≤ s.length) && decide (s.length ≤ 8) && _) = true
  rw [decide_eq_true h1, decide_eq_true h2, Bool.true_and, Bool.true_and, List.all_eq_true]
  exact fun c hc => decide_eq_true (h3 c hc)
theorem keyS_is {s : Str} (h : KeyS s) : isKeyD (.str s) = true := by
  obtain ⟨h1, h2, h3⟩ := h
  show (decide (WorthS s) && (decide (1 ≤ s.length) && decide (s.length ≤ 40))) = true
  rw [decide_eq_true h1, decide_eq_true h2, decide_eq_true h3]
  rfl
theorem isKey_to {s : Str} (h : isKeyD (.str s) = true) : KeyS s := by
  have h : (decide (WorthS s) && (decide (1 ≤ s.length) && decide (s.length ≤ 40))) = true := h
  rw [Bool.and_eq_true, Bool.and_eq_true, decide_eq_true_eq, decide_eq_true_eq, decide_eq_true_eq] at h
  exact ⟨h.2.1, h.2.2, h.1⟩
def refD (n : Str) (ks : List Str) : PyData := .tuple [.str n, .tuple (ks.map PyData.str)]
theorem ref_rd {H : Hp} {v : V} {n : Str} {ks : List Str} (r : RefAt H v n ks) : Rd H v (refD n ks) := by
  obtain ⟨a, k, rfl, h1, h2⟩ := r
  exact .tup h1 (.cons (.str n) (.cons (.tup h2 (rdAll_strs ks)) .nil))
theorem ref_is {n : Str} {ks : List Str} (h : RefS n ks) : isRefD (refD n ks) = true := by
  show (isNameD (.str n) && (decide ((ks.map PyData.str).length ≤ 6) && (ks.map PyData.str).all isKeyD)) = true
  rw [nameS_is h.name, List.length_map, decide_eq_true h.len, Bool.true_and, Bool.true_and, List.all_eq_true]
  intro d hd
  obtain ⟨k, hk, rfl⟩ := List.mem_map.mp hd
  exact keyS_is (h.keys k hk)
theorem ref_bnd {n : Str} {ks : List Str} (h : RefS n ks) : Bnd 100000 (refD n ks) := by
  refine .tup (by show 2 ≤ 100000; decide) fun d hd => ?_
  rcases List.mem_cons.mp hd with rfl | hd
  · exact .str (Nat.le_trans h.name.2.1 (by decide))
  · rw [List.mem_singleton.mp hd]
    refine .tup (by rw [List.length_map]; exact Nat.le_trans h.len (by decide)) fun d hd => ?_
    obtain ⟨k, hk, rfl⟩ := List.mem_map.mp hd
    exact .str (Nat.le_trans (h.keys k hk).2.1 (by decide))
theorem numS_bits {x : Str} (h : x.length ≤ 400) : (numS x).natAbs.log2 < 1920 := by
  have hd : PySem.NumText.AllDigits (figsOf (tl x)) := fun c hc => isFig_iff.mp (mem_takeWhile hc)
  have h2 : (figsOf (tl x)).length ≤ x.length := by
    rw [len_tl]
    exact Nat.le_trans ((List.takeWhile_sublist _).length_le) ((List.dropWhile_sublist _).length_le)
  have h3 : (numS x).natAbs = PySem.NumText.digitsVal (figsOf (tl x)) := by
    unfold numS numL
    split <;> omega
  have h4 := digitsVal_lt _ _ rfl hd
  refine PySem.Flt.log2_lt_of (by decide) ?_
  rw [h3]
  refine Nat.lt_of_lt_of_le h4 (Nat.le_trans (Nat.pow_le_pow_left (by decide : 10 ≤ 2 ^ 4) _) ?_)
  rw [← Nat.pow_mul]
  exact Nat.pow_le_pow_right (by decide) (by omega)
end Sk
namespace Sk
open PySem PySem.Spec PyProof.Rows L2
theorem dv_strsL {K : PySem.W.Frag} {H : Hp} {a : Addr} {ks : List Str} (h : SqL K H a (ks.map V.str)) : DV K H (.ref a) ks := dv_lst h fun x _ => Dp.str x
end Sk

namespace Sk
open PySem PySem.Spec PyProof.Rows L2
open PySem.W (Datum DatumOrd Tup T3 dataLt dataLe alike AllAlike Sortable EachIs)
/-! ### sorted(xs) of data -/
def rSortD (K : PySem.W.Frag) : List V → Hp → VK → Prop := fun vs H Q => ∃ (a : Addr) (xs : List V) (key : V → PyData), vs = [.ref a] ∧ SqL K H a xs ∧ (∀ x ∈ xs, Dp K H x (key x)) ∧ AllAlike (xs.map key) ∧ Sortable (xs.map key) ∧ (∀ x ∈ xs, (key x).depth ≤ 40) ∧
  ∀ p, H p = none → Q (.ref p) (upd H p (.lst (xs.mergeSort (dataLe false key))))
theorem eachD {X : Cx} {pins : List (Addr × Obj)} {σ : L2.St} {H : Hp} {s : Shared} (I : Inv X pins σ H s) (key : V → PyData) : ∀ {xs : List V} {us : List Value}, (∀ x ∈ xs, Dp X.K H x (key x)) → Vals xs us → EachIs (fun v x => ∃ as, Reads s.heap v (key x) as) us xs
  | _, _, _, .nil => .nil
  | _, _, h, .cons r t => .cons (Dp.reads I _ _ _ (h _ List.mem_cons_self) r) (eachD I key (fun x hx => h x (List.mem_cons_of_mem _ hx)) t)
theorem k_sortD {X : Cx} (K : PySem.W.Frag) (hu : X.A.units + 64 < cLine) (e : X.K = K := by rfl) : CallR X (.builtin "sorted") (rSortD K) := by
  subst e
  intro pins s σ H vs us Q I r h
  obtain ⟨a, xs, key, rfl, hs, hk, hal, hsk, hd, q⟩ := h
  obtain rfl := Vals.ref1 r
  obtain ⟨its, rv, hl, hz⟩ := I.list hs
  refine PySem.W.sorted_data (R := fun u x => RelV x u) (bs := xs) (enc := key) hl.isList (eachVals rv) (eachD I key hk rv) hal hsk hz (fun x hx => by have := hd x hx; omega) fun out ho eo => ?_
  obtain ⟨c, hc⟩ := PyProof.Rows.sortedAll_at s.heap its out.toArray
  have hml : (xs.mergeSort (dataLe false key)).length = xs.length := List.length_mergeSort _
  refine ⟨.ref (s.heap.objs.size + 1), _, I.laid (t' := s.toks) (o := .lst (xs.mergeSort (dataLe false key))) (fun _ _ => PyProof.Rows.sortedAll_old) (Nat.le_succ _) ⟨by rw [hml]; exact hz, out, c, valsEach eo, hc⟩, rfl, q _ (I.hok.fresh (Nat.le_succ _))⟩
/-- of numbers, of truths, of texts -/
def kI : V → PyData | .int i => .int i | _ => .none
def kB : V → PyData | .bl b => .bool b | _ => .none
def kS : V → PyData | .str x => .str x | _ => .none
def leI (a b : Int) : Bool := decide (a ≤ b)
def leB (a b : Bool) : Bool := !a || b
def leS (a b : Str) : Bool := !decide (tl b < tl a)
theorem sort_of {α : Type} [DecidableEq α] [DatumOrd α] {K : PySem.W.Frag} {H : Hp} {a : Addr} {xs : List α} {Q : VK} (f : α → V) (key : V → PyData) (hf : ∀ x, key (f x) = Datum.toD x) (hd : Datum.depth α ≤ 40) (hsk : Sortable ((xs.map f).map key)) (h : SqL K H a (xs.map f)) (hx : ∀ x, DV K H (f x) x)
    (q : ∀ p, H p = none → Q (.ref p) (upd H p (.lst ((xs.mergeSort fun x y => !DatumOrd.lt y x).map f)))) : rSortD K [.ref a] H Q := by
  refine ⟨a, xs.map f, key, rfl, h, fun v hv => ?_, ?_, hsk, fun v hv => ?_, fun p hp => ?_⟩
  · obtain ⟨x, _, rfl⟩ := List.mem_map.mp hv
    rw [hf]
    exact hx x
  · intro d hd e he
    rw [List.map_map] at hd he
    obtain ⟨x, _, rfl⟩ := List.mem_map.mp hd
    obtain ⟨y, _, rfl⟩ := List.mem_map.mp he
    show alike (key (f x)) (key (f y)) = true
    rw [hf, hf]
    exact DatumOrd.alike x y
  · obtain ⟨x, _, rfl⟩ := List.mem_map.mp hv
    rw [hf]
    exact Nat.le_trans (Datum.depth_le x) hd
  · have e : (xs.map f).mergeSort (dataLe false key) = (xs.mergeSort fun x y => !DatumOrd.lt y x).map f := by
      refine (List.map_mergeSort (r := fun x y => !DatumOrd.lt y x) (s := dataLe false key) (f := f) fun x _ y _ => ?_).symm
      show (!DatumOrd.lt y x) = !dataLt (key (f y)) (key (f x))
      rw [hf, hf, DatumOrd.lt_eq]
    rw [e]
    exact q p hp
theorem sort_ints {K : PySem.W.Frag} {H : Hp} {a : Addr} {xs : List Int} {Q : VK} (h : SqL K H a (xs.map V.int)) (q : ∀ p, H p = none → Q (.ref p) (upd H p (.lst ((xs.mergeSort fun x y => !DatumOrd.lt y x).map V.int)))) : rSortD K [.ref a] H Q :=
  sort_of V.int kI (fun _ => rfl) (by decide) (.inr fun d hd => by
    rw [List.map_map] at hd
    obtain ⟨x, _, rfl⟩ := List.mem_map.mp hd
    exact ⟨(fun z => nomatch z), (fun _ z => nomatch z)⟩) h (fun x => .int x) q
theorem sort_bools {K : PySem.W.Frag} {H : Hp} {a : Addr} {xs : List Bool} {Q : VK} (h : SqL K H a (xs.map V.bl)) (q : ∀ p, H p = none → Q (.ref p) (upd H p (.lst ((xs.mergeSort fun x y => !DatumOrd.lt y x).map V.bl)))) : rSortD K [.ref a] H Q :=
  sort_of V.bl kB (fun _ => rfl) (by decide) (.inr fun d hd => by
    rw [List.map_map] at hd
    obtain ⟨x, _, rfl⟩ := List.mem_map.mp hd
    exact ⟨(fun z => nomatch z), (fun _ z => nomatch z)⟩) h (fun x => .bl x) q
theorem sort_strs {K : PySem.W.Frag} {H : Hp} {a : Addr} {xs : List Str} {Q : VK} (h : SqL K H a (xs.map V.str)) (q : ∀ p, H p = none → Q (.ref p) (upd H p (.lst ((xs.mergeSort fun x y => !DatumOrd.lt y x).map V.str)))) : rSortD K [.ref a] H Q :=
  sort_of V.str kS (fun _ => rfl) (by decide) (.inr fun d hd => by
    rw [List.map_map] at hd
    obtain ⟨x, _, rfl⟩ := List.mem_map.mp hd
    exact ⟨(fun z => nomatch z), (fun _ z => nomatch z)⟩) h (fun x => .str x) q
/-! ### the order of keys -/
theorem ltK_nn {a b : Str} (ha : isNumS a = true) (hb : isNumS b = true) : ltK a b = decide (numS a < numS b) := by
  unfold ltK rankT
  rw [if_pos ha, if_pos hb]
  show (if (0 : Int) = 0 then (if numS a = numS b then DatumOrd.lt (Str.ofString "") (Str.ofString "") else decide (numS a < numS b)) else _) = _
  rw [if_pos rfl]
  by_cases h : numS a = numS b
  · rw [if_pos h, h, decide_eq_false (Int.lt_irrefl _)]
    decide +kernel
  · rw [if_neg h]
theorem ltK_nt {a b : Str} (ha : isNumS a = true) (hb : isNumS b = false) : ltK a b = true := by
  unfold ltK rankT
  rw [if_pos ha, if_neg (by rw [hb]; exact Bool.false_ne_true)]
  rfl
theorem ltK_tn {a b : Str} (ha : isNumS a = false) (hb : isNumS b = true) : ltK a b = false := by
  unfold ltK rankT
  rw [if_neg (by rw [ha]; exact Bool.false_ne_true), if_pos hb]
  rfl
theorem ltK_tt {a b : Str} (ha : isNumS a = false) (hb : isNumS b = false) : ltK a b = decide (tl a < tl b) := by
  unfold ltK rankT
  rw [if_neg (by rw [ha]; exact Bool.false_ne_true), if_neg (by rw [hb]; exact Bool.false_ne_true)]
  show (if (1 : Int) = 1 then (if (0 : Int) = 0 then DatumOrd.lt a b else _) else _) = _
  rw [if_pos rfl, if_pos rfl]
  rfl
theorem ltK_irrefl (a : Str) : ltK a a = false := by
  cases h : isNumS a with
  | true => rw [ltK_nn h h, decide_eq_false (Int.lt_irrefl _)]
  | false => rw [ltK_tt h h, decide_eq_false (List.lt_irrefl _)]
theorem ltK_trans {a b c : Str} (h1 : ltK a b = true) (h2 : ltK b c = true) : ltK a c = true := by
  cases ha : isNumS a <;> cases hb : isNumS b <;> cases hc : isNumS c
  · rw [ltK_tt ha hb, decide_eq_true_eq] at h1
    rw [ltK_tt hb hc, decide_eq_true_eq] at h2
    rw [ltK_tt ha hc, decide_eq_true_eq]
    exact List.lt_trans h1 h2
  · rw [ltK_tn hb hc] at h2; cases h2
  · rw [ltK_tn ha hb] at h1; cases h1
  · rw [ltK_tn ha hb] at h1; cases h1
  · exact ltK_nt ha hc
  · rw [ltK_tn hb hc] at h2; cases h2
  · exact ltK_nt ha hc
  · rw [ltK_nn ha hb, decide_eq_true_eq] at h1
    rw [ltK_nn hb hc, decide_eq_true_eq] at h2
    rw [ltK_nn ha hc, decide_eq_true_eq]
    omega
theorem ltK_asymm {a b : Str} (h : ltK a b = true) : ltK b a = false := by
  cases h2 : ltK b a with
  | false => rfl
  | true => have := ltK_trans h h2; rw [ltK_irrefl] at this; cases this
theorem numS_inj {a b : Str} (ha : isNumS a = true) (hb : isNumS b = true) (h : numS a = numS b) : a = b := by
  rw [isNumS_iff, decide_eq_true_eq] at ha hb
  rw [← ha, ← hb, h]
theorem ltK_total {a b : Str} (h : a ≠ b) : ltK a b = true ∨ ltK b a = true := by
  cases ha : isNumS a <;> cases hb : isNumS b
  · rw [ltK_tt ha hb, ltK_tt hb ha, decide_eq_true_eq, decide_eq_true_eq]
    by_cases h1 : tl a < tl b
    · exact .inl h1
    · refine .inr ?_
      have h2 : tl b ≤ tl a := List.not_lt.mp h1
      rcases List.le_iff_lt_or_eq.mp h2 with h3 | h3
      · exact h3
      · exact absurd (tl_inj h3.symm) h
  · exact .inr (ltK_nt hb ha)
  · exact .inl (ltK_nt ha hb)
  · rw [ltK_nn ha hb, ltK_nn hb ha, decide_eq_true_eq, decide_eq_true_eq]
    have : numS a ≠ numS b := fun z => h (numS_inj ha hb z)
    omega
theorem leK_total (a b : Str) : (leK a b || leK b a) = true := by
  unfold leK
  cases h1 : ltK b a with
  | false => rfl
  | true => rw [ltK_asymm h1]; rfl
theorem leK_trans (a b c : Str) (h1 : leK a b = true) (h2 : leK b c = true) : leK a c = true := by
  unfold leK at *
  rw [Bool.not_eq_true'] at *
  by_cases e : a = b
  · rw [e]; exact h2
  by_cases e2 : b = c
  · rw [← e2]; exact h1
  have g1 := (ltK_total e).resolve_right (by rw [h1]; exact Bool.false_ne_true)
  have g2 := (ltK_total e2).resolve_right (by rw [h2]; exact Bool.false_ne_true)
  exact ltK_asymm (ltK_trans g1 g2)
theorem leK_anti {a b : Str} (h1 : leK a b = true) (h2 : leK b a = true) : a = b := by
  unfold leK at *
  rw [Bool.not_eq_true'] at *
  refine Decidable.byContradiction fun e => ?_
  rcases ltK_total e with h | h
  · rw [h2] at h; cases h
  · rw [h1] at h; cases h
theorem sortK_pairwise (ks : List Str) : (sortK ks).Pairwise fun a b => leK a b = true := List.pairwise_mergeSort leK_trans leK_total ks
theorem sortK_perm (ks : List Str) : (sortK ks).Perm ks := List.mergeSort_perm ks leK
/-- two rows in order, of the same items, are one -/
theorem sorted_same {α : Type} {r : α → α → Prop} (anti : ∀ a b, r a b → r b a → a = b) : ∀ {l m : List α}, l.Pairwise r → m.Pairwise r → l.Perm m → l = m
  | [], m, _, _, p => (List.nil_perm.mp p).symm
  | x :: l, [], _, _, p => absurd p.symm.nil_eq (by intro z; cases z)
  | x :: l, y :: m, h1, h2, p => by
    have hxy : x = y := by
      by_cases e : x = y
      · exact e
      have hx : x ∈ m := by
        rcases List.mem_cons.mp (p.mem_iff.mp List.mem_cons_self) with h | h
        · exact absurd h e
        · exact h
      have hy : y ∈ l := by
        rcases List.mem_cons.mp (p.mem_iff.mpr List.mem_cons_self) with h | h
        · exact absurd h.symm e
        · exact h
      exact anti x y (List.rel_of_pairwise_cons h1 hy) (List.rel_of_pairwise_cons h2 hx)
    subst hxy
    rw [sorted_same anti (List.Pairwise.of_cons h1) (List.Pairwise.of_cons h2) (List.Perm.cons_inv p)]
theorem sortK_same {ks js : List Str} (p : ks.Perm js) : sortK ks = sortK js :=
  sorted_same (fun _ _ => leK_anti) (sortK_pairwise ks) (sortK_pairwise js) (((sortK_perm ks).trans p).trans (sortK_perm js).symm)
end Sk

namespace Sk
open PySem PySem.Spec PyProof.Rows L2
open PySem.W (Datum DatumOrd Tup T3 dataLt dataLe alike AllAlike Sortable)
section
variable {X : Cx} {o e : Expr} {es : List Expr} {to te : TE} {t : TA} {name : Str} {apos cpos : Pos} {T id : String} {r : V → List V → Hp → VK → Prop}
theorem k_bm (K : PySem.W.Frag) (pa : PlainAttrs T) (slot : Slot T name id) (hty : typeOf (.builtin id) = pure (.type "method_descriptor")) (hm : MtR X id r) (ho : PE X o to) (ha : PA X (e :: es) t) (eK : X.K = K := by rfl)
    (hbase : attributeBase o name X.env (eval o X.env) = eval o X.env := by rfl)
    (hfew : ((backTo cpos (starEach (e :: es) X.env)).all (fun x => !x.1) && (backToKw cpos (keywordEach [] X.env)).all (fun x => x.1.isSome)
      && decide ((e :: es).length + ([] : List Keyword).length + (if ([] : List Keyword).isEmpty then 0 else 1) < 30)) = true := by rfl)
    (hline : (apos.endLine == cpos.line) = true := by rfl) (hs : starEach (e :: es) X.env = (false, eval e X.env) :: starEach es X.env := by rfl) (hplain : (backTo cpos (starEach es X.env)).any (·.1) = false := by rfl) :
    PE X (.Call (.Attribute o name apos) (e :: es) [] cpos) (tBM K T r to t) := by
  subst eK
  exact pe_bm pa slot hty hm ho ha hbase hfew hline hs hplain
theorem k_revL (K : PySem.W.Frag) {k : Nat} {p1 p2 p3 pos : Pos} (he : PE X e te) (eK : X.K = K := by rfl) : PE X (.Subscript e (.Slice none none (some (.UnaryOp .USub (.Constant (.int 1) k p1) p2)) p3) pos) (tRevL K te) := by
  subst eK
  exact pe_revL he
/-- xs.count(x) of truths -/
def rCountB (K : PySem.W.Frag) : V → List V → Hp → VK → Prop := fun x vs H Q => ∃ (a : Addr) (bs : List Bool) (b : Bool), x = .ref a ∧ vs = [.bl b] ∧ SqL K H a (bs.map V.bl) ∧ Q (.int ((bs.countP fun y => decide (y = b) : Nat) : Int)) H
theorem k_countB (K : PySem.W.Frag) (hu : X.A.units + 64 < cLine) (e : X.K = K := by rfl) : MtR X "list.count" (rCountB K) := by
  subst e
  intro pins s σ H x vs v us Q I rx rv h
  obtain ⟨a, bs, b, rfl, rfl, hs, q⟩ := h
  cases rx
  obtain ⟨u, rfl, ru⟩ := rv.one
  obtain ⟨its, r, hl, hz⟩ := I.list hs
  obtain ⟨as, ra⟩ := Dp.readsAll I _ _ _ (dv_all (K := X.K) (f := V.bl) (xs := bs) fun x _ => Dp.bl x) r
  obtain ⟨cs, rc⟩ := Dp.reads I _ _ _ (Dp.bl (K := X.K) (H := H) b) ru
  refine PySem.W.count_list_datum (α := Bool) (xs := bs) (x := b) hl.isList ⟨as, ra⟩ ⟨cs, rc⟩ (by show _ + 1 + 0 < _; omega) ⟨.int _, H, I.tok _, ⟨_, rfl⟩, q⟩
end
section
variable {K : PySem.W.Frag} {σ : L2.St}
/-- a comprehension over a range that finds none -/
theorem lc_none_range {te : TE} {tt : TT} {k n : Nat} {lo : Int} {H1 : Hp} {D : Addr} {Qd : Hp → Prop} (hD : H1 D = none)
    (ht : ∀ i H2, i < n → Same H1 H2 → ∀ R : Bool → Hp → Prop, (∀ H3, Same H2 H3 → R false H3) → tt ((wipe σ [k]).set k (some (.int (lo + (i : Int))))) H2 R)
    (hd : ∀ H2, Same H1 H2 → H2 D = some (.lst []) → Qd H2) :
    ∃ W : Nat → Nat → Hp → Prop, (∃ m, W 0 m (upd H1 D (.lst []))) ∧ ∀ i m H, W i m H →
      ((Itr lo n).stop i H ∧ Qd H) ∨ ((Itr lo n).go i H ∧ ∃ Nx : Hp → Prop, (∀ H', Nx H' → ∃ m', m' < m ∧ W (i + 1) m' H') ∧ ∀ x H', (Itr lo n).yld i H x H' → gName k x (wipe σ [k]) H' fun σ2 H2 => wipe σ2 [k] = wipe σ [k] ∧ tt σ2 H2 fun b H3 =>
        if b = true then te σ2 H3 fun y H4 => ∃ acc, H4 D = some (.lst acc) ∧ acc.length < sizeLine ∧ Nx (upd H4 D (.lst (acc ++ [y]))) else Nx H3) := by
  refine lc_range (lo := lo) (n := n) (fun i H2 => Same H1 H2 ∧ H2 D = some (.lst [])) ⟨same_new hD, upd_same⟩ ?_ fun H2 h => hd H2 h.1 h.2
  rintro i H2 hi ⟨s2, e2⟩
  refine ⟨wipe1, ht i H2 hi s2 _ fun H3 s3 => ?_⟩
  exact iteF ⟨s2.trans s3, s3 _ _ e2⟩
end
/-! ### the order of keys: marks, numbers, one after another -/
theorem row_same (ks : List Str) : sortK (sortK ks) = sortK ks := sortK_same (sortK_perm ks)
theorem marks_down {ks : List Str} : (sortK ks).Pairwise fun a b => isNumS b = true → isNumS a = true := by
  refine (sortK_pairwise ks).imp fun {a b} h hb => ?_
  cases ha : isNumS a with
  | true => rfl
  | false =>
    unfold leK at h
    rw [ltK_nt hb ha] at h
    cases h
theorem marks_sorted (l : List Str) (h : l.Pairwise fun a b => isNumS b = true → isNumS a = true) : ((l.map isNumS).mergeSort fun x y => !DatumOrd.lt y x).reverse = l.map isNumS := by
  have e : (l.map isNumS).mergeSort (fun x y => !DatumOrd.lt y x) = (l.map isNumS).reverse := by
    refine sorted_same (r := fun x y => (!DatumOrd.lt y x) = true) (by decide) ?_ ?_ ?_
    · exact List.pairwise_mergeSort (by decide) (by decide) _
    · rw [List.pairwise_reverse, List.pairwise_map]
      refine h.imp fun {a b} hb => ?_
      cases ha : isNumS a <;> cases hbb : isNumS b
      · rfl
      · rw [hb hbb] at ha; cases ha
      · rfl
      · rfl
    · exact (List.mergeSort_perm _ _).trans (List.reverse_perm _).symm
  rw [e, List.reverse_reverse]
theorem take_nums : ∀ {l : List Str}, l.Pairwise (fun a b => isNumS b = true → isNumS a = true) → ∀ x ∈ l.take ((l.map isNumS).countP fun y => decide (y = true)), isNumS x = true
  | [], _, x, hx => by simp at hx
  | a :: r, h, x, hx => by
    cases ha : isNumS a with
    | true =>
      rw [List.map_cons, ha, List.countP_cons_of_pos (by rfl), List.take_succ_cons] at hx
      rcases List.mem_cons.mp hx with rfl | hx
      · exact ha
      · exact take_nums (List.Pairwise.of_cons h) x hx
    | false =>
      have h0 : (((a :: r).map isNumS).countP fun y => decide (y = true)) = 0 := by
        rw [List.countP_eq_zero]
        intro y hy
        obtain ⟨z, hz, rfl⟩ := List.mem_map.mp hy
        rw [decide_eq_true_eq]
        intro e
        rcases List.mem_cons.mp hz with rfl | hz
        · rw [ha] at e; cases e
        · rw [List.rel_of_pairwise_cons h hz e] at ha; cases ha
      rw [h0] at hx
      cases hx
theorem nums_sorted {l : List Str} (h : l.Pairwise fun a b => leK a b = true) (hn : ∀ x ∈ l, isNumS x = true) : ((l.map numS).mergeSort fun x y => !DatumOrd.lt y x) = l.map numS := by
  refine List.mergeSort_of_pairwise ?_
  rw [List.pairwise_map]
  refine List.Pairwise.imp_of_mem (fun {a b} ha hb hab => ?_) h
  unfold leK at hab
  rw [ltK_nn (hn b hb) (hn a ha)] at hab
  exact hab
theorem numbers_up (ks : List Str) (c : Nat) (hc : c = ((sortK ks).map isNumS).countP fun y => decide (y = true)) : ((((sortK ks).take c).map numS).mergeSort fun x y => !DatumOrd.lt y x) = ((sortK ks).take c).map numS := by
  subst hc
  exact nums_sorted ((sortK_pairwise ks).sublist (List.take_sublist _ _)) (take_nums marks_down)
theorem row_next {ks : List Str} {i : Nat} {a b : Str} (ha : (sortK ks)[i]? = some a) (hb : (sortK ks)[i + 1]? = some b) : ltK b a = false := by
  obtain ⟨ia, ea⟩ := List.getElem?_eq_some_iff.mp ha
  obtain ⟨ib, eb⟩ := List.getElem?_eq_some_iff.mp hb
  have h := List.pairwise_iff_getElem.mp (sortK_pairwise ks) i (i + 1) ia ib (Nat.lt_succ_self i)
  rw [ea, eb] at h
  unfold leK at h
  rwa [Bool.not_eq_true'] at h
theorem ltK_more {a b : Str} {c : Nat} (h : tl b = tl a ++ [c]) (hb : isNumS b = false) : ltK a b = true := by
  cases ha : isNumS a with
  | true => exact ltK_nt ha hb
  | false =>
    rw [ltK_tt ha hb, decide_eq_true_eq, h]
    induction tl a with
    | nil => exact List.nil_lt_cons _ _
    | cons x r ih => exact List.cons_lt_cons_iff.mpr (.inr ⟨rfl, ih⟩)
theorem ltK_ne {a b : Str} : (ltK a b || ltK b a) = !decide (a = b) := by
  by_cases e : a = b
  · subst e
    rw [ltK_irrefl, decide_eq_true rfl]
    rfl
  · rw [decide_eq_false e]
    rcases ltK_total e with h | h <;> rw [h]
    · rfl
    · rw [Bool.or_true]; rfl
end Sk
namespace Sk
open PySem PySem.Spec PyProof.Rows L2
def spMixed (K : PySem.W.Frag) : Sp := fun vs H Q _ => ∃ (b a : Addr) (N : Nat) (ks : List Str), vs = [.ref b, .ref a] ∧ N < 2 ^ 48 ∧ BagAt N b H ∧ SqL K H a (ks.map V.str) ∧ ks.length ≤ 1000 ∧
  ∀ (H' : Hp) (p : Addr) (js : List Str), Chg b H H' → BagAt (N + 1000) b H' → H' p = some (.lst (js.map V.str)) → js.Perm ks → Q (.ref p) H'
def spThree : Sp := fun vs H Q _ => ∃ a b c : Str, vs = [.str a, .str b, .str c] ∧ a.length ≤ 640 ∧ b.length ≤ 640 ∧ c.length ≤ 640 ∧ ∀ H', Same H H' → Q (.bl true) H'
theorem none_of_same {H H' : Hp} (s : Same H H') {a : Addr} (h : H' a = none) : H a = none := by
  cases e : H a with
  | none => rfl
  | some o => rw [s _ _ e] at h; cases h
theorem none_of_chg {b : Addr} {H H' : Hp} (s : Chg b H H') {a : Addr} (n : a ≠ b) (h : H' a = none) : H a = none := by
  cases e : H a with
  | none => rfl
  | some o => rw [s _ _ n e] at h; cases h
theorem perm_pop {α : Type} {ys rest ks : List α} {k : Nat} {x : α} (h : rest[k]? = some x) (p : (ys ++ rest).Perm ks) : ((ys ++ [x]) ++ rest.eraseIdx k).Perm ks := by
  refine List.Perm.trans ?_ p
  rw [List.append_assoc]
  refine List.Perm.append_left ys ?_
  obtain ⟨hk, e⟩ := List.getElem?_eq_some_iff.mp h
  have h2 : rest = rest.take k ++ x :: rest.drop (k + 1) := by rw [← e, List.getElem_cons_drop, List.take_append_drop]
  rw [List.eraseIdx_eq_take_drop_succ]
  conv => rhs; rw [h2]
  exact (List.perm_middle (a := x) (l₁ := rest.take k) (l₂ := rest.drop (k + 1))).symm
end Sk
namespace Sk
open PySem PySem.Spec PyProof.Rows L2
/-- one statement, then the rest from what it leaves -/
theorem seq_abs {t u : TS} {D : Ends} {σ : L2.St} {H : Hp} (P : L2.St → Hp → Prop) (first : ∀ N : L2.St → Hp → Prop, (∀ σ' H', P σ' H' → N σ' H') → t { D with nx := N } σ H) (rest : ∀ σ' H', P σ' H' → u D σ' H') : tSeq t u D σ H := first (u D) rest
structure KeysOk (ks : List Str) : Prop where
  ne : 0 < ks.length
  len : ks.length ≤ 20
  each : ∀ k ∈ ks, k.length ≤ 70
theorem KeysOk.sort {ks : List Str} (h : KeysOk ks) : KeysOk (sortK ks) := by
  have p := sortK_perm ks
  exact ⟨by rw [p.length_eq]; exact h.ne, by rw [p.length_eq]; exact h.len, fun k hk => h.each k (p.mem_iff.mp hk)⟩
theorem KeysOk.each640 {ks : List Str} (h : KeysOk ks) : ∀ k ∈ ks, k.length ≤ 640 := fun k hk => Nat.le_trans (h.each k hk) (by decide)
end Sk
namespace Sk
open PySem PySem.Spec PyProof.Rows L2
theorem len_intS (n : Int) {k : Nat} (hk : 0 < k) (h : n.natAbs < 10 ^ k) : (Str.ofString (toString n)).length ≤ k + 2 := by
  rw [len_tl, tl_int]
  have key : ∀ (m n : Nat), n < 10 ^ m → (decL n).length ≤ m + 1 := by
    intro m
    induction m with
    | zero => intro n h; rw [show n = 0 by omega, decL_lt (by decide)]; decide
    | succ m ih =>
      intro n h
      by_cases hn : n < 10
      · rw [decL_lt hn]; show 1 ≤ _; omega
      · rw [decL_ge (by omega), List.length_append, List.length_singleton]
        have := ih (n / 10) (by rw [Nat.pow_succ] at h; omega)
        omega
  have := key k n.natAbs h
  unfold intL
  split
  · rw [List.length_cons]; omega
  · omega
theorem numS_lt {x : Str} (h : x.length ≤ 60) : (numS x).natAbs < 10 ^ 60 := by
  have hd : PySem.NumText.AllDigits (figsOf (tl x)) := fun c hc => isFig_iff.mp (mem_takeWhile hc)
  have h2 : (figsOf (tl x)).length ≤ x.length := by
    rw [len_tl]
    exact Nat.le_trans ((List.takeWhile_sublist _).length_le) ((List.dropWhile_sublist _).length_le)
  have h3 : (numS x).natAbs = PySem.NumText.digitsVal (figsOf (tl x)) := by
    unfold numS numL
    split <;> omega
  have h4 := digitsVal_lt _ _ rfl hd
  rw [h3]
  exact Nat.lt_of_lt_of_le h4 (Nat.pow_le_pow_right (by decide) (by omega))
theorem next_ok {x : Str} (h : x.length ≤ 60) : (numS x + 1).natAbs.log2 < 1920 ∧ (intS (numS x + 1)).length ≤ 63 := by
  have h1 := numS_lt h
  have h2 : (numS x + 1).natAbs < 10 ^ 61 := by
    have : (10 : Nat) ^ 61 = 10 ^ 60 * 10 := by decide
    omega
  exact ⟨Nat.lt_of_lt_of_le (PySem.Flt.log2_lt_of (n := (numS x + 1).natAbs) (k := 210) (by decide) (Nat.lt_of_lt_of_le h2 (by decide))) (by decide), len_intS _ (by decide) h2⟩
end Sk
namespace Sk
open PySem PySem.Spec PyProof.Rows L2
theorem len_appS (a b : Str) : (a ++ b).length = a.length + b.length := Array.size_append
end Sk
namespace Sk
open PySem PySem.Spec PyProof.Rows L2
theorem BagAt.neS {N : Nat} {b a : Addr} {H : Hp} {ks : List Str} (h : BagAt N b H) (e : H a = some (.lst (ks.map V.str))) : a ≠ b := by
  rintro rfl
  obtain ⟨x, y, z, e2, _⟩ := h
  rw [e2] at e
  have e3 := HO.lst.inj (Option.some.inj e)
  cases ks with
  | nil => cases e3
  | cons k r => cases e3
def onStr (f : Str → V) : V → V
  | .str x => f x
  | _ => .non
section
variable {K : PySem.W.Frag} {σ : L2.St}
/-- [elt for x in keys] -/
theorem lc_map_strs {te : TE} {k : Nat} {H1 : Hp} {D a : Addr} {ks : List Str} {Qd : Hp → Prop} (f : Str → V) (hn : ks.length ≤ 100000) (hD : H1 D = none) (hS : SqL K H1 a (ks.map V.str))
    (he : ∀ x H2, x ∈ ks → Same H1 H2 → ∀ R : VK, (∀ H3, Same H2 H3 → R (f x) H3) → te ((wipe σ [k]).set k (some (.str x))) H2 R)
    (hd : ∀ H2, Same H1 H2 → H2 D = some (.lst (ks.map f)) → Qd H2) :
    ∃ W : Nat → Nat → Hp → Prop, (∃ m, W 0 m (upd H1 D (.lst []))) ∧ ∀ i m H, W i m H →
      ((Itl K a).stop i H ∧ Qd H) ∨ ((Itl K a).go i H ∧ ∃ Nx : Hp → Prop, (∀ H', Nx H' → ∃ m', m' < m ∧ W (i + 1) m' H') ∧ ∀ x H', (Itl K a).yld i H x H' → gName k x (wipe σ [k]) H' fun σ2 H2 => wipe σ2 [k] = wipe σ [k] ∧ tYes σ2 H2 fun b H3 =>
        if b = true then te σ2 H3 fun y H4 => ∃ acc, H4 D = some (.lst acc) ∧ acc.length < sizeLine ∧ Nx (upd H4 D (.lst (acc ++ [y]))) else Nx H3) := by
  refine lc_pure_list (K := K) (fun _ => true) (onStr f) (by rw [List.length_map]; exact hn) hD hS (fun x H2 _ s2 R q2 => q2 _ (.refl _)) (fun v H2 hv _ s2 R q2 => ?_) (fun H2 s2 e2 => hd H2 s2 ?_)
  · obtain ⟨x, hx, rfl⟩ := List.mem_map.mp hv
    exact he x H2 hx s2 R q2
  · rw [e2, List.filter_eq_self.mpr (fun _ _ => rfl), List.map_map]
    rfl
end
end Sk
namespace Sk
open PySem PySem.Spec PyProof.Rows L2
theorem at_strs {ks : List Str} {i : Nat} {x : Str} {j : Int} (hj : j = (i : Int)) (h : ks[i]? = some x) : atI (ks.map V.str) j = some (.str x) := by
  subst hj
  refine atI_nat ?_
  rw [List.getElem?_map, h]
  rfl
end Sk

namespace Sk
open PySem PySem.Spec PyProof.Rows L2
open PySem.W (Datum DatumOrd Tup T3 dataLt dataLe alike AllAlike Sortable)
/-! ### the law's own order of keys -/
theorem find_sign {c : Nat} (h : Wc c) : Txt.find lawSigns ⟨#[c]⟩ = if c < 37 then (c : Int) - 32 else (c : Int) - 33 := by
  have key : ∀ c < 127, Wc c → Txt.find lawSigns ⟨#[c]⟩ = if c < 37 then (c : Int) - 32 else (c : Int) - 33 := by decide +kernel
  exact key c (by have := h.2.1; omega) h
theorem find_lt {c d : Nat} (hc : Wc c) (hd : Wc d) : decide (Txt.find lawSigns ⟨#[c]⟩ < Txt.find lawSigns ⟨#[d]⟩) = decide (c < d) := by
  rw [find_sign hc, find_sign hd]
  refine decide_eq_decide.mpr ?_
  have h1 := hc.2.2
  have h2 := hd.2.2
  split <;> split <;> omega
theorem lt_at : ∀ {l m : List Nat} {i : Nat} {c d : Nat}, l.take i = m.take i → l[i]? = some c → m[i]? = some d → c ≠ d → (l < m ↔ c < d)
  | [], m, i, c, d, _, hc, _, _ => by simp at hc
  | x :: l, [], i, c, d, _, _, hd, _ => by simp at hd
  | x :: l, y :: m, 0, c, d, _, hc, hd, ne => by
    simp only [List.getElem?_cons_zero, Option.some.injEq] at hc hd
    subst hc hd
    rw [List.cons_lt_cons_iff]
    exact ⟨fun h => h.elim id fun h => absurd h.1 ne, .inl⟩
  | x :: l, y :: m, i + 1, c, d, h, hc, hd, ne => by
    rw [List.take_succ_cons, List.take_succ_cons] at h
    obtain ⟨e, h2⟩ := List.cons.inj h
    subst e
    rw [List.getElem?_cons_succ] at hc hd
    rw [List.cons_lt_cons_iff]
    have ih := lt_at h2 hc hd ne
    exact ⟨fun z => z.elim (fun z => absurd z (Nat.lt_irrefl _)) fun z => ih.mp z.2, fun z => .inr ⟨rfl, ih.mpr z⟩⟩
theorem lt_pre : ∀ {l m : List Nat} {n : Nat}, l.take n = m.take n → n = min l.length m.length → (l < m ↔ l.length < m.length)
  | [], [], n, _, _ => by simp
  | [], y :: m, n, _, _ => by simp
  | x :: l, [], n, _, _ => by simp
  | x :: l, y :: m, n, h, hn => by
    rw [List.length_cons, List.length_cons] at hn ⊢
    obtain ⟨k, rfl⟩ : ∃ k, n = k + 1 := ⟨n - 1, by omega⟩
    rw [List.take_succ_cons, List.take_succ_cons] at h
    obtain ⟨e, h2⟩ := List.cons.inj h
    subst e
    have ih := lt_pre h2 (by omega)
    rw [List.cons_lt_cons_iff]
    constructor
    · rintro (z | z)
      · exact absurd z (Nat.lt_irrefl _)
      · have := ih.mp z.2; omega
    · intro z
      exact .inr ⟨rfl, ih.mpr (by omega)⟩
theorem take_next {l m : List Nat} {i c : Nat} (h : l.take i = m.take i) (hc : l[i]? = some c) (hd : m[i]? = some c) : l.take (i + 1) = m.take (i + 1) := by
  rw [List.take_add_one, List.take_add_one, h, hc, hd]
/-- texts of signs of worths, not too long -/
structure KeyW (s : Str) : Prop where
  len : s.length ≤ 100
  worth : WorthS s
def spAheadK : Sp := fun vs H Q _ => ∃ a b : Str, vs = [.str a, .str b] ∧ KeyW a ∧ KeyW b ∧ ∀ H', Same H H' → Q (.bl (ltK a b)) H'
def spRightK (K : PySem.W.Frag) : Sp := fun vs H Q _ => ∃ (a : Addr) (ks : List Str), vs = [.ref a] ∧ SqL K H a (ks.map V.str) ∧ ks.length ≤ 1000 ∧ (∀ k ∈ ks, KeyW k) ∧ ∀ H', Same H H' → Q (.bl true) H'
theorem tl_own {a : Str} : decide (V.str (Str.ofString (toString (numS a))) = V.str a) = isNumS a := by
  rw [isNumS_iff]
  exact decide_eq_decide.mpr ⟨fun z => V.str.inj z, fun z => congrArg V.str z⟩
/-- sorted texts of two rows that are one but for their order -/
def sortS (ks : List Str) : List Str := ks.mergeSort fun x y => !DatumOrd.lt y x
theorem ltS_irrefl (a : Str) : DatumOrd.lt a a = false := decide_eq_false (List.lt_irrefl (tl a))
theorem leS_iff {a b : Str} : (!DatumOrd.lt b a) = true ↔ tl a ≤ tl b := by
  rw [Bool.not_eq_true']
  show decide (tl b < tl a) = false ↔ _
  rw [decide_eq_false_iff_not]
  exact List.not_lt
theorem sortS_same {ks js : List Str} (p : ks.Perm js) : sortS ks = sortS js := by
  have tr : ∀ a b c : Str, (!DatumOrd.lt b a) = true → (!DatumOrd.lt c b) = true → (!DatumOrd.lt c a) = true := fun a b c h1 h2 => leS_iff.mpr (List.le_trans (leS_iff.mp h1) (leS_iff.mp h2))
  have tot : ∀ a b : Str, ((!DatumOrd.lt b a) || (!DatumOrd.lt a b)) = true := fun a b => by
    rcases List.le_total (tl a) (tl b) with h | h
    · rw [leS_iff.mpr h]; rfl
    · rw [leS_iff.mpr h, Bool.or_true]
  refine sorted_same (r := fun x y => (!DatumOrd.lt y x) = true) (fun a b h1 h2 => ?_) (List.pairwise_mergeSort tr tot ks) (List.pairwise_mergeSort tr tot js) (((List.mergeSort_perm ks _).trans p).trans (List.mergeSort_perm js _).symm)
  exact tl_inj (List.le_antisymm (leS_iff.mp h1) (leS_iff.mp h2))
theorem in_true (x y : Bool) : inV (.bl true) [.bl x, .bl y] = (x || y) := by cases x <;> cases y <;> rfl
theorem cutV_mem {xs : List V} {lo hi : Option Int} {v : V} (h : v ∈ cutV xs lo hi) : v ∈ xs := List.mem_of_mem_drop (List.mem_of_mem_take h)
theorem cutV_len {xs : List V} {lo hi : Option Int} : (cutV xs lo hi).length ≤ xs.length := by
  unfold cutV
  rw [List.length_take, List.length_drop]
  omega
theorem KeyW.of {s : Str} (h : KeyS s) : KeyW s := ⟨Nat.le_trans h.2.1 (by decide), h.2.2⟩
end Sk
namespace Sk
open PySem PySem.Spec PyProof.Rows L2
theorem rd_isList {K : PySem.W.Frag} {a : Addr} {xs : List V} {H : Hp} {Q : VK} (h : H a = some (.lst xs)) (q : Q (.bl true) H) : rIsi K [.ref a, .ty "list"] H Q :=
  ⟨_, _, _, _, true, rfl, .ty "list", .base (.lst h), kit_ty (by decide +kernel), q⟩
end Sk
namespace Sk
open PySem PySem.Spec PyProof.Rows L2
def onStrB (f : Str → Bool) : V → Bool
  | .str x => f x
  | _ => false
theorem strs_filter (f : Str → Bool) (g : Str → Str) (ks : List Str) : ((ks.map V.str).filter (onStrB f)).map (onStr fun x => V.str (g x)) = ((ks.filter f).map g).map V.str := by
  rw [List.filter_map, List.map_map, List.map_map]
  rfl
end Sk

namespace Sk
open PySem PySem.Spec PyProof.Rows L2
/-! ### xs == [], and more rules with K told -/
def rEqE (K : PySem.W.Frag) : R2 := fun x y H Q => ∃ a b xs, x = .ref a ∧ y = .ref b ∧ SqL K H a xs ∧ SqL K H b [] ∧ Q (.bl xs.isEmpty) H
def rNeE (K : PySem.W.Frag) : R2 := fun x y H Q => ∃ a b xs, x = .ref a ∧ y = .ref b ∧ SqL K H a xs ∧ SqL K H b [] ∧ Q (.bl (!xs.isEmpty)) H
section
variable {X : Cx}
theorem k_eqE (K : PySem.W.Frag) (hu : X.A.units + 64 < cLine) (e : X.K = K := by rfl) : OpR X (compareOp .Eq) (rEqE K) := by
  subst e
  intro pins s σ H x y v u Q I rx ry h
  obtain ⟨a, b, xs, rfl, rfl, ha, hb, q⟩ := h
  cases rx
  cases ry
  cases xs with
  | nil =>
    obtain ⟨as, r1⟩ := Dp.reads I _ _ _ (Dp.lst (K := X.K) (H := H) (a := a) (xs := []) (ds := []) ha .nil) (rfl : RelV (.ref a) (.ref a))
    obtain ⟨bs, r2⟩ := Dp.reads I _ _ _ (Dp.lst (K := X.K) (H := H) (a := b) (xs := []) (ds := []) hb .nil) (rfl : RelV (.ref b) (.ref b))
    exact PySem.SeqAt.eq_plain r1 r2 rfl rfl (by have : min (PyData.list []).depth (PyData.list []).depth ≤ 64 := by decide
                                                 omega) ⟨.bl true, H, I, rfl, q⟩
  | cons x r =>
    obtain ⟨its, ra, la, za⟩ := I.list ha
    obtain ⟨jts, rb, lb, zb⟩ := I.list hb
    have h1 := ra.length
    have h2 := rb.length
    refine PySem.SeqAt.RcAt.lists_lengths la.isList lb.isList ?_ (by omega) _ _ _ _ ⟨.bl false, H, I, rfl, q⟩
    rw [List.size_toArray, List.size_toArray, bne_iff_ne]
    rw [List.length_cons] at h1
    rw [List.length_nil] at h2
    omega
theorem k_neE (K : PySem.W.Frag) (hu : X.A.units + 64 < cLine) (e : X.K = K := by rfl) : OpR X (compareOp .NotEq) (rNeE K) := by
  subst e
  intro pins s σ H x y v u Q I rx ry h
  obtain ⟨a, b, xs, rfl, rfl, ha, hb, q⟩ := h
  cases rx
  cases ry
  cases xs with
  | nil =>
    obtain ⟨as, r1⟩ := Dp.reads I _ _ _ (Dp.lst (K := X.K) (H := H) (a := a) (xs := []) (ds := []) ha .nil) (rfl : RelV (.ref a) (.ref a))
    obtain ⟨bs, r2⟩ := Dp.reads I _ _ _ (Dp.lst (K := X.K) (H := H) (a := b) (xs := []) (ds := []) hb .nil) (rfl : RelV (.ref b) (.ref b))
    exact PySem.SeqAt.ne_plain r1 r2 rfl rfl (by have : min (PyData.list []).depth (PyData.list []).depth ≤ 64 := by decide
                                                 omega) ⟨.bl false, H, I, rfl, q⟩
  | cons x r =>
    obtain ⟨its, ra, la, za⟩ := I.list ha
    obtain ⟨jts, rb, lb, zb⟩ := I.list hb
    have h1 := ra.length
    have h2 := rb.length
    refine PySem.SeqAt.RcNeAt.lists_lengths la.isList lb.isList ?_ (by omega) _ _ _ _ ⟨.bl true, H, I, rfl, q⟩
    rw [List.size_toArray, List.size_toArray, bne_iff_ne]
    rw [List.length_cons] at h1
    rw [List.length_nil] at h2
    omega
theorem k_isiT (K : PySem.W.Frag) (e : X.K = K := by rfl) : CallR X (.builtin "isinstance") (rIsiT K) := by subst e; exact call_isiT
theorem k_repT (K : PySem.W.Frag) (e : X.K = K := by rfl) : OpR X (binaryOp .Mult) (rRepT K) := by subst e; exact op_repT
end
/-! ### things, some places hidden -/
open Classical in
noncomputable def hid (D : Addr → Prop) (H : Hp) : Hp := fun a => if D a then none else H a
def Occ (D : Addr → Prop) (H : Hp) : Prop := ∀ a, D a → H a ≠ none
theorem hid_of {D : Addr → Prop} {H : Hp} {a : Addr} (n : ¬ D a) : hid D H a = H a := if_neg n
theorem hid_some {D : Addr → Prop} {H : Hp} {a : Addr} {o : HO} (h : hid D H a = some o) : ¬ D a ∧ H a = some o := by
  by_cases n : D a
  · rw [show hid D H a = none from if_pos n] at h; cases h
  · exact ⟨n, by rwa [hid_of n] at h⟩
theorem hid_sub {D : Addr → Prop} {H : Hp} : Same (hid D H) H := fun a o h => (hid_some h).2
theorem hid_same {D : Addr → Prop} {H H' : Hp} (s : Same H H') : Same (hid D H) (hid D H') := fun a o h => by
  obtain ⟨n, h⟩ := hid_some h
  rw [hid_of n]
  exact s _ _ h
theorem hid_chg {D : Addr → Prop} {b : Addr} {H H' : Hp} (hb : D b) (c : Chg b H H') : Same (hid D H) (hid D H') := fun a o h => by
  obtain ⟨n, h⟩ := hid_some h
  rw [hid_of n]
  exact c _ _ (fun e => n (e ▸ hb)) h
theorem Occ.same {D : Addr → Prop} {H H' : Hp} (o : Occ D H) (s : Same H H') : Occ D H' := fun a ha h => o a ha (none_of_same s h)
theorem Occ.chg {D : Addr → Prop} {b : Addr} {N : Nat} {H H' : Hp} (o : Occ D H) (c : Chg b H H') (B : BagAt N b H') : Occ D H' := fun a ha h => by
  by_cases e : a = b
  · obtain ⟨x, y, z, e2, _⟩ := B
    rw [e, e2] at h
    cases h
  · exact o a ha (none_of_chg c e h)
theorem Occ.not {D : Addr → Prop} {H : Hp} {p : Addr} (o : Occ D H) (h : H p = none) : ¬ D p := fun d => o p d h
/-- D and one place more -/
def Dp1 (D : Addr → Prop) (r : Addr) : Addr → Prop := fun a => D a ∨ a = r
theorem Bnd.mono {B C : Nat} (h : B ≤ C) : ∀ {d : PyData}, Bnd B d → Bnd C d
  | _, .non => .non
  | _, .bl b => .bl b
  | _, .int k => .int (by omega)
  | _, .str k => .str (by omega)
  | _, .lst k a => .lst (by omega) fun d hd => Bnd.mono h (a d hd)
  | _, .tup k a => .tup (by omega) fun d hd => Bnd.mono h (a d hd)
  | _, .dct => .dct
/-- a thing of bounded parts -/
def Tg (B : Nat) (D : Addr → Prop) (H : Hp) (v : V) : Prop := ∃ d, Bnd B d ∧ Rd (hid D H) v d
section
variable {B C : Nat} {D : Addr → Prop} {H H' : Hp} {v : V} {xs : List V} {b p r : Addr}
theorem Tg.mono (h : Tg B D H v) (l : B ≤ C) : Tg C D H v := by
  obtain ⟨d, k, r⟩ := h
  exact ⟨d, k.mono l, r⟩
theorem Tg.same (h : Tg B D H v) (s : Same H H') : Tg B D H' v := by
  obtain ⟨d, k, r⟩ := h
  exact ⟨d, k, r.same (hid_same s)⟩
theorem Tg.chg (h : Tg B D H v) (hb : D b) (c : Chg b H H') : Tg B D H' v := by
  obtain ⟨d, k, r⟩ := h
  exact ⟨d, k, r.same (hid_chg hb c)⟩
theorem Tg.all (h : ∀ x ∈ xs, Tg B D H x) : ∃ ds : List PyData, (∀ d ∈ ds, Bnd B d) ∧ RdAll (hid D H) xs ds := by
  induction xs with
  | nil => exact ⟨[], (fun _ h => nomatch h), .nil⟩
  | cons x r ih =>
    obtain ⟨ds, k, a⟩ := ih fun y hy => h y (List.mem_cons_of_mem _ hy)
    obtain ⟨d, k1, a1⟩ := h x List.mem_cons_self
    refine ⟨d :: ds, fun e he => ?_, .cons a1 a⟩
    rcases List.mem_cons.mp he with rfl | he
    · exact k1
    · exact k e he
theorem Tg.lst (n : ¬ D p) (e : H p = some (.lst xs)) (l : xs.length ≤ B) (h : ∀ x ∈ xs, Tg B D H x) : Tg B D H (.ref p) := by
  obtain ⟨ds, k, a⟩ := Tg.all h
  exact ⟨.list ds, .lst (by rw [← a.len]; exact l) k, .lst (by rw [hid_of n]; exact e) a⟩
theorem Tg.tup (n : ¬ D p) (e : H p = some (.tup xs)) (l : xs.length ≤ B) (h : ∀ x ∈ xs, Tg B D H x) : Tg B D H (.ref p) := by
  obtain ⟨ds, k, a⟩ := Tg.all h
  exact ⟨.tuple ds, .tup (by rw [← a.len]; exact l) k, .tup (by rw [hid_of n]; exact e) a⟩
theorem Tg.dct (n : ¬ D p) (e : H p = some (.dK [])) : Tg B D H (.ref p) := ⟨.dict [], .dct, .dct (by rw [hid_of n]; exact e)⟩
theorem Tg.non : Tg B D H .non := ⟨_, .non, .non⟩
theorem Tg.bl {x : Bool} : Tg B D H (.bl x) := ⟨_, .bl x, .bl x⟩
theorem Tg.int {i : Int} (h : i.natAbs ≤ 10 ^ 30 + B) : Tg B D H (.int i) := ⟨_, .int h, .int i⟩
theorem Tg.str {x : Str} (h : x.length ≤ B) : Tg B D H (.str x) := ⟨_, .str h, .str x⟩
/-- the own row hidden -/
theorem Tg.hide (h : Tg B D H v) (s : Same H H') (n : H r = none) : Tg B (Dp1 D r) H' v := by
  obtain ⟨d, k, g⟩ := h
  refine ⟨d, k, g.same fun a o e => ?_⟩
  obtain ⟨m, e⟩ := hid_some e
  rw [hid_of (fun z => z.elim m fun z => by rw [z, n] at e; cases e)]
  exact s _ _ e
theorem Tg.bare (h : Tg B (Dp1 D r) H v) (o : HO) : Tg B D (upd H r o) v := by
  obtain ⟨d, k, g⟩ := h
  refine ⟨d, k, g.same fun a u e => ?_⟩
  obtain ⟨m, e⟩ := hid_some e
  have n1 : ¬ D a := fun z => m (.inl z)
  have n2 : a ≠ r := fun z => m (.inr z)
  rw [hid_of n1, upd_ne n2]
  exact e
/-- a new tuple, a new list of things -/
theorem tg_tup {Q : VK} (o : Occ D H) (l : xs.length ≤ B) (hB : B ≤ 100000) (a : ∀ x ∈ xs, Tg B D H x) (q : ∀ p H', Same H H' → H' p = some (.tup xs) → H p = none → Tg B D H' (.ref p) → Q (.ref p) H') :
    xs.length ≤ sizeLine ∧ ∀ p, H p = none → Q (.ref p) (upd H p (.tup xs)) :=
  ⟨Evl.sz_of (Nat.le_trans l hB), fun p hp => q p _ (same_new hp) upd_same hp (.tup (o.not hp) upd_same l fun x hx => (a x hx).same (same_new hp))⟩
theorem tg_lst {Q : VK} (o : Occ D H) (l : xs.length ≤ B) (hB : B ≤ 100000) (a : ∀ x ∈ xs, Tg B D H x) (q : ∀ p H', Same H H' → H' p = some (.lst xs) → H p = none → Tg B D H' (.ref p) → Q (.ref p) H') :
    xs.length ≤ sizeLine ∧ ∀ p, H p = none → Q (.ref p) (upd H p (.lst xs)) :=
  ⟨Evl.sz_of (Nat.le_trans l hB), fun p hp => q p _ (same_new hp) upd_same hp (.lst (o.not hp) upd_same l fun x hx => (a x hx).same (same_new hp))⟩
end
/-! ### promises -/
def spOdd : Sp := fun vs H Q _ => ∃ (b : Addr) (N : Nat) (D : Addr → Prop), vs = [.ref b] ∧ N < 2 ^ 55 ∧ BagAt N b H ∧ D b ∧ Occ D H ∧ ∀ (H' : Hp) (v : V), Chg b H H' → BagAt (N + 1) b H' → Tg 400 D H' v → Q v H'
def spTurned (m : Nat) : Sp := fun vs H Q _ => ∃ (b : Addr) (v : V) (deep : Nat) (N B : Nat) (D : Addr → Prop), vs = [.ref b, v, .int (deep : Int)] ∧ deep < m ∧ N + 10 * m < 2 ^ 54 ∧ BagAt N b H ∧ D b ∧ Occ D H ∧ Tg B D H v ∧ 400 ≤ B ∧ B ≤ 20000 ∧
  ∀ (H' : Hp) (v : V), Chg b H H' → BagAt (N + 10 * m) b H' → Tg (3 * B + 20) D H' v → Q v H'
theorem turned_none {P : Program} {w : World} {K : PySem.W.Frag} {mg : Str → Option Value} {base : Heap} {CX : CXT} {k : Nat} {f : Addr} {fd : FuncData} {ps : List Str} : FnOk P w K mg base CX k f fd ps (spTurned 0) :=
  ⟨fun vs H Q E h => by obtain ⟨_, _, _, _, _, _, _, h, _⟩ := h; exact absurd h (Nat.not_lt_zero _), fun A outer s H args us vs Q E _ _ _ _ h => by obtain ⟨_, _, _, _, _, _, _, h, _⟩ := h; exact absurd h (Nat.not_lt_zero _)⟩
/-- a truth of a thing -/
def spLook (f : PyData → Bool) : Sp := spThing f
end Sk
namespace Sk
open PySem PySem.Spec PyProof.Rows L2
theorem tg_nil {B : Nat} {D : Addr → Prop} {H : Hp} : ∀ x ∈ ([] : List V), Tg B D H x := fun _ h => nomatch h
theorem tg_cons {B : Nat} {D : Addr → Prop} {H : Hp} {v : V} {xs : List V} (h : Tg B D H v) (a : ∀ x ∈ xs, Tg B D H x) : ∀ x ∈ v :: xs, Tg B D H x := fun x hx => by
  rcases List.mem_cons.mp hx with rfl | hx
  · exact h
  · exact a x hx
theorem tg_app {B : Nat} {D : Addr → Prop} {H : Hp} {xs ys : List V} (h : ∀ x ∈ xs, Tg B D H x) (a : ∀ x ∈ ys, Tg B D H x) : ∀ x ∈ xs ++ ys, Tg B D H x := fun x hx => by
  rcases List.mem_append.mp hx with hx | hx
  · exact h x hx
  · exact a x hx
theorem pow_1020 : CPowW 10 20 := ⟨by decide, by decide, Nat.lt_of_lt_of_le (by decide : (10 : Nat) < 2 ^ 4) (Nat.pow_le_pow_right (by decide) (by decide))⟩
end Sk
namespace Sk
open PySem PySem.Spec PyProof.Rows L2
theorem rd_mem {H : Hp} : ∀ {vs : List V} {ds : List PyData}, RdAll H vs ds → ∀ x ∈ vs, ∃ d ∈ ds, Rd H x d
  | _, _, .nil, _, h => nomatch h
  | _, _, .cons r a, x, h => by
    rcases List.mem_cons.mp h with rfl | h
    · exact ⟨_, List.mem_cons_self, r⟩
    · obtain ⟨d, hd, k⟩ := rd_mem a x h
      exact ⟨d, List.mem_cons_of_mem _ hd, k⟩
section
variable {B : Nat} {D : Addr → Prop} {H : Hp} {p p2 q : Addr} {xs ys : List V}
theorem Tg.items (t : Tg B D H (.ref p)) (e : H p = some (.lst xs)) : xs.length ≤ B ∧ ∀ x ∈ xs, Tg B D H x := by
  obtain ⟨d, k, r⟩ := t
  cases r with
  | lst h a =>
    have h := (hid_some h).2
    rw [e] at h
    cases h
    cases k with
    | lst l b => exact ⟨by rw [a.len]; exact l, fun x hx => by
        obtain ⟨d, hd, r⟩ := rd_mem a x hx
        exact ⟨d, b d hd, r⟩⟩
  | tup h a => have h := (hid_some h).2; rw [e] at h; cases h
  | dct h => have h := (hid_some h).2; rw [e] at h; cases h
theorem Tg.itemsT (t : Tg B D H (.ref p)) (e : H p = some (.tup xs)) : xs.length ≤ B ∧ ∀ x ∈ xs, Tg B D H x := by
  obtain ⟨d, k, r⟩ := t
  cases r with
  | tup h a =>
    have h := (hid_some h).2
    rw [e] at h
    cases h
    cases k with
    | tup l b => exact ⟨by rw [a.len]; exact l, fun x hx => by
        obtain ⟨d, hd, r⟩ := rd_mem a x hx
        exact ⟨d, b d hd, r⟩⟩
  | lst h a => have h := (hid_some h).2; rw [e] at h; cases h
  | dct h => have h := (hid_some h).2; rw [e] at h; cases h
theorem tg_join (t : Tg B D H (.ref p)) (e : H p = some (.lst xs)) (t2 : Tg B D H (.ref p2)) (e2 : H p2 = some (.lst ys)) (n : ¬ D q) (l : xs.length + ys.length ≤ B) (hq : H q = none) :
    ∃ zs, zs.length = xs.length + ys.length ∧ upd H q (.lst (xs ++ ys)) q = some (.lst zs) ∧ Same H (upd H q (.lst (xs ++ ys))) ∧ Tg B D (upd H q (.lst (xs ++ ys))) (.ref q) :=
  ⟨xs ++ ys, List.length_append, upd_same, same_new hq, .lst n upd_same (by rw [List.length_append]; exact l) fun x hx => (tg_app (t.items e).2 (t2.items e2).2 x hx).same (same_new hq)⟩
end
end Sk
namespace Sk
open PySem PySem.Spec PyProof.Rows L2
theorem Occ.add {D : Addr → Prop} {H : Hp} {r : Addr} {o : HO} (h : Occ D H) (e : H r = some o) : Occ (Dp1 D r) H := fun a ha z => by
  rcases ha with ha | rfl
  · exact h a ha z
  · rw [e] at z; cases z
/-- a list of things at hand -/
def LO (B : Nat) (D : Addr → Prop) (n : Nat) (H : Hp) (p : Addr) : Prop := ¬ D p ∧ ∃ ys, H p = some (.lst ys) ∧ ys.length ≤ n ∧ ∀ y ∈ ys, Tg B D H y
section
variable {K : PySem.W.Frag} {B n m : Nat} {D : Addr → Prop} {H H' : Hp} {a c p b : Addr} {xs : List V} {Q : VK}
theorem LO.same (h : LO B D n H p) (s : Same H H') : LO B D n H' p := by
  obtain ⟨d, ys, e, l, t⟩ := h
  exact ⟨d, ys, s _ _ e, l, fun y hy => (t y hy).same s⟩
theorem LO.chg (h : LO B D n H p) (hb : D b) (k : Chg b H H') : LO B D n H' p := by
  obtain ⟨d, ys, e, l, t⟩ := h
  exact ⟨d, ys, k _ _ (fun z => d (z ▸ hb)) e, l, fun y hy => (t y hy).chg hb k⟩
theorem LO.tg (h : LO B D n H p) (hn : n ≤ m) (hB : B ≤ m) : Tg m D H (.ref p) := by
  obtain ⟨d, ys, e, l, t⟩ := h
  exact .lst d e (by omega) fun y hy => (t y hy).mono hB
theorem lo_slice {lo hi : Option Int} (h : LO B D n H a) (o : Occ D H) (q : ∀ p H', Same H H' → LO B D n H' p → Q (.ref p) H') : rSlL K (.ref a) lo hi H Q := by
  obtain ⟨d, ys, e, l, t⟩ := h
  exact ⟨a, ys, rfl, .inl (.inl e), fun p hp => q p _ (same_new hp) ⟨o.not hp, _, upd_same, Nat.le_trans cutV_len l, fun y hy => (t y (cutV_mem hy)).same (same_new hp)⟩⟩
theorem lo_cat (h : LO B D n H a) (k : LO B D m H c) (o : Occ D H) (l : n + m ≤ 100000) (q : ∀ p H', Same H H' → LO B D (n + m) H' p → Q (.ref p) H') : rCat (.ref a) (.ref c) H Q := by
  obtain ⟨d, ys, e, l1, t⟩ := h
  obtain ⟨d2, zs, e2, l2, t2⟩ := k
  exact ⟨a, c, ys, zs, rfl, rfl, e, e2, Evl.sz_of (by omega), fun p hp => q p _ (same_new hp) ⟨o.not hp, _, upd_same, by rw [List.length_append]; omega, fun y hy => (tg_app t t2 y hy).same (same_new hp)⟩⟩
theorem lo_rev (h : LO B D n H a) (o : Occ D H) (q : ∀ p H', Same H H' → LO B D n H' p → Q (.ref p) H') : ∃ a' xs, V.ref a = .ref a' ∧ SqL K H a' xs ∧ ∀ p, H p = none → Q (.ref p) (upd H p (.lst xs.reverse)) := by
  obtain ⟨d, ys, e, l, t⟩ := h
  exact ⟨a, ys, rfl, .inl (.inl e), fun p hp => q p _ (same_new hp) ⟨o.not hp, _, upd_same, by rw [List.length_reverse]; exact l, fun y hy => (t y (List.mem_reverse.mp hy)).same (same_new hp)⟩⟩
theorem lo_one {v : V} (h : Tg B D H v) (o : Occ D H) (q : ∀ p H', Same H H' → LO B D 1 H' p → Q (.ref p) H') : [v].length ≤ sizeLine ∧ ∀ p, H p = none → Q (.ref p) (upd H p (.lst [v])) :=
  ⟨Evl.sz_of (by show 1 ≤ 100000; decide), fun p hp => q p _ (same_new hp) ⟨o.not hp, _, upd_same, Nat.le_refl _, fun y hy => by rw [List.mem_singleton.mp hy]; exact h.same (same_new hp)⟩⟩
/-- tuple(l) of a list of things -/
theorem lo_tuple (h : LO B D n H a) (o : Occ D H) (hm : n ≤ m) (hB : B ≤ m) (q : ∀ p H', Same H H' → Tg m D H' (.ref p) → Q (.ref p) H') : rTupOf K [.ref a] H Q := by
  obtain ⟨d, ys, e, l, t⟩ := h
  exact ⟨a, ys, rfl, .inl ⟨.inl (.inl e), fun p hp => q p _ (same_new hp) (.tup (o.not hp) upd_same (by omega) fun y hy => ((t y hy).same (same_new hp)).mono hB)⟩⟩
end
end Sk
namespace Sk
open PySem PySem.Spec PyProof.Rows L2
theorem kit_lt {K : PySem.W.Frag} {d : PyData} : PySem.W.kitAny K (.type (tyName d)) [.type "list", .type "tuple"] = some (instD "list" d || instD "tuple" d) := by
  refine kitAny_cons (b := instD "list" d) (kit_inst (by decide)) (fun h => ?_) (fun h => by rw [h]; rfl)
  rw [h, Bool.false_or]
  refine kitAny_cons (b := instD "tuple" d) (kit_inst (by decide)) (fun h => ?_) (fun h => by rw [h])
  rw [h]
  exact kitAny_nil
end Sk
namespace Sk
open PySem PySem.Spec PyProof.Rows L2
def topS (i : Nat) : Stmt := PySem.Challenge.pw_stemkeep_k01_worths_keys_references.main.body.getD i (.Pass ⟨0, 0, 0, 0⟩)
abbrev s_is_worth : Stmt := topS 6
abbrev N_is_worth : List Str := ["thing", "sign"]
theorem sc_is_worth : FnScope N_is_worth ["thing"] (defScope s_is_worth) := ⟨rfl, rfl, rfl, by decide +kernel, rfl, by decide +kernel, by decide +kernel⟩
abbrev s_is_name : Stmt := topS 7
abbrev N_is_name : List Str := ["thing", "sign"]
theorem sc_is_name : FnScope N_is_name ["thing"] (defScope s_is_name) := ⟨rfl, rfl, rfl, by decide +kernel, rfl, by decide +kernel, by decide +kernel⟩
abbrev s_is_key : Stmt := topS 8
abbrev N_is_key : List Str := ["thing"]
theorem sc_is_key : FnScope N_is_key ["thing"] (defScope s_is_key) := ⟨rfl, rfl, rfl, by decide +kernel, rfl, by decide +kernel, by decide +kernel⟩
abbrev s_is_reference : Stmt := topS 9
abbrev N_is_reference : List Str := ["thing", "name", "keys", "key"]
theorem sc_is_reference : FnScope N_is_reference ["thing"] (defScope s_is_reference) := ⟨rfl, rfl, rfl, by decide +kernel, rfl, by decide +kernel, by decide +kernel⟩
abbrev s_law_cell_at : Stmt := topS 11
abbrev N_law_cell_at : List Str := ["script", "k"]
theorem sc_law_cell_at : FnScope N_law_cell_at ["script", "k"] (defScope s_law_cell_at) := ⟨rfl, rfl, rfl, by decide +kernel, rfl, by decide +kernel, by decide +kernel⟩
abbrev s_law_bag : Stmt := topS 12
abbrev N_law_bag : List Str := ["cell", "nth"]
theorem sc_law_bag : FnScope N_law_bag ["cell", "nth"] (defScope s_law_bag) := ⟨rfl, rfl, rfl, by decide +kernel, rfl, by decide +kernel, by decide +kernel⟩
abbrev s_law_draw : Stmt := topS 13
abbrev N_law_draw : List Str := ["bag", "many", "found", "mixed"]
theorem sc_law_draw : FnScope N_law_draw ["bag", "many"] (defScope s_law_draw) := ⟨rfl, rfl, rfl, by decide +kernel, rfl, by decide +kernel, by decide +kernel⟩
abbrev s_law_signs : Stmt := topS 14
abbrev N_law_signs : List Str := ["few"]
theorem sc_law_signs : FnScope N_law_signs [] (defScope s_law_signs) := ⟨rfl, rfl, rfl, by decide +kernel, rfl, by decide +kernel, by decide +kernel⟩
abbrev s_law_text : Stmt := topS 15
abbrev N_law_text : List Str := ["bag", "most", "lot", "number", "near", "some", "many", "k"]
theorem sc_law_text : FnScope N_law_text ["bag", "most"] (defScope s_law_text) := ⟨rfl, rfl, rfl, by decide +kernel, rfl, by decide +kernel, by decide +kernel⟩
abbrev s_law_name : Stmt := topS 16
abbrev N_law_name : List Str := ["bag", "some", "many", "k"]
theorem sc_law_name : FnScope N_law_name ["bag"] (defScope s_law_name) := ⟨rfl, rfl, rfl, by decide +kernel, rfl, by decide +kernel, by decide +kernel⟩
abbrev s_law_key : Stmt := topS 17
abbrev N_law_key : List Str := ["bag", "found"]
theorem sc_law_key : FnScope N_law_key ["bag"] (defScope s_law_key) := ⟨rfl, rfl, rfl, by decide +kernel, rfl, by decide +kernel, by decide +kernel⟩
abbrev s_law_ref : Stmt := topS 18
abbrev N_law_ref : List Str := ["bag", "many", "k"]
theorem sc_law_ref : FnScope N_law_ref ["bag"] (defScope s_law_ref) := ⟨rfl, rfl, rfl, by decide +kernel, rfl, by decide +kernel, by decide +kernel⟩
abbrev s_law_odd : Stmt := topS 19
abbrev N_law_odd : List Str := ["bag", "some"]
theorem sc_law_odd : FnScope N_law_odd ["bag"] (defScope s_law_odd) := ⟨rfl, rfl, rfl, by decide +kernel, rfl, by decide +kernel, by decide +kernel⟩
abbrev s_law_turned : Stmt := topS 20
abbrev N_law_turned : List Str := ["bag", "thing", "deep", "row", "at", "lot", "some", "nth", "every", "sign"]
theorem sc_law_turned : FnScope N_law_turned ["bag", "thing", "deep"] (defScope s_law_turned) := ⟨rfl, rfl, rfl, by decide +kernel, rfl, by decide +kernel, by decide +kernel⟩
abbrev s_law_is_worth : Stmt := topS 21
abbrev N_law_is_worth : List Str := ["thing", "signs", "sign"]
theorem sc_law_is_worth : FnScope N_law_is_worth ["thing"] (defScope s_law_is_worth) := ⟨rfl, rfl, rfl, by decide +kernel, rfl, by decide +kernel, by decide +kernel⟩
abbrev s_law_is_key : Stmt := topS 22
abbrev N_law_is_key : List Str := ["thing"]
theorem sc_law_is_key : FnScope N_law_is_key ["thing"] (defScope s_law_is_key) := ⟨rfl, rfl, rfl, by decide +kernel, rfl, by decide +kernel, by decide +kernel⟩
abbrev s_law_is_name : Stmt := topS 23
abbrev N_law_is_name : List Str := ["thing", "sign"]
theorem sc_law_is_name : FnScope N_law_is_name ["thing"] (defScope s_law_is_name) := ⟨rfl, rfl, rfl, by decide +kernel, rfl, by decide +kernel, by decide +kernel⟩
abbrev s_law_is_reference : Stmt := topS 24
abbrev N_law_is_reference : List Str := ["thing", "key"]
theorem sc_law_is_reference : FnScope N_law_is_reference ["thing"] (defScope s_law_is_reference) := ⟨rfl, rfl, rfl, by decide +kernel, rfl, by decide +kernel, by decide +kernel⟩
abbrev s_law_right : Stmt := topS 25
abbrev N_law_right : List Str := ["thing", "due", "found", "one"]
theorem sc_law_right : FnScope N_law_right ["thing"] (defScope s_law_right) := ⟨rfl, rfl, rfl, by decide +kernel, rfl, by decide +kernel, by decide +kernel⟩
abbrev s_law : Stmt := topS 26
abbrev N_law : List Str := ["script", "k", "bag", "thing", "turn"]
theorem sc_law : FnScope N_law ["script"] (defScope s_law) := ⟨rfl, rfl, rfl, by decide +kernel, rfl, by decide +kernel, by decide +kernel⟩
structure Ad where
  a_is_worth : Addr
  d_is_worth : FuncData
  a_is_name : Addr
  d_is_name : FuncData
  a_is_key : Addr
  d_is_key : FuncData
  a_is_reference : Addr
  d_is_reference : FuncData
  a_law_cell_at : Addr
  d_law_cell_at : FuncData
  a_law_bag : Addr
  d_law_bag : FuncData
  a_law_draw : Addr
  d_law_draw : FuncData
  a_law_signs : Addr
  d_law_signs : FuncData
  a_law_text : Addr
  d_law_text : FuncData
  a_law_name : Addr
  d_law_name : FuncData
  a_law_key : Addr
  d_law_key : FuncData
  a_law_ref : Addr
  d_law_ref : FuncData
  a_law_odd : Addr
  d_law_odd : FuncData
  a_law_turned : Addr
  d_law_turned : FuncData
  a_law_is_worth : Addr
  d_law_is_worth : FuncData
  a_law_is_key : Addr
  d_law_is_key : FuncData
  a_law_is_name : Addr
  d_law_is_name : FuncData
  a_law_is_reference : Addr
  d_law_is_reference : FuncData
  a_law_right : Addr
  d_law_right : FuncData
  a_law : Addr
  d_law : FuncData
  t_LETTERS : Tok
  t_MOST_KEYS : Tok
  t_MOST_LETTERS : Tok
  t_MOST_SIGNS : Tok
  t_SIGNS : Tok
structure Txt (K : PySem.W.Frag) (mg : Str → Option Value) (A : Ad) : Prop where
  F_is_worth : Fun K "is_worth" "is_worth" s_is_worth A.a_is_worth A.d_is_worth
  g_is_worth : mg "is_worth" = some (.ref A.a_is_worth)
  b_is_worth : Binds K A.d_is_worth ["thing"] []
  F_is_name : Fun K "is_name" "is_name" s_is_name A.a_is_name A.d_is_name
  g_is_name : mg "is_name" = some (.ref A.a_is_name)
  b_is_name : Binds K A.d_is_name ["thing"] []
  F_is_key : Fun K "is_key" "is_key" s_is_key A.a_is_key A.d_is_key
  g_is_key : mg "is_key" = some (.ref A.a_is_key)
  b_is_key : Binds K A.d_is_key ["thing"] []
  F_is_reference : Fun K "is_reference" "is_reference" s_is_reference A.a_is_reference A.d_is_reference
  g_is_reference : mg "is_reference" = some (.ref A.a_is_reference)
  b_is_reference : Binds K A.d_is_reference ["thing"] []
  F_law_cell_at : Fun K "_law_cell_at" "_law_cell_at" s_law_cell_at A.a_law_cell_at A.d_law_cell_at
  g_law_cell_at : mg "_law_cell_at" = some (.ref A.a_law_cell_at)
  b_law_cell_at : Binds K A.d_law_cell_at ["script", "k"] []
  F_law_bag : Fun K "_law_bag" "_law_bag" s_law_bag A.a_law_bag A.d_law_bag
  g_law_bag : mg "_law_bag" = some (.ref A.a_law_bag)
  b_law_bag : Binds K A.d_law_bag ["cell", "nth"] []
  F_law_draw : Fun K "_law_draw" "_law_draw" s_law_draw A.a_law_draw A.d_law_draw
  g_law_draw : mg "_law_draw" = some (.ref A.a_law_draw)
  b_law_draw : Binds K A.d_law_draw ["bag", "many"] []
  F_law_signs : Fun K "_law_signs" "_law_signs" s_law_signs A.a_law_signs A.d_law_signs
  g_law_signs : mg "_law_signs" = some (.ref A.a_law_signs)
  b_law_signs : Binds K A.d_law_signs [] []
  F_law_text : Fun K "_law_text" "_law_text" s_law_text A.a_law_text A.d_law_text
  g_law_text : mg "_law_text" = some (.ref A.a_law_text)
  b_law_text : Binds K A.d_law_text ["bag", "most"] []
  F_law_name : Fun K "_law_name" "_law_name" s_law_name A.a_law_name A.d_law_name
  g_law_name : mg "_law_name" = some (.ref A.a_law_name)
  b_law_name : Binds K A.d_law_name ["bag"] []
  F_law_key : Fun K "_law_key" "_law_key" s_law_key A.a_law_key A.d_law_key
  g_law_key : mg "_law_key" = some (.ref A.a_law_key)
  b_law_key : Binds K A.d_law_key ["bag"] []
  F_law_ref : Fun K "_law_ref" "_law_ref" s_law_ref A.a_law_ref A.d_law_ref
  g_law_ref : mg "_law_ref" = some (.ref A.a_law_ref)
  b_law_ref : Binds K A.d_law_ref ["bag"] []
  F_law_odd : Fun K "_law_odd" "_law_odd" s_law_odd A.a_law_odd A.d_law_odd
  g_law_odd : mg "_law_odd" = some (.ref A.a_law_odd)
  b_law_odd : Binds K A.d_law_odd ["bag"] []
  F_law_turned : Fun K "_law_turned" "_law_turned" s_law_turned A.a_law_turned A.d_law_turned
  g_law_turned : mg "_law_turned" = some (.ref A.a_law_turned)
  b_law_turned : Binds K A.d_law_turned ["bag", "thing", "deep"] []
  F_law_is_worth : Fun K "_law_is_worth" "_law_is_worth" s_law_is_worth A.a_law_is_worth A.d_law_is_worth
  g_law_is_worth : mg "_law_is_worth" = some (.ref A.a_law_is_worth)
  b_law_is_worth : Binds K A.d_law_is_worth ["thing"] []
  F_law_is_key : Fun K "_law_is_key" "_law_is_key" s_law_is_key A.a_law_is_key A.d_law_is_key
  g_law_is_key : mg "_law_is_key" = some (.ref A.a_law_is_key)
  b_law_is_key : Binds K A.d_law_is_key ["thing"] []
  F_law_is_name : Fun K "_law_is_name" "_law_is_name" s_law_is_name A.a_law_is_name A.d_law_is_name
  g_law_is_name : mg "_law_is_name" = some (.ref A.a_law_is_name)
  b_law_is_name : Binds K A.d_law_is_name ["thing"] []
  F_law_is_reference : Fun K "_law_is_reference" "_law_is_reference" s_law_is_reference A.a_law_is_reference A.d_law_is_reference
  g_law_is_reference : mg "_law_is_reference" = some (.ref A.a_law_is_reference)
  b_law_is_reference : Binds K A.d_law_is_reference ["thing"] []
  F_law_right : Fun K "_law_right" "_law_right" s_law_right A.a_law_right A.d_law_right
  g_law_right : mg "_law_right" = some (.ref A.a_law_right)
  b_law_right : Binds K A.d_law_right ["thing"] []
  F_law : Fun K "law" "law" s_law A.a_law A.d_law
  g_law : mg "law" = some (.ref A.a_law)
  b_law : Binds K A.d_law ["script"] []
  n_all : mg "all" = none
  n_bool : mg "bool" = none
  n_int : mg "int" = none
  n_isinstance : mg "isinstance" = none
  n_len : mg "len" = none
  n_list : mg "list" = none
  n_max : mg "max" = none
  n_min : mg "min" = none
  n_range : mg "range" = none
  n_str : mg "str" = none
  n_tuple : mg "tuple" = none
  c_LETTERS : mg "LETTERS" = some (.str (Str.ofString "abcdefghijklmnopqrstuvwxyz") A.t_LETTERS)
  c_MOST_KEYS : mg "MOST_KEYS" = some (.int 6 A.t_MOST_KEYS)
  c_MOST_LETTERS : mg "MOST_LETTERS" = some (.int 8 A.t_MOST_LETTERS)
  c_MOST_SIGNS : mg "MOST_SIGNS" = some (.int 40 A.t_MOST_SIGNS)
  c_SIGNS : mg "SIGNS" = some (.str (Str.ofString " !\"#$&'()*+,-./0123456789:;<=>?@ABCDEFGHIJKLMNOPQRSTUVWXYZ[\\]^_`abcdefghijklmnopqrstuvwxyz{|}~") A.t_SIGNS)
theorem txt_mk {K : PySem.W.Frag} {h : Heap} {mg : Str → Option Value} (X : K.In h) (G : h.Ns mainGlobals mg)
    {f0 : Addr} {od0 an0 : Option Addr} {sl0 : Array (Option Value)} {oc0 kV0 dc0 pm0 cd0 ct0 : Value}
    (a0 : PySem.W.nsIn K mainGlobals "is_worth" = some (some (.ref f0))) (l0 : K.lookup f0 = some ⟨oc0, od0, .func (PySem.W.fnOf "is_worth" "is_worth" (defArgs s_is_worth) (defBody s_is_worth) (defScope s_is_worth) .none kV0 dc0 pm0 an0 cd0 ct0), sl0⟩) (c0 : PySem.W.codeIn K cd0 "is_worth" = true) (k0 : PySem.W.keepIn K (.ref f0) = true)
    {f1 : Addr} {od1 an1 : Option Addr} {sl1 : Array (Option Value)} {oc1 kV1 dc1 pm1 cd1 ct1 : Value}
    (a1 : PySem.W.nsIn K mainGlobals "is_name" = some (some (.ref f1))) (l1 : K.lookup f1 = some ⟨oc1, od1, .func (PySem.W.fnOf "is_name" "is_name" (defArgs s_is_name) (defBody s_is_name) (defScope s_is_name) .none kV1 dc1 pm1 an1 cd1 ct1), sl1⟩) (c1 : PySem.W.codeIn K cd1 "is_name" = true) (k1 : PySem.W.keepIn K (.ref f1) = true)
    {f2 : Addr} {od2 an2 : Option Addr} {sl2 : Array (Option Value)} {oc2 kV2 dc2 pm2 cd2 ct2 : Value}
    (a2 : PySem.W.nsIn K mainGlobals "is_key" = some (some (.ref f2))) (l2 : K.lookup f2 = some ⟨oc2, od2, .func (PySem.W.fnOf "is_key" "is_key" (defArgs s_is_key) (defBody s_is_key) (defScope s_is_key) .none kV2 dc2 pm2 an2 cd2 ct2), sl2⟩) (c2 : PySem.W.codeIn K cd2 "is_key" = true) (k2 : PySem.W.keepIn K (.ref f2) = true)
    {f3 : Addr} {od3 an3 : Option Addr} {sl3 : Array (Option Value)} {oc3 kV3 dc3 pm3 cd3 ct3 : Value}
    (a3 : PySem.W.nsIn K mainGlobals "is_reference" = some (some (.ref f3))) (l3 : K.lookup f3 = some ⟨oc3, od3, .func (PySem.W.fnOf "is_reference" "is_reference" (defArgs s_is_reference) (defBody s_is_reference) (defScope s_is_reference) .none kV3 dc3 pm3 an3 cd3 ct3), sl3⟩) (c3 : PySem.W.codeIn K cd3 "is_reference" = true) (k3 : PySem.W.keepIn K (.ref f3) = true)
    {f4 : Addr} {od4 an4 : Option Addr} {sl4 : Array (Option Value)} {oc4 kV4 dc4 pm4 cd4 ct4 : Value}
    (a4 : PySem.W.nsIn K mainGlobals "_law_cell_at" = some (some (.ref f4))) (l4 : K.lookup f4 = some ⟨oc4, od4, .func (PySem.W.fnOf "_law_cell_at" "_law_cell_at" (defArgs s_law_cell_at) (defBody s_law_cell_at) (defScope s_law_cell_at) .none kV4 dc4 pm4 an4 cd4 ct4), sl4⟩) (c4 : PySem.W.codeIn K cd4 "_law_cell_at" = true) (k4 : PySem.W.keepIn K (.ref f4) = true)
    {f5 : Addr} {od5 an5 : Option Addr} {sl5 : Array (Option Value)} {oc5 kV5 dc5 pm5 cd5 ct5 : Value}
    (a5 : PySem.W.nsIn K mainGlobals "_law_bag" = some (some (.ref f5))) (l5 : K.lookup f5 = some ⟨oc5, od5, .func (PySem.W.fnOf "_law_bag" "_law_bag" (defArgs s_law_bag) (defBody s_law_bag) (defScope s_law_bag) .none kV5 dc5 pm5 an5 cd5 ct5), sl5⟩) (c5 : PySem.W.codeIn K cd5 "_law_bag" = true) (k5 : PySem.W.keepIn K (.ref f5) = true)
    {f6 : Addr} {od6 an6 : Option Addr} {sl6 : Array (Option Value)} {oc6 kV6 dc6 pm6 cd6 ct6 : Value}
    (a6 : PySem.W.nsIn K mainGlobals "_law_draw" = some (some (.ref f6))) (l6 : K.lookup f6 = some ⟨oc6, od6, .func (PySem.W.fnOf "_law_draw" "_law_draw" (defArgs s_law_draw) (defBody s_law_draw) (defScope s_law_draw) .none kV6 dc6 pm6 an6 cd6 ct6), sl6⟩) (c6 : PySem.W.codeIn K cd6 "_law_draw" = true) (k6 : PySem.W.keepIn K (.ref f6) = true)
    {f7 : Addr} {od7 an7 : Option Addr} {sl7 : Array (Option Value)} {oc7 kV7 dc7 pm7 cd7 ct7 : Value}
    (a7 : PySem.W.nsIn K mainGlobals "_law_signs" = some (some (.ref f7))) (l7 : K.lookup f7 = some ⟨oc7, od7, .func (PySem.W.fnOf "_law_signs" "_law_signs" (defArgs s_law_signs) (defBody s_law_signs) (defScope s_law_signs) .none kV7 dc7 pm7 an7 cd7 ct7), sl7⟩) (c7 : PySem.W.codeIn K cd7 "_law_signs" = true) (k7 : PySem.W.keepIn K (.ref f7) = true)
    {f8 : Addr} {od8 an8 : Option Addr} {sl8 : Array (Option Value)} {oc8 kV8 dc8 pm8 cd8 ct8 : Value}
    (a8 : PySem.W.nsIn K mainGlobals "_law_text" = some (some (.ref f8))) (l8 : K.lookup f8 = some ⟨oc8, od8, .func (PySem.W.fnOf "_law_text" "_law_text" (defArgs s_law_text) (defBody s_law_text) (defScope s_law_text) .none kV8 dc8 pm8 an8 cd8 ct8), sl8⟩) (c8 : PySem.W.codeIn K cd8 "_law_text" = true) (k8 : PySem.W.keepIn K (.ref f8) = true)
    {f9 : Addr} {od9 an9 : Option Addr} {sl9 : Array (Option Value)} {oc9 kV9 dc9 pm9 cd9 ct9 : Value}
    (a9 : PySem.W.nsIn K mainGlobals "_law_name" = some (some (.ref f9))) (l9 : K.lookup f9 = some ⟨oc9, od9, .func (PySem.W.fnOf "_law_name" "_law_name" (defArgs s_law_name) (defBody s_law_name) (defScope s_law_name) .none kV9 dc9 pm9 an9 cd9 ct9), sl9⟩) (c9 : PySem.W.codeIn K cd9 "_law_name" = true) (k9 : PySem.W.keepIn K (.ref f9) = true)
    {f10 : Addr} {od10 an10 : Option Addr} {sl10 : Array (Option Value)} {oc10 kV10 dc10 pm10 cd10 ct10 : Value}
    (a10 : PySem.W.nsIn K mainGlobals "_law_key" = some (some (.ref f10))) (l10 : K.lookup f10 = some ⟨oc10, od10, .func (PySem.W.fnOf "_law_key" "_law_key" (defArgs s_law_key) (defBody s_law_key) (defScope s_law_key) .none kV10 dc10 pm10 an10 cd10 ct10), sl10⟩) (c10 : PySem.W.codeIn K cd10 "_law_key" = true) (k10 : PySem.W.keepIn K (.ref f10) = true)
    {f11 : Addr} {od11 an11 : Option Addr} {sl11 : Array (Option Value)} {oc11 kV11 dc11 pm11 cd11 ct11 : Value}
    (a11 : PySem.W.nsIn K mainGlobals "_law_ref" = some (some (.ref f11))) (l11 : K.lookup f11 = some ⟨oc11, od11, .func (PySem.W.fnOf "_law_ref" "_law_ref" (defArgs s_law_ref) (defBody s_law_ref) (defScope s_law_ref) .none kV11 dc11 pm11 an11 cd11 ct11), sl11⟩) (c11 : PySem.W.codeIn K cd11 "_law_ref" = true) (k11 : PySem.W.keepIn K (.ref f11) = true)
    {f12 : Addr} {od12 an12 : Option Addr} {sl12 : Array (Option Value)} {oc12 kV12 dc12 pm12 cd12 ct12 : Value}
    (a12 : PySem.W.nsIn K mainGlobals "_law_odd" = some (some (.ref f12))) (l12 : K.lookup f12 = some ⟨oc12, od12, .func (PySem.W.fnOf "_law_odd" "_law_odd" (defArgs s_law_odd) (defBody s_law_odd) (defScope s_law_odd) .none kV12 dc12 pm12 an12 cd12 ct12), sl12⟩) (c12 : PySem.W.codeIn K cd12 "_law_odd" = true) (k12 : PySem.W.keepIn K (.ref f12) = true)
    {f13 : Addr} {od13 an13 : Option Addr} {sl13 : Array (Option Value)} {oc13 kV13 dc13 pm13 cd13 ct13 : Value}
    (a13 : PySem.W.nsIn K mainGlobals "_law_turned" = some (some (.ref f13))) (l13 : K.lookup f13 = some ⟨oc13, od13, .func (PySem.W.fnOf "_law_turned" "_law_turned" (defArgs s_law_turned) (defBody s_law_turned) (defScope s_law_turned) .none kV13 dc13 pm13 an13 cd13 ct13), sl13⟩) (c13 : PySem.W.codeIn K cd13 "_law_turned" = true) (k13 : PySem.W.keepIn K (.ref f13) = true)
    {f14 : Addr} {od14 an14 : Option Addr} {sl14 : Array (Option Value)} {oc14 kV14 dc14 pm14 cd14 ct14 : Value}
    (a14 : PySem.W.nsIn K mainGlobals "_law_is_worth" = some (some (.ref f14))) (l14 : K.lookup f14 = some ⟨oc14, od14, .func (PySem.W.fnOf "_law_is_worth" "_law_is_worth" (defArgs s_law_is_worth) (defBody s_law_is_worth) (defScope s_law_is_worth) .none kV14 dc14 pm14 an14 cd14 ct14), sl14⟩) (c14 : PySem.W.codeIn K cd14 "_law_is_worth" = true) (k14 : PySem.W.keepIn K (.ref f14) = true)
    {f15 : Addr} {od15 an15 : Option Addr} {sl15 : Array (Option Value)} {oc15 kV15 dc15 pm15 cd15 ct15 : Value}
    (a15 : PySem.W.nsIn K mainGlobals "_law_is_key" = some (some (.ref f15))) (l15 : K.lookup f15 = some ⟨oc15, od15, .func (PySem.W.fnOf "_law_is_key" "_law_is_key" (defArgs s_law_is_key) (defBody s_law_is_key) (defScope s_law_is_key) .none kV15 dc15 pm15 an15 cd15 ct15), sl15⟩) (c15 : PySem.W.codeIn K cd15 "_law_is_key" = true) (k15 : PySem.W.keepIn K (.ref f15) = true)
    {f16 : Addr} {od16 an16 : Option Addr} {sl16 : Array (Option Value)} {oc16 kV16 dc16 pm16 cd16 ct16 : Value}
    (a16 : PySem.W.nsIn K mainGlobals "_law_is_name" = some (some (.ref f16))) (l16 : K.lookup f16 = some ⟨oc16, od16, .func (PySem.W.fnOf "_law_is_name" "_law_is_name" (defArgs s_law_is_name) (defBody s_law_is_name) (defScope s_law_is_name) .none kV16 dc16 pm16 an16 cd16 ct16), sl16⟩) (c16 : PySem.W.codeIn K cd16 "_law_is_name" = true) (k16 : PySem.W.keepIn K (.ref f16) = true)
    {f17 : Addr} {od17 an17 : Option Addr} {sl17 : Array (Option Value)} {oc17 kV17 dc17 pm17 cd17 ct17 : Value}
    (a17 : PySem.W.nsIn K mainGlobals "_law_is_reference" = some (some (.ref f17))) (l17 : K.lookup f17 = some ⟨oc17, od17, .func (PySem.W.fnOf "_law_is_reference" "_law_is_reference" (defArgs s_law_is_reference) (defBody s_law_is_reference) (defScope s_law_is_reference) .none kV17 dc17 pm17 an17 cd17 ct17), sl17⟩) (c17 : PySem.W.codeIn K cd17 "_law_is_reference" = true) (k17 : PySem.W.keepIn K (.ref f17) = true)
    {f18 : Addr} {od18 an18 : Option Addr} {sl18 : Array (Option Value)} {oc18 kV18 dc18 pm18 cd18 ct18 : Value}
    (a18 : PySem.W.nsIn K mainGlobals "_law_right" = some (some (.ref f18))) (l18 : K.lookup f18 = some ⟨oc18, od18, .func (PySem.W.fnOf "_law_right" "_law_right" (defArgs s_law_right) (defBody s_law_right) (defScope s_law_right) .none kV18 dc18 pm18 an18 cd18 ct18), sl18⟩) (c18 : PySem.W.codeIn K cd18 "_law_right" = true) (k18 : PySem.W.keepIn K (.ref f18) = true)
    {f19 : Addr} {od19 an19 : Option Addr} {sl19 : Array (Option Value)} {oc19 kV19 dc19 pm19 cd19 ct19 : Value}
    (a19 : PySem.W.nsIn K mainGlobals "law" = some (some (.ref f19))) (l19 : K.lookup f19 = some ⟨oc19, od19, .func (PySem.W.fnOf "law" "law" (defArgs s_law) (defBody s_law) (defScope s_law) .none kV19 dc19 pm19 an19 cd19 ct19), sl19⟩) (c19 : PySem.W.codeIn K cd19 "law" = true) (k19 : PySem.W.keepIn K (.ref f19) = true)
    (z_all : PySem.W.nsIn K mainGlobals "all" = some none)
    (z_bool : PySem.W.nsIn K mainGlobals "bool" = some none)
    (z_int : PySem.W.nsIn K mainGlobals "int" = some none)
    (z_isinstance : PySem.W.nsIn K mainGlobals "isinstance" = some none)
    (z_len : PySem.W.nsIn K mainGlobals "len" = some none)
    (z_list : PySem.W.nsIn K mainGlobals "list" = some none)
    (z_max : PySem.W.nsIn K mainGlobals "max" = some none)
    (z_min : PySem.W.nsIn K mainGlobals "min" = some none)
    (z_range : PySem.W.nsIn K mainGlobals "range" = some none)
    (z_str : PySem.W.nsIn K mainGlobals "str" = some none)
    (z_tuple : PySem.W.nsIn K mainGlobals "tuple" = some none)

    {t_LETTERS : Tok} (g_LETTERS : PySem.W.nsIn K mainGlobals "LETTERS" = some (some (.str (Str.ofString "abcdefghijklmnopqrstuvwxyz") t_LETTERS)))
    {t_MOST_KEYS : Tok} (g_MOST_KEYS : PySem.W.nsIn K mainGlobals "MOST_KEYS" = some (some (.int 6 t_MOST_KEYS)))
    {t_MOST_LETTERS : Tok} (g_MOST_LETTERS : PySem.W.nsIn K mainGlobals "MOST_LETTERS" = some (some (.int 8 t_MOST_LETTERS)))
    {t_MOST_SIGNS : Tok} (g_MOST_SIGNS : PySem.W.nsIn K mainGlobals "MOST_SIGNS" = some (some (.int 40 t_MOST_SIGNS)))
    {t_SIGNS : Tok} (g_SIGNS : PySem.W.nsIn K mainGlobals "SIGNS" = some (some (.str (Str.ofString " !\"#$&'()*+,-./0123456789:;<=>?@ABCDEFGHIJKLMNOPQRSTUVWXYZ[\\]^_`abcdefghijklmnopqrstuvwxyz{|}~") t_SIGNS)))
    : Txt K mg ⟨f0, PySem.W.fnOf "is_worth" "is_worth" (defArgs s_is_worth) (defBody s_is_worth) (defScope s_is_worth) .none kV0 dc0 pm0 an0 cd0 ct0, f1, PySem.W.fnOf "is_name" "is_name" (defArgs s_is_name) (defBody s_is_name) (defScope s_is_name) .none kV1 dc1 pm1 an1 cd1 ct1, f2, PySem.W.fnOf "is_key" "is_key" (defArgs s_is_key) (defBody s_is_key) (defScope s_is_key) .none kV2 dc2 pm2 an2 cd2 ct2, f3, PySem.W.fnOf "is_reference" "is_reference" (defArgs s_is_reference) (defBody s_is_reference) (defScope s_is_reference) .none kV3 dc3 pm3 an3 cd3 ct3, f4, PySem.W.fnOf "_law_cell_at" "_law_cell_at" (defArgs s_law_cell_at) (defBody s_law_cell_at) (defScope s_law_cell_at) .none kV4 dc4 pm4 an4 cd4 ct4, f5, PySem.W.fnOf "_law_bag" "_law_bag" (defArgs s_law_bag) (defBody s_law_bag) (defScope s_law_bag) .none kV5 dc5 pm5 an5 cd5 ct5, f6, PySem.W.fnOf "_law_draw" "_law_draw" (defArgs s_law_draw) (defBody s_law_draw) (defScope s_law_draw) .none kV6 dc6 pm6 an6 cd6 ct6, f7, PySem.W.fnOf "_law_signs" "_law_signs" (defArgs s_law_signs) (defBody s_law_signs) (defScope s_law_signs) .none kV7 dc7 pm7 an7 cd7 ct7, f8, PySem.W.fnOf "_law_text" "_law_text" (defArgs s_law_text) (defBody s_law_text) (defScope s_law_text) .none kV8 dc8 pm8 an8 cd8 ct8, f9, PySem.W.fnOf "_law_name" "_law_name" (defArgs s_law_name) (defBody s_law_name) (defScope s_law_name) .none kV9 dc9 pm9 an9 cd9 ct9, f10, PySem.W.fnOf "_law_key" "_law_key" (defArgs s_law_key) (defBody s_law_key) (defScope s_law_key) .none kV10 dc10 pm10 an10 cd10 ct10, f11, PySem.W.fnOf "_law_ref" "_law_ref" (defArgs s_law_ref) (defBody s_law_ref) (defScope s_law_ref) .none kV11 dc11 pm11 an11 cd11 ct11, f12, PySem.W.fnOf "_law_odd" "_law_odd" (defArgs s_law_odd) (defBody s_law_odd) (defScope s_law_odd) .none kV12 dc12 pm12 an12 cd12 ct12, f13, PySem.W.fnOf "_law_turned" "_law_turned" (defArgs s_law_turned) (defBody s_law_turned) (defScope s_law_turned) .none kV13 dc13 pm13 an13 cd13 ct13, f14, PySem.W.fnOf "_law_is_worth" "_law_is_worth" (defArgs s_law_is_worth) (defBody s_law_is_worth) (defScope s_law_is_worth) .none kV14 dc14 pm14 an14 cd14 ct14, f15, PySem.W.fnOf "_law_is_key" "_law_is_key" (defArgs s_law_is_key) (defBody s_law_is_key) (defScope s_law_is_key) .none kV15 dc15 pm15 an15 cd15 ct15, f16, PySem.W.fnOf "_law_is_name" "_law_is_name" (defArgs s_law_is_name) (defBody s_law_is_name) (defScope s_law_is_name) .none kV16 dc16 pm16 an16 cd16 ct16, f17, PySem.W.fnOf "_law_is_reference" "_law_is_reference" (defArgs s_law_is_reference) (defBody s_law_is_reference) (defScope s_law_is_reference) .none kV17 dc17 pm17 an17 cd17 ct17, f18, PySem.W.fnOf "_law_right" "_law_right" (defArgs s_law_right) (defBody s_law_right) (defScope s_law_right) .none kV18 dc18 pm18 an18 cd18 ct18, f19, PySem.W.fnOf "law" "law" (defArgs s_law) (defBody s_law) (defScope s_law) .none kV19 dc19 pm19 an19 cd19 ct19, t_LETTERS, t_MOST_KEYS, t_MOST_LETTERS, t_MOST_SIGNS, t_SIGNS⟩ where
  F_is_worth := fun_mk (st := s_is_worth) l0 c0 k0
  g_is_worth := PySem.W.mg_of X G a0
  b_is_worth := (fun_mk (st := s_is_worth) l0 c0 k0).binds (ps := ["thing"]) fun _ _ _ _ _ _ us hl => match us, hl with | [_], _ => rfl
  F_is_name := fun_mk (st := s_is_name) l1 c1 k1
  g_is_name := PySem.W.mg_of X G a1
  b_is_name := (fun_mk (st := s_is_name) l1 c1 k1).binds (ps := ["thing"]) fun _ _ _ _ _ _ us hl => match us, hl with | [_], _ => rfl
  F_is_key := fun_mk (st := s_is_key) l2 c2 k2
  g_is_key := PySem.W.mg_of X G a2
  b_is_key := (fun_mk (st := s_is_key) l2 c2 k2).binds (ps := ["thing"]) fun _ _ _ _ _ _ us hl => match us, hl with | [_], _ => rfl
  F_is_reference := fun_mk (st := s_is_reference) l3 c3 k3
  g_is_reference := PySem.W.mg_of X G a3
  b_is_reference := (fun_mk (st := s_is_reference) l3 c3 k3).binds (ps := ["thing"]) fun _ _ _ _ _ _ us hl => match us, hl with | [_], _ => rfl
  F_law_cell_at := fun_mk (st := s_law_cell_at) l4 c4 k4
  g_law_cell_at := PySem.W.mg_of X G a4
  b_law_cell_at := (fun_mk (st := s_law_cell_at) l4 c4 k4).binds (ps := ["script", "k"]) fun _ _ _ _ _ _ us hl => match us, hl with | [_, _], _ => rfl
  F_law_bag := fun_mk (st := s_law_bag) l5 c5 k5
  g_law_bag := PySem.W.mg_of X G a5
  b_law_bag := (fun_mk (st := s_law_bag) l5 c5 k5).binds (ps := ["cell", "nth"]) fun _ _ _ _ _ _ us hl => match us, hl with | [_, _], _ => rfl
  F_law_draw := fun_mk (st := s_law_draw) l6 c6 k6
  g_law_draw := PySem.W.mg_of X G a6
  b_law_draw := (fun_mk (st := s_law_draw) l6 c6 k6).binds (ps := ["bag", "many"]) fun _ _ _ _ _ _ us hl => match us, hl with | [_, _], _ => rfl
  F_law_signs := fun_mk (st := s_law_signs) l7 c7 k7
  g_law_signs := PySem.W.mg_of X G a7
  b_law_signs := (fun_mk (st := s_law_signs) l7 c7 k7).binds (ps := []) fun _ _ _ _ _ _ us hl => match us, hl with | [], _ => rfl
  F_law_text := fun_mk (st := s_law_text) l8 c8 k8
  g_law_text := PySem.W.mg_of X G a8
  b_law_text := (fun_mk (st := s_law_text) l8 c8 k8).binds (ps := ["bag", "most"]) fun _ _ _ _ _ _ us hl => match us, hl with | [_, _], _ => rfl
  F_law_name := fun_mk (st := s_law_name) l9 c9 k9
  g_law_name := PySem.W.mg_of X G a9
  b_law_name := (fun_mk (st := s_law_name) l9 c9 k9).binds (ps := ["bag"]) fun _ _ _ _ _ _ us hl => match us, hl with | [_], _ => rfl
  F_law_key := fun_mk (st := s_law_key) l10 c10 k10
  g_law_key := PySem.W.mg_of X G a10
  b_law_key := (fun_mk (st := s_law_key) l10 c10 k10).binds (ps := ["bag"]) fun _ _ _ _ _ _ us hl => match us, hl with | [_], _ => rfl
  F_law_ref := fun_mk (st := s_law_ref) l11 c11 k11
  g_law_ref := PySem.W.mg_of X G a11
  b_law_ref := (fun_mk (st := s_law_ref) l11 c11 k11).binds (ps := ["bag"]) fun _ _ _ _ _ _ us hl => match us, hl with | [_], _ => rfl
  F_law_odd := fun_mk (st := s_law_odd) l12 c12 k12
  g_law_odd := PySem.W.mg_of X G a12
  b_law_odd := (fun_mk (st := s_law_odd) l12 c12 k12).binds (ps := ["bag"]) fun _ _ _ _ _ _ us hl => match us, hl with | [_], _ => rfl
  F_law_turned := fun_mk (st := s_law_turned) l13 c13 k13
  g_law_turned := PySem.W.mg_of X G a13
  b_law_turned := (fun_mk (st := s_law_turned) l13 c13 k13).binds (ps := ["bag", "thing", "deep"]) fun _ _ _ _ _ _ us hl => match us, hl with | [_, _, _], _ => rfl
  F_law_is_worth := fun_mk (st := s_law_is_worth) l14 c14 k14
  g_law_is_worth := PySem.W.mg_of X G a14
  b_law_is_worth := (fun_mk (st := s_law_is_worth) l14 c14 k14).binds (ps := ["thing"]) fun _ _ _ _ _ _ us hl => match us, hl with | [_], _ => rfl
  F_law_is_key := fun_mk (st := s_law_is_key) l15 c15 k15
  g_law_is_key := PySem.W.mg_of X G a15
  b_law_is_key := (fun_mk (st := s_law_is_key) l15 c15 k15).binds (ps := ["thing"]) fun _ _ _ _ _ _ us hl => match us, hl with | [_], _ => rfl
  F_law_is_name := fun_mk (st := s_law_is_name) l16 c16 k16
  g_law_is_name := PySem.W.mg_of X G a16
  b_law_is_name := (fun_mk (st := s_law_is_name) l16 c16 k16).binds (ps := ["thing"]) fun _ _ _ _ _ _ us hl => match us, hl with | [_], _ => rfl
  F_law_is_reference := fun_mk (st := s_law_is_reference) l17 c17 k17
  g_law_is_reference := PySem.W.mg_of X G a17
  b_law_is_reference := (fun_mk (st := s_law_is_reference) l17 c17 k17).binds (ps := ["thing"]) fun _ _ _ _ _ _ us hl => match us, hl with | [_], _ => rfl
  F_law_right := fun_mk (st := s_law_right) l18 c18 k18
  g_law_right := PySem.W.mg_of X G a18
  b_law_right := (fun_mk (st := s_law_right) l18 c18 k18).binds (ps := ["thing"]) fun _ _ _ _ _ _ us hl => match us, hl with | [_], _ => rfl
  F_law := fun_mk (st := s_law) l19 c19 k19
  g_law := PySem.W.mg_of X G a19
  b_law := (fun_mk (st := s_law) l19 c19 k19).binds (ps := ["script"]) fun _ _ _ _ _ _ us hl => match us, hl with | [_], _ => rfl
  n_all := PySem.W.mg_none_of X G z_all
  n_bool := PySem.W.mg_none_of X G z_bool
  n_int := PySem.W.mg_none_of X G z_int
  n_isinstance := PySem.W.mg_none_of X G z_isinstance
  n_len := PySem.W.mg_none_of X G z_len
  n_list := PySem.W.mg_none_of X G z_list
  n_max := PySem.W.mg_none_of X G z_max
  n_min := PySem.W.mg_none_of X G z_min
  n_range := PySem.W.mg_none_of X G z_range
  n_str := PySem.W.mg_none_of X G z_str
  n_tuple := PySem.W.mg_none_of X G z_tuple
  c_LETTERS := PySem.W.mg_of X G g_LETTERS
  c_MOST_KEYS := PySem.W.mg_of X G g_MOST_KEYS
  c_MOST_LETTERS := PySem.W.mg_of X G g_MOST_LETTERS
  c_MOST_SIGNS := PySem.W.mg_of X G g_MOST_SIGNS
  c_SIGNS := PySem.W.mg_of X G g_SIGNS
section
variable {P : Program} {w : World} {K : PySem.W.Frag} {mg : Str → Option Value} {base : Heap} {A : Ad}
theorem ok_law_draw (T : Txt K mg A) : FnOk P w K mg base CX0 1 A.a_law_draw A.d_law_draw ["bag", "many"] spDraw := by
  refine T.F_law_draw.ok sc_law_draw (fun vs H Q E h => ?_) (fun cdv A outer s H vs Q E hr h => ?_)
  · obtain ⟨b, m, N, rfl, _⟩ := h
    rfl
  · obtain ⟨b, m, N, rfl, m0, m1, hN, ⟨x, y, z, hb, y0, y1, z0, z1⟩, q⟩ := h
    have hl : SqL K H b [.int x, .int y, .int z] := .inl (.inl hb)
    refine ⟨_, (pss_cons (ps_if (pt_cmpR op_gt (pe_ix (k_ix_list K) (pv 0) pe_int (fun _ _ => rfl)) pe_int (nomark _))
      (pss_cons (ps_set (i := 2) sc_law_draw.nd rfl (.inl rfl) (pe_op op_mod (pe_ix (k_ix_list K) (pv 0) pe_int (fun _ _ => rfl)) (pv 1)))
      (pss_cons (ps_asg (pe_op op_fdivW (pe_ix (k_ix_list K) (pv 0) pe_int (fun _ _ => rfl)) (pv 1)) (pg_sub (pv 0) pe_int set_list))
      (pss_one (ps_ret (pv 2)))))
      pss_nil)
      (pss_cons (ps_asg (pe_op op_add (pe_ix (k_ix_list K) (pv 0) pe_int (fun _ _ => rfl)) pe_int) (pg_sub (pv 0) pe_int set_list))
      (pss_cons (ps_set (i := 3) sc_law_draw.nd rfl (.inl rfl) (pe_op op_mod (pe_op op_powW (pe_op op_add (pe_ix (k_ix_list K) (pv 0) pe_int (fun _ _ => rfl)) (pe_op op_mulW pe_int (pe_ix (k_ix_list K) (pv 0) pe_int (fun _ _ => rfl)))) pe_int) pe_int))
      (pss_cons (ps_set (i := 3) sc_law_draw.nd rfl (.inl rfl) (pe_op op_mod (pe_op op_powW (pe_op op_add (pv 3) (pe_op op_mulW pe_int (pe_ix (k_ix_list K) (pv 0) pe_int (fun _ _ => rfl)))) pe_int) pe_int))
      (pss_one (ps_ret (pe_op op_mod (pe_op op_fdivW (pv 3) pe_int) (pv 1)))))))), ?_⟩
    refine ⟨.ref b, rfl, b, _, 0, .int x, rfl, rfl, hl, atI_nat (j := 0) rfl, x, 1, rfl, rfl, _, rfl, ite2 (fun e => ?_) (fun e => ?_)⟩
    · refine ⟨.ref b, rfl, b, _, 0, .int x, rfl, rfl, hl, atI_nat (j := 0) rfl, .int m, rfl, x, m, rfl, rfl, m0, ?_⟩
      refine ⟨.ref b, rfl, b, _, 0, .int x, rfl, rfl, hl, atI_nat (j := 0) rfl, .int m, rfl, x, m, rfl, rfl, div_ok m0 m1, ?_⟩
      refine ⟨.ref b, rfl, b, _, _, 0, rfl, rfl, hb, rfl, ?_⟩
      refine ⟨_, rfl, q _ _ .upd ⟨x / m, y, z, upd_same, y0, y1, z0, by omega⟩ (Int.emod_nonneg _ (by omega)) (Int.emod_lt_of_pos _ m0)⟩
    · refine ⟨.ref b, rfl, b, _, 2, .int z, rfl, rfl, hl, atI_nat (j := 2) rfl, z, 1, rfl, rfl, ?_⟩
      refine ⟨.ref b, rfl, b, _, _, 2, rfl, rfl, hb, rfl, ?_⟩
      generalize hH1 : upd H b _ = H1
      have hb1 : H1 b = some (.lst [.int x, .int y, .int (z + 1)]) := by rw [← hH1]; exact upd_same
      have hl1 : SqL K H1 b [.int x, .int y, .int (z + 1)] := .inl (.inl hb1)
      refine ⟨.ref b, rfl, b, _, 1, .int y, rfl, rfl, hl1, atI_nat (j := 1) rfl, .ref b, rfl, b, _, 2, .int (z + 1), rfl, rfl, hl1, atI_nat (j := 2) rfl, 67867967, z + 1, rfl, rfl, mul_ok (by decide) (by omega), y, 67867967 * (z + 1), rfl, rfl, _, 3, rfl, rfl, pow_ok (by omega) (by omega), _, _, rfl, rfl, (show (0 : Int) < 170141183460469231731687303715884105727 by decide), ?_⟩
      dsimp only
      generalize hm : (y + 67867967 * (z + 1)) ^ (3 : Int).toNat % 170141183460469231731687303715884105727 = m1
      have p0 : 0 ≤ m1 := by rw [← hm]; exact Int.emod_nonneg _ (by decide)
      have p1 : m1 < 170141183460469231731687303715884105727 := by rw [← hm]; exact Int.emod_lt_of_pos _ (by decide)
      refine ⟨_, rfl, .ref b, rfl, b, _, 2, .int (z + 1), rfl, rfl, hl1, atI_nat (j := 2) rfl, 49979687, z + 1, rfl, rfl, mul_ok (by decide) (by omega), m1, 49979687 * (z + 1), rfl, rfl, _, 3, rfl, rfl, pow_ok (by omega) (by omega), _, _, rfl, rfl, (show (0 : Int) < 162259276829213363391578010288127 by decide), ?_⟩
      refine ⟨_, rfl, _, 4096, rfl, rfl, div_ok (by decide) (by decide), .int m, rfl, _, m, rfl, rfl, m0, ?_⟩
      exact q _ _ (by rw [← hH1]; exact .upd) ⟨x, y, z + 1, hb1, y0, y1, by omega, by omega⟩ (Int.emod_nonneg _ (by omega)) (Int.emod_lt_of_pos _ m0)
theorem ok_law_cell_at (T : Txt K mg A) : FnOk P w K mg base CX0 1 A.a_law_cell_at A.d_law_cell_at ["script", "k"] (spCell K) := by
  refine T.F_law_cell_at.ok sc_law_cell_at (fun vs H Q E h => ?_) (fun cdv A outer s H vs Q E hr h => ?_)
  · obtain ⟨a, ns, k, rfl, _⟩ := h
    rfl
  · obtain ⟨a, ns, k, rfl, hS, hk, q⟩ := h
    refine ⟨_, (pss_cons (ps_if (pt_cmpR op_lt (pv 1) (pe_callB (k_len K) (by rfl) T.n_len PySem.boot_len (pa_cons (pv 0) pa_nil)) (nomark _))
      (pss_one (ps_ret (pe_ix (k_ix_list K) (pv 0) (pv 1) (fun _ _ => rfl))))
      pss_nil)
      (pss_one (ps_ret pe_int))), ?_⟩
    refine ⟨_, rfl, .ref a, rfl, a, _, rfl, .inl hS, k, _, rfl, rfl, _, rfl, ite2 (fun e => ?_) (fun e => ?_)⟩
    · obtain ⟨v, _, hv⟩ := at_map (xs := ns) V.int hk (by
        have := of_decide_eq_true e
        rw [List.length_map] at this
        exact this)
      exact ⟨.ref a, rfl, .int k, rfl, a, _, k, .int v, rfl, rfl, hS, hv, q v⟩
    · exact q 0
theorem ok_law_bag (T : Txt K mg A) : FnOk P w K mg base CX0 1 A.a_law_bag A.d_law_bag ["cell", "nth"] spBag := by
  refine T.F_law_bag.ok sc_law_bag (fun vs H Q E h => ?_) (fun cdv A outer s H vs Q E hr h => ?_)
  · obtain ⟨c, n, rfl, _⟩ := h
    rfl
  · obtain ⟨c, n, rfl, n0, n1, q⟩ := h
    refine ⟨_, (pss_one (ps_ret (pe_lst (pa_cons (pe_callB (call_max2 rfl) (by rfl) T.n_max (by decide +kernel) (pa_cons pe_int (pa_cons (pe_op op_sub (pv 0) (pe_op op_powW pe_int pe_int)) pa_nil))) (pa_cons (pe_op op_add (pe_op op_mod (pv 0) pe_int) (pe_op op_mulW pe_int (pv 1))) (pa_cons pe_int pa_nil)))))), ?_⟩
    refine ⟨.int c, rfl, 10, 18, rfl, rfl, ⟨by decide, by decide, by decide⟩, c, _, rfl, rfl, 0, _, rfl, .int c, rfl, c, 170141183460469231731687303715884105727, rfl, rfl, (show (0 : Int) < 170141183460469231731687303715884105727 by decide), .int n, rfl, 104395303, n, rfl, rfl, mul_ok (by decide) (by omega), _, _, rfl, rfl, (by show 3 ≤ sizeLine; decide), fun p hp => ?_⟩
    have e0 : 0 ≤ c % 170141183460469231731687303715884105727 := Int.emod_nonneg _ (by decide)
    have e1 : c % 170141183460469231731687303715884105727 < 170141183460469231731687303715884105727 := Int.emod_lt_of_pos _ (by decide)
    exact q _ _ hp (same_new hp) ⟨_, _, 0, upd_same, by omega, by omega, by omega, by omega⟩
theorem ok_law_signs (T : Txt K mg A) : FnOk P w K mg base CX0 1 A.a_law_signs A.d_law_signs [] spSigns := by
  refine T.F_law_signs.ok sc_law_signs (fun vs H Q E h => ?_) (fun cdv A outer s H vs Q E hr h => ?_)
  · obtain ⟨rfl, _⟩ := h
    rfl
  · obtain ⟨rfl, q⟩ := h
    refine ⟨_, (pss_cons (ps_set (i := 0) sc_law_signs.nd rfl (.inl rfl) pe_str)
      (pss_one (ps_ret (pe_op op_add_str (pe_op op_add_str (pe_op op_add_str (pe_op op_add_str pe_str (pe_upper (pv 0))) pe_str) (pv 0)) pe_str)))), ?_⟩
    refine ⟨_, rfl, ⟨_, rfl⟩, _, rfl, rfl, (by decide +kernel), _, _, rfl, rfl, (by decide +kernel), _, _, rfl, rfl, (by decide +kernel), _, rfl, _, _, rfl, rfl, (by decide +kernel), _, _, rfl, rfl, (by decide +kernel), ?_⟩
    have e : (((((" !\"#$&'()*+,-./0123456789:;<=>?@" : Str) ++ Txt.upper ("abcdefghijklmnopqrstuvwxyz" : Str)) ++ ("[\\]^_`" : Str)) ++ ("abcdefghijklmnopqrstuvwxyz" : Str)) ++ ("{|}~" : Str)) = lawSigns := by decide +kernel
    exact e ▸ q
theorem ok_law_text (T : Txt K mg A) : FnOk P w K mg base CX0 2 A.a_law_text A.d_law_text ["bag", "most"] spText := by
  have G_law_draw := ok_law_draw (P := P) (w := w) (base := base) T
  have G_law_signs := ok_law_signs (P := P) (w := w) (base := base) T
  refine T.F_law_text.ok sc_law_text (fun vs H Q E h => ?_) (fun cdv A outer s H vs Q E hr h => ?_)
  · obtain ⟨b, m, N, rfl, _⟩ := h
    rfl
  · obtain ⟨b, m, N, rfl, m0, m1, hN, hB, q⟩ := h
    refine ⟨_, (pss_cons (ps_set (i := 2) sc_law_text.nd rfl (.inl rfl) (pe_call G_law_draw (hr.mono (by omega)) (by rfl) T.g_law_draw T.F_law_draw.kp T.b_law_draw .nil pass0 (pa_cons (pv 0) (pa_cons pe_int pa_nil))))
      (pss_cons (ps_if (pt_cmpR op_lt (pv 2) pe_int (nomark _))
      (pss_cons (ps_set (i := 3) sc_law_text.nd rfl (.inl rfl) (pe_call G_law_draw (hr.mono (by omega)) (by rfl) T.g_law_draw T.F_law_draw.kp T.b_law_draw .nil pass0 (pa_cons (pv 0) (pa_cons (pe_ix (k_ix_list K) (pe_lst (pa_cons pe_int (pa_cons pe_int (pa_cons (pe_op op_powW pe_int pe_int) (pa_cons (pe_op op_powW pe_int pe_int) pa_nil))))) (pe_call G_law_draw (hr.mono (by omega)) (by rfl) T.g_law_draw T.F_law_draw.kp T.b_law_draw .nil pass0 (pa_cons (pv 0) (pa_cons pe_int pa_nil))) (fun _ _ => rfl)) pa_nil))))
      (pss_one (ps_ret (pe_slice sl_str (pe_callTy call_str_int (by rfl) T.n_str (by decide +kernel) (pa_cons (pe_op op_mulW (pv 3) (pe_ix (k_ix_list K) (pe_lst (pa_cons pe_int (pa_cons pe_int (pa_cons (pe_un un_neg pe_int) pa_nil)))) (pe_call G_law_draw (hr.mono (by omega)) (by rfl) T.g_law_draw T.F_law_draw.kp T.b_law_draw .nil pass0 (pa_cons (pv 0) (pa_cons pe_int pa_nil))) (fun _ _ => rfl))) pa_nil)) po_none (po_some (pv 1))))))
      pss_nil)
      (pss_cons (ps_if (pt_cmpR op_eq (pv 2) pe_int (nomark _))
      (pss_cons (ps_set (i := 4) sc_law_text.nd rfl (.inl rfl) (pe_lst (pa_cons pe_str (pa_cons pe_str (pa_cons pe_str (pa_cons pe_str (pa_cons pe_str (pa_cons pe_str (pa_cons pe_str (pa_cons pe_str (pa_cons pe_str (pa_cons pe_str (pa_cons pe_str (pa_cons pe_str (pa_cons pe_str (pa_cons pe_str (pa_cons pe_str (pa_cons pe_str pa_nil))))))))))))))))))
      (pss_one (ps_ret (pe_slice sl_str (pe_ix (k_ix_list K) (pv 4) (pe_call G_law_draw (hr.mono (by omega)) (by rfl) T.g_law_draw T.F_law_draw.kp T.b_law_draw .nil pass0 (pa_cons (pv 0) (pa_cons pe_int pa_nil))) (fun _ _ => rfl)) po_none (po_some (pv 1))))))
      pss_nil)
      (pss_cons (ps_if (pt_cmpR op_eq (pv 2) pe_int (nomark _))
      (pss_cons (ps_set (i := 5) sc_law_text.nd rfl (.inr rfl) (pe_lst (pa_cons pe_str (pa_cons pe_str (pa_cons pe_str (pa_cons pe_str (pa_cons pe_str (pa_cons pe_str (pa_cons pe_str (pa_cons pe_str (pa_cons pe_str (pa_cons pe_str (pa_cons pe_str (pa_cons pe_str (pa_cons pe_str (pa_cons pe_str (pa_cons pe_str pa_nil)))))))))))))))))
      (pss_one (ps_ret (pe_slice sl_str (pe_m1 PySem.F.slot_str_join PySem.F.type_str_join (k_mt_join K) pe_str (pe_lc (own := [("k", 7)]) (g := gName 7) (tt := tYes) rfl sc_law_text.nd (pi_range1 (by rfl) T.n_range (pa_cons (pe_op op_add pe_int (pe_call G_law_draw (hr.mono (by omega)) (by rfl) T.g_law_draw T.F_law_draw.kp T.b_law_draw .nil pass0 (pa_cons (pv 0) (pa_cons pe_int pa_nil)))) pa_nil)) (blkOk_by (own := [("k", 7)]) (N := N_law_text) (sc := defScope s_law_text) (by decide +kernel)) (fun _ _ _ _ _ => (pg_name (i := 7) sc_law_text.nd rfl (.inl rfl))) (fun _ _ _ _ _ => pts_nil) (fun _ _ _ _ _ => (pe_ix (k_ix_list K) (pv 5) (pe_call G_law_draw (hr.mono (by omega)) (by rfl) T.g_law_draw T.F_law_draw.kp T.b_law_draw .nil pass0 (pa_cons (pv 0) (pa_cons pe_int pa_nil))) (fun _ _ => rfl))))) po_none (po_some (pv 1))))))
      pss_nil)
      (pss_cons (ps_set (i := 5) sc_law_text.nd rfl (.inr rfl) (pe_ix (k_ix_list K) (pe_lst (pa_cons pe_str (pa_cons pe_str (pa_cons (pe_call0 G_law_signs (hr.mono (by omega)) (by rfl) T.g_law_signs T.F_law_signs.kp T.b_law_signs .nil pass0) pa_nil)))) (pe_op op_sub (pv 2) pe_int) (fun _ _ => rfl)))
      (pss_cons (ps_set (i := 6) sc_law_text.nd rfl (.inl rfl) (pe_ix (k_ix_list K) (pe_lst (pa_cons pe_int (pa_cons pe_int (pa_cons (pe_call G_law_draw (hr.mono (by omega)) (by rfl) T.g_law_draw T.F_law_draw.kp T.b_law_draw .nil pass0 (pa_cons (pv 0) (pa_cons (pe_op op_add (pv 1) pe_int) pa_nil))) pa_nil)))) (pe_call G_law_draw (hr.mono (by omega)) (by rfl) T.g_law_draw T.F_law_draw.kp T.b_law_draw .nil pass0 (pa_cons (pv 0) (pa_cons pe_int pa_nil))) (fun _ _ => rfl)))
      (pss_one (ps_ret (pe_m1 PySem.F.slot_str_join PySem.F.type_str_join (k_mt_join K) pe_str (pe_lc (own := [("k", 7)]) (g := gName 7) (tt := tYes) rfl sc_law_text.nd (pi_range1 (by rfl) T.n_range (pa_cons (pe_callB (call_min2 rfl) (by rfl) T.n_min (by decide +kernel) (pa_cons (pv 6) (pa_cons (pv 1) pa_nil))) pa_nil)) (blkOk_by (own := [("k", 7)]) (N := N_law_text) (sc := defScope s_law_text) (by decide +kernel)) (fun _ _ _ _ _ => (pg_name (i := 7) sc_law_text.nd rfl (.inl rfl))) (fun _ _ _ _ _ => pts_nil) (fun _ _ _ _ _ => (pe_ix ix_str (pv 5) (pe_call G_law_draw (hr.mono (by omega)) (by rfl) T.g_law_draw T.F_law_draw.kp T.b_law_draw .nil pass0 (pa_cons (pv 0) (pa_cons (pe_callB call_len_str (by rfl) T.n_len PySem.boot_len (pa_cons (pv 5) pa_nil)) pa_nil))) (fun _ _ => rfl))))))))))))), ?_⟩
    refine rd_draw (N := N) rfl (fun R h => h) (by decide) (by decide) (by omega) hB fun H1 lot c1 B1 l0 l1 => ?_
    refine ⟨_, rfl, _, _, rfl, rfl, _, rfl, ite2 (fun e => ?_) (fun e => ?_)⟩
    · -- a number's own text
      refine ⟨_, rfl, ?_⟩
      refine rd_menu (xs := [.int 10, .int 200, .int (10 ^ (20 : Int).toNat), .int (10 ^ (40 : Int).toNat)]) (N := N + 1) (fun R h => ⟨_, _, rfl, rfl, ⟨by decide, by decide, by decide⟩, _, _, rfl, rfl, ⟨by decide, by decide, by decide⟩, h⟩) rfl rfl (by decide) (by decide) (by omega) B1 fun H2 v hv c2 B2 => ?_
      obtain ⟨n, rfl, n0, n1⟩ : ∃ n : Int, v = .int n ∧ 0 < n ∧ n ≤ 10 ^ 40 := by
        simp only [List.mem_cons, List.not_mem_nil, or_false] at hv
        rcases hv with rfl | rfl | rfl | rfl <;> exact ⟨_, rfl, by decide, by decide⟩
      refine ⟨b, n, N + 2, rfl, n0, by omega, by omega, B2, fun H3 r c3 B3 r0 r1 => ?_⟩
      refine ⟨_, rfl, ?_⟩
      refine rd_menu (xs := [.int 1, .int 1, .int (-1)]) (N := N + 3) (fun R h => ⟨_, rfl, h⟩) rfl rfl (by decide) (by decide) (by omega) B3 fun H4 v hv c4 B4 => ?_
      obtain ⟨k, rfl, k0⟩ : ∃ k : Int, v = .int k ∧ (k = 1 ∨ k = -1) := by
        simp only [List.mem_cons, List.not_mem_nil, or_false] at hv
        rcases hv with rfl | rfl | rfl <;> exact ⟨_, rfl, by decide⟩
      have hz : (r * k).natAbs < 2 ^ 200 := by
        rcases k0 with rfl | rfl <;> omega
      refine ⟨_, _, rfl, rfl, mul_ok (by omega) (by omega), _, rfl, Nat.lt_of_lt_of_le (PySem.Flt.log2_lt_of (by decide) hz) (by decide), _, rfl, _, rfl, _, rfl, PySem.int_text_fits (Nat.lt_of_lt_of_le (PySem.Flt.log2_lt_of (by decide) hz) (by decide)), ?_⟩
      exact q _ _ (((c1.trans c2).trans c3).trans c4) (B4.mono (by omega)) (len_cut _ m0) (worth_cut (worth_int _) m0)
    · refine ⟨_, rfl, rfl, _, rfl, ite2 (fun e2 => ?_) (fun e2 => ?_)⟩
      · -- near ones
        refine ⟨Evl.sz_of (by decide), fun p hp => ?_⟩
        generalize hxs : HO.lst _ = o
        have hp1 : (upd H1 p o) p = some o := upd_same
        have bp := B1.ne hp
        refine ⟨_, rfl, ?_⟩
        refine rd_draw (N := N + 1) rfl (fun R h => h) (by decide) (by decide) (by omega) (B1.new hp) fun H2 r c2 B2 r0 r1 => ?_
        have hp2 := c2 _ _ bp.symm hp1
        rw [← hxs] at hp2
        obtain ⟨v, hv, ev⟩ := at_lt (xs := ([.str "07", .str "-0", .str "+1", .str "1a", .str "-", .str "--5", .str "+-3x", .str "00", .str "1 ", .str "1.0", .str "-01", .str "-5-", .str "+", .str "0x1", .str "- 5", .str "1e3"] : List V)) r0 r1
        obtain ⟨x, rfl, hx, hl⟩ : ∃ x : Str, v = .str x ∧ WorthS x ∧ x.length ≤ 9 := by
          have key : ∀ v ∈ ([.str "07", .str "-0", .str "+1", .str "1a", .str "-", .str "--5", .str "+-3x", .str "00", .str "1 ", .str "1.0", .str "-01", .str "-5-", .str "+", .str "0x1", .str "- 5", .str "1e3"] : List V), ∃ x : Str, v = .str x ∧ WorthS x ∧ x.length ≤ 9 := by
            intro v hv
            simp only [List.mem_cons, List.not_mem_nil, or_false] at hv
            rcases hv with rfl | rfl | rfl | rfl | rfl | rfl | rfl | rfl | rfl | rfl | rfl | rfl | rfl | rfl | rfl | rfl <;> exact ⟨_, rfl, by decide +kernel, by decide +kernel⟩
          exact key v hv
        refine ⟨p, _, r, _, rfl, rfl, .inl (.inl hp2), ev, ?_⟩
        refine ⟨_, rfl, _, rfl, x, rfl, Evl.sz_of (by omega), ?_⟩
        exact q _ _ ((c1.trans (.new hp)).trans c2) (B2.mono (by omega)) (len_cut _ m0) (worth_cut hx m0)
      · refine ⟨_, rfl, rfl, _, rfl, ite2 (fun e3 => ?_) (fun e3 => ?_)⟩
        · -- joints
          refine ⟨Evl.sz_of (by decide), fun p hp => ?_⟩
          generalize hxs : HO.lst _ = o
          have hp1 : (upd H1 p o) p = some o := upd_same
          have bp := B1.ne hp
          have cp : Chg b H1 (upd H1 p o) := .new hp
          refine ⟨⟨_, rfl⟩, ?_⟩
          refine rd_draw (N := N + 1) rfl (fun R h => h) (by decide) (by decide) (by omega) (B1.new hp) fun H2 n c2 B2 n0 n1 => ?_
          refine ⟨_, _, rfl, rfl, _, rfl, by omega, by omega, fun D hD => ?_⟩
          have hp2 := c2 _ _ bp.symm hp1
          rw [← hxs] at hp2
          refine lc_draws (N := N + 2) (c := 1) (n := (1 + n).toNat) (fun v => ∃ x : Str, v = .str x ∧ WorthS x ∧ x.length ≤ 9) (by omega) hD B2 (fun H3 M k c3 B3 hM R q3 => ?_) (by decide) (fun H3 ys yl hy c3 B3 e3 => ?_)
          · refine ⟨_, rfl, ?_⟩
            refine rd_draw (N := M) rfl (fun R h => h) (by decide) (by decide) (by omega) B3 fun H4 r c4 B4 r0 r1 => ?_
            obtain ⟨v, hv, ev⟩ := at_lt (xs := ([.str "; ", .str ":", .str "=", .str ",", .str "|", .str "|  ", .str ")", .str "(", .str "\"", .str "\"\"", .str ")=\"", .str "; write 1", .str "=\"", .str "x", .str " "] : List V)) r0 r1
            have key : ∀ v ∈ ([.str "; ", .str ":", .str "=", .str ",", .str "|", .str "|  ", .str ")", .str "(", .str "\"", .str "\"\"", .str ")=\"", .str "; write 1", .str "=\"", .str "x", .str " "] : List V), ∃ x : Str, v = .str x ∧ WorthS x ∧ x.length ≤ 9 := by
              intro v hv
              simp only [List.mem_cons, List.not_mem_nil, or_false] at hv
              rcases hv with rfl | rfl | rfl | rfl | rfl | rfl | rfl | rfl | rfl | rfl | rfl | rfl | rfl | rfl | rfl <;> exact ⟨_, rfl, by decide +kernel, by decide +kernel⟩
            exact ⟨p, _, r, _, rfl, rfl, .inl (.inl (c4 _ _ bp.symm (c3 _ _ bp.symm hp2))), ev, q3 _ _ c4 B4 (key v hv)⟩
          · obtain ⟨zs, rfl, hz⟩ := strs_of hy
            have hs := sum_le (c := 9) fun z h => (hz z h).2
            have he : (Str.ofString "").length = 0 := by decide +kernel
            rw [List.length_map] at yl
            refine ⟨_, D, zs, rfl, rfl, .inl (.inl (.inl e3)), (by rw [he]; omega), ?_⟩
            have hlen : (Txt.join (Str.ofString "") zs).length ≤ 9 * zs.length := by
              refine Nat.le_trans (Nat.le_of_eq ?_) hs
              rw [len_tl, tl_join0 empty_tl, List.length_flatten, List.map_map]
              exact congrArg List.sum (List.map_congr_left fun z _ => (len_tl z).symm)
            refine ⟨_, rfl, _, rfl, _, rfl, Evl.sz_of (by omega), ?_⟩
            exact q _ _ (((c1.trans cp).trans c2).trans c3) (B3.mono (by omega)) (len_cut _ m0) (worth_cut (worth_join empty_tl fun z h => (hz z h).1) m0)
        · -- of few signs, of any
          have l3 : 3 ≤ lot ∧ lot ≤ 5 := by
            have h1 := of_decide_eq_false (Bool.eq_false_iff.mpr e)
            have h2 := of_decide_eq_false (Bool.eq_false_iff.mpr e2)
            have h3 := of_decide_eq_false (Bool.eq_false_iff.mpr e3)
            have h2' : lot ≠ 2 := fun z => h2 (congrArg V.int z)
            have h3' : lot ≠ 6 := fun z => h3 (congrArg V.int z)
            omega
          refine ⟨rfl, Evl.sz_of (by decide), fun p hp => ?_⟩
          have cp : Chg b H1 (upd H1 p (.lst [.str "0123456789+-a ", .str "ab", .str lawSigns])) := .new hp
          have bp := B1.ne hp
          refine ⟨_, rfl, _, _, rfl, rfl, ?_⟩
          obtain ⟨v, hv, ev⟩ := at_lt (xs := ([.str "0123456789+-a ", .str "ab", .str lawSigns] : List V)) (r := lot - 3) (by omega) (by show lot - 3 < 3; omega)
          obtain ⟨x, rfl, hx, hl⟩ : ∃ x : Str, v = .str x ∧ WorthS x ∧ 0 < x.length ∧ x.length ≤ 100 := by
            simp only [List.mem_cons, List.not_mem_nil, or_false] at hv
            rcases hv with rfl | rfl | rfl <;> exact ⟨_, rfl, by decide +kernel, by decide +kernel, by decide +kernel⟩
          refine ⟨p, _, _, _, rfl, rfl, .inl (.inl upd_same), ev, ?_⟩
          refine rd_draw (N := N + 1) rfl (fun R h => ⟨_, rfl, _, _, rfl, rfl, h⟩) (by omega) (by omega) (by omega) (B1.new hp) fun H2 r c2 B2 r0 r1 => ?_
          refine ⟨Evl.sz_of (by show 3 ≤ 100000; decide), fun p2 hp2 => ?_⟩
          have bp2 := B2.ne hp2
          refine rd_draw (N := N + 2) rfl (fun R h => h) (by decide) (by decide) (by omega) (B2.new hp2) fun H3 r3 c3 B3 r30 r31 => ?_
          obtain ⟨v, hv, ev⟩ := at_lt (xs := ([.int 1, .int 2, .int r] : List V)) r30 r31
          obtain ⟨k, rfl, k0⟩ : ∃ k : Int, v = .int k ∧ 0 ≤ k := by
            simp only [List.mem_cons, List.not_mem_nil, or_false] at hv
            rcases hv with rfl | rfl | rfl
            · exact ⟨1, rfl, by decide⟩
            · exact ⟨2, rfl, by decide⟩
            · exact ⟨r, rfl, r0⟩
          have hp23 : H3 p2 = some (.lst [.int 1, .int 2, .int r]) := c3 _ _ bp2.symm upd_same
          refine ⟨p2, _, _, _, rfl, rfl, .inl (.inl hp23), ev, ?_⟩
          refine ⟨⟨_, rfl⟩, ?_⟩
          refine ⟨_, rfl, _, rfl, _, _, rfl, ?_⟩
          obtain ⟨n, hn, n0, nm⟩ : ∃ n, n = (if m < k then m else k) ∧ 0 ≤ n ∧ n ≤ m := ⟨_, rfl, by split <;> omega, by split <;> omega⟩
          rw [← hn]
          refine ⟨_, rfl, by omega, by omega, fun D hD => ?_⟩
          refine lc_draws (N := N + 3) (c := 1) (n := n.toNat) (fun v => ∃ y : Str, v = .str y ∧ WorthS y ∧ y.length = 1) (by omega) hD B3 (fun H4 M kk c4 B4 hM R q4 => ?_) (by decide) (fun H4 ys yl hy c4 B4 e4 => ?_)
          · refine ⟨_, rfl, ?_⟩
            refine rd_draw (m := x.length) (N := M) rfl (fun R h => ⟨_, rfl, x, rfl, Evl.sz_of (by omega), h⟩) (by omega) (by omega) (by omega) B4 fun H5 j c5 B5 j0 j1 => ?_
            obtain ⟨c, hc, ec⟩ := at_lt (xs := tl x) j0 (by rw [← len_tl]; exact j1)
            exact ⟨x, j, c, rfl, rfl, Evl.sz_of (by omega), ec, q4 _ _ c5 B5 ⟨_, rfl, worth_sign (hx c hc), rfl⟩⟩
          · obtain ⟨zs, rfl, hz⟩ := strs_of hy
            have hs := sum_le (c := 1) fun z h => Nat.le_of_eq (hz z h).2
            have he : (Str.ofString "").length = 0 := by decide +kernel
            rw [List.length_map] at yl
            refine ⟨_, D, zs, rfl, rfl, .inl (.inl (.inl e4)), (by rw [he]; omega), ?_⟩
            have hlen := len_join1 (e := Str.ofString "") empty_tl fun z h => (hz z h).2
            exact q _ _ ((((c1.trans cp).trans c2).trans ((Chg.new hp2).trans c3)).trans c4) (B4.mono (by omega)) (by omega) (worth_join empty_tl fun z h => (hz z h).1)
theorem ok_law_name (T : Txt K mg A) : FnOk P w K mg base CX0 2 A.a_law_name A.d_law_name ["bag"] spName := by
  have G_law_draw := ok_law_draw (P := P) (w := w) (base := base) T
  refine T.F_law_name.ok sc_law_name (fun vs H Q E h => ?_) (fun cdv A outer s H vs Q E hr h => ?_)
  · obtain ⟨b, N, rfl, _⟩ := h
    rfl
  · obtain ⟨b, N, rfl, hN, hB, q⟩ := h
    refine ⟨_, (pss_cons (ps_set (i := 1) sc_law_name.nd rfl (.inr rfl) (pe_ix (k_ix_list K) (pe_lst (pa_cons pe_str (pa_cons pe_str pa_nil))) (pe_call G_law_draw (hr.mono (by omega)) (by rfl) T.g_law_draw T.F_law_draw.kp T.b_law_draw .nil pass0 (pa_cons (pv 0) (pa_cons pe_int pa_nil))) (fun _ _ => rfl)))
      (pss_cons (ps_set (i := 2) sc_law_name.nd rfl (.inl rfl) (pe_ix (k_ix_list K) (pe_lst (pa_cons pe_int (pa_cons pe_int (pa_cons (pe_op op_add pe_int (pe_call G_law_draw (hr.mono (by omega)) (by rfl) T.g_law_draw T.F_law_draw.kp T.b_law_draw .nil pass0 (pa_cons (pv 0) (pa_cons pe_int pa_nil)))) pa_nil)))) (pe_call G_law_draw (hr.mono (by omega)) (by rfl) T.g_law_draw T.F_law_draw.kp T.b_law_draw .nil pass0 (pa_cons (pv 0) (pa_cons pe_int pa_nil))) (fun _ _ => rfl)))
      (pss_one (ps_ret (pe_m1 PySem.F.slot_str_join PySem.F.type_str_join (k_mt_join K) pe_str (pe_lc (own := [("k", 3)]) (g := gName 3) (tt := tYes) rfl sc_law_name.nd (pi_range1 (by rfl) T.n_range (pa_cons (pv 2) pa_nil)) (blkOk_by (own := [("k", 3)]) (N := N_law_name) (sc := defScope s_law_name) (by decide +kernel)) (fun _ _ _ _ _ => (pg_name (i := 3) sc_law_name.nd rfl (.inl rfl))) (fun _ _ _ _ _ => pts_nil) (fun _ _ _ _ _ => (pe_ix ix_str (pv 1) (pe_call G_law_draw (hr.mono (by omega)) (by rfl) T.g_law_draw T.F_law_draw.kp T.b_law_draw .nil pass0 (pa_cons (pv 0) (pa_cons (pe_callB call_len_str (by rfl) T.n_len PySem.boot_len (pa_cons (pv 1) pa_nil)) pa_nil))) (fun _ _ => rfl))))))))), ?_⟩
    refine rd_menu (xs := [.str "abcdefghijklmnopqrstuvwxyz", .str "ab"]) (N := N) (fun R h => h) rfl rfl (by decide) (by decide) (by omega) hB fun H1 v hv c1 B1 => ?_
    obtain ⟨x, rfl, hx, hl⟩ : ∃ x : Str, v = .str x ∧ (∀ c ∈ tl x, 97 ≤ c ∧ c ≤ 122) ∧ 0 < x.length ∧ x.length ≤ 100 := by
      simp only [List.mem_cons, List.not_mem_nil, or_false] at hv
      rcases hv with rfl | rfl <;> exact ⟨_, rfl, by decide +kernel, by decide +kernel, by decide +kernel⟩
    refine rd_draw (N := N + 1) rfl (fun R h => h) (by decide) (by decide) (by omega) B1 fun H2 r c2 B2 r0 r1 => ?_
    refine ⟨_, _, rfl, rfl, Evl.sz_of (by show 3 ≤ 100000; decide), fun p hp => ?_⟩
    have bp := B2.ne hp
    refine rd_draw (N := N + 2) rfl (fun R h => h) (by decide) (by decide) (by omega) (B2.new hp) fun H3 r3 c3 B3 r30 r31 => ?_
    obtain ⟨v, hv, ev⟩ := at_lt (xs := ([.int 1, .int 2, .int (1 + r)] : List V)) r30 r31
    obtain ⟨k, rfl, k0, k1⟩ : ∃ k : Int, v = .int k ∧ 1 ≤ k ∧ k ≤ 8 := by
      simp only [List.mem_cons, List.not_mem_nil, or_false] at hv
      rcases hv with rfl | rfl | rfl
      · exact ⟨1, rfl, by decide, by decide⟩
      · exact ⟨2, rfl, by decide, by decide⟩
      · exact ⟨1 + r, rfl, by omega, by omega⟩
    have hp3 : H3 p = some (.lst [.int 1, .int 2, .int (1 + r)]) := c3 _ _ bp.symm upd_same
    refine ⟨p, _, _, _, rfl, rfl, .inl (.inl hp3), ev, ?_⟩
    refine ⟨⟨_, rfl⟩, ?_⟩
    refine ⟨_, rfl, _, rfl, by omega, by omega, fun D hD => ?_⟩
    refine lc_draws (N := N + 3) (c := 1) (n := k.toNat) (fun v => ∃ y : Str, v = .str y ∧ (∀ c ∈ tl y, 97 ≤ c ∧ c ≤ 122) ∧ y.length = 1) (by omega) hD B3 (fun H4 M kk c4 B4 hM R q4 => ?_) (by decide) (fun H4 ys yl hy c4 B4 e4 => ?_)
    · refine ⟨_, rfl, ?_⟩
      refine rd_draw (m := x.length) (N := M) rfl (fun R h => ⟨_, rfl, x, rfl, Evl.sz_of (by omega), h⟩) (by omega) (by omega) (by omega) B4 fun H5 j c5 B5 j0 j1 => ?_
      obtain ⟨c, hc, ec⟩ := at_lt (xs := tl x) j0 (by rw [← len_tl]; exact j1)
      refine ⟨x, j, c, rfl, rfl, Evl.sz_of (by omega), ec, q4 _ _ c5 B5 ⟨_, rfl, fun d hd => ?_, rfl⟩⟩
      have : d = c := by simpa [tl] using hd
      rw [this]
      exact hx c hc
    · obtain ⟨zs, rfl, hz⟩ := strs_of hy
      have hs := sum_le (c := 1) fun z h => Nat.le_of_eq (hz z h).2
      have he : (Str.ofString "").length = 0 := by decide +kernel
      rw [List.length_map] at yl
      refine ⟨_, D, zs, rfl, rfl, .inl (.inl (.inl e4)), (by rw [he]; omega), ?_⟩
      have hlen := len_join1 (e := Str.ofString "") empty_tl fun z h => (hz z h).2
      refine q _ _ (((c1.trans c2).trans ((Chg.new hp).trans c3)).trans c4) (B4.mono (by omega)) ⟨by omega, by omega, fun c hc => ?_⟩
      rw [tl_join0 empty_tl, List.mem_flatten] at hc
      obtain ⟨l, hl, hc⟩ := hc
      obtain ⟨y, hy, rfl⟩ := List.mem_map.mp hl
      exact (hz y hy).1 c hc
theorem ok_law_key (T : Txt K mg A) : FnOk P w K mg base CX0 3 A.a_law_key A.d_law_key ["bag"] spKey := by
  have G_law_draw := ok_law_draw (P := P) (w := w) (base := base) T
  have G_law_text := ok_law_text (P := P) (w := w) (base := base) T
  refine T.F_law_key.ok sc_law_key (fun vs H Q E h => ?_) (fun cdv A outer s H vs Q E hr h => ?_)
  · obtain ⟨b, N, rfl, _⟩ := h
    rfl
  · obtain ⟨b, N, rfl, hN, hB, q⟩ := h
    refine ⟨_, (pss_cons (ps_set (i := 1) sc_law_key.nd rfl (.inl rfl) (pe_call G_law_text (hr.mono (by decide)) (by rfl) T.g_law_text T.F_law_text.kp T.b_law_text .nil pass0 (pa_cons (pv 0) (pa_cons (pe_ix (k_ix_list K) (pe_lst (pa_cons pe_int (pa_cons pe_int (pa_cons pe_int pa_nil)))) (pe_call G_law_draw (hr.mono (by omega)) (by rfl) T.g_law_draw T.F_law_draw.kp T.b_law_draw .nil pass0 (pa_cons (pv 0) (pa_cons pe_int pa_nil))) (fun _ _ => rfl)) pa_nil))))
      (pss_one (ps_ret (pe_ifExp (pt_cmpR op_ne (pv 1) pe_str (nomark _)) (pv 1) pe_str)))), ?_⟩
    refine ⟨_, rfl, ?_⟩
    refine rd_menu (xs := [.int 3, .int 8, .int 40]) (N := N) (fun R h => h) rfl rfl (by decide) (by decide) (by omega) hB fun H1 v hv c1 B1 => ?_
    obtain ⟨m, rfl, m0, m1⟩ : ∃ k : Int, v = .int k ∧ 1 ≤ k ∧ k ≤ 40 := by
      simp only [List.mem_cons, List.not_mem_nil, or_false] at hv
      rcases hv with rfl | rfl | rfl <;> exact ⟨_, rfl, by decide, by decide⟩
    refine ⟨b, m, N + 1, rfl, by omega, by omega, by omega, B1, fun H2 x c2 B2 hl hx => ?_⟩
    have B3 := B2.mono (M := N + 2001) (by omega)
    refine ⟨_, rfl, rfl, _, rfl, ite2 (fun e => ?_) (fun e => ?_)⟩
    · refine ⟨_, rfl, q _ x (c1.trans c2) B3 ⟨?_, by omega, hx⟩⟩
      have h1 : x ≠ Str.ofString "" := by
        intro z
        subst z
        exact absurd e (by decide)
      have h2 : x.length ≠ 0 := by
        intro z
        refine h1 (tl_inj ?_)
        rw [empty_tl]
        exact List.length_eq_zero_iff.mp (by rw [← len_tl]; exact z)
      omega
    · exact q _ _ (c1.trans c2) B3 ⟨by decide +kernel, by decide +kernel, by decide +kernel⟩
theorem ok_law_ref (T : Txt K mg A) : FnOk P w K mg base CX0 4 A.a_law_ref A.d_law_ref ["bag"] spRef := by
  have G_law_draw := ok_law_draw (P := P) (w := w) (base := base) T
  have G_law_name := ok_law_name (P := P) (w := w) (base := base) T
  have G_law_key := ok_law_key (P := P) (w := w) (base := base) T
  refine T.F_law_ref.ok sc_law_ref (fun vs H Q E h => ?_) (fun cdv A outer s H vs Q E hr h => ?_)
  · obtain ⟨b, N, rfl, _⟩ := h
    rfl
  · obtain ⟨b, N, rfl, hN, hB, q⟩ := h
    refine ⟨_, (pss_cons (ps_set (i := 1) sc_law_ref.nd rfl (.inl rfl) (pe_ix (k_ix_list K) (pe_lst (pa_cons pe_int (pa_cons pe_int (pa_cons pe_int (pa_cons pe_int (pa_cons pe_int pa_nil)))))) (pe_call G_law_draw (hr.mono (by omega)) (by rfl) T.g_law_draw T.F_law_draw.kp T.b_law_draw .nil pass0 (pa_cons (pv 0) (pa_cons pe_int pa_nil))) (fun _ _ => rfl)))
      (pss_one (ps_ret (pe_tup (pa_cons (pe_call G_law_name (hr.mono (by decide)) (by rfl) T.g_law_name T.F_law_name.kp T.b_law_name .nil pass0 (pa_cons (pv 0) pa_nil)) (pa_cons (pe_callTy (k_tuple K) (by rfl) T.n_tuple (by decide +kernel) (pa_cons (pe_lc (own := [("k", 2)]) (g := gName 2) (tt := tYes) rfl sc_law_ref.nd (pi_range1 (by rfl) T.n_range (pa_cons (pv 1) pa_nil)) (blkOk_by (own := [("k", 2)]) (N := N_law_ref) (sc := defScope s_law_ref) (by decide +kernel)) (fun _ _ _ _ _ => (pg_name (i := 2) sc_law_ref.nd rfl (.inl rfl))) (fun _ _ _ _ _ => pts_nil) (fun _ _ _ _ _ => (pe_call G_law_key (hr.mono (by decide)) (by rfl) T.g_law_key T.F_law_key.kp T.b_law_key .nil pass0 (pa_cons (pv 0) pa_nil)))) pa_nil)) pa_nil)))))), ?_⟩
    refine rd_menu (xs := [.int 0, .int 1, .int 2, .int 3, .int 6]) (N := N) (fun R h => h) rfl rfl (by decide) (by decide) (by omega) hB fun H1 v hv c1 B1 => ?_
    obtain ⟨m, rfl, m0, m1⟩ : ∃ k : Int, v = .int k ∧ 0 ≤ k ∧ k ≤ 6 := by
      simp only [List.mem_cons, List.not_mem_nil, or_false] at hv
      rcases hv with rfl | rfl | rfl | rfl | rfl <;> exact ⟨_, rfl, by decide, by decide⟩
    refine ⟨_, rfl, b, N + 1, rfl, by omega, B1, fun H2 n c2 B2 hn => ?_⟩
    refine ⟨_, rfl, _, rfl, by omega, by omega, fun D hD => ?_⟩
    refine lc_draws (N := N + 21) (c := 2001) (n := m.toNat) (fun v => ∃ y : Str, v = .str y ∧ KeyS y) (by omega) hD B2 (fun H4 M kk c4 B4 hM R q4 => ?_) (by decide) (fun H4 ys yl hy c4 B4 e4 => ?_)
    · exact ⟨_, rfl, b, M, rfl, by omega, B4, fun H5 s c5 B5 hs => q4 _ _ c5 B5 ⟨s, rfl, hs⟩⟩
    · obtain ⟨zs, rfl, hz⟩ := strs_of hy
      rw [List.length_map] at yl
      refine ⟨D, _, rfl, .inl ⟨.inl (.inl e4), fun kt hkt => ?_⟩⟩
      refine ⟨Evl.sz_of (by show 2 ≤ 100000; decide), fun a ha => ?_⟩
      have nk := ne_of_none (upd_same (H := H4) (a := kt) (o := .tup (zs.map V.str))) ha
      exact q _ _ n zs (((c1.trans c2).trans c4).trans ((Chg.new hkt).trans (Chg.new ha))) (((B4.new hkt).new ha).mono (by omega))
        ⟨a, kt, rfl, upd_same, by rw [upd_ne nk]; exact upd_same⟩ ⟨hn, by omega, hz⟩
theorem ok_is_worth (T : Txt K mg A) : FnOk P w K mg base CX0 1 A.a_is_worth A.d_is_worth ["thing"] (spThing isWorthD) := by
  refine T.F_is_worth.ok sc_is_worth (fun vs H Q E h => ?_) (fun cdv A outer s H vs Q E hr h => ?_)
  · obtain ⟨v, d, rfl, _⟩ := h
    rfl
  · obtain ⟨v, d, rfl, r, hb, q⟩ := h
    refine ⟨_, (pss_one (ps_ret (pe_and (pe_callB (k_isi K) (by rfl) T.n_isinstance (by decide +kernel) (pa_cons (pv 0) (pa_cons (pe_bltn (v := .ty "str") (by rfl) T.n_str (by decide +kernel) rfl) pa_nil))) (pe_one (pe_callB (k_all K) (by rfl) T.n_all (by decide +kernel) (pa_cons (pe_lc (own := [("sign", 1)]) (g := gName 1) (tt := tYes) rfl sc_is_worth.nd (pi_str (pv 0)) (blkOk_by (own := [("sign", 1)]) (N := N_is_worth) (sc := defScope s_is_worth) (by decide +kernel)) (fun _ _ _ _ _ => (pg_name (i := 1) sc_is_worth.nd rfl (.inl rfl))) (fun _ _ _ _ _ => pts_nil) (fun _ _ _ _ _ => (pe_cmpR op_inS (pv 1) (pe_glob (v := .str (Str.ofString " !\"#$&'()*+,-./0123456789:;<=>?@ABCDEFGHIJKLMNOPQRSTUVWXYZ[\\]^_`abcdefghijklmnopqrstuvwxyz{|}~")) rfl T.c_SIGNS ⟨_, rfl⟩) (by rfl)))) pa_nil)))))), ?_⟩
    refine ⟨_, rfl, v, .ty "str", _, _, _, rfl, .ty "str", r.ty, kit_inst (d := d) (T := "str") (by decide), ⟨_, rfl, ite2 (fun e => ?_) (fun e => ?_)⟩⟩
    · cases r with
      | str x =>
        have hx : x.length ≤ 100000 := by cases hb; assumption
        refine ⟨_, rfl, x, rfl, fun D hD => ?_⟩
        refine lc_pure_str (fun _ => true) (fun c => .bl (decide (Wc c))) hx hD (fun c H2 _ s2 R q2 => q2 _ (.refl _)) (fun c H2 _ _ s2 R q2 => ?_) (fun H2 s2 e2 => ?_)
        · refine ⟨_, rfl, c, _, rfl, rfl, ?_⟩
          rw [show (Str.ofString " !\"#$&'()*+,-./0123456789:;<=>?@ABCDEFGHIJKLMNOPQRSTUVWXYZ[\\]^_`abcdefghijklmnopqrstuvwxyz{|}~") = lawSigns from rfl, lawSigns_dec]
          exact q2 _ (.refl _)
        · rw [all_bools] at e2
          refine ⟨D, _, rfl, .inl (.inl e2), ?_⟩
          rw [all_dec]
          exact q _ s2
      | non => cases e
      | bl b => cases e
      | int i => cases e
      | lst h g => cases e
      | tup h g => cases e
      | dct h => cases e
    · have ef : isWorthD d = false := by
        cases r <;> first | rfl | exact absurd rfl e
      rw [ef] at q
      exact q _ (.refl H)
theorem ok_is_name (T : Txt K mg A) : FnOk P w K mg base CX0 1 A.a_is_name A.d_is_name ["thing"] (spThing isNameD) := by
  refine T.F_is_name.ok sc_is_name (fun vs H Q E h => ?_) (fun cdv A outer s H vs Q E hr h => ?_)
  · obtain ⟨v, d, rfl, _⟩ := h
    rfl
  · obtain ⟨v, d, rfl, r, hb, q⟩ := h
    refine ⟨_, (pss_cons (ps_if (PW.pt (pw_or (pt_not (pt_val (pe_callB (k_isi K) (by rfl) T.n_isinstance (by decide +kernel) (pa_cons (pv 0) (pa_cons (pe_bltn (v := .ty "str") (by rfl) T.n_str (by decide +kernel) rfl) pa_nil))))) (pw_or1 (pt_not (pt_chain op_le op_le pe_int (pe_callB call_len_str (by rfl) T.n_len PySem.boot_len (pa_cons (pv 0) pa_nil)) (pe_glob (v := .int 8) rfl T.c_MOST_LETTERS ⟨_, rfl⟩))))))
      (pss_one (ps_ret pe_bl))
      pss_nil)
      (pss_one (ps_ret (pe_callB (k_all K) (by rfl) T.n_all (by decide +kernel) (pa_cons (pe_lc (own := [("sign", 1)]) (g := gName 1) (tt := tYes) rfl sc_is_name.nd (pi_str (pv 0)) (blkOk_by (own := [("sign", 1)]) (N := N_is_name) (sc := defScope s_is_name) (by decide +kernel)) (fun _ _ _ _ _ => (pg_name (i := 1) sc_is_name.nd rfl (.inl rfl))) (fun _ _ _ _ _ => pts_nil) (fun _ _ _ _ _ => (pe_cmpR op_inS (pv 1) (pe_glob (v := .str (Str.ofString "abcdefghijklmnopqrstuvwxyz")) rfl T.c_LETTERS ⟨_, rfl⟩) (by rfl)))) pa_nil))))), ?_⟩
    refine ⟨_, rfl, v, .ty "str", _, _, _, rfl, .ty "str", r.ty, kit_inst (d := d) (T := "str") (by decide), ⟨_, rfl, ite2 (fun e => ?_) (fun e => ?_)⟩⟩
    · have ef : isNameD d = false := by
        cases r <;> first | rfl | cases e
      refine iteT ?_
      rw [ef] at q
      exact q _ (.refl H)
    · cases r with
      | str x =>
        have hx : x.length ≤ 100000 := by cases hb; assumption
        refine ⟨_, rfl, x, rfl, Evl.sz_of hx, _, _, rfl, rfl, _, rfl, ?_⟩
        have fin : ∀ b : Bool, b = (decide (1 ≤ x.length) && decide (x.length ≤ 8)) → (if (!b) = true then Q (.bl false) H else tRet (tCB (rAll K) (tCons (tLc (iStr (tVar 0)) (gName 1) tYes (tOp rInS (tVar 1) (tC (.str "abcdefghijklmnopqrstuvwxyz"))) [1]) tNil)) { nx := fun _ H' => Q .non H', rt := Q } [some (.str x), none] H) := by
          intro b hbb
          cases hb2 : b with
          | false =>
            refine iteT ?_
            have ef : isNameD (.str x) = false := by
              show ((decide (1 ≤ x.length) && decide (x.length ≤ 8)) && _) = false
              rw [← hbb, hb2]
              rfl
            rw [ef] at q
            exact q _ (.refl H)
          | true =>
            refine iteF ⟨_, rfl, x, rfl, fun D hD => ?_⟩
            refine lc_pure_str (fun _ => true) (fun c => .bl (decide (97 ≤ c ∧ c ≤ 122))) hx hD (fun c H2 _ s2 R q2 => q2 _ (.refl _)) (fun c H2 _ _ s2 R q2 => ?_) (fun H2 s2 e2 => ?_)
            · refine ⟨_, rfl, c, _, rfl, rfl, ?_⟩
              rw [letters_mem]
              exact q2 _ (.refl _)
            · rw [all_bools] at e2
              refine ⟨D, _, rfl, .inl (.inl e2), ?_⟩
              have ef : isNameD (.str x) = ((tl x).map fun c => decide (97 ≤ c ∧ c ≤ 122)).all id := by
                show ((decide (1 ≤ x.length) && decide (x.length ≤ 8)) && _) = _
                rw [← hbb, hb2, Bool.true_and, List.all_map]
                rfl
              rw [ef] at q
              exact q _ s2
        by_cases h1 : 1 ≤ x.length
        · rw [decide_eq_true (show (1 : Int) ≤ (x.length : Int) by omega)]
          refine iteT ⟨_, _, rfl, rfl, _, rfl, ?_⟩
          have h2 : decide ((x.length : Int) ≤ 8) = decide (x.length ≤ 8) := decide_eq_decide.mpr (by omega)
          rw [h2]
          have := fin (decide (x.length ≤ 8)) (by rw [decide_eq_true h1, Bool.true_and])
          cases h3 : decide (x.length ≤ 8) with
          | false => rw [h3] at this; exact iteT (iteT_of this rfl)
          | true => rw [h3] at this; exact iteF (iteF_of this rfl)
        · rw [decide_eq_false (show ¬ (1 : Int) ≤ (x.length : Int) by omega)]
          refine iteF ⟨_, rfl, iteT ?_⟩
          have := fin false (by rw [decide_eq_false h1, Bool.false_and])
          exact iteT_of this rfl
      | non => exact absurd rfl e
      | bl b => exact absurd rfl e
      | int i => exact absurd rfl e
      | lst h g => exact absurd rfl e
      | tup h g => exact absurd rfl e
      | dct h => exact absurd rfl e
theorem ok_is_key (T : Txt K mg A) : FnOk P w K mg base CX0 2 A.a_is_key A.d_is_key ["thing"] (spThing isKeyD) := by
  have G_is_worth := ok_is_worth (P := P) (w := w) (base := base) T
  refine T.F_is_key.ok sc_is_key (fun vs H Q E h => ?_) (fun cdv A outer s H vs Q E hr h => ?_)
  · obtain ⟨v, d, rfl, _⟩ := h
    rfl
  · obtain ⟨v, d, rfl, r, hb, q⟩ := h
    refine ⟨_, (pss_one (ps_ret (pe_and (pe_call G_is_worth (hr.mono (by decide)) (by rfl) T.g_is_worth T.F_is_worth.kp T.b_is_worth .nil pass0 (pa_cons (pv 0) pa_nil)) (pe_one (pe_chain op_le op_le pe_int (pe_callB call_len_str (by rfl) T.n_len PySem.boot_len (pa_cons (pv 0) pa_nil)) (pe_glob (v := .int 40) rfl T.c_MOST_SIGNS ⟨_, rfl⟩)))))), ?_⟩
    refine ⟨_, rfl, v, d, rfl, r, hb, fun H1 s1 => ⟨_, rfl, ite2 (fun e => ?_) (fun e => ?_)⟩⟩
    · cases d with
      | str x =>
        cases r
        have hx : x.length ≤ 100000 := by cases hb; assumption
        have e' : decide (WorthS x) = true := e
        refine ⟨_, rfl, x, rfl, Evl.sz_of hx, _, _, rfl, rfl, _, rfl, ?_⟩
        have hq : ∀ b : Bool, b = (decide (1 ≤ x.length) && decide (x.length ≤ 40)) → Q (.bl b) H1 := by
          intro b hb
          have ef : isKeyD (.str x) = b := by
            show (decide (WorthS x) && (decide (1 ≤ x.length) && decide (x.length ≤ 40))) = b
            rw [e', Bool.true_and, hb]
          rw [ef] at q
          exact q _ s1
        by_cases h1 : 1 ≤ x.length
        · rw [decide_eq_true (show (1 : Int) ≤ (x.length : Int) by omega)]
          refine iteT ⟨_, _, rfl, rfl, hq _ ?_⟩
          rw [decide_eq_true h1, Bool.true_and]
          exact decide_eq_decide.mpr (by omega)
        · rw [decide_eq_false (show ¬ (1 : Int) ≤ (x.length : Int) by omega)]
          exact iteF (hq _ (by rw [decide_eq_false h1, Bool.false_and]))
      | none => cases e
      | bool b => cases e
      | int i => cases e
      | list ds => cases e
      | tuple ds => cases e
      | dict ds => cases e
    · have ef : isKeyD d = false := by
        cases d with
        | str x =>
          have e' : decide (WorthS x) = false := Bool.eq_false_iff.mpr e
          show (decide (WorthS x) && _) = false
          rw [e', Bool.false_and]
        | none => rfl
        | bool b => rfl
        | int i => rfl
        | list ds => rfl
        | tuple ds => rfl
        | dict ds => rfl
      rw [ef] at q
      exact q _ s1
theorem ok_is_reference (T : Txt K mg A) : FnOk P w K mg base CX0 3 A.a_is_reference A.d_is_reference ["thing"] (spThing isRefD) := by
  have G_is_name := ok_is_name (P := P) (w := w) (base := base) T
  have G_is_key := ok_is_key (P := P) (w := w) (base := base) T
  refine T.F_is_reference.ok sc_is_reference (fun vs H Q E h => ?_) (fun cdv A outer s H vs Q E hr h => ?_)
  · obtain ⟨v, d, rfl, _⟩ := h
    rfl
  · obtain ⟨v, d, rfl, r, hb, q⟩ := h
    refine ⟨_, (pss_cons (ps_if (PW.pt (pw_or (pt_not (pt_val (pe_callB (k_isi K) (by rfl) T.n_isinstance (by decide +kernel) (pa_cons (pv 0) (pa_cons (pe_bltn (v := .ty "tuple") (by rfl) T.n_tuple (by decide +kernel) rfl) pa_nil))))) (pw_or1 (pt_cmpR op_ne (pe_callB (k_len K) (by rfl) T.n_len PySem.boot_len (pa_cons (pv 0) pa_nil)) pe_int (nomark _)))))
      (pss_one (ps_ret pe_bl))
      pss_nil)
      (pss_cons (ps_asg (pv 0) (pg_tup rfl (pgs_cons (pg_name (i := 1) sc_is_reference.nd rfl (.inl rfl)) (pgs_cons (pg_name (i := 2) sc_is_reference.nd rfl (.inl rfl)) pgs_nil))))
      (pss_cons (ps_if (PW.pt (pw_or (pt_not (pt_val (pe_call G_is_name (hr.mono (by decide)) (by rfl) T.g_is_name T.F_is_name.kp T.b_is_name .nil pass0 (pa_cons (pv 1) pa_nil)))) (pw_or (pt_not (pt_val (pe_callB (k_isi K) (by rfl) T.n_isinstance (by decide +kernel) (pa_cons (pv 2) (pa_cons (pe_bltn (v := .ty "tuple") (by rfl) T.n_tuple (by decide +kernel) rfl) pa_nil))))) (pw_or1 (pt_cmpR op_gt (pe_callB (k_len K) (by rfl) T.n_len PySem.boot_len (pa_cons (pv 2) pa_nil)) (pe_glob (v := .int 6) rfl T.c_MOST_KEYS ⟨_, rfl⟩) (nomark _))))))
      (pss_one (ps_ret pe_bl))
      pss_nil)
      (pss_one (ps_ret (pe_callB (k_all K) (by rfl) T.n_all (by decide +kernel) (pa_cons (pe_lc (own := [("key", 3)]) (g := gName 3) (tt := tYes) rfl sc_is_reference.nd (k_pi_tup K (pv 2)) (blkOk_by (own := [("key", 3)]) (N := N_is_reference) (sc := defScope s_is_reference) (by decide +kernel)) (fun _ _ _ _ _ => (pg_name (i := 3) sc_is_reference.nd rfl (.inl rfl))) (fun _ _ _ _ _ => pts_nil) (fun _ _ _ _ _ => (pe_call G_is_key (hr.mono (by decide)) (by rfl) T.g_is_key T.F_is_key.kp T.b_is_key .nil pass0 (pa_cons (pv 3) pa_nil)))) pa_nil))))))), ?_⟩
    refine ⟨_, rfl, v, .ty "tuple", _, _, _, rfl, .ty "tuple", r.ty, kit_inst (d := d) (T := "tuple") (by decide), _, rfl, ite2 (fun e => ?_) (fun e => ?_)⟩
    · have ef : isRefD d = false := by
        cases r <;> first | rfl | cases e
      refine iteT ?_
      rw [ef] at q
      exact q _ (.refl H)
    cases r with
    | non => exact absurd rfl e
    | bl b => exact absurd rfl e
    | int i => exact absurd rfl e
    | str x => exact absurd rfl e
    | lst h g => exact absurd rfl e
    | dct h => exact absurd rfl e
    | @tup a xs ds h g =>
      refine ⟨_, rfl, a, xs, rfl, .inr (.inl (.inl h)), rfl, _, rfl, ite2 (fun e2 => ?_) (fun e2 => ?_)⟩
      · have hl : ds.length ≠ 2 := by
          rw [← g.len]
          intro z
          rw [z, decide_eq_true (by rfl)] at e2
          cases e2
        have ef : isRefD (.tuple ds) = false := by
          match ds, hl with
          | [], _ => rfl
          | [_], _ => rfl
          | [_, _], hl => exact absurd rfl hl
          | _ :: x :: _ :: _, _ => cases x <;> rfl
        rw [ef] at q
        exact q _ (.refl H)
      · have hl : xs.length = 2 := by
          refine Decidable.byContradiction fun z => e2 ?_
          rw [decide_eq_false]
          · rfl
          · intro y
            have := V.int.inj y
            exact z (by omega)
        obtain ⟨x1, x2, rfl⟩ : ∃ x1 x2, xs = [x1, x2] := by
          match xs, hl with
          | [x1, x2], _ => exact ⟨x1, x2, rfl⟩
        cases g with
        | @cons _ _ d1 _ g1 g =>
        cases g with
        | @cons _ _ d2 _ g2 g =>
        cases g
        refine ⟨_, rfl, a, [x1, x2], rfl, .inl (.inl h), rfl, x1, [x2], rfl, x2, [], rfl, rfl, ?_⟩
        have hb1 : Bnd 100000 d1 := by cases hb with | tup h a => exact a d1 List.mem_cons_self
        have hb2 : Bnd 100000 d2 := by cases hb with | tup h a => exact a d2 (List.mem_cons_of_mem _ List.mem_cons_self)
        refine ⟨_, rfl, x1, d1, rfl, g1, hb1, fun H1 s1 => ⟨_, rfl, ite2 (fun e3 => ?_) (fun e3 => ?_)⟩⟩
        · have ef : isRefD (.tuple [d1, d2]) = false := by
            have e3 : isNameD d1 = false := by
              cases hh : isNameD d1 with
              | false => rfl
              | true => rw [hh] at e3; cases e3
            cases d2 <;> first | rfl | (show (isNameD d1 && _) = false; rw [e3, Bool.false_and])
          refine iteT ?_
          rw [ef] at q
          exact q _ s1
        have e3 : isNameD d1 = true := by
          cases hh : isNameD d1 with
          | true => rfl
          | false => rw [hh] at e3; exact absurd rfl e3
        have r2 := g2.same s1
        refine ⟨_, rfl, x2, .ty "tuple", _, _, _, rfl, .ty "tuple", r2.ty, kit_inst (d := d2) (T := "tuple") (by decide), _, rfl, ite2 (fun e4 => ?_) (fun e4 => ?_)⟩
        · have ef : isRefD (.tuple [d1, d2]) = false := by
            cases r2 <;> first | rfl | cases e4
          refine iteT ?_
          rw [ef] at q
          exact q _ s1
        cases r2 with
        | non => exact absurd rfl e4
        | bl b => exact absurd rfl e4
        | int i => exact absurd rfl e4
        | str x => exact absurd rfl e4
        | lst h g => exact absurd rfl e4
        | dct h => exact absurd rfl e4
        | @tup a2 ks ds2 h2 gk =>
        have hks : ks.length ≤ 100000 := by rw [gk.len]; cases hb2 with | tup h a => exact h
        refine ⟨_, rfl, a2, ks, rfl, .inr (.inl (.inl h2)), _, _, rfl, rfl, _, rfl, ite2 (fun e5 => ?_) (fun e5 => ?_)⟩
        · have ef : isRefD (.tuple [d1, .tuple ds2]) = false := by
            show (isNameD d1 && (decide (ds2.length ≤ 6) && _)) = false
            rw [decide_eq_false (show ¬ ds2.length ≤ 6 by rw [← gk.len]; have := of_decide_eq_true e5; omega), Bool.false_and, Bool.and_false]
          rw [ef] at q
          exact q _ s1
        refine ⟨_, rfl, a2, rfl, ⟨_, .inl (.inl h2)⟩, fun D hD => ?_⟩
        refine lc_pure_tup (fun _ => true) (fun x => .bl (isKeyD (datOf H1 x))) hks hD h2 (fun x H2 _ s2 R q2 => q2 _ (.refl _)) (fun x H2 hx _ s2 R q2 => ?_) (fun H2 s2 e6 => ?_)
        · refine ⟨_, rfl, x, _, rfl, (gk.each x hx).same s2, ?_, fun H3 s3 => q2 _ s3⟩
          cases hb2 with
          | tup h a =>
            refine a _ ?_
            rw [gk.map]
            exact List.mem_map.mpr ⟨x, hx, rfl⟩
        · rw [all_bools] at e6
          refine ⟨D, _, rfl, .inl (.inl e6), ?_⟩
          have ef : isRefD (.tuple [d1, .tuple ds2]) = (ks.map fun x => isKeyD (datOf H1 x)).all id := by
            show (isNameD d1 && (decide (ds2.length ≤ 6) && ds2.all isKeyD)) = _
            rw [e3, decide_eq_true (show ds2.length ≤ 6 by rw [← gk.len]; have := of_decide_eq_false (Bool.eq_false_iff.mpr e5); omega), Bool.true_and, Bool.true_and, gk.map, List.all_map, List.all_map]
            rfl
          rw [ef] at q
          exact q _ (s1.trans s2)
theorem filter_none {α : Type} {l : List α} {p : α → Bool} : (l.filter p).isEmpty = l.all fun x => !p x := by
  rw [Bool.eq_iff_iff, List.isEmpty_iff, List.filter_eq_nil_iff, List.all_eq_true]
  exact ⟨fun h x hx => by rw [Bool.eq_false_iff.mpr (h x hx)]; rfl, fun h x hx e => by have := h x hx; rw [e] at this; cases this⟩
theorem ok_law_is_worth (T : Txt K mg A) : FnOk P w K mg base CX0 2 A.a_law_is_worth A.d_law_is_worth ["thing"] (spThing isWorthD) := by
  have G_law_signs := ok_law_signs (P := P) (w := w) (base := base) T
  refine T.F_law_is_worth.ok sc_law_is_worth (fun vs H Q E h => ?_) (fun cdv A outer s H vs Q E hr h => ?_)
  · obtain ⟨v, d, rfl, _⟩ := h
    rfl
  · obtain ⟨v, d, rfl, r, hb, q⟩ := h
    refine ⟨_, (pss_cons (ps_if (pt_not (pt_val (pe_callB (k_isi K) (by rfl) T.n_isinstance (by decide +kernel) (pa_cons (pv 0) (pa_cons (pe_bltn (v := .ty "str") (by rfl) T.n_str (by decide +kernel) rfl) pa_nil)))))
      (pss_one (ps_ret pe_bl))
      pss_nil)
      (pss_cons (ps_set (i := 1) sc_law_is_worth.nd rfl (.inr rfl) (pe_call0 G_law_signs (hr.mono (by omega)) (by rfl) T.g_law_signs T.F_law_signs.kp T.b_law_signs .nil pass0))
      (pss_one (ps_ret (pe_cmpR (k_eqE K hr.units) (pe_lc (own := [("sign", 2)]) (g := gName 2)  rfl sc_law_is_worth.nd (pi_str (pv 0)) (blkOk_by (own := [("sign", 2)]) (N := N_law_is_worth) (sc := defScope s_law_is_worth) (by decide +kernel)) (fun _ _ _ _ _ => (pg_name (i := 2) sc_law_is_worth.nd rfl (.inl rfl))) (fun _ _ _ _ _ => pts_one (pt_cmpR op_notInS (pv 2) (pv 1) (by rfl))) (fun _ _ _ _ _ => (pv 2))) (pe_lst pa_nil) (nomark _)))))), ?_⟩
    refine ⟨_, rfl, v, .ty "str", _, _, _, rfl, .ty "str", r.ty, kit_inst (d := d) (T := "str") (by decide), _, rfl, ?_⟩
    cases r with
    | str x =>
      have hx : x.length ≤ 100000 := by cases hb; assumption
      refine iteF ⟨rfl, ?_⟩
      refine ⟨_, rfl, x, rfl, fun D hD => ?_⟩
      refine lc_pure_str (fun c => !decide (Wc c)) (fun c => .str ⟨#[c]⟩) hx hD (fun c H2 _ s2 R q2 => ?_) (fun c H2 _ _ s2 R q2 => ⟨_, rfl, q2 _ (.refl _)⟩) (fun H2 s2 e2 => ?_)
      · refine ⟨_, rfl, _, rfl, c, _, rfl, rfl, _, rfl, ?_⟩
        rw [lawSigns_dec]
        exact q2 _ (.refl _)
      · refine ⟨Evl.sz_of (by show 0 ≤ 100000; decide), fun p hp => ⟨D, p, _, rfl, rfl, .inl (.inl (same_new hp _ _ e2)), .inl (.inl upd_same), ?_⟩⟩
        have ef : (((tl x).filter fun c => !decide (Wc c)).map fun c => V.str ⟨#[c]⟩).isEmpty = isWorthD (.str x) := by
          rw [List.isEmpty_map, filter_none, Bool.eq_iff_iff, List.all_eq_true]
          show _ ↔ decide (∀ c ∈ tl x, Wc c) = true
          rw [decide_eq_true_eq]
          exact ⟨fun h c hc => of_decide_eq_true (by have := h c hc; rwa [Bool.not_not] at this), fun h c hc => by rw [Bool.not_not]; exact decide_eq_true (h c hc)⟩
        rw [ef]
        exact q _ (s2.trans (same_new hp))
    | non => exact iteT (q _ (.refl H))
    | bl b => exact iteT (q _ (.refl H))
    | int i => exact iteT (q _ (.refl H))
    | lst h g => exact iteT (q _ (.refl H))
    | tup h g => exact iteT (q _ (.refl H))
    | dct h => exact iteT (q _ (.refl H))
theorem ok_law_is_key (T : Txt K mg A) : FnOk P w K mg base CX0 3 A.a_law_is_key A.d_law_is_key ["thing"] (spThing isKeyD) := by
  have G_law_is_worth := ok_law_is_worth (P := P) (w := w) (base := base) T
  refine T.F_law_is_key.ok sc_law_is_key (fun vs H Q E h => ?_) (fun cdv A outer s H vs Q E hr h => ?_)
  · obtain ⟨v, d, rfl, _⟩ := h
    rfl
  · obtain ⟨v, d, rfl, r, hb, q⟩ := h
    refine ⟨_, (pss_one (ps_ret (pe_and (pe_call G_law_is_worth (hr.mono (by decide)) (by rfl) T.g_law_is_worth T.F_law_is_worth.kp T.b_law_is_worth .nil pass0 (pa_cons (pv 0) pa_nil)) (pe_one (pe_chain op_lt op_lt pe_int (pe_callB call_len_str (by rfl) T.n_len PySem.boot_len (pa_cons (pv 0) pa_nil)) pe_int))))), ?_⟩
    refine ⟨_, rfl, v, d, rfl, r, hb, fun H1 s1 => ⟨_, rfl, ite2 (fun e => ?_) (fun e => ?_)⟩⟩
    · cases d with
      | str x =>
        cases r
        have hx : x.length ≤ 100000 := by cases hb; assumption
        have e' : decide (WorthS x) = true := e
        refine ⟨_, rfl, x, rfl, Evl.sz_of hx, _, _, rfl, rfl, _, rfl, ?_⟩
        have hq : ∀ b : Bool, b = (decide (1 ≤ x.length) && decide (x.length ≤ 40)) → Q (.bl b) H1 := by
          intro b hb
          have ef : isKeyD (.str x) = b := by
            show (decide (WorthS x) && (decide (1 ≤ x.length) && decide (x.length ≤ 40))) = b
            rw [e', Bool.true_and, hb]
          rw [ef] at q
          exact q _ s1
        by_cases h1 : 1 ≤ x.length
        · rw [decide_eq_true (show (0 : Int) < (x.length : Int) by omega)]
          refine iteT ⟨_, _, rfl, rfl, hq _ ?_⟩
          rw [decide_eq_true h1, Bool.true_and]
          exact decide_eq_decide.mpr (by omega)
        · rw [decide_eq_false (show ¬ (0 : Int) < (x.length : Int) by omega)]
          exact iteF (hq _ (by rw [decide_eq_false h1, Bool.false_and]))
      | none => cases e
      | bool b => cases e
      | int i => cases e
      | list ds => cases e
      | tuple ds => cases e
      | dict ds => cases e
    · have ef : isKeyD d = false := by
        cases d with
        | str x =>
          have e' : decide (WorthS x) = false := Bool.eq_false_iff.mpr e
          show (decide (WorthS x) && _) = false
          rw [e', Bool.false_and]
        | none => rfl
        | bool b => rfl
        | int i => rfl
        | list ds => rfl
        | tuple ds => rfl
        | dict ds => rfl
      rw [ef] at q
      exact q _ s1
theorem ok_law_is_name (T : Txt K mg A) : FnOk P w K mg base CX0 1 A.a_law_is_name A.d_law_is_name ["thing"] (spThing isNameD) := by
  refine T.F_law_is_name.ok sc_law_is_name (fun vs H Q E h => ?_) (fun cdv A outer s H vs Q E hr h => ?_)
  · obtain ⟨v, d, rfl, _⟩ := h
    rfl
  · obtain ⟨v, d, rfl, r, hb, q⟩ := h
    refine ⟨_, (pss_cons (ps_if (PW.pt (pw_or (pt_not (pt_val (pe_callB (k_isi K) (by rfl) T.n_isinstance (by decide +kernel) (pa_cons (pv 0) (pa_cons (pe_bltn (v := .ty "str") (by rfl) T.n_str (by decide +kernel) rfl) pa_nil))))) (pw_or (pt_cmpR op_eq (pv 0) pe_str (nomark _)) (pw_or1 (pt_cmpR op_gt (pe_callB call_len_str (by rfl) T.n_len PySem.boot_len (pa_cons (pv 0) pa_nil)) pe_int (nomark _))))))
      (pss_one (ps_ret pe_bl))
      pss_nil)
      (pss_one (ps_ret (pe_cmpR (k_eqE K hr.units) (pe_lc (own := [("sign", 1)]) (g := gName 1)  rfl sc_law_is_name.nd (pi_str (pv 0)) (blkOk_by (own := [("sign", 1)]) (N := N_law_is_name) (sc := defScope s_law_is_name) (by decide +kernel)) (fun _ _ _ _ _ => (pg_name (i := 1) sc_law_is_name.nd rfl (.inl rfl))) (fun _ _ _ _ _ => pts_one (pt_cmpR op_notInS (pv 1) pe_str (by rfl))) (fun _ _ _ _ _ => (pv 1))) (pe_lst pa_nil) (nomark _))))), ?_⟩
    refine ⟨_, rfl, v, .ty "str", _, _, _, rfl, .ty "str", r.ty, kit_inst (d := d) (T := "str") (by decide), _, rfl, ?_⟩
    cases r with
    | str x =>
      have hx : x.length ≤ 100000 := by cases hb; assumption
      have hlx := len_tl x
      refine iteF ⟨_, rfl, rfl, _, rfl, ite2 (fun e => iteT ?_) (fun e => ⟨_, rfl, x, rfl, Evl.sz_of hx, _, _, rfl, rfl, _, rfl, ite2 (fun e2 => ?_) (fun e2 => ?_)⟩)⟩
      · have e := V.str.inj (of_decide_eq_true e)
        subst e
        exact q _ (.refl H)
      · have ef : isNameD (.str x) = false := by
          show (decide (1 ≤ x.length) && decide (x.length ≤ 8) && _) = false
          rw [decide_eq_false (show ¬ x.length ≤ 8 by have := of_decide_eq_true e2; omega), Bool.and_false, Bool.false_and]
        rw [ef] at q
        exact q _ (.refl H)
      · have h1 : 1 ≤ x.length := by
          refine Decidable.byContradiction fun z => e (decide_eq_true (congrArg V.str (tl_inj ?_)))
          rw [empty_tl]
          exact List.length_eq_zero_iff.mp (by omega)
        have h8 : x.length ≤ 8 := by
          refine Decidable.byContradiction fun z => e2 (decide_eq_true ?_)
          omega
        refine ⟨_, rfl, x, rfl, fun D hD => ?_⟩
        refine lc_pure_str (fun c => !decide (97 ≤ c ∧ c ≤ 122)) (fun c => .str ⟨#[c]⟩) hx hD (fun c H2 _ s2 R q2 => ?_) (fun c H2 _ _ s2 R q2 => ⟨_, rfl, q2 _ (.refl _)⟩) (fun H2 s2 e2 => ?_)
        · refine ⟨_, rfl, c, _, rfl, rfl, _, rfl, ?_⟩
          rw [letters_mem]
          exact q2 _ (.refl _)
        · refine ⟨Evl.sz_of (by show 0 ≤ 100000; decide), fun p hp => ⟨D, p, _, rfl, rfl, .inl (.inl (same_new hp _ _ e2)), .inl (.inl upd_same), ?_⟩⟩
          have ef : (((tl x).filter fun c => !decide (97 ≤ c ∧ c ≤ 122)).map fun c => V.str ⟨#[c]⟩).isEmpty = isNameD (.str x) := by
            rw [List.isEmpty_map, filter_none]
            show _ = (decide (1 ≤ x.length) && decide (x.length ≤ 8) && _)
            rw [decide_eq_true h1, decide_eq_true h8, Bool.true_and, Bool.true_and]
            refine congrArg (fun p => List.all (tl x) p) (funext fun c => ?_)
            rw [Bool.not_not]
          rw [ef]
          exact q _ (s2.trans (same_new hp))
    | non => exact iteT (iteT (q _ (.refl H)))
    | bl b => exact iteT (iteT (q _ (.refl H)))
    | int i => exact iteT (iteT (q _ (.refl H)))
    | lst h g => exact iteT (iteT (q _ (.refl H)))
    | tup h g => exact iteT (iteT (q _ (.refl H)))
    | dct h => exact iteT (iteT (q _ (.refl H)))
theorem ok_law_is_reference (T : Txt K mg A) : FnOk P w K mg base CX0 4 A.a_law_is_reference A.d_law_is_reference ["thing"] (spThing isRefD) := by
  have G_law_is_name := ok_law_is_name (P := P) (w := w) (base := base) T
  have G_law_is_key := ok_law_is_key (P := P) (w := w) (base := base) T
  refine T.F_law_is_reference.ok sc_law_is_reference (fun vs H Q E h => ?_) (fun cdv A outer s H vs Q E hr h => ?_)
  · obtain ⟨v, d, rfl, _⟩ := h
    rfl
  · obtain ⟨v, d, rfl, r, hb, q⟩ := h
    refine ⟨_, (pss_cons (ps_if (PW.pt (pw_or (pt_not (pt_val (pe_callB (k_isi K) (by rfl) T.n_isinstance (by decide +kernel) (pa_cons (pv 0) (pa_cons (pe_bltn (v := .ty "tuple") (by rfl) T.n_tuple (by decide +kernel) rfl) pa_nil))))) (pw_or (pt_cmpR op_ne (pe_callB (k_len K) (by rfl) T.n_len PySem.boot_len (pa_cons (pv 0) pa_nil)) pe_int (nomark _)) (pw_or1 (pt_not (pt_val (pe_callB (k_isi K) (by rfl) T.n_isinstance (by decide +kernel) (pa_cons (pe_ix (k_ix_tup K) (pv 0) pe_int (fun _ _ => rfl)) (pa_cons (pe_bltn (v := .ty "tuple") (by rfl) T.n_tuple (by decide +kernel) rfl) pa_nil)))))))))
      (pss_one (ps_ret pe_bl))
      pss_nil)
      (pss_one (ps_ret (pe_and (pe_call G_law_is_name (hr.mono (by decide)) (by rfl) T.g_law_is_name T.F_law_is_name.kp T.b_law_is_name .nil pass0 (pa_cons (pe_ix (k_ix_tup K) (pv 0) pe_int (fun _ _ => rfl)) pa_nil)) (pe_and (pe_cmpR op_lt (pe_callB (k_len K) (by rfl) T.n_len PySem.boot_len (pa_cons (pe_ix (k_ix_tup K) (pv 0) pe_int (fun _ _ => rfl)) pa_nil)) pe_int (nomark _)) (pe_one (pe_cmpR (k_eqE K hr.units) (pe_lc (own := [("key", 1)]) (g := gName 1)  rfl sc_law_is_reference.nd (k_pi_tup K (pe_ix (k_ix_tup K) (pv 0) pe_int (fun _ _ => rfl))) (blkOk_by (own := [("key", 1)]) (N := N_law_is_reference) (sc := defScope s_law_is_reference) (by decide +kernel)) (fun _ _ _ _ _ => (pg_name (i := 1) sc_law_is_reference.nd rfl (.inl rfl))) (fun _ _ _ _ _ => pts_one (pt_not (pt_val (pe_call G_law_is_key (hr.mono (by decide)) (by rfl) T.g_law_is_key T.F_law_is_key.kp T.b_law_is_key .nil pass0 (pa_cons (pv 1) pa_nil))))) (fun _ _ _ _ _ => (pv 1))) (pe_lst pa_nil) (nomark _)))))))), ?_⟩
    refine ⟨_, rfl, v, .ty "tuple", _, _, _, rfl, .ty "tuple", r.ty, kit_inst (d := d) (T := "tuple") (by decide), _, rfl, ?_⟩
    cases r with
    | non => exact iteT (iteT (q _ (.refl H)))
    | bl b => exact iteT (iteT (q _ (.refl H)))
    | int i => exact iteT (iteT (q _ (.refl H)))
    | str x => exact iteT (iteT (q _ (.refl H)))
    | lst h g => exact iteT (iteT (q _ (.refl H)))
    | dct h => exact iteT (iteT (q _ (.refl H)))
    | @tup a xs ds h g =>
      refine iteF ⟨_, rfl, a, xs, rfl, .inr (.inl (.inl h)), rfl, _, rfl, ite2 (fun e2 => iteT ?_) (fun e2 => ?_)⟩
      · have hl : ds.length ≠ 2 := by
          rw [← g.len]
          intro z
          rw [z, decide_eq_true (by rfl)] at e2
          cases e2
        have ef : isRefD (.tuple ds) = false := by
          match ds, hl with
          | [], _ => rfl
          | [_], _ => rfl
          | [_, _], hl => exact absurd rfl hl
          | _ :: x :: _ :: _, _ => cases x <;> rfl
        rw [ef] at q
        exact q _ (.refl H)
      · have hl : xs.length = 2 := by
          refine Decidable.byContradiction fun z => e2 ?_
          rw [decide_eq_false]
          · rfl
          · intro y
            have := V.int.inj y
            exact z (by omega)
        obtain ⟨x1, x2, rfl⟩ : ∃ x1 x2, xs = [x1, x2] := by
          match xs, hl with
          | [x1, x2], _ => exact ⟨x1, x2, rfl⟩
        cases g with
        | @cons _ _ d1 _ g1 g =>
        cases g with
        | @cons _ _ d2 _ g2 g =>
        cases g
        have hb1 : Bnd 100000 d1 := by cases hb with | tup h a => exact a d1 List.mem_cons_self
        have hb2 : Bnd 100000 d2 := by cases hb with | tup h a => exact a d2 (List.mem_cons_of_mem _ List.mem_cons_self)
        refine ⟨_, rfl, a, [x1, x2], 1, x2, rfl, rfl, .inl (.inl h), atI_nat (j := 1) rfl, x2, .ty "tuple", _, _, _, rfl, .ty "tuple", g2.ty, kit_inst (d := d2) (T := "tuple") (by decide), _, rfl, ?_⟩
        cases g2 with
        | non => exact iteT (q _ (.refl H))
        | bl b => exact iteT (q _ (.refl H))
        | int i => exact iteT (q _ (.refl H))
        | str x => exact iteT (q _ (.refl H))
        | lst h g => exact iteT (q _ (.refl H))
        | dct h => exact iteT (q _ (.refl H))
        | @tup a2 ks ds2 h2 gk =>
        have hks : ks.length ≤ 100000 := by rw [gk.len]; cases hb2 with | tup h a => exact h
        refine iteF ⟨_, rfl, a, [x1, .ref a2], 0, x1, rfl, rfl, .inl (.inl h), atI_nat (j := 0) rfl, x1, d1, rfl, g1, hb1, fun H1 s1 => ⟨_, rfl, ite2 (fun e3 => ?_) (fun e3 => ?_)⟩⟩
        · have h' := s1 _ _ h
          have h2' := s1 _ _ h2
          refine ⟨_, rfl, a, [x1, .ref a2], 1, .ref a2, rfl, rfl, .inl (.inl h'), atI_nat (j := 1) rfl, a2, ks, rfl, .inr (.inl (.inl h2')), _, _, rfl, rfl, _, rfl, ite2 (fun e5 => ?_) (fun e5 => ?_)⟩
          · refine ⟨_, rfl, a, [x1, .ref a2], 1, .ref a2, rfl, rfl, .inl (.inl h'), atI_nat (j := 1) rfl, a2, rfl, ⟨_, .inl (.inl h2')⟩, fun D hD => ?_⟩
            have gk1 := gk.same s1
            refine lc_pure_tup (fun x => !isKeyD (datOf H1 x)) (fun x => x) hks hD h2' (fun x H2 hx s2 R q2 => ?_) (fun x H2 hx _ s2 R q2 => ⟨_, rfl, q2 _ (.refl _)⟩) (fun H2 s2 e6 => ?_)
            · refine ⟨_, rfl, x, _, rfl, (gk1.each x hx).same s2, ?_, fun H3 s3 => ⟨_, rfl, q2 _ s3⟩⟩
              cases hb2 with
              | tup h a =>
                refine a _ ?_
                rw [gk1.map]
                exact List.mem_map.mpr ⟨x, hx, rfl⟩
            · refine ⟨Evl.sz_of (by show 0 ≤ 100000; decide), fun p hp => ⟨D, p, _, rfl, rfl, .inl (.inl (same_new hp _ _ e6)), .inl (.inl upd_same), ?_⟩⟩
              have ef : isRefD (.tuple [d1, .tuple ds2]) = ((ks.filter fun x => !isKeyD (datOf H1 x)).map fun x => x).isEmpty := by
                show (isNameD d1 && (decide (ds2.length ≤ 6) && ds2.all isKeyD)) = _
                rw [e3, decide_eq_true (show ds2.length ≤ 6 by rw [← gk.len]; have := of_decide_eq_true e5; omega), Bool.true_and, Bool.true_and, List.map_id', filter_none, gk1.map, List.all_map]
                refine congrArg (fun p => List.all ks p) (funext fun c => ?_)
                rw [Bool.not_not]
                rfl
              rw [ef] at q
              exact q _ ((s1.trans s2).trans (same_new hp))
          · have ef : isRefD (.tuple [d1, .tuple ds2]) = false := by
              show (isNameD d1 && (decide (ds2.length ≤ 6) && _)) = false
              rw [decide_eq_false (show ¬ ds2.length ≤ 6 by rw [← gk.len]; intro z; exact e5 (decide_eq_true (by omega))), Bool.false_and, Bool.and_false]
            rw [ef] at q
            exact q _ s1
        · have ef : isRefD (.tuple [d1, .tuple ds2]) = false := by
            show (isNameD d1 && _) = false
            rw [Bool.eq_false_iff.mpr e3, Bool.false_and]
          rw [ef] at q
          exact q _ s1
theorem ok_law_right (T : Txt K mg A) : FnOk P w K mg base CX0 5 A.a_law_right A.d_law_right ["thing"] (spThing fun _ => true) := by
  have G_law_is_worth := ok_law_is_worth (P := P) (w := w) (base := base) T
  have G_law_is_key := ok_law_is_key (P := P) (w := w) (base := base) T
  have G_law_is_reference := ok_law_is_reference (P := P) (w := w) (base := base) T
  have G_is_worth := ok_is_worth (P := P) (w := w) (base := base) T
  have G_is_key := ok_is_key (P := P) (w := w) (base := base) T
  have G_is_reference := ok_is_reference (P := P) (w := w) (base := base) T
  refine T.F_law_right.ok sc_law_right (fun vs H Q E h => ?_) (fun cdv A outer s H vs Q E hr h => ?_)
  · obtain ⟨v, d, rfl, _⟩ := h
    rfl
  · obtain ⟨v, d, rfl, r, hb, q⟩ := h
    refine ⟨_, (pss_cons (ps_set (i := 1) sc_law_right.nd rfl (.inl rfl) (pe_lst (pa_cons (pe_call G_law_is_worth (hr.mono (by decide)) (by rfl) T.g_law_is_worth T.F_law_is_worth.kp T.b_law_is_worth .nil pass0 (pa_cons (pv 0) pa_nil)) (pa_cons (pe_call G_law_is_key (hr.mono (by decide)) (by rfl) T.g_law_is_key T.F_law_is_key.kp T.b_law_is_key .nil pass0 (pa_cons (pv 0) pa_nil)) (pa_cons (pe_call G_law_is_reference (hr.mono (by decide)) (by rfl) T.g_law_is_reference T.F_law_is_reference.kp T.b_law_is_reference .nil pass0 (pa_cons (pv 0) pa_nil)) pa_nil)))))
      (pss_cons (ps_set (i := 2) sc_law_right.nd rfl (.inl rfl) (pe_lst (pa_cons (pe_call G_is_worth (hr.mono (by decide)) (by rfl) T.g_is_worth T.F_is_worth.kp T.b_is_worth .nil pass0 (pa_cons (pv 0) pa_nil)) (pa_cons (pe_call G_is_key (hr.mono (by decide)) (by rfl) T.g_is_key T.F_is_key.kp T.b_is_key .nil pass0 (pa_cons (pv 0) pa_nil)) (pa_cons (pe_call G_is_reference (hr.mono (by decide)) (by rfl) T.g_is_reference T.F_is_reference.kp T.b_is_reference .nil pass0 (pa_cons (pv 0) pa_nil)) pa_nil)))))
      (pss_one (ps_ret (pe_and (pe_cmpR (k_eqP K hr.units) (pv 2) (pv 1) (nomark _)) (pe_one (pe_cmpR (k_eqE K hr.units) (pe_lc (own := [("one", 3)]) (g := gName 3)  rfl sc_law_right.nd (k_pi_list K (pv 2)) (blkOk_by (own := [("one", 3)]) (N := N_law_right) (sc := defScope s_law_right) (by decide +kernel)) (fun _ _ _ _ _ => (pg_name (i := 3) sc_law_right.nd rfl (.inl rfl))) (fun _ _ _ _ _ => pts_one (pt_not (pt_val (pe_callB (k_isi K) (by rfl) T.n_isinstance (by decide +kernel) (pa_cons (pv 3) (pa_cons (pe_bltn (v := .ty "bool") (by rfl) T.n_bool (by decide +kernel) rfl) pa_nil)))))) (fun _ _ _ _ _ => (pv 3))) (pe_lst pa_nil) (nomark _)))))))), ?_⟩
    refine ⟨_, rfl, v, d, rfl, r, hb, fun H1 s1 => ⟨_, rfl, v, d, rfl, r.same s1, hb, fun H2 s2 => ⟨_, rfl, v, d, rfl, (r.same s1).same s2, hb, fun H3 s3 => ⟨Evl.sz_of (by show 3 ≤ 100000; decide), fun p hp => ?_⟩⟩⟩⟩
    have s4 := ((s1.trans s2).trans s3).trans (same_new (o := .lst [.bl (isWorthD d), .bl (isKeyD d), .bl (isRefD d)]) hp)
    have e4 : upd H3 p (.lst [.bl (isWorthD d), .bl (isKeyD d), .bl (isRefD d)]) p = some (.lst ([isWorthD d, isKeyD d, isRefD d].map V.bl)) := upd_same
    generalize upd H3 p _ = H4 at s4 e4 ⊢
    refine ⟨_, rfl, v, d, rfl, r.same s4, hb, fun H5 s5 => ⟨_, rfl, v, d, rfl, (r.same s4).same s5, hb, fun H6 s6 => ⟨_, rfl, v, d, rfl, ((r.same s4).same s5).same s6, hb, fun H7 s7 => ⟨Evl.sz_of (by show 3 ≤ 100000; decide), fun p2 hp2 => ?_⟩⟩⟩⟩
    have s8 := ((s5.trans s6).trans s7).trans (same_new (o := .lst [.bl (isWorthD d), .bl (isKeyD d), .bl (isRefD d)]) hp2)
    have e8 : upd H7 p2 (.lst [.bl (isWorthD d), .bl (isKeyD d), .bl (isRefD d)]) p2 = some (.lst ([isWorthD d, isKeyD d, isRefD d].map V.bl)) := upd_same
    have e4 := s8 _ _ e4
    generalize upd H7 p2 _ = H8 at s8 e8 e4 ⊢
    refine ⟨_, rfl, _, rfl, rd_eqP (dv_bools (.inl (.inl e8))) (dv_bools (.inl (.inl e4))) (by decide) ⟨_, rfl, ?_⟩⟩
    rw [decide_eq_true rfl]
    refine iteT ⟨_, rfl, p2, rfl, ⟨_, .inl (.inl e8)⟩, fun D hD => ?_⟩
    refine lc_pure_list (fun _ => false) (fun v => v) (by show 3 ≤ 100000; decide) hD (.inl (.inl e8)) (fun x H9 hx s9 R q9 => ?_) (fun x H9 hx hp => by cases hp) (fun H9 s9 e9 => ?_)
    · obtain ⟨c, _, rfl⟩ := List.mem_map.mp hx
      exact ⟨_, rfl, _, _, _, _, true, rfl, .ty "bool", .base (.bl _), kit_ty (by decide +kernel), _, rfl, q9 _ (.refl _)⟩
    · exact ⟨Evl.sz_of (by show 0 ≤ 100000; decide), fun p3 hp3 => ⟨D, p3, _, rfl, rfl, .inl (.inl (same_new hp3 _ _ e9)), .inl (.inl upd_same), q _ (((s4.trans s8).trans s9).trans (same_new hp3))⟩⟩
theorem ok_law_odd (T : Txt K mg A) : FnOk P w K mg base CX0 2 A.a_law_odd A.d_law_odd ["bag"] spOdd := by
  have G_law_draw := ok_law_draw (P := P) (w := w) (base := base) T
  refine T.F_law_odd.ok sc_law_odd (fun vs H Q E h => ?_) (fun cdv A outer s H vs Q E hr h => ?_)
  · obtain ⟨b, N, D, rfl, _⟩ := h
    rfl
  · obtain ⟨b, N, D, rfl, hN, hB, hD, o0, q⟩ := h
    refine ⟨_, (pss_cons (ps_set (i := 1) sc_law_odd.nd rfl (.inl rfl) (pe_lst (pa_cons pe_non (pa_cons pe_bl (pa_cons pe_bl (pa_cons pe_int (pa_cons pe_int (pa_cons (pe_un un_neg pe_int) (pa_cons (pe_op op_powW pe_int pe_int) (pa_cons pe_str (pa_cons pe_str (pa_cons pe_str (pa_cons pe_str (pa_cons pe_str (pa_cons pe_str (pa_cons pe_str (pa_cons (pe_tup pa_nil) (pa_cons (pe_lst pa_nil) (pa_cons pe_dnewK (pa_cons (pe_tup (pa_cons pe_str pa_nil)) pa_nil))))))))))))))))))))
      (pss_cons (ps_set (i := 1) sc_law_odd.nd rfl (.inl rfl) (pe_op op_cat (pv 1) (pe_lst (pa_cons (pe_tup (pa_cons pe_str (pa_cons (pe_tup pa_nil) pa_nil))) (pa_cons (pe_lst (pa_cons pe_str (pa_cons (pe_tup pa_nil) pa_nil))) (pa_cons (pe_tup (pa_cons pe_str (pa_cons (pe_lst pa_nil) pa_nil))) (pa_cons (pe_tup (pa_cons pe_str (pa_cons (pe_tup (pa_cons pe_str pa_nil)) pa_nil))) (pa_cons (pe_tup (pa_cons pe_str (pa_cons (pe_tup (pa_cons (pe_op op_repS pe_str pe_int) pa_nil)) pa_nil))) (pa_cons (pe_tup (pa_cons pe_str (pa_cons (pe_tup (pa_cons pe_str pa_nil)) pa_nil))) (pa_cons (pe_tup (pa_cons (pe_tup (pa_cons pe_str pa_nil)) (pa_cons (pe_tup pa_nil) pa_nil))) pa_nil))))))))))
      (pss_cons (ps_set (i := 1) sc_law_odd.nd rfl (.inl rfl) (pe_op op_cat (pv 1) (pe_lst (pa_cons (pe_tup (pa_cons pe_str (pa_cons (pe_tup (pa_cons pe_str (pa_cons pe_int pa_nil))) pa_nil))) (pa_cons (pe_tup (pa_cons pe_str (pa_cons (pe_tup (pa_cons pe_non pa_nil)) pa_nil))) (pa_cons (pe_tup (pa_cons pe_str (pa_cons (pe_op (k_repT K) (pe_tup (pa_cons pe_str pa_nil)) pe_int) pa_nil))) (pa_cons (pe_tup (pa_cons pe_str (pa_cons (pe_tup pa_nil) (pa_cons (pe_tup pa_nil) pa_nil)))) (pa_cons (pe_op op_repS pe_str pe_int) (pa_cons (pe_tup (pa_cons pe_str (pa_cons pe_str pa_nil))) pa_nil)))))))))
      (pss_one (ps_ret (pe_ix (k_ix_list K) (pv 1) (pe_call G_law_draw (hr.mono (by omega)) (by rfl) T.g_law_draw T.F_law_draw.kp T.b_law_draw .nil pass0 (pa_cons (pv 0) (pa_cons pe_int pa_nil))) (fun _ _ => rfl))))))), ?_⟩
    have S0 := Same.refl H
    refine ⟨7, rfl, ?_⟩
    refine ⟨_, _, rfl, rfl, pow_1020, ?_⟩
    refine ⟨Evl.sz_of (by show 0 ≤ 100000; decide), fun p1 hp1 => ?_⟩
    have t1 : Tg 400 D (upd H p1 (.tup [])) (.ref p1) := .tup (o0.not hp1) upd_same (by show 0 ≤ 400; decide) tg_nil
    have s1 := same_new (o := .tup []) hp1
    have o1 := o0.same s1
    have S1 := S0.trans s1
    generalize upd H p1 _ = H1 at t1 s1 o1 S1 ⊢
    refine ⟨Evl.sz_of (by show 0 ≤ 100000; decide), fun p2 hp2 => ?_⟩
    have t2 : Tg 400 D (upd H1 p2 (.lst [])) (.ref p2) := .lst (o1.not hp2) upd_same (by show 0 ≤ 400; decide) tg_nil
    have s2 := same_new (o := .lst []) hp2
    have o2 := o1.same s2
    have S2 := S1.trans s2
    have t1 := t1.same s2
    generalize upd H1 p2 _ = H2 at t2 s2 o2 S2 t1 ⊢
    refine fun p3 hp3 => ?_
    have t3 : Tg 400 D (upd H2 p3 (.dK [])) (.ref p3) := .dct (o2.not hp3) upd_same
    have s3 := same_new (o := .dK []) hp3
    have o3 := o2.same s3
    have S3 := S2.trans s3
    have t1 := t1.same s3
    have t2 := t2.same s3
    generalize upd H2 p3 _ = H3 at t3 s3 o3 S3 t1 t2 ⊢
    refine ⟨Evl.sz_of (by show 1 ≤ 100000; decide), fun p4 hp4 => ?_⟩
    have t4 : Tg 400 D (upd H3 p4 (.tup [.str (Str.ofString "a")])) (.ref p4) := .tup (o3.not hp4) upd_same (by show 1 ≤ 400; decide) (tg_cons (.str (by decide +kernel)) tg_nil)
    have s4 := same_new (o := .tup [.str (Str.ofString "a")]) hp4
    have o4 := o3.same s4
    have S4 := S3.trans s4
    have t1 := t1.same s4
    have t2 := t2.same s4
    have t3 := t3.same s4
    generalize upd H3 p4 _ = H4 at t4 s4 o4 S4 t1 t2 t3 ⊢
    refine ⟨Evl.sz_of (by show 18 ≤ 100000; decide), fun p5 hp5 => ?_⟩
    have t5 : Tg 400 D (upd H4 p5 (.lst [.non, .bl true, .bl false, .int 0, .int 1, .int (-7), .int (10 ^ (20 : Int).toNat), .str (Str.ofString ""), .str (Str.ofString "a"), .str (Str.ofString "B"), .str (Str.ofString "ab1"), .str (Str.ofString "abcdefghi"), .str (Str.ofString "\n"), .str (Str.ofString "a\t"), (.ref p1), (.ref p2), (.ref p3), (.ref p4)])) (.ref p5) := .lst (o4.not hp5) upd_same (by show 18 ≤ 400; decide) (tg_cons .non (tg_cons .bl (tg_cons .bl (tg_cons (.int (by decide)) (tg_cons (.int (by decide)) (tg_cons (.int (by decide)) (tg_cons (.int (by decide)) (tg_cons (.str (by decide +kernel)) (tg_cons (.str (by decide +kernel)) (tg_cons (.str (by decide +kernel)) (tg_cons (.str (by decide +kernel)) (tg_cons (.str (by decide +kernel)) (tg_cons (.str (by decide +kernel)) (tg_cons (.str (by decide +kernel)) (tg_cons (t1.same (same_new hp5)) (tg_cons (t2.same (same_new hp5)) (tg_cons (t3.same (same_new hp5)) (tg_cons (t4.same (same_new hp5)) tg_nil))))))))))))))))))
    have s5 := same_new (o := .lst [.non, .bl true, .bl false, .int 0, .int 1, .int (-7), .int (10 ^ (20 : Int).toNat), .str (Str.ofString ""), .str (Str.ofString "a"), .str (Str.ofString "B"), .str (Str.ofString "ab1"), .str (Str.ofString "abcdefghi"), .str (Str.ofString "\n"), .str (Str.ofString "a\t"), (.ref p1), (.ref p2), (.ref p3), (.ref p4)]) hp5
    have e5 : upd H4 p5 (.lst [.non, .bl true, .bl false, .int 0, .int 1, .int (-7), .int (10 ^ (20 : Int).toNat), .str (Str.ofString ""), .str (Str.ofString "a"), .str (Str.ofString "B"), .str (Str.ofString "ab1"), .str (Str.ofString "abcdefghi"), .str (Str.ofString "\n"), .str (Str.ofString "a\t"), (.ref p1), (.ref p2), (.ref p3), (.ref p4)]) p5 = some (.lst [.non, .bl true, .bl false, .int 0, .int 1, .int (-7), .int (10 ^ (20 : Int).toNat), .str (Str.ofString ""), .str (Str.ofString "a"), .str (Str.ofString "B"), .str (Str.ofString "ab1"), .str (Str.ofString "abcdefghi"), .str (Str.ofString "\n"), .str (Str.ofString "a\t"), (.ref p1), (.ref p2), (.ref p3), (.ref p4)]) := upd_same
    have o5 := o4.same s5
    have S5 := S4.trans s5
    have t1 := t1.same s5
    have t2 := t2.same s5
    have t3 := t3.same s5
    have t4 := t4.same s5
    generalize upd H4 p5 _ = H5 at t5 s5 o5 S5 e5 t1 t2 t3 t4 ⊢
    dsimp only
    refine ⟨_, rfl, Evl.sz_of (by show 0 ≤ 100000; decide), fun p6 hp6 => ?_⟩
    have t6 : Tg 400 D (upd H5 p6 (.tup [])) (.ref p6) := .tup (o5.not hp6) upd_same (by show 0 ≤ 400; decide) tg_nil
    have s6 := same_new (o := .tup []) hp6
    have o6 := o5.same s6
    have S6 := S5.trans s6
    have t1 := t1.same s6
    have t2 := t2.same s6
    have t3 := t3.same s6
    have t4 := t4.same s6
    have t5 := t5.same s6
    have e5 := s6 _ _ e5
    generalize upd H5 p6 _ = H6 at t6 s6 o6 S6 t1 t2 t3 t4 t5 e5 ⊢
    refine ⟨Evl.sz_of (by show 2 ≤ 100000; decide), fun p7 hp7 => ?_⟩
    have t7 : Tg 400 D (upd H6 p7 (.tup [.str (Str.ofString "a"), (.ref p6)])) (.ref p7) := .tup (o6.not hp7) upd_same (by show 2 ≤ 400; decide) (tg_cons (.str (by decide +kernel)) (tg_cons (t6.same (same_new hp7)) tg_nil))
    have s7 := same_new (o := .tup [.str (Str.ofString "a"), (.ref p6)]) hp7
    have o7 := o6.same s7
    have S7 := S6.trans s7
    have t1 := t1.same s7
    have t2 := t2.same s7
    have t3 := t3.same s7
    have t4 := t4.same s7
    have t5 := t5.same s7
    have e5 := s7 _ _ e5
    have t6 := t6.same s7
    generalize upd H6 p7 _ = H7 at t7 s7 o7 S7 t1 t2 t3 t4 t5 e5 t6 ⊢
    refine ⟨Evl.sz_of (by show 0 ≤ 100000; decide), fun p8 hp8 => ?_⟩
    have t8 : Tg 400 D (upd H7 p8 (.tup [])) (.ref p8) := .tup (o7.not hp8) upd_same (by show 0 ≤ 400; decide) tg_nil
    have s8 := same_new (o := .tup []) hp8
    have o8 := o7.same s8
    have S8 := S7.trans s8
    have t1 := t1.same s8
    have t2 := t2.same s8
    have t3 := t3.same s8
    have t4 := t4.same s8
    have t5 := t5.same s8
    have e5 := s8 _ _ e5
    have t6 := t6.same s8
    have t7 := t7.same s8
    generalize upd H7 p8 _ = H8 at t8 s8 o8 S8 t1 t2 t3 t4 t5 e5 t6 t7 ⊢
    refine ⟨Evl.sz_of (by show 2 ≤ 100000; decide), fun p9 hp9 => ?_⟩
    have t9 : Tg 400 D (upd H8 p9 (.lst [.str (Str.ofString "a"), (.ref p8)])) (.ref p9) := .lst (o8.not hp9) upd_same (by show 2 ≤ 400; decide) (tg_cons (.str (by decide +kernel)) (tg_cons (t8.same (same_new hp9)) tg_nil))
    have s9 := same_new (o := .lst [.str (Str.ofString "a"), (.ref p8)]) hp9
    have o9 := o8.same s9
    have S9 := S8.trans s9
    have t1 := t1.same s9
    have t2 := t2.same s9
    have t3 := t3.same s9
    have t4 := t4.same s9
    have t5 := t5.same s9
    have e5 := s9 _ _ e5
    have t6 := t6.same s9
    have t7 := t7.same s9
    have t8 := t8.same s9
    generalize upd H8 p9 _ = H9 at t9 s9 o9 S9 t1 t2 t3 t4 t5 e5 t6 t7 t8 ⊢
    refine ⟨Evl.sz_of (by show 0 ≤ 100000; decide), fun p10 hp10 => ?_⟩
    have t10 : Tg 400 D (upd H9 p10 (.lst [])) (.ref p10) := .lst (o9.not hp10) upd_same (by show 0 ≤ 400; decide) tg_nil
    have s10 := same_new (o := .lst []) hp10
    have o10 := o9.same s10
    have S10 := S9.trans s10
    have t1 := t1.same s10
    have t2 := t2.same s10
    have t3 := t3.same s10
    have t4 := t4.same s10
    have t5 := t5.same s10
    have e5 := s10 _ _ e5
    have t6 := t6.same s10
    have t7 := t7.same s10
    have t8 := t8.same s10
    have t9 := t9.same s10
    generalize upd H9 p10 _ = H10 at t10 s10 o10 S10 t1 t2 t3 t4 t5 e5 t6 t7 t8 t9 ⊢
    refine ⟨Evl.sz_of (by show 2 ≤ 100000; decide), fun p11 hp11 => ?_⟩
    have t11 : Tg 400 D (upd H10 p11 (.tup [.str (Str.ofString "a"), (.ref p10)])) (.ref p11) := .tup (o10.not hp11) upd_same (by show 2 ≤ 400; decide) (tg_cons (.str (by decide +kernel)) (tg_cons (t10.same (same_new hp11)) tg_nil))
    have s11 := same_new (o := .tup [.str (Str.ofString "a"), (.ref p10)]) hp11
    have o11 := o10.same s11
    have S11 := S10.trans s11
    have t1 := t1.same s11
    have t2 := t2.same s11
    have t3 := t3.same s11
    have t4 := t4.same s11
    have t5 := t5.same s11
    have e5 := s11 _ _ e5
    have t6 := t6.same s11
    have t7 := t7.same s11
    have t8 := t8.same s11
    have t9 := t9.same s11
    have t10 := t10.same s11
    generalize upd H10 p11 _ = H11 at t11 s11 o11 S11 t1 t2 t3 t4 t5 e5 t6 t7 t8 t9 t10 ⊢
    refine ⟨Evl.sz_of (by show 1 ≤ 100000; decide), fun p12 hp12 => ?_⟩
    have t12 : Tg 400 D (upd H11 p12 (.tup [.str (Str.ofString "")])) (.ref p12) := .tup (o11.not hp12) upd_same (by show 1 ≤ 400; decide) (tg_cons (.str (by decide +kernel)) tg_nil)
    have s12 := same_new (o := .tup [.str (Str.ofString "")]) hp12
    have o12 := o11.same s12
    have S12 := S11.trans s12
    have t1 := t1.same s12
    have t2 := t2.same s12
    have t3 := t3.same s12
    have t4 := t4.same s12
    have t5 := t5.same s12
    have e5 := s12 _ _ e5
    have t6 := t6.same s12
    have t7 := t7.same s12
    have t8 := t8.same s12
    have t9 := t9.same s12
    have t10 := t10.same s12
    have t11 := t11.same s12
    generalize upd H11 p12 _ = H12 at t12 s12 o12 S12 t1 t2 t3 t4 t5 e5 t6 t7 t8 t9 t10 t11 ⊢
    refine ⟨Evl.sz_of (by show 2 ≤ 100000; decide), fun p13 hp13 => ?_⟩
    have t13 : Tg 400 D (upd H12 p13 (.tup [.str (Str.ofString "a"), (.ref p12)])) (.ref p13) := .tup (o12.not hp13) upd_same (by show 2 ≤ 400; decide) (tg_cons (.str (by decide +kernel)) (tg_cons (t12.same (same_new hp13)) tg_nil))
    have s13 := same_new (o := .tup [.str (Str.ofString "a"), (.ref p12)]) hp13
    have o13 := o12.same s13
    have S13 := S12.trans s13
    have t1 := t1.same s13
    have t2 := t2.same s13
    have t3 := t3.same s13
    have t4 := t4.same s13
    have t5 := t5.same s13
    have e5 := s13 _ _ e5
    have t6 := t6.same s13
    have t7 := t7.same s13
    have t8 := t8.same s13
    have t9 := t9.same s13
    have t10 := t10.same s13
    have t11 := t11.same s13
    have t12 := t12.same s13
    generalize upd H12 p13 _ = H13 at t13 s13 o13 S13 t1 t2 t3 t4 t5 e5 t6 t7 t8 t9 t10 t11 t12 ⊢
    refine ⟨Str.ofString "x", 41, rfl, rfl, by decide, by decide, by decide +kernel, fun r13 hr13 _ => ?_⟩
    have lr13 : r13.length ≤ 400 := by rw [show (Str.ofString "x").length = 1 by decide +kernel] at hr13; omega
    refine ⟨Evl.sz_of (by show 1 ≤ 100000; decide), fun p14 hp14 => ?_⟩
    have t14 : Tg 400 D (upd H13 p14 (.tup [.str r13])) (.ref p14) := .tup (o13.not hp14) upd_same (by show 1 ≤ 400; decide) (tg_cons (.str lr13) tg_nil)
    have s14 := same_new (o := .tup [.str r13]) hp14
    have o14 := o13.same s14
    have S14 := S13.trans s14
    have t1 := t1.same s14
    have t2 := t2.same s14
    have t3 := t3.same s14
    have t4 := t4.same s14
    have t5 := t5.same s14
    have e5 := s14 _ _ e5
    have t6 := t6.same s14
    have t7 := t7.same s14
    have t8 := t8.same s14
    have t9 := t9.same s14
    have t10 := t10.same s14
    have t11 := t11.same s14
    have t12 := t12.same s14
    have t13 := t13.same s14
    generalize upd H13 p14 _ = H14 at t14 s14 o14 S14 t1 t2 t3 t4 t5 e5 t6 t7 t8 t9 t10 t11 t12 t13 ⊢
    refine ⟨Evl.sz_of (by show 2 ≤ 100000; decide), fun p15 hp15 => ?_⟩
    have t15 : Tg 400 D (upd H14 p15 (.tup [.str (Str.ofString "a"), (.ref p14)])) (.ref p15) := .tup (o14.not hp15) upd_same (by show 2 ≤ 400; decide) (tg_cons (.str (by decide +kernel)) (tg_cons (t14.same (same_new hp15)) tg_nil))
    have s15 := same_new (o := .tup [.str (Str.ofString "a"), (.ref p14)]) hp15
    have o15 := o14.same s15
    have S15 := S14.trans s15
    have t1 := t1.same s15
    have t2 := t2.same s15
    have t3 := t3.same s15
    have t4 := t4.same s15
    have t5 := t5.same s15
    have e5 := s15 _ _ e5
    have t6 := t6.same s15
    have t7 := t7.same s15
    have t8 := t8.same s15
    have t9 := t9.same s15
    have t10 := t10.same s15
    have t11 := t11.same s15
    have t12 := t12.same s15
    have t13 := t13.same s15
    have t14 := t14.same s15
    generalize upd H14 p15 _ = H15 at t15 s15 o15 S15 t1 t2 t3 t4 t5 e5 t6 t7 t8 t9 t10 t11 t12 t13 t14 ⊢
    refine ⟨Evl.sz_of (by show 1 ≤ 100000; decide), fun p16 hp16 => ?_⟩
    have t16 : Tg 400 D (upd H15 p16 (.tup [.str (Str.ofString "a")])) (.ref p16) := .tup (o15.not hp16) upd_same (by show 1 ≤ 400; decide) (tg_cons (.str (by decide +kernel)) tg_nil)
    have s16 := same_new (o := .tup [.str (Str.ofString "a")]) hp16
    have o16 := o15.same s16
    have S16 := S15.trans s16
    have t1 := t1.same s16
    have t2 := t2.same s16
    have t3 := t3.same s16
    have t4 := t4.same s16
    have t5 := t5.same s16
    have e5 := s16 _ _ e5
    have t6 := t6.same s16
    have t7 := t7.same s16
    have t8 := t8.same s16
    have t9 := t9.same s16
    have t10 := t10.same s16
    have t11 := t11.same s16
    have t12 := t12.same s16
    have t13 := t13.same s16
    have t14 := t14.same s16
    have t15 := t15.same s16
    generalize upd H15 p16 _ = H16 at t16 s16 o16 S16 t1 t2 t3 t4 t5 e5 t6 t7 t8 t9 t10 t11 t12 t13 t14 t15 ⊢
    refine ⟨Evl.sz_of (by show 2 ≤ 100000; decide), fun p17 hp17 => ?_⟩
    have t17 : Tg 400 D (upd H16 p17 (.tup [.str (Str.ofString ""), (.ref p16)])) (.ref p17) := .tup (o16.not hp17) upd_same (by show 2 ≤ 400; decide) (tg_cons (.str (by decide +kernel)) (tg_cons (t16.same (same_new hp17)) tg_nil))
    have s17 := same_new (o := .tup [.str (Str.ofString ""), (.ref p16)]) hp17
    have o17 := o16.same s17
    have S17 := S16.trans s17
    have t1 := t1.same s17
    have t2 := t2.same s17
    have t3 := t3.same s17
    have t4 := t4.same s17
    have t5 := t5.same s17
    have e5 := s17 _ _ e5
    have t6 := t6.same s17
    have t7 := t7.same s17
    have t8 := t8.same s17
    have t9 := t9.same s17
    have t10 := t10.same s17
    have t11 := t11.same s17
    have t12 := t12.same s17
    have t13 := t13.same s17
    have t14 := t14.same s17
    have t15 := t15.same s17
    have t16 := t16.same s17
    generalize upd H16 p17 _ = H17 at t17 s17 o17 S17 t1 t2 t3 t4 t5 e5 t6 t7 t8 t9 t10 t11 t12 t13 t14 t15 t16 ⊢
    refine ⟨Evl.sz_of (by show 1 ≤ 100000; decide), fun p18 hp18 => ?_⟩
    have t18 : Tg 400 D (upd H17 p18 (.tup [.str (Str.ofString "a")])) (.ref p18) := .tup (o17.not hp18) upd_same (by show 1 ≤ 400; decide) (tg_cons (.str (by decide +kernel)) tg_nil)
    have s18 := same_new (o := .tup [.str (Str.ofString "a")]) hp18
    have o18 := o17.same s18
    have S18 := S17.trans s18
    have t1 := t1.same s18
    have t2 := t2.same s18
    have t3 := t3.same s18
    have t4 := t4.same s18
    have t5 := t5.same s18
    have e5 := s18 _ _ e5
    have t6 := t6.same s18
    have t7 := t7.same s18
    have t8 := t8.same s18
    have t9 := t9.same s18
    have t10 := t10.same s18
    have t11 := t11.same s18
    have t12 := t12.same s18
    have t13 := t13.same s18
    have t14 := t14.same s18
    have t15 := t15.same s18
    have t16 := t16.same s18
    have t17 := t17.same s18
    generalize upd H17 p18 _ = H18 at t18 s18 o18 S18 t1 t2 t3 t4 t5 e5 t6 t7 t8 t9 t10 t11 t12 t13 t14 t15 t16 t17 ⊢
    refine ⟨Evl.sz_of (by show 0 ≤ 100000; decide), fun p19 hp19 => ?_⟩
    have t19 : Tg 400 D (upd H18 p19 (.tup [])) (.ref p19) := .tup (o18.not hp19) upd_same (by show 0 ≤ 400; decide) tg_nil
    have s19 := same_new (o := .tup []) hp19
    have o19 := o18.same s19
    have S19 := S18.trans s19
    have t1 := t1.same s19
    have t2 := t2.same s19
    have t3 := t3.same s19
    have t4 := t4.same s19
    have t5 := t5.same s19
    have e5 := s19 _ _ e5
    have t6 := t6.same s19
    have t7 := t7.same s19
    have t8 := t8.same s19
    have t9 := t9.same s19
    have t10 := t10.same s19
    have t11 := t11.same s19
    have t12 := t12.same s19
    have t13 := t13.same s19
    have t14 := t14.same s19
    have t15 := t15.same s19
    have t16 := t16.same s19
    have t17 := t17.same s19
    have t18 := t18.same s19
    generalize upd H18 p19 _ = H19 at t19 s19 o19 S19 t1 t2 t3 t4 t5 e5 t6 t7 t8 t9 t10 t11 t12 t13 t14 t15 t16 t17 t18 ⊢
    refine ⟨Evl.sz_of (by show 2 ≤ 100000; decide), fun p20 hp20 => ?_⟩
    have t20 : Tg 400 D (upd H19 p20 (.tup [(.ref p18), (.ref p19)])) (.ref p20) := .tup (o19.not hp20) upd_same (by show 2 ≤ 400; decide) (tg_cons (t18.same (same_new hp20)) (tg_cons (t19.same (same_new hp20)) tg_nil))
    have s20 := same_new (o := .tup [(.ref p18), (.ref p19)]) hp20
    have o20 := o19.same s20
    have S20 := S19.trans s20
    have t1 := t1.same s20
    have t2 := t2.same s20
    have t3 := t3.same s20
    have t4 := t4.same s20
    have t5 := t5.same s20
    have e5 := s20 _ _ e5
    have t6 := t6.same s20
    have t7 := t7.same s20
    have t8 := t8.same s20
    have t9 := t9.same s20
    have t10 := t10.same s20
    have t11 := t11.same s20
    have t12 := t12.same s20
    have t13 := t13.same s20
    have t14 := t14.same s20
    have t15 := t15.same s20
    have t16 := t16.same s20
    have t17 := t17.same s20
    have t18 := t18.same s20
    have t19 := t19.same s20
    generalize upd H19 p20 _ = H20 at t20 s20 o20 S20 t1 t2 t3 t4 t5 e5 t6 t7 t8 t9 t10 t11 t12 t13 t14 t15 t16 t17 t18 t19 ⊢
    refine ⟨Evl.sz_of (by show 7 ≤ 100000; decide), fun p21 hp21 => ?_⟩
    have t21 : Tg 400 D (upd H20 p21 (.lst [(.ref p7), (.ref p9), (.ref p11), (.ref p13), (.ref p15), (.ref p17), (.ref p20)])) (.ref p21) := .lst (o20.not hp21) upd_same (by show 7 ≤ 400; decide) (tg_cons (t7.same (same_new hp21)) (tg_cons (t9.same (same_new hp21)) (tg_cons (t11.same (same_new hp21)) (tg_cons (t13.same (same_new hp21)) (tg_cons (t15.same (same_new hp21)) (tg_cons (t17.same (same_new hp21)) (tg_cons (t20.same (same_new hp21)) tg_nil)))))))
    have s21 := same_new (o := .lst [(.ref p7), (.ref p9), (.ref p11), (.ref p13), (.ref p15), (.ref p17), (.ref p20)]) hp21
    have e21 : upd H20 p21 (.lst [(.ref p7), (.ref p9), (.ref p11), (.ref p13), (.ref p15), (.ref p17), (.ref p20)]) p21 = some (.lst [(.ref p7), (.ref p9), (.ref p11), (.ref p13), (.ref p15), (.ref p17), (.ref p20)]) := upd_same
    have o21 := o20.same s21
    have S21 := S20.trans s21
    have t1 := t1.same s21
    have t2 := t2.same s21
    have t3 := t3.same s21
    have t4 := t4.same s21
    have t5 := t5.same s21
    have e5 := s21 _ _ e5
    have t6 := t6.same s21
    have t7 := t7.same s21
    have t8 := t8.same s21
    have t9 := t9.same s21
    have t10 := t10.same s21
    have t11 := t11.same s21
    have t12 := t12.same s21
    have t13 := t13.same s21
    have t14 := t14.same s21
    have t15 := t15.same s21
    have t16 := t16.same s21
    have t17 := t17.same s21
    have t18 := t18.same s21
    have t19 := t19.same s21
    have t20 := t20.same s21
    generalize upd H20 p21 _ = H21 at t21 s21 o21 S21 e21 t1 t2 t3 t4 t5 e5 t6 t7 t8 t9 t10 t11 t12 t13 t14 t15 t16 t17 t18 t19 t20 ⊢
    refine ⟨p5, p21, _, _, rfl, rfl, e5, e21, Evl.sz_of (by show 18 + 7 ≤ 100000; decide), fun p22 hp22 => ?_⟩
    have tj22 := tg_join t5 e5 t21 e21 (o21.not hp22) (by show 18 + 7 ≤ 400; decide) hp22
    generalize upd H21 p22 _ = H22 at tj22 ⊢
    obtain ⟨xs22, hx22, e22, s22, t22⟩ := tj22
    have o22 := o21.same s22
    have S22 := S21.trans s22
    refine ⟨_, rfl, Evl.sz_of (by show 2 ≤ 100000; decide), fun p23 hp23 => ?_⟩
    have t23 : Tg 400 D (upd H22 p23 (.tup [.str (Str.ofString "b"), .int 1])) (.ref p23) := .tup (o22.not hp23) upd_same (by show 2 ≤ 400; decide) (tg_cons (.str (by decide +kernel)) (tg_cons (.int (by decide)) tg_nil))
    have s23 := same_new (o := .tup [.str (Str.ofString "b"), .int 1]) hp23
    have o23 := o22.same s23
    have S23 := S22.trans s23
    have t22 := t22.same s23
    have e22 := s23 _ _ e22
    generalize upd H22 p23 _ = H23 at t23 s23 o23 S23 t22 e22 ⊢
    refine ⟨Evl.sz_of (by show 2 ≤ 100000; decide), fun p24 hp24 => ?_⟩
    have t24 : Tg 400 D (upd H23 p24 (.tup [.str (Str.ofString "a"), (.ref p23)])) (.ref p24) := .tup (o23.not hp24) upd_same (by show 2 ≤ 400; decide) (tg_cons (.str (by decide +kernel)) (tg_cons (t23.same (same_new hp24)) tg_nil))
    have s24 := same_new (o := .tup [.str (Str.ofString "a"), (.ref p23)]) hp24
    have o24 := o23.same s24
    have S24 := S23.trans s24
    have t22 := t22.same s24
    have e22 := s24 _ _ e22
    have t23 := t23.same s24
    generalize upd H23 p24 _ = H24 at t24 s24 o24 S24 t22 e22 t23 ⊢
    refine ⟨Evl.sz_of (by show 1 ≤ 100000; decide), fun p25 hp25 => ?_⟩
    have t25 : Tg 400 D (upd H24 p25 (.tup [.non])) (.ref p25) := .tup (o24.not hp25) upd_same (by show 1 ≤ 400; decide) (tg_cons .non tg_nil)
    have s25 := same_new (o := .tup [.non]) hp25
    have o25 := o24.same s25
    have S25 := S24.trans s25
    have t22 := t22.same s25
    have e22 := s25 _ _ e22
    have t23 := t23.same s25
    have t24 := t24.same s25
    generalize upd H24 p25 _ = H25 at t25 s25 o25 S25 t22 e22 t23 t24 ⊢
    refine ⟨Evl.sz_of (by show 2 ≤ 100000; decide), fun p26 hp26 => ?_⟩
    have t26 : Tg 400 D (upd H25 p26 (.tup [.str (Str.ofString "a"), (.ref p25)])) (.ref p26) := .tup (o25.not hp26) upd_same (by show 2 ≤ 400; decide) (tg_cons (.str (by decide +kernel)) (tg_cons (t25.same (same_new hp26)) tg_nil))
    have s26 := same_new (o := .tup [.str (Str.ofString "a"), (.ref p25)]) hp26
    have o26 := o25.same s26
    have S26 := S25.trans s26
    have t22 := t22.same s26
    have e22 := s26 _ _ e22
    have t23 := t23.same s26
    have t24 := t24.same s26
    have t25 := t25.same s26
    generalize upd H25 p26 _ = H26 at t26 s26 o26 S26 t22 e22 t23 t24 t25 ⊢
    refine ⟨Evl.sz_of (by show 1 ≤ 100000; decide), fun p27 hp27 => ?_⟩
    have t27 : Tg 400 D (upd H26 p27 (.tup [.str (Str.ofString "b")])) (.ref p27) := .tup (o26.not hp27) upd_same (by show 1 ≤ 400; decide) (tg_cons (.str (by decide +kernel)) tg_nil)
    have s27 := same_new (o := .tup [.str (Str.ofString "b")]) hp27
    have e27 : upd H26 p27 (.tup [.str (Str.ofString "b")]) p27 = some (.tup [.str (Str.ofString "b")]) := upd_same
    have o27 := o26.same s27
    have S27 := S26.trans s27
    have t22 := t22.same s27
    have e22 := s27 _ _ e22
    have t23 := t23.same s27
    have t24 := t24.same s27
    have t25 := t25.same s27
    have t26 := t26.same s27
    generalize upd H26 p27 _ = H27 at t27 s27 o27 S27 e27 t22 e22 t23 t24 t25 t26 ⊢
    refine ⟨p27, 7, _, rfl, rfl, .inl (.inl e27), (by intro z; cases z), by decide, by decide, (by show 1 ≤ 1000; decide), fun p28 hp28 => ?_⟩
    have t28 : Tg 400 D (upd H27 p28 (.tup (List.replicate ((7 : Int)).toNat [.str (Str.ofString "b")]).flatten)) (.ref p28) := .tup (o27.not hp28) upd_same (by decide) (fun x hx => by rw [show (List.replicate ((7 : Int)).toNat [.str (Str.ofString "b")]).flatten = List.replicate 7 (V.str (Str.ofString "b")) from rfl] at hx; rw [List.eq_of_mem_replicate hx]; exact .str (by decide +kernel))
    have s28 := same_new (o := .tup (List.replicate ((7 : Int)).toNat [.str (Str.ofString "b")]).flatten) hp28
    have o28 := o27.same s28
    have S28 := S27.trans s28
    have t22 := t22.same s28
    have e22 := s28 _ _ e22
    have t23 := t23.same s28
    have t24 := t24.same s28
    have t25 := t25.same s28
    have t26 := t26.same s28
    have t27 := t27.same s28
    have e27 := s28 _ _ e27
    generalize upd H27 p28 _ = H28 at t28 s28 o28 S28 t22 e22 t23 t24 t25 t26 t27 e27 ⊢
    refine ⟨Evl.sz_of (by show 2 ≤ 100000; decide), fun p29 hp29 => ?_⟩
    have t29 : Tg 400 D (upd H28 p29 (.tup [.str (Str.ofString "a"), (.ref p28)])) (.ref p29) := .tup (o28.not hp29) upd_same (by show 2 ≤ 400; decide) (tg_cons (.str (by decide +kernel)) (tg_cons (t28.same (same_new hp29)) tg_nil))
    have s29 := same_new (o := .tup [.str (Str.ofString "a"), (.ref p28)]) hp29
    have o29 := o28.same s29
    have S29 := S28.trans s29
    have t22 := t22.same s29
    have e22 := s29 _ _ e22
    have t23 := t23.same s29
    have t24 := t24.same s29
    have t25 := t25.same s29
    have t26 := t26.same s29
    have t27 := t27.same s29
    have e27 := s29 _ _ e27
    have t28 := t28.same s29
    generalize upd H28 p29 _ = H29 at t29 s29 o29 S29 t22 e22 t23 t24 t25 t26 t27 e27 t28 ⊢
    refine ⟨Evl.sz_of (by show 0 ≤ 100000; decide), fun p30 hp30 => ?_⟩
    have t30 : Tg 400 D (upd H29 p30 (.tup [])) (.ref p30) := .tup (o29.not hp30) upd_same (by show 0 ≤ 400; decide) tg_nil
    have s30 := same_new (o := .tup []) hp30
    have o30 := o29.same s30
    have S30 := S29.trans s30
    have t22 := t22.same s30
    have e22 := s30 _ _ e22
    have t23 := t23.same s30
    have t24 := t24.same s30
    have t25 := t25.same s30
    have t26 := t26.same s30
    have t27 := t27.same s30
    have e27 := s30 _ _ e27
    have t28 := t28.same s30
    have t29 := t29.same s30
    generalize upd H29 p30 _ = H30 at t30 s30 o30 S30 t22 e22 t23 t24 t25 t26 t27 e27 t28 t29 ⊢
    refine ⟨Evl.sz_of (by show 0 ≤ 100000; decide), fun p31 hp31 => ?_⟩
    have t31 : Tg 400 D (upd H30 p31 (.tup [])) (.ref p31) := .tup (o30.not hp31) upd_same (by show 0 ≤ 400; decide) tg_nil
    have s31 := same_new (o := .tup []) hp31
    have o31 := o30.same s31
    have S31 := S30.trans s31
    have t22 := t22.same s31
    have e22 := s31 _ _ e22
    have t23 := t23.same s31
    have t24 := t24.same s31
    have t25 := t25.same s31
    have t26 := t26.same s31
    have t27 := t27.same s31
    have e27 := s31 _ _ e27
    have t28 := t28.same s31
    have t29 := t29.same s31
    have t30 := t30.same s31
    generalize upd H30 p31 _ = H31 at t31 s31 o31 S31 t22 e22 t23 t24 t25 t26 t27 e27 t28 t29 t30 ⊢
    refine ⟨Evl.sz_of (by show 3 ≤ 100000; decide), fun p32 hp32 => ?_⟩
    have t32 : Tg 400 D (upd H31 p32 (.tup [.str (Str.ofString "a"), (.ref p30), (.ref p31)])) (.ref p32) := .tup (o31.not hp32) upd_same (by show 3 ≤ 400; decide) (tg_cons (.str (by decide +kernel)) (tg_cons (t30.same (same_new hp32)) (tg_cons (t31.same (same_new hp32)) tg_nil)))
    have s32 := same_new (o := .tup [.str (Str.ofString "a"), (.ref p30), (.ref p31)]) hp32
    have o32 := o31.same s32
    have S32 := S31.trans s32
    have t22 := t22.same s32
    have e22 := s32 _ _ e22
    have t23 := t23.same s32
    have t24 := t24.same s32
    have t25 := t25.same s32
    have t26 := t26.same s32
    have t27 := t27.same s32
    have e27 := s32 _ _ e27
    have t28 := t28.same s32
    have t29 := t29.same s32
    have t30 := t30.same s32
    have t31 := t31.same s32
    generalize upd H31 p32 _ = H32 at t32 s32 o32 S32 t22 e22 t23 t24 t25 t26 t27 e27 t28 t29 t30 t31 ⊢
    refine ⟨Str.ofString "a", 41, rfl, rfl, by decide, by decide, by decide +kernel, fun r32 hr32 _ => ?_⟩
    have lr32 : r32.length ≤ 400 := by rw [show (Str.ofString "a").length = 1 by decide +kernel] at hr32; omega
    refine ⟨Evl.sz_of (by show 2 ≤ 100000; decide), fun p33 hp33 => ?_⟩
    have t33 : Tg 400 D (upd H32 p33 (.tup [.str (Str.ofString "a"), .str (Str.ofString "b")])) (.ref p33) := .tup (o32.not hp33) upd_same (by show 2 ≤ 400; decide) (tg_cons (.str (by decide +kernel)) (tg_cons (.str (by decide +kernel)) tg_nil))
    have s33 := same_new (o := .tup [.str (Str.ofString "a"), .str (Str.ofString "b")]) hp33
    have o33 := o32.same s33
    have S33 := S32.trans s33
    have t22 := t22.same s33
    have e22 := s33 _ _ e22
    have t23 := t23.same s33
    have t24 := t24.same s33
    have t25 := t25.same s33
    have t26 := t26.same s33
    have t27 := t27.same s33
    have e27 := s33 _ _ e27
    have t28 := t28.same s33
    have t29 := t29.same s33
    have t30 := t30.same s33
    have t31 := t31.same s33
    have t32 := t32.same s33
    generalize upd H32 p33 _ = H33 at t33 s33 o33 S33 t22 e22 t23 t24 t25 t26 t27 e27 t28 t29 t30 t31 t32 ⊢
    refine ⟨Evl.sz_of (by show 6 ≤ 100000; decide), fun p34 hp34 => ?_⟩
    have t34 : Tg 400 D (upd H33 p34 (.lst [(.ref p24), (.ref p26), (.ref p29), (.ref p32), .str r32, (.ref p33)])) (.ref p34) := .lst (o33.not hp34) upd_same (by show 6 ≤ 400; decide) (tg_cons (t24.same (same_new hp34)) (tg_cons (t26.same (same_new hp34)) (tg_cons (t29.same (same_new hp34)) (tg_cons (t32.same (same_new hp34)) (tg_cons (.str lr32) (tg_cons (t33.same (same_new hp34)) tg_nil))))))
    have s34 := same_new (o := .lst [(.ref p24), (.ref p26), (.ref p29), (.ref p32), .str r32, (.ref p33)]) hp34
    have e34 : upd H33 p34 (.lst [(.ref p24), (.ref p26), (.ref p29), (.ref p32), .str r32, (.ref p33)]) p34 = some (.lst [(.ref p24), (.ref p26), (.ref p29), (.ref p32), .str r32, (.ref p33)]) := upd_same
    have o34 := o33.same s34
    have S34 := S33.trans s34
    have t22 := t22.same s34
    have e22 := s34 _ _ e22
    have t23 := t23.same s34
    have t24 := t24.same s34
    have t25 := t25.same s34
    have t26 := t26.same s34
    have t27 := t27.same s34
    have e27 := s34 _ _ e27
    have t28 := t28.same s34
    have t29 := t29.same s34
    have t30 := t30.same s34
    have t31 := t31.same s34
    have t32 := t32.same s34
    have t33 := t33.same s34
    generalize upd H33 p34 _ = H34 at t34 s34 o34 S34 e34 t22 e22 t23 t24 t25 t26 t27 e27 t28 t29 t30 t31 t32 t33 ⊢
    refine ⟨p22, p34, _, _, rfl, rfl, e22, e34, Evl.sz_of (by have := hx22; show xs22.length + 6 ≤ 100000; simp only [List.length_cons, List.length_nil] at this; omega), fun p35 hp35 => ?_⟩
    have tj35 := tg_join t22 e22 t34 e34 (o34.not hp35) (by have := hx22; show xs22.length + 6 ≤ 400; simp only [List.length_cons, List.length_nil] at this; omega) hp35
    generalize upd H34 p35 _ = H35 at tj35 ⊢
    obtain ⟨xs35, hx35, e35, s35, t35⟩ := tj35
    rw [hx22] at hx35
    have o35 := o34.same s35
    have S35 := S34.trans s35
    refine ⟨_, rfl, _, rfl, b, 31, N, rfl, by decide, by decide, by omega, hB.same S35, fun H9 r c9 B9 r0 r1 => ?_⟩
    have hl : xs35.length = 31 := hx35
    obtain ⟨v, hv, ev⟩ := at_lt (xs := xs35) r0 (by rw [hl]; exact r1)
    have e9 := c9 _ _ ((hB.same S34).ne hp35).symm e35
    exact ⟨p35, _, r, v, rfl, rfl, .inl (.inl e9), ev, q H9 v ((Chg.same S35).trans c9) B9 (((t35.items e35).2 v hv).chg hD c9)⟩
theorem turned_step (T : Txt K mg A) {L m : Nat} (hL : 2 ≤ L) (G_law_turned : FnOk P w K mg base CX0 L A.a_law_turned A.d_law_turned ["bag", "thing", "deep"] (spTurned m)) : FnOk P w K mg base CX0 (L + 1) A.a_law_turned A.d_law_turned ["bag", "thing", "deep"] (spTurned (m + 1)) := by
  have G_law_draw := ok_law_draw (P := P) (w := w) (base := base) T
  have G_law_odd := ok_law_odd (P := P) (w := w) (base := base) T
  have G_law_signs := ok_law_signs (P := P) (w := w) (base := base) T
  refine T.F_law_turned.ok sc_law_turned (fun vs H Q E h => ?_) (fun cdv Ar outer s H vs Q E hr h => ?_)
  · obtain ⟨b, v, deep, N, B, D, rfl, _⟩ := h
    rfl
  · obtain ⟨b, v, deep, N, B, D, rfl, hdm, hN, hB, hD, hO, hT, hB4, hB2, q⟩ := h
    refine ⟨_, (pss_cons (ps_set (i := 3) sc_law_turned.nd rfl (.inl rfl) (pe_ifExp (pt_val (pe_callB (k_isiT K) (by rfl) T.n_isinstance (by decide +kernel) (pa_cons (pv 1) (pa_cons (pe_tup (pa_cons (pe_bltn (v := .ty "list") (by rfl) T.n_list (by decide +kernel) rfl) (pa_cons (pe_bltn (v := .ty "tuple") (by rfl) T.n_tuple (by decide +kernel) rfl) pa_nil))) pa_nil)))) (pe_callTy (k_list K) (by rfl) T.n_list (by decide +kernel) (pa_cons (pv 1) pa_nil)) (pe_lst pa_nil)))
      (pss_cons (ps_set (i := 4) sc_law_turned.nd rfl (.inl rfl) (pe_call G_law_draw (hr.mono (by omega)) (by rfl) T.g_law_draw T.F_law_draw.kp T.b_law_draw .nil pass0 (pa_cons (pv 0) (pa_cons (pe_op op_add (pe_callB (k_len K) (by rfl) T.n_len PySem.boot_len (pa_cons (pv 3) pa_nil)) pe_int) pa_nil))))
      (pss_cons (ps_if (PW.pt (pw_and (pt_cmpR op_gt (pv 2) pe_int (nomark _)) (pw_and1 (pt_cmpR op_lt (pv 4) (pe_callB (k_len K) (by rfl) T.n_len PySem.boot_len (pa_cons (pv 3) pa_nil)) (nomark _)))))
      (pss_cons (ps_asg (pe_call G_law_turned (hr.mono (by omega)) (by rfl) T.g_law_turned T.F_law_turned.kp T.b_law_turned .nil pass0 (pa_cons (pv 0) (pa_cons (pe_ix (k_ix_list K) (pv 3) (pv 4) (fun _ _ => rfl)) (pa_cons (pe_op op_sub (pv 2) pe_int) pa_nil)))) (pg_sub (pv 3) (pv 4) set_list))
      (pss_one (ps_ret (pe_ifExp (pt_val (pe_callB (k_isi K) (by rfl) T.n_isinstance (by decide +kernel) (pa_cons (pv 1) (pa_cons (pe_bltn (v := .ty "list") (by rfl) T.n_list (by decide +kernel) rfl) pa_nil)))) (pv 3) (pe_callTy (k_tuple K) (by rfl) T.n_tuple (by decide +kernel) (pa_cons (pv 3) pa_nil))))))
      pss_nil)
      (pss_cons (ps_set (i := 5) sc_law_turned.nd rfl (.inl rfl) (pe_call G_law_draw (hr.mono (by omega)) (by rfl) T.g_law_draw T.F_law_draw.kp T.b_law_draw .nil pass0 (pa_cons (pv 0) (pa_cons pe_int pa_nil))))
      (pss_cons (ps_if (pt_cmpR (k_neE K hr.units) (pv 3) (pe_lst pa_nil) (nomark _))
      (pss_cons (ps_set (i := 4) sc_law_turned.nd rfl (.inl rfl) (pe_op op_mod (pv 4) (pe_callB (k_len K) (by rfl) T.n_len PySem.boot_len (pa_cons (pv 3) pa_nil))))
      (pss_cons (ps_set (i := 6) sc_law_turned.nd rfl (.inl rfl) (pe_lst (pa_cons (pe_op op_cat (pe_slice (k_sl_list K) (pv 3) po_none (po_some (pv 4))) (pe_slice (k_sl_list K) (pv 3) (po_some (pe_op op_add (pv 4) pe_int)) po_none)) (pa_cons (pe_op op_cat (pe_op op_cat (pe_slice (k_sl_list K) (pv 3) po_none (po_some (pv 4))) (pe_slice (k_sl_list K) (pv 3) (po_some (pv 4)) (po_some (pe_op op_add (pv 4) pe_int)))) (pe_slice (k_sl_list K) (pv 3) (po_some (pv 4)) po_none)) (pa_cons (k_revL K (pv 3)) pa_nil)))))
      (pss_cons (ps_set (i := 6) sc_law_turned.nd rfl (.inl rfl) (pe_op op_cat (pv 6) (pe_lst (pa_cons (pe_op op_cat (pe_op op_cat (pe_slice (k_sl_list K) (pv 3) po_none (po_some (pv 4))) (pe_lst (pa_cons (pe_call G_law_odd (hr.mono (by omega)) (by rfl) T.g_law_odd T.F_law_odd.kp T.b_law_odd .nil pass0 (pa_cons (pv 0) pa_nil)) pa_nil))) (pe_slice (k_sl_list K) (pv 3) (po_some (pv 4)) po_none)) (pa_cons (pe_op op_cat (pe_op op_cat (pe_slice (k_sl_list K) (pv 3) po_none (po_some (pv 4))) (pe_lst (pa_cons (pe_call G_law_odd (hr.mono (by omega)) (by rfl) T.g_law_odd T.F_law_odd.kp T.b_law_odd .nil pass0 (pa_cons (pv 0) pa_nil)) pa_nil))) (pe_slice (k_sl_list K) (pv 3) (po_some (pe_op op_add (pv 4) pe_int)) po_none)) pa_nil)))))
      (pss_cons (ps_if (pt_cmpR op_lt (pv 5) pe_int (nomark _))
      (pss_one (ps_ret (pe_ifExp (pt_val (pe_callB (k_isi K) (by rfl) T.n_isinstance (by decide +kernel) (pa_cons (pv 1) (pa_cons (pe_bltn (v := .ty "list") (by rfl) T.n_list (by decide +kernel) rfl) pa_nil)))) (pe_ix (k_ix_list K) (pv 6) (pv 5) (fun _ _ => rfl)) (pe_callTy (k_tuple K) (by rfl) T.n_tuple (by decide +kernel) (pa_cons (pe_ix (k_ix_list K) (pv 6) (pv 5) (fun _ _ => rfl)) pa_nil)))))
      pss_nil)
      (pss_one (ps_if (pt_cmpR op_eq (pv 5) pe_int (nomark _))
      (pss_one (ps_ret (pe_ifExp (pt_val (pe_callB (k_isi K) (by rfl) T.n_isinstance (by decide +kernel) (pa_cons (pv 1) (pa_cons (pe_bltn (v := .ty "list") (by rfl) T.n_list (by decide +kernel) rfl) pa_nil)))) (pe_callTy (k_tuple K) (by rfl) T.n_tuple (by decide +kernel) (pa_cons (pv 3) pa_nil)) (pv 3))))
      pss_nil))))))
      pss_nil)
      (pss_cons (ps_if (PW.pt (pw_and (pt_val (pe_callB (k_isi K) (by rfl) T.n_isinstance (by decide +kernel) (pa_cons (pv 1) (pa_cons (pe_bltn (v := .ty "str") (by rfl) T.n_str (by decide +kernel) rfl) pa_nil)))) (pw_and1 (pt_cmpR op_lt (pv 5) pe_int (nomark _)))))
      (pss_cons (ps_set (i := 7) sc_law_turned.nd rfl (.inl rfl) (pe_call G_law_draw (hr.mono (by omega)) (by rfl) T.g_law_draw T.F_law_draw.kp T.b_law_draw .nil pass0 (pa_cons (pv 0) (pa_cons (pe_op op_add (pe_callB call_len_str (by rfl) T.n_len PySem.boot_len (pa_cons (pv 1) pa_nil)) pe_int) pa_nil))))
      (pss_cons (ps_set (i := 8) sc_law_turned.nd rfl (.inl rfl) (pe_op op_add_str (pe_call0 G_law_signs (hr.mono (by omega)) (by rfl) T.g_law_signs T.F_law_signs.kp T.b_law_signs .nil pass0) pe_str))
      (pss_cons (ps_set (i := 9) sc_law_turned.nd rfl (.inl rfl) (pe_ix ix_str (pv 8) (pe_call G_law_draw (hr.mono (by omega)) (by rfl) T.g_law_draw T.F_law_draw.kp T.b_law_draw .nil pass0 (pa_cons (pv 0) (pa_cons (pe_callB call_len_str (by rfl) T.n_len PySem.boot_len (pa_cons (pv 8) pa_nil)) pa_nil))) (fun _ _ => rfl)))
      (pss_cons (ps_set (i := 6) sc_law_turned.nd rfl (.inl rfl) (pe_lst (pa_cons (pe_op op_add_str (pv 1) (pv 9)) (pa_cons (pe_slice sl_str (pv 1) (po_some pe_int) po_none) (pa_cons (pe_upper (pv 1)) (pa_cons (pe_lst (pa_cons (pv 1) pa_nil)) (pa_cons (pe_op op_add_str (pe_op op_add_str (pe_slice sl_str (pv 1) po_none (po_some (pv 7))) (pv 9)) (pe_slice sl_str (pv 1) (po_some (pv 7)) po_none)) (pa_cons (pe_op op_repS (pe_slice sl_str (pv 1) po_none (po_some pe_int)) pe_int) pa_nil))))))))
      (pss_one (ps_ret (pe_ix (k_ix_list K) (pe_op op_cat (pv 6) (pe_lst (pa_cons (pe_op op_add_str (pe_op op_add_str (pe_slice sl_str (pv 1) po_none (po_some (pv 7))) (pv 9)) (pe_slice sl_str (pv 1) (po_some (pe_op op_add (pv 7) pe_int)) po_none)) pa_nil))) (pv 5) (fun _ _ => rfl))))))))
      pss_nil)
      (pss_cons (ps_if (PW.pt (pw_and (pt_val (pe_callB (k_isi K) (by rfl) T.n_isinstance (by decide +kernel) (pa_cons (pv 1) (pa_cons (pe_bltn (v := .ty "int") (by rfl) T.n_int (by decide +kernel) rfl) pa_nil)))) (pw_and (pt_not (pt_val (pe_callB (k_isi K) (by rfl) T.n_isinstance (by decide +kernel) (pa_cons (pv 1) (pa_cons (pe_bltn (v := .ty "bool") (by rfl) T.n_bool (by decide +kernel) rfl) pa_nil))))) (pw_and1 (pt_cmpR op_lt (pv 5) pe_int (nomark _))))))
      (pss_one (ps_ret (pe_ix (k_ix_list K) (pe_lst (pa_cons (pe_op op_add (pv 1) pe_int) (pa_cons (pe_op op_sub pe_int (pv 1)) (pa_cons (pe_callTy call_str_int (by rfl) T.n_str (by decide +kernel) (pa_cons (pv 1) pa_nil)) (pa_cons (pe_lst (pa_cons (pv 1) pa_nil)) (pa_cons (pe_cmpR op_eq (pv 1) pe_int (nomark _)) pa_nil)))))) (pv 5) (fun _ _ => rfl))))
      pss_nil)
      (pss_one (ps_ret (pe_call G_law_odd (hr.mono (by omega)) (by rfl) T.g_law_odd T.F_law_odd.kp T.b_law_odd .nil pass0 (pa_cons (pv 0) pa_nil))))))))))), ?_⟩
    -- the row
    refine seq_abs (fun σ' H' => ∃ (r : Addr) (xs : List V), σ' = [some (.ref b), some v, some (.int (deep : Int)), some (.ref r), none, none, none, none, none, none] ∧ Same H H' ∧ H r = none ∧ H' r = some (.lst xs) ∧ xs.length ≤ B ∧ ∀ x ∈ xs, Tg B D H x) (fun Nx hN => ?_) ?_
    · obtain ⟨d, hd, g⟩ := id hT
      have g0 := g.same hid_sub
      refine ⟨_, rfl, Evl.sz_of (by show 2 ≤ 100000; decide), fun p hp => ?_⟩
      have s1 := same_new (o := .tup [.ty "list", .ty "tuple"]) hp
      refine ⟨v, p, _, _, _, _, rfl, upd_same, .cons (.ty "list") (.cons (.ty "tuple") .nil), (g0.same s1).ty, kit_lt, _, rfl, ?_⟩
      have fin : tLst tNil [some (.ref b), some v, some (.int (deep : Int)), none, none, none, none, none, none, none] (upd H p (.tup [.ty "list", .ty "tuple"])) (fun x H1 => gName 3 x [some (.ref b), some v, some (.int (deep : Int)), none, none, none, none, none, none, none] H1 Nx) :=
        ⟨Evl.sz_of (by show 0 ≤ 100000; decide), fun r hr => hN _ _ ⟨r, [], rfl, s1.trans (same_new hr), none_of_same s1 hr, upd_same, Nat.zero_le _, fun _ h => nomatch h⟩⟩
      cases g with
      | @lst a xs ds h ga =>
        have h := (hid_some h).2
        have it := hT.items h
        exact iteT ⟨_, rfl, a, xs, rfl, .inl (.inl (.inl (s1 _ _ h))), fun r hr => hN _ _ ⟨r, xs, rfl, s1.trans (same_new hr), none_of_same s1 hr, upd_same, it.1, it.2⟩⟩
      | @tup a xs ds h ga =>
        have h := (hid_some h).2
        have it := hT.itemsT h
        exact iteT ⟨_, rfl, a, xs, rfl, .inr (.inl (.inl (s1 _ _ h))), fun r hr => hN _ _ ⟨r, xs, rfl, s1.trans (same_new hr), none_of_same s1 hr, upd_same, it.1, it.2⟩⟩
      | non => exact iteF fin
      | bl x => exact iteF fin
      | int x => exact iteF fin
      | str x => exact iteF fin
      | dct h => exact iteF fin
    rintro σ' H1 ⟨r, xs, rfl, s1, hr0, e1, hl, hx⟩
    -- the place
    have B1 := hB.same s1
    have nb : b ≠ r := hB.ne hr0
    refine ⟨_, rfl, _, rfl, r, xs, rfl, .inl (.inl (.inl e1)), _, _, rfl, rfl, b, _, N, rfl, by omega, by omega, by omega, B1, fun H2 at_ c2 B2 a0 a1 => ?_⟩
    have e2 := c2 _ _ nb.symm e1
    have c12 := (Chg.same s1).trans c2
    -- a part within
    dsimp only
    refine seq_abs (fun σ' H' => σ' = [some (.ref b), some v, some (.int (deep : Int)), some (.ref r), some (.int at_), none, none, none, none, none] ∧ H' = H2) (fun Nx hN => ?_) ?_
    · refine ⟨_, rfl, _, _, rfl, rfl, _, rfl, ite2 (fun h1 => ?_) (fun _ => iteF (hN _ _ ⟨rfl, rfl⟩))⟩
      refine ⟨_, rfl, _, rfl, r, xs, rfl, .inl (.inl (.inl e2)), _, _, rfl, rfl, _, rfl, ite2 (fun h2 => ?_) (fun _ => hN _ _ ⟨rfl, rfl⟩)⟩
      have h1 : (0 : Int) < (deep : Int) := of_decide_eq_true h1
      have h2 : at_ < (xs.length : Int) := of_decide_eq_true h2
      obtain ⟨x, hxm, ex⟩ := at_lt (xs := xs) a0 h2
      refine ⟨_, rfl, _, rfl, _, rfl, r, xs, at_, x, rfl, rfl, .inl (.inl e2), ex, _, rfl, _, _, rfl, rfl, b, x, deep - 1, N + 1, B, Dp1 D r, ?_, by omega, by omega, B2, .inl hD, (hO.chg c12 B2).add e2, ((hx x hxm).hide s1 hr0).chg (b := b) (.inl hD) c2, hB4, hB2, fun H3 v3 c3 B3 t3 => ?_⟩
      · show [V.ref b, x, V.int ((deep : Int) - 1)] = [V.ref b, x, V.int ((deep - 1 : Nat) : Int)]
        rw [show ((deep - 1 : Nat) : Int) = (deep : Int) - 1 by omega]
      have e3 := c3 _ _ nb.symm e2
      have hlt : at_.toNat < xs.length := by omega
      refine ⟨_, rfl, _, rfl, r, xs, at_, at_.toNat, rfl, rfl, e3, ?_, ?_⟩
      · unfold ixN
        rw [if_pos a0, if_pos h2]
      have e4 : upd H3 r (.lst (xs.set at_.toNat v3)) r = some (.lst (xs.set at_.toNat v3)) := upd_same
      have c4 : Chg b H (upd H3 r (.lst (xs.set at_.toNat v3))) := (c12.trans c3).mut hr0
      have B4 := B3.mut (o := .lst (xs.set at_.toNat v3)) nb
      have nr : ¬ D r := hO.not hr0
      have t4 : ∀ y ∈ xs.set at_.toNat v3, Tg (3 * B + 20) D (upd H3 r (.lst (xs.set at_.toNat v3))) y := fun y hy => by
        rcases List.mem_or_eq_of_mem_set hy with hy | rfl
        · exact ((((hx y hy).hide s1 hr0).chg (b := b) (.inl hD) (c2.trans c3)).bare _).mono (by omega)
        · exact t3.bare _
      have T4 := (hT.chg hD c4)
      generalize upd H3 r _ = H4 at e4 c4 B4 t4 T4 ⊢
      obtain ⟨d, hd, g⟩ := T4
      have hO4 := hO.chg c4 B4
      refine ⟨_, rfl, v, .ty "list", _, _, _, rfl, .ty "list", (g.same hid_sub).ty, kit_inst (d := d) (T := "list") (by decide), _, rfl, ite2 (fun _ => ?_) (fun _ => ?_)⟩
      · exact ⟨_, rfl, q _ _ c4 (B4.mono (by omega)) (.lst nr e4 (by rw [List.length_set]; omega) t4)⟩
      · refine ⟨_, rfl, r, _, rfl, .inl ⟨.inl (.inl e4), fun p hp => ?_⟩⟩
        exact q _ _ (c4.trans (.new hp)) ((B4.new hp).mono (by omega)) (.tup (hO4.not hp) upd_same (by rw [List.length_set]; omega) fun y hy => (t4 y hy).same (same_new hp))
    rintro σ' H2' ⟨rfl, rfl⟩
    -- the lot
    have hx2 : LO B D B H2' r := ⟨hO.not hr0, xs, e2, hl, fun y hy => ((hx y hy).chg hD c12)⟩
    have T2 := hT.chg hD c12
    have O2 := hO.chg c12 B2
    have hb := hO
    refine ⟨_, rfl, b, 8, _, rfl, by decide, by decide, by omega, B2, fun H3 lot c3 B3 l0 l1 => ?_⟩
    have L3 := hx2.chg hD c3
    have e3 := c3 _ _ nb.symm e2
    have T3 := T2.chg hD c3
    have O3 := O2.chg c3 B3
    have c13 := c12.trans c3
    dsimp only
    refine seq_abs (fun σ' H' => (∃ y4 y6, σ' = [some (.ref b), some v, some (.int (deep : Int)), some (.ref r), y4, some (.int lot), y6, none, none, none]) ∧ Chg b H H' ∧ BagAt (N + 4) b H') (fun Nx hN => ?_) ?_
    · refine ⟨_, rfl, Evl.sz_of (by show 0 ≤ 100000; decide), fun p hp => ⟨r, p, xs, rfl, rfl, .inl (.inl (same_new hp _ _ e3)), .inl (.inl upd_same), _, rfl, ite2 (fun hne => ?_) (fun _ => hN _ _ ⟨⟨_, _, rfl⟩, c13.trans (.new hp), (B3.new hp).mono (by omega)⟩)⟩⟩
      have hpos : 0 < xs.length := by
        cases xs with
        | nil => cases hne
        | cons x r => exact Nat.succ_pos _
      have s0 := same_new (o := .lst []) hp
      have er := s0 _ _ e3
      have Lr := L3.same s0
      have Tg_ := T3.same s0
      have Og := O3.same s0
      have Bg := B3.same s0
      have cg := c13.trans (.same s0)
      generalize upd H3 p _ = G0 at er Lr Tg_ Og Bg cg ⊢
      refine ⟨_, rfl, _, rfl, r, xs, rfl, .inl (.inl (.inl er)), _, _, rfl, rfl, by omega, ?_⟩
      refine ⟨_, rfl, ?_⟩
      dsimp only [tNoPart]
      refine ⟨_, rfl, _, rfl, ?_⟩
      refine lo_slice (K := K) Lr Og fun p1 G1 s1 a1 => ?_
      have Lr := Lr.same s1
      have Tg_ := Tg_.same s1
      have Og := Og.same s1
      have Bg := Bg.same s1
      have cg := cg.trans (.same s1)
      refine ⟨_, rfl, _, rfl, _, _, rfl, rfl, _, rfl, ?_⟩
      dsimp only [tNoPart]
      refine lo_slice (K := K) Lr Og fun p2 G2 s2 a2 => ?_
      have Lr := Lr.same s2
      have Tg_ := Tg_.same s2
      have a1 := a1.same s2
      have Og := Og.same s2
      have Bg := Bg.same s2
      have cg := cg.trans (.same s2)
      refine lo_cat a1 a2 Og (by omega) fun p3 G3 s3 a3 => ?_
      have Lr := Lr.same s3
      have Tg_ := Tg_.same s3
      have Og := Og.same s3
      have Bg := Bg.same s3
      have cg := cg.trans (.same s3)
      refine ⟨_, rfl, ?_⟩
      dsimp only [tNoPart]
      refine ⟨_, rfl, _, rfl, ?_⟩
      refine lo_slice (K := K) Lr Og fun p4 G4 s4 a4 => ?_
      have Lr := Lr.same s4
      have Tg_ := Tg_.same s4
      have a3 := a3.same s4
      have Og := Og.same s4
      have Bg := Bg.same s4
      have cg := cg.trans (.same s4)
      refine ⟨_, rfl, _, rfl, _, rfl, _, rfl, _, _, rfl, rfl, _, rfl, ?_⟩
      refine lo_slice (K := K) Lr Og fun p5 G5 s5 a5 => ?_
      have Lr := Lr.same s5
      have Tg_ := Tg_.same s5
      have a3 := a3.same s5
      have a4 := a4.same s5
      have Og := Og.same s5
      have Bg := Bg.same s5
      have cg := cg.trans (.same s5)
      refine lo_cat a4 a5 Og (by omega) fun p6 G6 s6 a6 => ?_
      have Lr := Lr.same s6
      have Tg_ := Tg_.same s6
      have a3 := a3.same s6
      have Og := Og.same s6
      have Bg := Bg.same s6
      have cg := cg.trans (.same s6)
      refine ⟨_, rfl, _, rfl, _, rfl, ?_⟩
      dsimp only [tNoPart]
      refine lo_slice (K := K) Lr Og fun p7 G7 s7 a7 => ?_
      have Lr := Lr.same s7
      have Tg_ := Tg_.same s7
      have a3 := a3.same s7
      have a6 := a6.same s7
      have Og := Og.same s7
      have Bg := Bg.same s7
      have cg := cg.trans (.same s7)
      refine lo_cat a6 a7 Og (by omega) fun p8 G8 s8 a8 => ?_
      have Lr := Lr.same s8
      have Tg_ := Tg_.same s8
      have a3 := a3.same s8
      have Og := Og.same s8
      have Bg := Bg.same s8
      have cg := cg.trans (.same s8)
      obtain ⟨dr, yr, er9, lr9, tr9⟩ := id Lr
      refine ⟨_, rfl, r, yr, rfl, .inl (.inl er9), fun p9 hp9 => ?_⟩
      have a9 : LO B D B (upd G8 p9 (.lst yr.reverse)) p9 := ⟨Og.not hp9, _, upd_same, by rw [List.length_reverse]; exact lr9, fun y hy => (tr9 y (List.mem_reverse.mp hy)).same (same_new hp9)⟩
      have s9 := same_new (o := .lst yr.reverse) hp9
      have Lr := Lr.same s9
      have Tg_ := Tg_.same s9
      have a3 := a3.same s9
      have a8 := a8.same s9
      have Og := Og.same s9
      have Bg := Bg.same s9
      have cg := cg.trans (.same s9)
      generalize upd G8 p9 _ = G9 at a9 s9 Lr Tg_ a3 a8 Og Bg cg ⊢
      refine ⟨Evl.sz_of (by show 3 ≤ 100000; decide), fun ps hps => ?_⟩
      have es : upd G9 ps (.lst [.ref p3, .ref p8, .ref p9]) ps = some (.lst [.ref p3, .ref p8, .ref p9]) := upd_same
      have nes : ps ≠ b := (Bg.ne hps).symm
      have ss := same_new (o := .lst [.ref p3, .ref p8, .ref p9]) hps
      have Lr := Lr.same ss
      have Tg_ := Tg_.same ss
      have a3 := a3.same ss
      have a8 := a8.same ss
      have a9 := a9.same ss
      have Og := Og.same ss
      have Bg := Bg.same ss
      have cg := cg.trans (.same ss)
      generalize upd G9 ps _ = Gs at es ss Lr Tg_ a3 a8 a9 Og Bg cg ⊢
      refine ⟨_, rfl, _, rfl, ?_⟩
      dsimp only [tNoPart]
      refine ⟨_, rfl, _, rfl, ?_⟩
      refine lo_slice (K := K) Lr Og fun p10 G10 s10 a10 => ?_
      have Lr := Lr.same s10
      have Tg_ := Tg_.same s10
      have a3 := a3.same s10
      have a8 := a8.same s10
      have a9 := a9.same s10
      have es := s10 _ _ es
      have Og := Og.same s10
      have Bg := Bg.same s10
      have cg := cg.trans (.same s10)
      refine ⟨_, rfl, b, N + 2, D, rfl, by omega, Bg, hD, Og, fun G11 v11 c11 B11 t11 => ?_⟩
      have Lr := Lr.chg hD c11
      have Tg_ := Tg_.chg hD c11
      have a3 := a3.chg hD c11
      have a8 := a8.chg hD c11
      have a9 := a9.chg hD c11
      have es := c11 _ _ nes es
      have a10 := a10.chg hD c11
      have Og := Og.chg c11 B11
      have Bg := B11
      have cg := cg.trans c11
      refine ⟨Evl.sz_of (by show 1 ≤ 100000; decide), fun p12 hp12 => ?_⟩
      have a12 : LO B D 1 (upd G11 p12 (.lst [v11])) p12 := ⟨Og.not hp12, _, upd_same, Nat.le_refl _, fun y hy => by rw [List.mem_singleton.mp hy]; exact (t11.mono hB4).same (same_new hp12)⟩
      have s12 := same_new (o := .lst [v11]) hp12
      have Lr := Lr.same s12
      have Tg_ := Tg_.same s12
      have a3 := a3.same s12
      have a8 := a8.same s12
      have a9 := a9.same s12
      have es := s12 _ _ es
      have a10 := a10.same s12
      have Og := Og.same s12
      have Bg := Bg.same s12
      have cg := cg.trans (.same s12)
      generalize upd G11 p12 _ = G12 at a12 s12 Lr Tg_ a3 a8 a9 es a10 Og Bg cg ⊢
      refine lo_cat a10 a12 Og (by omega) fun p13 G13 s13 a13 => ?_
      have Lr := Lr.same s13
      have Tg_ := Tg_.same s13
      have a3 := a3.same s13
      have a8 := a8.same s13
      have a9 := a9.same s13
      have es := s13 _ _ es
      have Og := Og.same s13
      have Bg := Bg.same s13
      have cg := cg.trans (.same s13)
      refine ⟨_, rfl, _, rfl, _, rfl, ?_⟩
      dsimp only [tNoPart]
      refine lo_slice (K := K) Lr Og fun p14 G14 s14 a14 => ?_
      have Lr := Lr.same s14
      have Tg_ := Tg_.same s14
      have a3 := a3.same s14
      have a8 := a8.same s14
      have a9 := a9.same s14
      have es := s14 _ _ es
      have a13 := a13.same s14
      have Og := Og.same s14
      have Bg := Bg.same s14
      have cg := cg.trans (.same s14)
      refine lo_cat a13 a14 Og (by omega) fun p15 G15 s15 a15 => ?_
      have Lr := Lr.same s15
      have Tg_ := Tg_.same s15
      have a3 := a3.same s15
      have a8 := a8.same s15
      have a9 := a9.same s15
      have es := s15 _ _ es
      have Og := Og.same s15
      have Bg := Bg.same s15
      have cg := cg.trans (.same s15)
      refine ⟨_, rfl, ?_⟩
      dsimp only [tNoPart]
      refine ⟨_, rfl, _, rfl, ?_⟩
      refine lo_slice (K := K) Lr Og fun p16 G16 s16 a16 => ?_
      have Lr := Lr.same s16
      have Tg_ := Tg_.same s16
      have a3 := a3.same s16
      have a8 := a8.same s16
      have a9 := a9.same s16
      have es := s16 _ _ es
      have a15 := a15.same s16
      have Og := Og.same s16
      have Bg := Bg.same s16
      have cg := cg.trans (.same s16)
      refine ⟨_, rfl, b, N + 3, D, rfl, by omega, Bg, hD, Og, fun G17 v17 c17 B17 t17 => ?_⟩
      have Lr := Lr.chg hD c17
      have Tg_ := Tg_.chg hD c17
      have a3 := a3.chg hD c17
      have a8 := a8.chg hD c17
      have a9 := a9.chg hD c17
      have es := c17 _ _ nes es
      have a15 := a15.chg hD c17
      have a16 := a16.chg hD c17
      have Og := Og.chg c17 B17
      have Bg := B17
      have cg := cg.trans c17
      refine ⟨Evl.sz_of (by show 1 ≤ 100000; decide), fun p18 hp18 => ?_⟩
      have a18 : LO B D 1 (upd G17 p18 (.lst [v17])) p18 := ⟨Og.not hp18, _, upd_same, Nat.le_refl _, fun y hy => by rw [List.mem_singleton.mp hy]; exact (t17.mono hB4).same (same_new hp18)⟩
      have s18 := same_new (o := .lst [v17]) hp18
      have Lr := Lr.same s18
      have Tg_ := Tg_.same s18
      have a3 := a3.same s18
      have a8 := a8.same s18
      have a9 := a9.same s18
      have es := s18 _ _ es
      have a15 := a15.same s18
      have a16 := a16.same s18
      have Og := Og.same s18
      have Bg := Bg.same s18
      have cg := cg.trans (.same s18)
      generalize upd G17 p18 _ = G18 at a18 s18 Lr Tg_ a3 a8 a9 es a15 a16 Og Bg cg ⊢
      refine lo_cat a16 a18 Og (by omega) fun p19 G19 s19 a19 => ?_
      have Lr := Lr.same s19
      have Tg_ := Tg_.same s19
      have a3 := a3.same s19
      have a8 := a8.same s19
      have a9 := a9.same s19
      have es := s19 _ _ es
      have a15 := a15.same s19
      have Og := Og.same s19
      have Bg := Bg.same s19
      have cg := cg.trans (.same s19)
      refine ⟨_, rfl, _, rfl, _, _, rfl, rfl, _, rfl, ?_⟩
      dsimp only [tNoPart]
      refine lo_slice (K := K) Lr Og fun p20 G20 s20 a20 => ?_
      have Lr := Lr.same s20
      have Tg_ := Tg_.same s20
      have a3 := a3.same s20
      have a8 := a8.same s20
      have a9 := a9.same s20
      have es := s20 _ _ es
      have a15 := a15.same s20
      have a19 := a19.same s20
      have Og := Og.same s20
      have Bg := Bg.same s20
      have cg := cg.trans (.same s20)
      refine lo_cat a19 a20 Og (by omega) fun p21 G21 s21 a21 => ?_
      have Lr := Lr.same s21
      have Tg_ := Tg_.same s21
      have a3 := a3.same s21
      have a8 := a8.same s21
      have a9 := a9.same s21
      have es := s21 _ _ es
      have a15 := a15.same s21
      have Og := Og.same s21
      have Bg := Bg.same s21
      have cg := cg.trans (.same s21)
      refine ⟨Evl.sz_of (by show 2 ≤ 100000; decide), fun pu hpu => ?_⟩
      have eu : upd G21 pu (.lst [.ref p15, .ref p21]) pu = some (.lst [.ref p15, .ref p21]) := upd_same
      have su := same_new (o := .lst [.ref p15, .ref p21]) hpu
      have Lr := Lr.same su
      have Tg_ := Tg_.same su
      have a3 := a3.same su
      have a8 := a8.same su
      have a9 := a9.same su
      have es := su _ _ es
      have a15 := a15.same su
      have a21 := a21.same su
      have Og := Og.same su
      have Bg := Bg.same su
      have cg := cg.trans (.same su)
      generalize upd G21 pu _ = Gu at eu su Lr Tg_ a3 a8 a9 es a15 a21 Og Bg cg ⊢
      refine ⟨ps, pu, _, _, rfl, rfl, es, eu, Evl.sz_of (by show 5 ≤ 100000; decide), fun pw hpw => ?_⟩
      have ew : upd Gu pw (.lst ([.ref p3, .ref p8, .ref p9] ++ [.ref p15, .ref p21])) pw = some (.lst [.ref p3, .ref p8, .ref p9, .ref p15, .ref p21]) := upd_same
      have sw := same_new (o := .lst ([.ref p3, .ref p8, .ref p9] ++ [.ref p15, .ref p21])) hpw
      have Lr := Lr.same sw
      have Tg_ := Tg_.same sw
      have a3 := a3.same sw
      have a8 := a8.same sw
      have a9 := a9.same sw
      have es := sw _ _ es
      have a15 := a15.same sw
      have a21 := a21.same sw
      have eu := sw _ _ eu
      have Og := Og.same sw
      have Bg := Bg.same sw
      have cg := cg.trans (.same sw)
      generalize upd Gu pw (.lst ([.ref p3, .ref p8, .ref p9] ++ [.ref p15, .ref p21])) = Gw at ew sw Lr Tg_ a3 a8 a9 es a15 a21 eu Og Bg cg ⊢
      have every : ∀ u ∈ [V.ref p3, .ref p8, .ref p9, .ref p15, .ref p21], ∃ w, u = .ref w ∧ ∃ n, n ≤ 3 * B + 20 ∧ LO B D n Gw w := by
        intro u hu
        simp only [List.mem_cons, List.not_mem_nil, or_false] at hu
        rcases hu with rfl | rfl | rfl | rfl | rfl
        · exact ⟨_, rfl, _, by omega, a3⟩
        · exact ⟨_, rfl, _, by omega, a8⟩
        · exact ⟨_, rfl, _, by omega, a9⟩
        · exact ⟨_, rfl, _, by omega, a15⟩
        · exact ⟨_, rfl, _, by omega, a21⟩
      obtain ⟨d, hd, gd⟩ := id Tg_
      refine ⟨_, rfl, _, _, rfl, rfl, _, rfl, ite2 (fun h5 => ?_) (fun _ => ?_)⟩
      · have hlot : lot < 5 := of_decide_eq_true h5
        obtain ⟨u, hu, eu⟩ := at_lt (xs := [V.ref p3, .ref p8, .ref p9, .ref p15, .ref p21]) l0 hlot
        obtain ⟨w, rfl, n, hn, lo⟩ := every u hu
        refine ⟨_, rfl, v, .ty "list", _, _, _, rfl, .ty "list", (gd.same hid_sub).ty, kit_inst (d := d) (T := "list") (by decide), _, rfl, ite2 (fun _ => ?_) (fun _ => ?_)⟩
        · exact ⟨_, rfl, _, rfl, pw, _, lot, _, rfl, rfl, .inl (.inl ew), eu, q _ _ cg (Bg.mono (by omega)) (lo.tg hn (by omega))⟩
        · refine ⟨_, rfl, _, rfl, pw, _, lot, _, rfl, rfl, .inl (.inl ew), eu, ?_⟩
          exact lo_tuple lo Og hn (by omega) fun p H' s' t' => q _ _ (cg.trans (.same s')) ((Bg.same s').mono (by omega)) t'
      · refine ⟨_, rfl, rfl, _, rfl, ite2 (fun _ => ?_) (fun _ => hN _ _ ⟨⟨_, _, rfl⟩, cg, Bg.mono (by omega)⟩)⟩
        refine ⟨_, rfl, v, .ty "list", _, _, _, rfl, .ty "list", (gd.same hid_sub).ty, kit_inst (d := d) (T := "list") (by decide), _, rfl, ite2 (fun _ => ?_) (fun _ => ?_)⟩
        · refine ⟨_, rfl, ?_⟩
          exact lo_tuple Lr Og (by omega) (by omega) fun p H' s' t' => q _ _ (cg.trans (.same s')) ((Bg.same s').mono (by omega)) t'
        · exact ⟨_, rfl, q _ _ cg (Bg.mono (by omega)) (Lr.tg (by omega) (by omega))⟩
    rintro σ' H4 ⟨⟨y4, y6, rfl⟩, c4, B4⟩
    -- a text
    have T4 := hT.chg hD c4
    have O4 := hO.chg c4 B4
    obtain ⟨d, hd, gd⟩ := id T4
    have last : ∀ σ' H5, (∃ y4 y6 y7 y8 y9, σ' = [some (.ref b), some v, some (.int (deep : Int)), some (.ref r), y4, some (.int lot), y6, y7, y8, y9]) → Chg b H H5 → BagAt (N + 6) b H5 → tRet (tCall spOdd [] E0 (tCons (tVar 0) tNil)) { nx := fun x H' => Q V.non H', rt := Q } σ' H5 := by
      rintro σ' H5 ⟨y4, y6, y7, y8, y9, rfl⟩ c5 B5
      exact ⟨_, rfl, b, N + 6, D, rfl, by omega, B5, hD, hO.chg c5 B5, fun H6 v6 c6 B6 t6 => q _ _ (c5.trans c6) (B6.mono (by omega)) (t6.mono (by omega))⟩
    refine seq_abs (fun σ' H5 => (∃ y4 y6 y7 y8 y9, σ' = [some (.ref b), some v, some (.int (deep : Int)), some (.ref r), y4, some (.int lot), y6, y7, y8, y9]) ∧ H5 = H4) (fun Nx hN => ?_) ?_
    · have skip : Nx _ H4 := hN _ _ ⟨⟨y4, y6, none, none, none, rfl⟩, rfl⟩
      refine ⟨_, rfl, v, .ty "str", _, _, _, rfl, .ty "str", (gd.same hid_sub).ty, kit_inst (d := d) (T := "str") (by decide), _, rfl, ?_⟩
      cases gd with
      | non => exact iteF (iteF skip)
      | bl x => exact iteF (iteF skip)
      | int x => exact iteF (iteF skip)
      | lst h g => exact iteF (iteF skip)
      | tup h g => exact iteF (iteF skip)
      | dct h => exact iteF (iteF skip)
      | str x =>
      have hlx : x.length ≤ B := by cases hd; assumption
      refine iteT ⟨_, rfl, _, _, rfl, rfl, _, rfl, ite2 (fun h7 => ?_) (fun _ => skip)⟩
      have h7 : lot < 7 := of_decide_eq_true h7
      refine ⟨_, rfl, _, rfl, x, rfl, Evl.sz_of (by omega), _, _, rfl, rfl, b, _, N + 4, rfl, by omega, by omega, by omega, B4, fun H5 nth c5 B5 n0 n1 => ?_⟩
      have ln : (Str.ofString "\n\t").length = 2 := by decide +kernel
      refine ⟨rfl, _, _, rfl, rfl, Evl.sz_of (by rw [lawSigns_len, ln]; decide), ?_⟩
      have le : (lawSigns ++ Str.ofString "\n\t").length = 96 := by rw [len_appS, lawSigns_len, ln]
      generalize (lawSigns ++ Str.ofString "\n\t") = every at le ⊢
      refine ⟨_, rfl, _, rfl, _, rfl, every, rfl, Evl.sz_of (by omega), b, _, N + 5, rfl, by omega, by omega, by omega, B5, fun H6 u c6 B6 u0 u1 => ?_⟩
      obtain ⟨c, hc, ec⟩ := at_lt (xs := tl every) u0 (by rw [← len_tl]; exact u1)
      refine ⟨every, u, c, rfl, rfl, Evl.sz_of (by omega), ec, ?_⟩
      have c46 := (c4.trans c5).trans c6
      have O6 := hO.chg c46 B6
      have hc1 : (⟨#[c]⟩ : Str).length = 1 := rfl
      -- seven of them
      refine ⟨_, rfl, _, rfl, x, ⟨#[c]⟩, rfl, rfl, Evl.sz_of (by omega), ?_⟩
      refine ⟨_, rfl, _, rfl, ?_⟩
      dsimp only [tNoPart]
      refine ⟨x, rfl, Evl.sz_of (by omega), ?_⟩
      refine ⟨_, rfl, ⟨_, rfl⟩, x, rfl, rfl, by omega, ?_⟩
      refine ⟨_, rfl, Evl.sz_of (by show 1 ≤ 100000; decide), fun p hp => ?_⟩
      have s7 := same_new (o := .lst [.str x]) hp
      have t7 : Tg (3 * B + 20) D (upd H6 p (.lst [.str x])) (.ref p) := .lst (O6.not hp) upd_same (by show 1 ≤ _; omega) (tg_cons (.str (by omega)) tg_nil)
      have O7 := O6.same s7
      have B7 := B6.same s7
      have c7 := c46.trans (.same s7)
      generalize upd H6 p _ = H7 at t7 O7 B7 c7 ⊢
      refine ⟨_, rfl, ?_⟩
      dsimp only [tNoPart]
      have k1 := cutS_length x none (some nth)
      have k2 := cutS_length x (some nth) none
      have k3 := cutS_length x (some (nth + 1)) none
      refine ⟨_, rfl, _, rfl, x, rfl, Evl.sz_of (by omega), _, rfl, _, _, rfl, rfl, Evl.sz_of (by omega), _, rfl, _, rfl, _, rfl, ?_⟩
      dsimp only [tNoPart]
      refine ⟨x, rfl, Evl.sz_of (by omega), _, _, rfl, rfl, Evl.sz_of (by rw [len_appS]; omega), ?_⟩
      refine ⟨_, rfl, ?_⟩
      dsimp only [tNoPart]
      have k40 : (cutS x none (some 40)).length ≤ 40 := by
        rw [len_tl, cut_to x (by decide), List.length_take]
        exact Nat.min_le_left _ _
      refine ⟨_, rfl, x, rfl, Evl.sz_of (by omega), _, 9, rfl, rfl, by decide, by decide, by omega, fun rr hr _ => ?_⟩
      refine ⟨Evl.sz_of (by show 6 ≤ 100000; decide), fun p2 hp2 => ?_⟩
      have s8 := same_new (o := .lst [.str (x ++ ⟨#[c]⟩), .str (cutS x (some 1) none), .str (Txt.upper x), .ref p, .str (cutS x none (some nth) ++ ⟨#[c]⟩ ++ cutS x (some nth) none), .str rr]) hp2
      have e8 : upd H7 p2 (.lst [.str (x ++ ⟨#[c]⟩), .str (cutS x (some 1) none), .str (Txt.upper x), .ref p, .str (cutS x none (some nth) ++ ⟨#[c]⟩ ++ cutS x (some nth) none), .str rr]) p2 = some (.lst [.str (x ++ ⟨#[c]⟩), .str (cutS x (some 1) none), .str (Txt.upper x), .ref p, .str (cutS x none (some nth) ++ ⟨#[c]⟩ ++ cutS x (some nth) none), .str rr]) := upd_same
      have t8 := t7.same s8
      have O8 := O7.same s8
      have B8 := B7.same s8
      have c8 := c7.trans (.same s8)
      generalize upd H7 p2 _ = H8 at e8 t8 O8 B8 c8 ⊢
      refine ⟨_, rfl, _, rfl, ?_⟩
      dsimp only [tNoPart]
      refine ⟨_, rfl, _, rfl, x, rfl, Evl.sz_of (by omega), _, rfl, _, _, rfl, rfl, Evl.sz_of (by omega), _, rfl, _, rfl, _, _, rfl, rfl, _, rfl, ?_⟩
      dsimp only [tNoPart]
      refine ⟨x, rfl, Evl.sz_of (by omega), _, _, rfl, rfl, Evl.sz_of (by rw [len_appS]; omega), ?_⟩
      refine ⟨Evl.sz_of (by show 1 ≤ 100000; decide), fun p3 hp3 => ?_⟩
      have s9 := same_new (o := .lst [.str (cutS x none (some nth) ++ ⟨#[c]⟩ ++ cutS x (some (nth + 1)) none)]) hp3
      have e9 : upd H8 p3 (.lst [.str (cutS x none (some nth) ++ ⟨#[c]⟩ ++ cutS x (some (nth + 1)) none)]) p3 = some (.lst [.str (cutS x none (some nth) ++ ⟨#[c]⟩ ++ cutS x (some (nth + 1)) none)]) := upd_same
      have t9 := t8.same s9
      have e89 := s9 _ _ e8
      have B9 := B8.same s9
      have c9 := c8.trans (.same s9)
      generalize upd H8 p3 _ = H9 at e9 t9 B9 c9 e89 ⊢
      refine ⟨p2, p3, _, _, rfl, rfl, e89, e9, Evl.sz_of (by show 7 ≤ 100000; decide), fun p4 hp4 => ?_⟩
      obtain ⟨u2, hu2, eu2⟩ := at_lt (xs := [V.str (x ++ ⟨#[c]⟩), .str (cutS x (some 1) none), .str (Txt.upper x), .ref p, .str (cutS x none (some nth) ++ ⟨#[c]⟩ ++ cutS x (some nth) none), .str rr, .str (cutS x none (some nth) ++ ⟨#[c]⟩ ++ cutS x (some (nth + 1)) none)]) l0 (show lot < 7 from h7)
      refine ⟨_, rfl, p4, _, lot, u2, rfl, rfl, .inl (.inl upd_same), eu2, q _ _ (c9.trans (.new hp4)) ((B9.new hp4).mono (by omega)) ?_⟩
      have k4 := cutS_length x (some 1) none
      have k5 := PyProof.Rows.len_upper x
      simp only [List.mem_cons, List.not_mem_nil, or_false] at hu2
      rcases hu2 with rfl | rfl | rfl | rfl | rfl | rfl | rfl
      · exact .str (by rw [len_appS]; omega)
      · exact .str (by omega)
      · exact .str (by omega)
      · exact t9.same (same_new hp4)
      · exact .str (by rw [len_appS, len_appS]; omega)
      · exact .str (by omega)
      · exact .str (by rw [len_appS, len_appS]; omega)
    rintro σ' H5 ⟨⟨y4, y6, y7, y8, y9, rfl⟩, rfl⟩
    -- a number
    refine seq_abs (fun σ' H6 => (∃ y4 y6 y7 y8 y9, σ' = [some (.ref b), some v, some (.int (deep : Int)), some (.ref r), y4, some (.int lot), y6, y7, y8, y9]) ∧ H6 = H5) (fun Nx hN => ?_) ?_
    · have skip : Nx _ H5 := hN _ _ ⟨⟨y4, y6, y7, y8, y9, rfl⟩, rfl⟩
      refine ⟨_, rfl, v, .ty "int", _, _, _, rfl, .ty "int", (gd.same hid_sub).ty, kit_inst (d := d) (T := "int") (by decide), _, rfl, ?_⟩
      cases gd with
      | non => exact iteF (iteF skip)
      | str x => exact iteF (iteF skip)
      | lst h g => exact iteF (iteF skip)
      | tup h g => exact iteF (iteF skip)
      | dct h => exact iteF (iteF skip)
      | bl x => exact iteT ⟨_, rfl, _, .ty "bool", _, _, _, rfl, .ty "bool", .base (.bl x), kit_inst (d := .bool x) (T := "bool") (by decide), _, rfl, iteF (iteF skip)⟩
      | int k =>
      have hk : k.natAbs ≤ 10 ^ 30 + B := by cases hd; assumption
      refine iteT ⟨_, rfl, _, .ty "bool", _, _, _, rfl, .ty "bool", .base (.int k), kit_inst (d := .int k) (T := "bool") (by decide), _, rfl, iteT ⟨_, rfl, _, _, rfl, rfl, _, rfl, ite2 (fun h5 => ?_) (fun _ => skip)⟩⟩
      have h5 : lot < 5 := of_decide_eq_true h5
      have hp31 : (10 : Nat) ^ 31 = 10 ^ 30 * 10 := by decide
      have hlog : k.natAbs.log2 < 1920 := Nat.lt_of_lt_of_le (PySem.Flt.log2_lt_of (n := k.natAbs) (k := 110) (by decide) (Nat.lt_of_lt_of_le (show k.natAbs < 10 ^ 31 by omega) (by decide))) (by decide)
      have hlen : (Str.ofString (toString k)).length ≤ 33 := len_intS k (k := 31) (by decide) (by omega)
      refine ⟨_, rfl, _, _, rfl, rfl, _, rfl, _, _, rfl, rfl, _, rfl, k, rfl, hlog, ?_⟩
      refine ⟨_, rfl, Evl.sz_of (by show 1 ≤ 100000; decide), fun p hp => ?_⟩
      have O5 := hO.chg c4 B4
      have s7 := same_new (o := .lst [.int k]) hp
      have t7 : Tg (3 * B + 20) D (upd H5 p (.lst [.int k])) (.ref p) := .lst (O5.not hp) upd_same (by show 1 ≤ _; omega) (tg_cons (.int (by omega)) tg_nil)
      have B7 := B4.same s7
      have c7 := c4.trans (.same s7)
      generalize upd H5 p _ = H7 at t7 B7 c7 ⊢
      refine ⟨_, rfl, rfl, ?_⟩
      refine ⟨Evl.sz_of (by show 5 ≤ 100000; decide), fun p2 hp2 => ?_⟩
      obtain ⟨u2, hu2, eu2⟩ := at_lt (xs := [V.int (k + 1), .int (0 - k), .str (Str.ofString (toString k)), .ref p, .bl (decide (V.int k = V.int 1))]) l0 (show lot < 5 from h5)
      refine ⟨_, rfl, p2, _, lot, u2, rfl, rfl, .inl (.inl upd_same), eu2, q _ _ (c7.trans (.new hp2)) ((B7.new hp2).mono (by omega)) ?_⟩
      simp only [List.mem_cons, List.not_mem_nil, or_false] at hu2
      rcases hu2 with rfl | rfl | rfl | rfl | rfl
      · exact .int (by omega)
      · exact .int (by omega)
      · exact .str (by omega)
      · exact t7.same (same_new hp2)
      · exact .bl
    rintro σ' H6 ⟨hσ, rfl⟩
    exact last _ _ hσ c4 (B4.mono (by omega))
theorem ok_law_turned (T : Txt K mg A) : FnOk P w K mg base CX0 5 A.a_law_turned A.d_law_turned ["bag", "thing", "deep"] (spTurned 3) :=
  turned_step (L := 4) T (by decide) (turned_step (L := 3) T (by decide) (turned_step (L := 2) T (by decide) turned_none))
def bd : Nat → Nat
  | 0 => 400
  | i + 1 => 3 * bd i + 20
theorem bd_ok {i : Nat} (h : i ≤ 3) : 400 ≤ bd i ∧ bd i ≤ 20000 := by
  match i, h with
  | 0, _ => decide
  | 1, _ => decide
  | 2, _ => decide
  | 3, _ => decide
theorem ref_tg {N : Nat} {b : Addr} {H : Hp} {v : V} {n : Str} {ks : List Str} (B : BagAt N b H) (r : RefAt H v n ks) (w : RefS n ks) : Tg 400 (fun a => a = b) H v := by
  obtain ⟨a, k, rfl, h1, h2⟩ := r
  refine ⟨refD n ks, ?_, ref_rd ⟨a, k, rfl, (hid_of (D := fun a => a = b) (B.neT h1)).trans h1, (hid_of (D := fun a => a = b) (B.neT h2)).trans h2⟩⟩
  refine .tup (by show 2 ≤ 400; decide) fun d hd => ?_
  rcases List.mem_cons.mp hd with rfl | hd
  · exact .str (Nat.le_trans w.name.2.1 (by decide))
  · rw [List.mem_singleton.mp hd]
    refine .tup (by rw [List.length_map]; exact Nat.le_trans w.len (by decide)) fun d hd => ?_
    obtain ⟨k, hk, rfl⟩ := List.mem_map.mp hd
    exact .str (Nat.le_trans (w.keys k hk).2.1 (by decide))
theorem occ_bag {N : Nat} {b : Addr} {H : Hp} (B : BagAt N b H) : Occ (fun a => a = b) H := by
  rintro a rfl h
  obtain ⟨x, y, z, e, _⟩ := B
  rw [e] at h
  cases h
theorem ok_law (T : Txt K mg A) : FnOk P w K mg base CX0 6 A.a_law A.d_law ["script"] (spLaw K) := by
  have G_law_draw := ok_law_draw (P := P) (w := w) (base := base) T
  have G_law_bag := ok_law_bag (P := P) (w := w) (base := base) T
  have G_law_cell_at := ok_law_cell_at (P := P) (w := w) (base := base) T
  have G_law_text := ok_law_text (P := P) (w := w) (base := base) T
  have G_law_key := ok_law_key (P := P) (w := w) (base := base) T
  have G_law_ref := ok_law_ref (P := P) (w := w) (base := base) T
  have G_law_odd := ok_law_odd (P := P) (w := w) (base := base) T
  have G_law_turned := ok_law_turned (P := P) (w := w) (base := base) T
  have G_law_right := ok_law_right (P := P) (w := w) (base := base) T
  refine T.F_law.ok sc_law (fun vs H Q E h => ?_) (fun cdv Ar outer s H vs Q E hr h => ?_)
  · obtain ⟨a, ns, rfl, _⟩ := h
    rfl
  · obtain ⟨a, ns, rfl, hS, hl, hb, q⟩ := h
    refine ⟨_, (pss_cons (ps_for PassesOwn.never rfl (pi_range1 (by rfl) T.n_range (pa_cons (pe_callB (call_max2 rfl) (by rfl) T.n_max (by decide +kernel) (pa_cons pe_int (pa_cons (pe_callB (call_min2 rfl) (by rfl) T.n_min (by decide +kernel) (pa_cons pe_int (pa_cons (pe_callB (k_len K) (by rfl) T.n_len PySem.boot_len (pa_cons (pv 0) pa_nil)) pa_nil))) pa_nil))) pa_nil)) (pg_name (i := 1) sc_law.nd rfl (.inl rfl))
      (pss_cons (ps_set (i := 2) sc_law.nd rfl (.inl rfl) (pe_call G_law_bag (hr.mono (by decide)) (by rfl) T.g_law_bag T.F_law_bag.kp T.b_law_bag .nil pass0 (pa_cons (pe_call G_law_cell_at (hr.mono (by decide)) (by rfl) T.g_law_cell_at T.F_law_cell_at.kp T.b_law_cell_at .nil pass0 (pa_cons (pv 0) (pa_cons (pv 1) pa_nil))) (pa_cons (pv 1) pa_nil))))
      (pss_cons (ps_set (i := 3) sc_law.nd rfl (.inl rfl) (pe_ix (k_ix_list K) (pe_lst (pa_cons (pe_call G_law_text (hr.mono (by decide)) (by rfl) T.g_law_text T.F_law_text.kp T.b_law_text .nil pass0 (pa_cons (pv 2) (pa_cons pe_int pa_nil))) (pa_cons (pe_call G_law_key (hr.mono (by decide)) (by rfl) T.g_law_key T.F_law_key.kp T.b_law_key .nil pass0 (pa_cons (pv 2) pa_nil)) (pa_cons (pe_call G_law_ref (hr.mono (by decide)) (by rfl) T.g_law_ref T.F_law_ref.kp T.b_law_ref .nil pass0 (pa_cons (pv 2) pa_nil)) (pa_cons (pe_call G_law_ref (hr.mono (by decide)) (by rfl) T.g_law_ref T.F_law_ref.kp T.b_law_ref .nil pass0 (pa_cons (pv 2) pa_nil)) pa_nil))))) (pe_call G_law_draw (hr.mono (by omega)) (by rfl) T.g_law_draw T.F_law_draw.kp T.b_law_draw .nil pass0 (pa_cons (pv 2) (pa_cons pe_int pa_nil))) (fun _ _ => rfl)))
      (pss_cons (ps_for PassesOwn.never rfl (pi_range1 (by rfl) T.n_range (pa_cons (pe_call G_law_draw (hr.mono (by omega)) (by rfl) T.g_law_draw T.F_law_draw.kp T.b_law_draw .nil pass0 (pa_cons (pv 2) (pa_cons pe_int pa_nil))) pa_nil)) (pg_name (i := 4) sc_law.nd rfl (.inl rfl))
      (pss_cons (ps_if (pt_not (pt_val (pe_call G_law_right (hr.mono (by decide)) (by rfl) T.g_law_right T.F_law_right.kp T.b_law_right .nil pass0 (pa_cons (pv 3) pa_nil))))
      (pss_one (ps_ret pe_bl))
      pss_nil)
      (pss_one (ps_set (i := 3) sc_law.nd rfl (.inl rfl) (pe_call G_law_turned (hr.mono (by omega)) (by rfl) T.g_law_turned T.F_law_turned.kp T.b_law_turned .nil pass0 (pa_cons (pv 2) (pa_cons (pv 3) (pa_cons (pe_call G_law_draw (hr.mono (by omega)) (by rfl) T.g_law_draw T.F_law_draw.kp T.b_law_draw .nil pass0 (pa_cons (pv 2) (pa_cons pe_int pa_nil))) pa_nil))))))))
      (pss_one (ps_if (PW.pt (pw_or (pt_not (pt_val (pe_call G_law_right (hr.mono (by decide)) (by rfl) T.g_law_right T.F_law_right.kp T.b_law_right .nil pass0 (pa_cons (pv 3) pa_nil)))) (pw_or1 (pt_not (pt_val (pe_call G_law_right (hr.mono (by decide)) (by rfl) T.g_law_right T.F_law_right.kp T.b_law_right .nil pass0 (pa_cons (pe_call G_law_odd (hr.mono (by omega)) (by rfl) T.g_law_odd T.F_law_odd.kp T.b_law_odd .nil pass0 (pa_cons (pv 2) pa_nil)) pa_nil)))))))
      (pss_one (ps_ret pe_bl))
      pss_nil))))))
      (pss_one (ps_ret pe_bl))), ?_⟩
    obtain ⟨m, hm, m0, m1⟩ := turns_of ((ns.map V.int).length : Int) 20 (by decide) (by decide)
    refine ⟨_, rfl, a, _, rfl, .inl hS, 20, _, rfl, 1, _, rfl, m, congrArg (fun z => [V.int z]) hm, by omega, by omega, ?_⟩
    refine for_range (fun i σ H' => Same H H' ∧ ∃ y1 y2 y3 y4, σ = [some (.ref a), y1, y2, y3, y4]) ⟨.refl H, _, _, _, _, rfl⟩ ?_ (fun σ H' _ => q H')
    rintro i σ H0 hi ⟨s0, y1, y2, y3, y4, rfl⟩
    refine ⟨_, rfl, _, rfl, a, ns, _, rfl, s0.seq hS, by omega, fun cell => ⟨_, rfl, _, _, rfl, by omega, by omega, fun H1 b nb s1 B1 => ?_⟩⟩
    -- the thing
    dsimp only
    refine seq_abs (fun σ' H' => ∃ v, σ' = [some (.ref a), some (.int (0 + (i : Int))), some (.ref b), some v, y4] ∧ Chg b H1 H' ∧ BagAt 50000 b H' ∧ Tg 400 (fun a => a = b) H' v) (fun Nx hN => ?_) ?_
    · refine ⟨_, rfl, b, 200, 0, rfl, by decide, by decide, by decide, B1, fun H2 x c2 B2 xl xw => ?_⟩
      refine ⟨_, rfl, b, _, rfl, by decide, B2, fun H3 k c3 B3 hk => ?_⟩
      refine ⟨_, rfl, b, _, rfl, by decide, B3, fun H4 v4 n4 k4 c4 B4 r4 w4 => ?_⟩
      refine ⟨_, rfl, b, _, rfl, by decide, B4, fun H5 v5 n5 k5 c5 B5 r5 w5 => ?_⟩
      refine ⟨Evl.sz_of (by show 4 ≤ 100000; decide), fun p hp => ⟨_, rfl, b, 4, _, rfl, by decide, by decide, by decide, B5.new hp, fun H6 u c6 B6 u0 u1 => ?_⟩⟩
      have e6 := c6 _ _ (B5.ne hp).symm upd_same
      obtain ⟨v, hv, ev⟩ := at_lt (xs := [V.str x, .str k, v4, v5]) u0 u1
      have c56 := (Chg.new (b := b) (o := .lst [.str x, .str k, v4, v5]) hp).trans c6
      refine ⟨p, _, u, v, rfl, rfl, .inl (.inl e6), ev, hN _ _ ⟨v, rfl, (((c2.trans c3).trans c4).trans c5).trans c56, B6.mono (by decide), ?_⟩⟩
      simp only [List.mem_cons, List.not_mem_nil, or_false] at hv
      rcases hv with rfl | rfl | rfl | rfl
      · exact .str (by omega)
      · exact .str (by have := hk.2.1; omega)
      · exact ((ref_tg B4 r4 w4).chg (b := b) rfl (c5.trans c56))
      · exact ((ref_tg B5 r5 w5).chg (b := b) rfl c56)
    rintro σ' H2 ⟨v, rfl, c2, B2, t2⟩
    -- the turns
    refine seq_abs (fun σ' H' => ∃ v y4, σ' = [some (.ref a), some (.int (0 + (i : Int))), some (.ref b), some v, y4] ∧ Chg b H1 H' ∧ BagAt 60000 b H' ∧ Tg 20000 (fun a => a = b) H' v) (fun Nx hN => ?_) ?_
    · refine ⟨_, rfl, b, 4, _, rfl, by decide, by decide, by decide, B2, fun H3 t c3 B3 t0 t1 => ⟨_, rfl, by omega, by omega, ?_⟩⟩
      refine for_range (fun j σ' H' => ∃ v y4, σ' = [some (.ref a), some (.int (0 + (i : Int))), some (.ref b), some v, y4] ∧ Chg b H1 H' ∧ BagAt (50001 + 100 * j) b H' ∧ Tg (bd j) (fun a => a = b) H' v) ⟨v, y4, rfl, c2.trans c3, B3, t2.chg (b := b) rfl c3⟩ ?_ ?_
      · rintro j σ' H4 hj ⟨v, y4, rfl, c4, B4, t4⟩
        have hbd := bd_ok (i := j) (by omega)
        obtain ⟨d, hd, g⟩ := id t4
        refine ⟨_, rfl, v, d, rfl, g.same hid_sub, hd.mono (by omega), fun H5 s5 => ⟨_, rfl, iteF ?_⟩⟩
        have B5 := B4.same s5
        refine ⟨_, rfl, _, rfl, _, rfl, b, 3, _, rfl, by decide, by decide, by omega, B5, fun H6 z c6 B6 z0 z1 => ?_⟩
        refine ⟨b, v, z.toNat, _, bd j, fun a => a = b, (by rw [Int.toNat_of_nonneg z0]; rfl), by omega, by omega, B6, rfl, occ_bag B6, (t4.same s5).chg (b := b) rfl c6, hbd.1, hbd.2, fun H7 v7 c7 B7 t7 => ?_⟩
        exact ⟨v7, _, rfl, ((c4.trans (.same s5)).trans c6).trans c7, B7.mono (by omega), t7⟩
      · rintro σ' H4 ⟨v, y4, rfl, c4, B4, t4⟩
        have hbd := bd_ok (i := t.toNat) (by omega)
        exact hN _ _ ⟨v, y4, rfl, c4, B4.mono (by omega), t4.mono hbd.2⟩
    rintro σ' H3 ⟨v, y4, rfl, c3, B3, t3⟩
    obtain ⟨d, hd, g⟩ := id t3
    refine ⟨_, rfl, v, d, rfl, g.same hid_sub, hd.mono (by decide), fun H4 s4 => ⟨_, rfl, iteF ?_⟩⟩
    have B4 := B3.same s4
    refine ⟨_, rfl, b, _, fun a => a = b, rfl, by decide, B4, rfl, occ_bag B4, fun H5 v5 c5 B5 t5 => ?_⟩
    obtain ⟨d5, hd5, g5⟩ := id t5
    exact ⟨v5, d5, rfl, g5.same hid_sub, hd5.mono (by decide), fun H6 s6 => ⟨_, rfl, iteF ⟨s0.trans (same_chg s1 (((c3.trans (.same s4)).trans c5).trans (.same s6)) nb), _, _, _, _, rfl⟩⟩⟩

end
theorem all_mk {l : PySem.W.OpenLaw} {w : World} {K : PySem.W.Frag} {h : Heap} {mg : Str → Option Value} {fa : Addr} (X : K.In h) (G : h.Ns mainGlobals mg) (hfa : mg "law" = some (.ref fa))
    {f0 : Addr} {od0 an0 : Option Addr} {sl0 : Array (Option Value)} {oc0 kV0 dc0 pm0 cd0 ct0 : Value}
    (a0 : PySem.W.nsIn K mainGlobals "is_worth" = some (some (.ref f0))) (l0 : K.lookup f0 = some ⟨oc0, od0, .func (PySem.W.fnOf "is_worth" "is_worth" (defArgs s_is_worth) (defBody s_is_worth) (defScope s_is_worth) .none kV0 dc0 pm0 an0 cd0 ct0), sl0⟩) (c0 : PySem.W.codeIn K cd0 "is_worth" = true) (k0 : PySem.W.keepIn K (.ref f0) = true)
    {f1 : Addr} {od1 an1 : Option Addr} {sl1 : Array (Option Value)} {oc1 kV1 dc1 pm1 cd1 ct1 : Value}
    (a1 : PySem.W.nsIn K mainGlobals "is_name" = some (some (.ref f1))) (l1 : K.lookup f1 = some ⟨oc1, od1, .func (PySem.W.fnOf "is_name" "is_name" (defArgs s_is_name) (defBody s_is_name) (defScope s_is_name) .none kV1 dc1 pm1 an1 cd1 ct1), sl1⟩) (c1 : PySem.W.codeIn K cd1 "is_name" = true) (k1 : PySem.W.keepIn K (.ref f1) = true)
    {f2 : Addr} {od2 an2 : Option Addr} {sl2 : Array (Option Value)} {oc2 kV2 dc2 pm2 cd2 ct2 : Value}
    (a2 : PySem.W.nsIn K mainGlobals "is_key" = some (some (.ref f2))) (l2 : K.lookup f2 = some ⟨oc2, od2, .func (PySem.W.fnOf "is_key" "is_key" (defArgs s_is_key) (defBody s_is_key) (defScope s_is_key) .none kV2 dc2 pm2 an2 cd2 ct2), sl2⟩) (c2 : PySem.W.codeIn K cd2 "is_key" = true) (k2 : PySem.W.keepIn K (.ref f2) = true)
    {f3 : Addr} {od3 an3 : Option Addr} {sl3 : Array (Option Value)} {oc3 kV3 dc3 pm3 cd3 ct3 : Value}
    (a3 : PySem.W.nsIn K mainGlobals "is_reference" = some (some (.ref f3))) (l3 : K.lookup f3 = some ⟨oc3, od3, .func (PySem.W.fnOf "is_reference" "is_reference" (defArgs s_is_reference) (defBody s_is_reference) (defScope s_is_reference) .none kV3 dc3 pm3 an3 cd3 ct3), sl3⟩) (c3 : PySem.W.codeIn K cd3 "is_reference" = true) (k3 : PySem.W.keepIn K (.ref f3) = true)
    {f4 : Addr} {od4 an4 : Option Addr} {sl4 : Array (Option Value)} {oc4 kV4 dc4 pm4 cd4 ct4 : Value}
    (a4 : PySem.W.nsIn K mainGlobals "_law_cell_at" = some (some (.ref f4))) (l4 : K.lookup f4 = some ⟨oc4, od4, .func (PySem.W.fnOf "_law_cell_at" "_law_cell_at" (defArgs s_law_cell_at) (defBody s_law_cell_at) (defScope s_law_cell_at) .none kV4 dc4 pm4 an4 cd4 ct4), sl4⟩) (c4 : PySem.W.codeIn K cd4 "_law_cell_at" = true) (k4 : PySem.W.keepIn K (.ref f4) = true)
    {f5 : Addr} {od5 an5 : Option Addr} {sl5 : Array (Option Value)} {oc5 kV5 dc5 pm5 cd5 ct5 : Value}
    (a5 : PySem.W.nsIn K mainGlobals "_law_bag" = some (some (.ref f5))) (l5 : K.lookup f5 = some ⟨oc5, od5, .func (PySem.W.fnOf "_law_bag" "_law_bag" (defArgs s_law_bag) (defBody s_law_bag) (defScope s_law_bag) .none kV5 dc5 pm5 an5 cd5 ct5), sl5⟩) (c5 : PySem.W.codeIn K cd5 "_law_bag" = true) (k5 : PySem.W.keepIn K (.ref f5) = true)
    {f6 : Addr} {od6 an6 : Option Addr} {sl6 : Array (Option Value)} {oc6 kV6 dc6 pm6 cd6 ct6 : Value}
    (a6 : PySem.W.nsIn K mainGlobals "_law_draw" = some (some (.ref f6))) (l6 : K.lookup f6 = some ⟨oc6, od6, .func (PySem.W.fnOf "_law_draw" "_law_draw" (defArgs s_law_draw) (defBody s_law_draw) (defScope s_law_draw) .none kV6 dc6 pm6 an6 cd6 ct6), sl6⟩) (c6 : PySem.W.codeIn K cd6 "_law_draw" = true) (k6 : PySem.W.keepIn K (.ref f6) = true)
    {f7 : Addr} {od7 an7 : Option Addr} {sl7 : Array (Option Value)} {oc7 kV7 dc7 pm7 cd7 ct7 : Value}
    (a7 : PySem.W.nsIn K mainGlobals "_law_signs" = some (some (.ref f7))) (l7 : K.lookup f7 = some ⟨oc7, od7, .func (PySem.W.fnOf "_law_signs" "_law_signs" (defArgs s_law_signs) (defBody s_law_signs) (defScope s_law_signs) .none kV7 dc7 pm7 an7 cd7 ct7), sl7⟩) (c7 : PySem.W.codeIn K cd7 "_law_signs" = true) (k7 : PySem.W.keepIn K (.ref f7) = true)
    {f8 : Addr} {od8 an8 : Option Addr} {sl8 : Array (Option Value)} {oc8 kV8 dc8 pm8 cd8 ct8 : Value}
    (a8 : PySem.W.nsIn K mainGlobals "_law_text" = some (some (.ref f8))) (l8 : K.lookup f8 = some ⟨oc8, od8, .func (PySem.W.fnOf "_law_text" "_law_text" (defArgs s_law_text) (defBody s_law_text) (defScope s_law_text) .none kV8 dc8 pm8 an8 cd8 ct8), sl8⟩) (c8 : PySem.W.codeIn K cd8 "_law_text" = true) (k8 : PySem.W.keepIn K (.ref f8) = true)
    {f9 : Addr} {od9 an9 : Option Addr} {sl9 : Array (Option Value)} {oc9 kV9 dc9 pm9 cd9 ct9 : Value}
    (a9 : PySem.W.nsIn K mainGlobals "_law_name" = some (some (.ref f9))) (l9 : K.lookup f9 = some ⟨oc9, od9, .func (PySem.W.fnOf "_law_name" "_law_name" (defArgs s_law_name) (defBody s_law_name) (defScope s_law_name) .none kV9 dc9 pm9 an9 cd9 ct9), sl9⟩) (c9 : PySem.W.codeIn K cd9 "_law_name" = true) (k9 : PySem.W.keepIn K (.ref f9) = true)
    {f10 : Addr} {od10 an10 : Option Addr} {sl10 : Array (Option Value)} {oc10 kV10 dc10 pm10 cd10 ct10 : Value}
    (a10 : PySem.W.nsIn K mainGlobals "_law_key" = some (some (.ref f10))) (l10 : K.lookup f10 = some ⟨oc10, od10, .func (PySem.W.fnOf "_law_key" "_law_key" (defArgs s_law_key) (defBody s_law_key) (defScope s_law_key) .none kV10 dc10 pm10 an10 cd10 ct10), sl10⟩) (c10 : PySem.W.codeIn K cd10 "_law_key" = true) (k10 : PySem.W.keepIn K (.ref f10) = true)
    {f11 : Addr} {od11 an11 : Option Addr} {sl11 : Array (Option Value)} {oc11 kV11 dc11 pm11 cd11 ct11 : Value}
    (a11 : PySem.W.nsIn K mainGlobals "_law_ref" = some (some (.ref f11))) (l11 : K.lookup f11 = some ⟨oc11, od11, .func (PySem.W.fnOf "_law_ref" "_law_ref" (defArgs s_law_ref) (defBody s_law_ref) (defScope s_law_ref) .none kV11 dc11 pm11 an11 cd11 ct11), sl11⟩) (c11 : PySem.W.codeIn K cd11 "_law_ref" = true) (k11 : PySem.W.keepIn K (.ref f11) = true)
    {f12 : Addr} {od12 an12 : Option Addr} {sl12 : Array (Option Value)} {oc12 kV12 dc12 pm12 cd12 ct12 : Value}
    (a12 : PySem.W.nsIn K mainGlobals "_law_odd" = some (some (.ref f12))) (l12 : K.lookup f12 = some ⟨oc12, od12, .func (PySem.W.fnOf "_law_odd" "_law_odd" (defArgs s_law_odd) (defBody s_law_odd) (defScope s_law_odd) .none kV12 dc12 pm12 an12 cd12 ct12), sl12⟩) (c12 : PySem.W.codeIn K cd12 "_law_odd" = true) (k12 : PySem.W.keepIn K (.ref f12) = true)
    {f13 : Addr} {od13 an13 : Option Addr} {sl13 : Array (Option Value)} {oc13 kV13 dc13 pm13 cd13 ct13 : Value}
    (a13 : PySem.W.nsIn K mainGlobals "_law_turned" = some (some (.ref f13))) (l13 : K.lookup f13 = some ⟨oc13, od13, .func (PySem.W.fnOf "_law_turned" "_law_turned" (defArgs s_law_turned) (defBody s_law_turned) (defScope s_law_turned) .none kV13 dc13 pm13 an13 cd13 ct13), sl13⟩) (c13 : PySem.W.codeIn K cd13 "_law_turned" = true) (k13 : PySem.W.keepIn K (.ref f13) = true)
    {f14 : Addr} {od14 an14 : Option Addr} {sl14 : Array (Option Value)} {oc14 kV14 dc14 pm14 cd14 ct14 : Value}
    (a14 : PySem.W.nsIn K mainGlobals "_law_is_worth" = some (some (.ref f14))) (l14 : K.lookup f14 = some ⟨oc14, od14, .func (PySem.W.fnOf "_law_is_worth" "_law_is_worth" (defArgs s_law_is_worth) (defBody s_law_is_worth) (defScope s_law_is_worth) .none kV14 dc14 pm14 an14 cd14 ct14), sl14⟩) (c14 : PySem.W.codeIn K cd14 "_law_is_worth" = true) (k14 : PySem.W.keepIn K (.ref f14) = true)
    {f15 : Addr} {od15 an15 : Option Addr} {sl15 : Array (Option Value)} {oc15 kV15 dc15 pm15 cd15 ct15 : Value}
    (a15 : PySem.W.nsIn K mainGlobals "_law_is_key" = some (some (.ref f15))) (l15 : K.lookup f15 = some ⟨oc15, od15, .func (PySem.W.fnOf "_law_is_key" "_law_is_key" (defArgs s_law_is_key) (defBody s_law_is_key) (defScope s_law_is_key) .none kV15 dc15 pm15 an15 cd15 ct15), sl15⟩) (c15 : PySem.W.codeIn K cd15 "_law_is_key" = true) (k15 : PySem.W.keepIn K (.ref f15) = true)
    {f16 : Addr} {od16 an16 : Option Addr} {sl16 : Array (Option Value)} {oc16 kV16 dc16 pm16 cd16 ct16 : Value}
    (a16 : PySem.W.nsIn K mainGlobals "_law_is_name" = some (some (.ref f16))) (l16 : K.lookup f16 = some ⟨oc16, od16, .func (PySem.W.fnOf "_law_is_name" "_law_is_name" (defArgs s_law_is_name) (defBody s_law_is_name) (defScope s_law_is_name) .none kV16 dc16 pm16 an16 cd16 ct16), sl16⟩) (c16 : PySem.W.codeIn K cd16 "_law_is_name" = true) (k16 : PySem.W.keepIn K (.ref f16) = true)
    {f17 : Addr} {od17 an17 : Option Addr} {sl17 : Array (Option Value)} {oc17 kV17 dc17 pm17 cd17 ct17 : Value}
    (a17 : PySem.W.nsIn K mainGlobals "_law_is_reference" = some (some (.ref f17))) (l17 : K.lookup f17 = some ⟨oc17, od17, .func (PySem.W.fnOf "_law_is_reference" "_law_is_reference" (defArgs s_law_is_reference) (defBody s_law_is_reference) (defScope s_law_is_reference) .none kV17 dc17 pm17 an17 cd17 ct17), sl17⟩) (c17 : PySem.W.codeIn K cd17 "_law_is_reference" = true) (k17 : PySem.W.keepIn K (.ref f17) = true)
    {f18 : Addr} {od18 an18 : Option Addr} {sl18 : Array (Option Value)} {oc18 kV18 dc18 pm18 cd18 ct18 : Value}
    (a18 : PySem.W.nsIn K mainGlobals "_law_right" = some (some (.ref f18))) (l18 : K.lookup f18 = some ⟨oc18, od18, .func (PySem.W.fnOf "_law_right" "_law_right" (defArgs s_law_right) (defBody s_law_right) (defScope s_law_right) .none kV18 dc18 pm18 an18 cd18 ct18), sl18⟩) (c18 : PySem.W.codeIn K cd18 "_law_right" = true) (k18 : PySem.W.keepIn K (.ref f18) = true)
    {f19 : Addr} {od19 an19 : Option Addr} {sl19 : Array (Option Value)} {oc19 kV19 dc19 pm19 cd19 ct19 : Value}
    (a19 : PySem.W.nsIn K mainGlobals "law" = some (some (.ref f19))) (l19 : K.lookup f19 = some ⟨oc19, od19, .func (PySem.W.fnOf "law" "law" (defArgs s_law) (defBody s_law) (defScope s_law) .none kV19 dc19 pm19 an19 cd19 ct19), sl19⟩) (c19 : PySem.W.codeIn K cd19 "law" = true) (k19 : PySem.W.keepIn K (.ref f19) = true)
    (z_all : PySem.W.nsIn K mainGlobals "all" = some none)
    (z_bool : PySem.W.nsIn K mainGlobals "bool" = some none)
    (z_int : PySem.W.nsIn K mainGlobals "int" = some none)
    (z_isinstance : PySem.W.nsIn K mainGlobals "isinstance" = some none)
    (z_len : PySem.W.nsIn K mainGlobals "len" = some none)
    (z_list : PySem.W.nsIn K mainGlobals "list" = some none)
    (z_max : PySem.W.nsIn K mainGlobals "max" = some none)
    (z_min : PySem.W.nsIn K mainGlobals "min" = some none)
    (z_range : PySem.W.nsIn K mainGlobals "range" = some none)
    (z_str : PySem.W.nsIn K mainGlobals "str" = some none)
    (z_tuple : PySem.W.nsIn K mainGlobals "tuple" = some none)

    {t_LETTERS : Tok} (g_LETTERS : PySem.W.nsIn K mainGlobals "LETTERS" = some (some (.str (Str.ofString "abcdefghijklmnopqrstuvwxyz") t_LETTERS)))
    {t_MOST_KEYS : Tok} (g_MOST_KEYS : PySem.W.nsIn K mainGlobals "MOST_KEYS" = some (some (.int 6 t_MOST_KEYS)))
    {t_MOST_LETTERS : Tok} (g_MOST_LETTERS : PySem.W.nsIn K mainGlobals "MOST_LETTERS" = some (some (.int 8 t_MOST_LETTERS)))
    {t_MOST_SIGNS : Tok} (g_MOST_SIGNS : PySem.W.nsIn K mainGlobals "MOST_SIGNS" = some (some (.int 40 t_MOST_SIGNS)))
    {t_SIGNS : Tok} (g_SIGNS : PySem.W.nsIn K mainGlobals "SIGNS" = some (some (.str (Str.ofString " !\"#$&'()*+,-./0123456789:;<=>?@ABCDEFGHIJKLMNOPQRSTUVWXYZ[\\]^_`abcdefghijklmnopqrstuvwxyz{|}~") t_SIGNS)))
    : ∃ fd : FuncData, (∀ (s : Shared) (v : Value), BindsTo s fd ⟨[v], []⟩ [("script", v)]) ∧ ∀ base : Heap, K.In base → base.Ns mainGlobals mg → FnOk l.prog w K mg base CX0 6 fa fd ["script"] (spLaw K) := by
  have e := hfa.symm.trans (PySem.W.mg_of X G a19)
  cases e
  have T := txt_mk X G a0 l0 c0 k0 a1 l1 c1 k1 a2 l2 c2 k2 a3 l3 c3 k3 a4 l4 c4 k4 a5 l5 c5 k5 a6 l6 c6 k6 a7 l7 c7 k7 a8 l8 c8 k8 a9 l9 c9 k9 a10 l10 c10 k10 a11 l11 c11 k11 a12 l12 c12 k12 a13 l13 c13 k13 a14 l14 c14 k14 a15 l15 c15 k15 a16 l16 c16 k16 a17 l17 c17 k17 a18 l18 c18 k18 a19 l19 c19 k19 z_all z_bool z_int z_isinstance z_len z_list z_max z_min z_range z_str z_tuple g_LETTERS g_MOST_KEYS g_MOST_LETTERS g_MOST_SIGNS g_SIGNS
  exact ⟨_, fun s v => .of_eq rfl, fun base _ _ => ok_law T⟩
end Sk
open PySem PySem.W PyProof.Rows
set_option maxHeartbeats 0 in
theorem PySem.Challenge.cw_stemkeep_k01_worths_keys_references_holds : PySem.Challenge.rw_stemkeep_k01_worths_keys_references.Holds := by
  w_on; o_law; k_head; (case hw => w_witness2)
  k_fill
  refine L2.walk_ofB (l := PySem.Challenge.rw_stemkeep_k01_worths_keys_references) (n := 63) (k := 6) (x := "script") (CX := fun _ => L2.CX0) (sp := fun w => Sk.spLaw _) rfl (by decide) rfl ⟨rfl, by decide, by decide⟩ (fun w h Y => PySem.W.kIn_of Y) ?F (fun _ H a ns hl hb hO hS => Sk.spLaw_start hl hb hO hS) (fun _ _ _ _ _ h => h)
  case F =>
    intro w mg fa h KX G hmg
    refine' Sk.all_mk KX G hmg ?a0 ?l0 ?c0 ?k0 ?a1 ?l1 ?c1 ?k1 ?a2 ?l2 ?c2 ?k2 ?a3 ?l3 ?c3 ?k3 ?a4 ?l4 ?c4 ?k4 ?a5 ?l5 ?c5 ?k5 ?a6 ?l6 ?c6 ?k6 ?a7 ?l7 ?c7 ?k7 ?a8 ?l8 ?c8 ?k8 ?a9 ?l9 ?c9 ?k9 ?a10 ?l10 ?c10 ?k10 ?a11 ?l11 ?c11 ?k11 ?a12 ?l12 ?c12 ?k12 ?a13 ?l13 ?c13 ?k13 ?a14 ?l14 ?c14 ?k14 ?a15 ?l15 ?c15 ?k15 ?a16 ?l16 ?c16 ?k16 ?a17 ?l17 ?c17 ?k17 ?a18 ?l18 ?c18 ?k18 ?a19 ?l19 ?c19 ?k19 ?z_all ?z_bool ?z_int ?z_isinstance ?z_len ?z_list ?z_max ?z_min ?z_range ?z_str ?z_tuple ?g_LETTERS ?g_MOST_KEYS ?g_MOST_LETTERS ?g_MOST_SIGNS ?g_SIGNS
    (case a0 => k_is); (case l0 => k_is); (case c0 => k_is); (case k0 => k_is); (case a1 => k_is); (case l1 => k_is); (case c1 => k_is); (case k1 => k_is); (case a2 => k_is); (case l2 => k_is); (case c2 => k_is); (case k2 => k_is); (case a3 => k_is); (case l3 => k_is); (case c3 => k_is); (case k3 => k_is); (case a4 => k_is); (case l4 => k_is); (case c4 => k_is); (case k4 => k_is); (case a5 => k_is); (case l5 => k_is); (case c5 => k_is); (case k5 => k_is); (case a6 => k_is); (case l6 => k_is); (case c6 => k_is); (case k6 => k_is); (case a7 => k_is); (case l7 => k_is); (case c7 => k_is); (case k7 => k_is); (case a8 => k_is); (case l8 => k_is); (case c8 => k_is); (case k8 => k_is); (case a9 => k_is); (case l9 => k_is); (case c9 => k_is); (case k9 => k_is); (case a10 => k_is); (case l10 => k_is); (case c10 => k_is); (case k10 => k_is); (case a11 => k_is); (case l11 => k_is); (case c11 => k_is); (case k11 => k_is); (case a12 => k_is); (case l12 => k_is); (case c12 => k_is); (case k12 => k_is); (case a13 => k_is); (case l13 => k_is); (case c13 => k_is); (case k13 => k_is); (case a14 => k_is); (case l14 => k_is); (case c14 => k_is); (case k14 => k_is); (case a15 => k_is); (case l15 => k_is); (case c15 => k_is); (case k15 => k_is); (case a16 => k_is); (case l16 => k_is); (case c16 => k_is); (case k16 => k_is); (case a17 => k_is); (case l17 => k_is); (case c17 => k_is); (case k17 => k_is); (case a18 => k_is); (case l18 => k_is); (case c18 => k_is); (case k18 => k_is); (case a19 => k_is); (case l19 => k_is); (case c19 => k_is); (case k19 => k_is); (case z_all => k_is); (case z_bool => k_is); (case z_int => k_is); (case z_isinstance => k_is); (case z_len => k_is); (case z_list => k_is); (case z_max => k_is); (case z_min => k_is); (case z_range => k_is); (case z_str => k_is); (case z_tuple => k_is); (case g_LETTERS => k_is); (case g_MOST_KEYS => k_is); (case g_MOST_LETTERS => k_is); (case g_MOST_SIGNS => k_is); (case g_SIGNS => k_is)
