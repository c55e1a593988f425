import PyProof.Rows.All
import Wide.All
import OpenK.AllK
import Wide.FinOn
import HandS.ForMost
import HandS.EndBits
import HandS.Wide
import HandS.TupAny
import HandS.IsInst
import HandS.Evl
import KE.Datum
import PySem.Challenge.RW_stemkeep_k04_stems
set_option Elab.async false
set_option linter.all false
set_option maxRecDepth 100000
set_option maxHeartbeats 4000000
namespace Sk
open PySem PySem.Spec PyProof.Rows L2
/-! ### powers of middling numbers -/
def CPowW (i j : Int) : Prop := 0 ≤ j ∧ j ≤ 1000 ∧ i.natAbs < 2 ^ 4096
theorem op_powW {X : Cx} : OpR X (binaryOp .Pow) (rI CPowW fun i j => .int (i ^ j.toNat)) := opI fun i j _ _ _ _ _ hc q => by
  obtain ⟨h0, h1, h2⟩ := hc
  refine pow_int h0 ?_ q
  have b : Builtin.Int.intBits i ≤ 4096 := by
    have h3 := PySem.Flt.log2_lt_of (n := i.natAbs) (by decide : 0 < 4096) h2
    unfold Builtin.Int.intBits
    split <;> omega
  have b2 : (Builtin.Int.intBits i : Int) ≤ 4096 := by omega
  have b3 : (Builtin.Int.intBits i : Int) * j ≤ 4096 * 1000 := Int.mul_le_mul b2 h1 h0 (by decide)
  omega
/-! ### rules that lean on the written part, K told (a comprehension's block has it too) -/
section
variable {X : Cx}
theorem k_ix_list (K : PySem.W.Frag) (e : X.K = K := by rfl) : IxR X (rIxL K) := by subst e; exact ix_list
theorem k_ix_tup (K : PySem.W.Frag) (e : X.K = K := by rfl) : IxR X (rIxT K) := by subst e; exact ix_tup
theorem k_sl_list (K : PySem.W.Frag) (e : X.K = K := by rfl) : SlR X (rSlL K) := by subst e; exact sl_list
theorem k_sl_tup (K : PySem.W.Frag) (e : X.K = K := by rfl) : SlR X (rSlA K) := by subst e; exact sl_tupA
theorem k_len (K : PySem.W.Frag) (e : X.K = K := by rfl) : CallR X (.builtin "len") (Evl.rLenS K) := by subst e; exact call_len_seq
theorem k_catA (K : PySem.W.Frag) (e : X.K = K := by rfl) : OpR X (binaryOp .Add) (rCatA K) := by subst e; exact op_catA
theorem k_eqD (K : PySem.W.Frag) (hu : X.A.units + 64 < cLine) (e : X.K = K := by rfl) : OpR X (compareOp .Eq) (rEqD K) := by subst e; exact op_eqD hu
theorem k_neD (K : PySem.W.Frag) (hu : X.A.units + 64 < cLine) (e : X.K = K := by rfl) : OpR X (compareOp .NotEq) (rNeD K) := by subst e; exact op_neD hu
theorem k_in (K : PySem.W.Frag) (e : X.K = K := by rfl) : OpR X (compareOp .In) (rIn K false) := by subst e; exact op_in_seq
theorem k_notIn (K : PySem.W.Frag) (e : X.K = K := by rfl) : OpR X (compareOp .NotIn) (rIn K true) := by subst e; exact op_notIn_seq
theorem k_list (K : PySem.W.Frag) (e : X.K = K := by rfl) : CallR X (.type "list") (Evl.rListS K) := by subst e; exact call_list_of
def rTupOf (K : PySem.W.Frag) : List V → Hp → VK → Prop := fun xs H Q => ∃ p ys, xs = [.ref p] ∧ ((SqL K H p ys ∧ ∀ l, H l = none → Q (.ref l) (upd H l (.tup ys))) ∨ (SqT K H p ys ∧ Q (.ref p) H))
theorem k_tuple (K : PySem.W.Frag) (e : X.K = K := by rfl) : CallR X (.type "tuple") (rTupOf K) := by subst e; exact call_tuple_of
theorem k_isi (K : PySem.W.Frag) (e : X.K = K := by rfl) : CallR X (.builtin "isinstance") (rIsi K) := by subst e; exact call_isi
def rJoin (K : PySem.W.Frag) : V → List V → Hp → VK → Prop := fun x xs H Q => ∃ a p, ∃ ys : List Str, x = .str a ∧ xs = [.ref p] ∧ (SqL K H p (ys.map V.str) ∨ SqT K H p (ys.map V.str)) ∧
  (ys.map (·.length)).sum + ys.length * a.length ≤ 16777216 ∧ Q (.str (Txt.join a ys)) H
theorem k_mt_join (K : PySem.W.Frag) (e : X.K = K := by rfl) : MtR X "str.join" (rJoin K) := by subst e; exact mt_join
theorem k_pi_list (K : PySem.W.Frag) {tg l : Expr} {tl : TE} (hl : PE X l tl) (e : X.K = K := by rfl) : PI X tg l (iList K tl) := by subst e; exact pi_list hl
theorem k_pi_tup (K : PySem.W.Frag) {tg l : Expr} {tl : TE} (hl : PE X l tl) (e : X.K = K := by rfl) : PI X tg l (iTup K tl) := by subst e; exact pi_tup hl
end
/-! ### heaps but for one object -/
def Chg (b : Addr) (H H' : Hp) : Prop := ∀ a o, a ≠ b → H a = some o → H' a = some o
theorem Chg.refl (b : Addr) (H : Hp) : Chg b H H := fun _ _ _ h => h
theorem Chg.trans {b : Addr} {H H1 H2 : Hp} (a : Chg b H H1) (c : Chg b H1 H2) : Chg b H H2 := fun x o n h => c x o n (a x o n h)
theorem Chg.upd {b : Addr} {H : Hp} {o : HO} : Chg b H (upd H b o) := fun a u n h => by rw [upd_ne n]; exact h
theorem Chg.new {b p : Addr} {H : Hp} {o : HO} (h : H p = none) : Chg b H (L2.upd H p o) := fun a u n e => by rw [upd_ne (ne_of_none e h)]; exact e
theorem Chg.same {b : Addr} {H H' : Hp} (h : Same H H') : Chg b H H' := fun a o _ e => h a o e
theorem same_new {H : Hp} {p : Addr} {o : HO} (h : H p = none) : Same H (upd H p o) := fun b u e => by
  rw [upd_ne (ne_of_none e h)]
  exact e
/-! ### the bag -/
def BagAt (N : Nat) (b : Addr) (H : Hp) : Prop := ∃ x y z : Int, H b = some (.lst [.int x, .int y, .int z]) ∧ 0 ≤ y ∧ y < 2 ^ 130 ∧ 0 ≤ z ∧ z ≤ (N : Int)
theorem BagAt.mono {N M : Nat} {b : Addr} {H : Hp} (h : BagAt N b H) (l : N ≤ M) : BagAt M b H := by
  obtain ⟨x, y, z, e, a, c, d, f⟩ := h
  exact ⟨x, y, z, e, a, c, d, by omega⟩
theorem BagAt.same {N : Nat} {b : Addr} {H H' : Hp} (h : BagAt N b H) (s : Same H H') : BagAt N b H' := by
  obtain ⟨x, y, z, e, r⟩ := h
  exact ⟨x, y, z, s _ _ e, r⟩
theorem BagAt.chg {N : Nat} {b c : Addr} {H H' : Hp} (h : BagAt N b H) (s : Chg c H H') (n : b ≠ c) : BagAt N b H' := by
  obtain ⟨x, y, z, e, r⟩ := h
  exact ⟨x, y, z, s _ _ n e, r⟩
theorem BagAt.new {N : Nat} {b p : Addr} {H : Hp} {o : HO} (h : BagAt N b H) (n : H p = none) : BagAt N b (upd H p o) := h.same (same_new n)
theorem BagAt.ne {N : Nat} {b p : Addr} {H : Hp} (h : BagAt N b H) (n : H p = none) : b ≠ p := by
  obtain ⟨x, y, z, e, _⟩ := h
  exact ne_of_none e n
theorem BagAt.neT {N : Nat} {b a : Addr} {H : Hp} {xs : List V} (h : BagAt N b H) (e : H a = some (.tup xs)) : a ≠ b := by
  obtain ⟨x, y, z, e2, _⟩ := h
  exact ne_of e e2 (by intro z; cases z)
theorem BagAt.rd {K : PySem.W.Frag} {N : Nat} {b : Addr} {H : Hp} (h : BagAt N b H) : ∃ xs, SqL K H b xs := by
  obtain ⟨x, y, z, e, _⟩ := h
  exact ⟨_, .inl (.inl e)⟩
/-- a draw: some number below m, the bag one turn older -/
def spDraw : Sp := fun vs H Q _ => ∃ (b : Addr) (m : Int) (N : Nat), vs = [.ref b, .int m] ∧ 0 < m ∧ m < 2 ^ 256 ∧ N < 2 ^ 60 ∧ BagAt N b H ∧
  ∀ (H' : Hp) (r : Int), Chg b H H' → BagAt (N + 1) b H' → 0 ≤ r → r < m → Q (.int r) H'
theorem div_ok {m : Int} (h : 0 < m) (l : m < 2 ^ 256) : CDivW 0 m := wide_div (b := 256) h (by omega) (by decide) (by decide)
theorem pow_ok {i : Int} (h0 : 0 ≤ i) (h : i < 2 ^ 140) : CPowW i 3 := ⟨by decide, by decide, by
  have h1 : i.natAbs < 2 ^ 140 := by omega
  exact Nat.lt_of_lt_of_le h1 (Nat.pow_le_pow_right (by decide) (by decide))⟩
theorem mul_ok {i j : Int} (h0 : i.natAbs < 2 ^ 256) (h : j.natAbs < 2 ^ 256) : CMulW i j := wide_mul h0 h (by decide) (by decide) (by decide)
end Sk

namespace Sk
open PySem PySem.Spec PyProof.Rows L2
/-! ### texts by their signs -/
abbrev tl (s : Str) : List Nat := s.cps.toList
def Wc (c : Nat) : Prop := 32 ≤ c ∧ c ≤ 126 ∧ c ≠ 37
instance (c : Nat) : Decidable (Wc c) := by unfold Wc; infer_instance
def WorthS (s : Str) : Prop := ∀ c ∈ tl s, Wc c
instance (s : Str) : Decidable (WorthS s) := by unfold WorthS; infer_instance
def lawSigns : Str := Str.ofString " !\"#$&'()*+,-./0123456789:;<=>?@ABCDEFGHIJKLMNOPQRSTUVWXYZ[\\]^_`abcdefghijklmnopqrstuvwxyz{|}~"
theorem lawSigns_worth : WorthS lawSigns := by decide +kernel
theorem lawSigns_len : lawSigns.length = 94 := by decide +kernel
theorem lawSigns_mem {c : Nat} : c ∈ tl lawSigns ↔ Wc c := by
  constructor
  · exact fun h => lawSigns_worth c h
  · intro h
    have h1 : c < 127 := by have := h.2.1; omega
    have key : ∀ d < 127, Wc d → d ∈ tl lawSigns := by decide +kernel
    exact key c h1 h
theorem len_tl (s : Str) : s.length = (tl s).length := by simp [Str.length, tl]
theorem tl_inj {a b : Str} (h : tl a = tl b) : a = b := by
  obtain ⟨a⟩ := a
  obtain ⟨b⟩ := b
  exact congrArg Str.mk (Array.toList_inj.mp h)
theorem tl_cat (a b : Str) : tl (a ++ b) = tl a ++ tl b := TL.tl_append a b
theorem joinL_nil : ∀ l : List (List Nat), TL.joinL [] l = l.flatten
  | [] => rfl
  | [p] => by simp [TL.joinL]
  | p :: q :: r => by
    show p ++ ([] ++ TL.joinL [] (q :: r)) = _
    rw [joinL_nil (q :: r)]
    simp
theorem tl_join0 {e : Str} (he : tl e = []) (ys : List Str) : tl (Txt.join e ys) = (ys.map tl).flatten := by
  have h := TL.tl_join e ys
  rw [show Txt.join e ys = Str.join e ys from TL.join_eq e ys]
  exact h.trans (by
    show TL.joinL (tl e) (ys.map tl) = _
    rw [he, joinL_nil])
theorem empty_tl : tl (Str.ofString "") = [] := by decide +kernel
theorem worth_join {e : Str} (he : tl e = []) {ys : List Str} (h : ∀ y ∈ ys, WorthS y) : WorthS (Txt.join e ys) := by
  intro c hc
  rw [tl_join0 he, List.mem_flatten] at hc
  obtain ⟨l, hl, hc⟩ := hc
  obtain ⟨y, hy, rfl⟩ := List.mem_map.mp hl
  exact h y hy c hc
theorem len_join1 {e : Str} (he : tl e = []) {ys : List Str} (h : ∀ y ∈ ys, y.length = 1) : (Txt.join e ys).length = ys.length := by
  rw [len_tl, tl_join0 he]
  induction ys with
  | nil => rfl
  | cons y r ih =>
    rw [List.map_cons, List.flatten_cons, List.length_append, ih (fun z hz => h z (List.mem_cons_of_mem _ hz)), ← len_tl, h y List.mem_cons_self, List.length_cons]
    omega
theorem cut_to (z : Str) {m : Int} (h : 0 ≤ m) : tl (cutS z none (some m)) = (tl z).take m.toNat := by
  obtain ⟨n, rfl⟩ : ∃ n : Nat, m = (n : Int) := ⟨m.toNat, by omega⟩
  show ((z.cps.toList.drop (HT.sIx z.length 0 none)).take (HT.sIx z.length z.length (some (n : Int)) - HT.sIx z.length 0 none)) = _
  rw [HT.sIx_none, HT.sIx_nat, List.drop_zero, Nat.sub_zero, len_tl, Int.toNat_natCast, List.take_eq_take_iff]
  show min (min n (tl z).length) (tl z).length = min n (tl z).length
  omega
theorem worth_cut {z : Str} (h : WorthS z) {m : Int} (h0 : 0 ≤ m) : WorthS (cutS z none (some m)) := by
  intro c hc
  rw [cut_to z h0] at hc
  exact h c (List.mem_of_mem_take hc)
theorem len_cut (z : Str) {m : Int} (h0 : 0 ≤ m) : ((cutS z none (some m)).length : Int) ≤ m := by
  rw [len_tl, cut_to z h0, List.length_take]
  omega
theorem worth_int (i : Int) : WorthS (Str.ofString (toString i)) := by
  intro c hc
  refine Decidable.byContradiction fun hn => ?_
  have h2 : c ≠ 45 ∧ (c < 48 ∨ 57 < c) := by
    unfold Wc at hn
    omega
  exact PyProof.Rows.int_text_free' c h2 i hc
theorem worth_sign {c : Nat} (h : Wc c) : WorthS ⟨#[c]⟩ := by
  intro d hd
  have : d = c := by simpa [tl] using hd
  rw [this]
  exact h
/-- an item of a list that is as long as the draw's bound -/
theorem at_lt {α : Type} {xs : List α} {r : Int} (h0 : 0 ≤ r) (h : r < xs.length) : ∃ v, v ∈ xs ∧ atI xs r = some v := by
  obtain ⟨n, rfl⟩ : ∃ n : Nat, r = (n : Int) := ⟨r.toNat, by omega⟩
  have hn : n < xs.length := by omega
  exact ⟨xs[n], List.getElem_mem hn, atI_nat (List.getElem?_eq_getElem hn)⟩
theorem at_map {α : Type} {xs : List α} (f : α → V) {r : Int} (h0 : 0 ≤ r) (h : r < xs.length) : ∃ v, v ∈ xs ∧ atI (xs.map f) r = some (f v) := by
  obtain ⟨n, rfl⟩ : ∃ n : Nat, r = (n : Int) := ⟨r.toNat, by omega⟩
  have hn : n < xs.length := by omega
  exact ⟨xs[n], List.getElem_mem hn, atI_nat (by rw [List.getElem?_map, List.getElem?_eq_getElem hn]; rfl)⟩
def spCell (K : PySem.W.Frag) : Sp := fun vs H Q _ => ∃ (a : Addr) (ns : List Int) (k : Int), vs = [.ref a, .int k] ∧ SqL K H a (ns.map V.int) ∧ 0 ≤ k ∧ ∀ r : Int, Q (.int r) H
def spBag : Sp := fun vs H Q _ => ∃ (c n : Int), vs = [.int c, .int n] ∧ 0 ≤ n ∧ n ≤ 1000 ∧ ∀ H' b, H b = none → Same H H' → BagAt 0 b H' → Q (.ref b) H'
def spSigns : Sp := fun vs H Q _ => vs = [] ∧ Q (.str lawSigns) H
def spText : Sp := fun vs H Q _ => ∃ (b : Addr) (m : Int) (N : Nat), vs = [.ref b, .int m] ∧ 0 ≤ m ∧ m ≤ 1000 ∧ N < 2 ^ 50 ∧ BagAt N b H ∧
  ∀ (H' : Hp) (s : Str), Chg b H H' → BagAt (N + 2000) b H' → (s.length : Int) ≤ m → WorthS s → Q (.str s) H'
end Sk

namespace Sk
open PySem PySem.Spec PyProof.Rows L2
theorem Chg.mut {b p : Addr} {H H' : Hp} {o : HO} (c : Chg b H H') (n : H p = none) : Chg b H (L2.upd H' p o) := fun a u h e => by
  rw [upd_ne (ne_of_none e n)]
  exact c a u h e
theorem Chg.sql {K : PySem.W.Frag} {b a : Addr} {H H' : Hp} {xs : List V} (c : Chg b H H') (n : a ≠ b) (h : SqL K H a xs) : SqL K H' a xs := by
  rcases h with (h | ⟨o, h⟩) | h
  · exact .inl (.inl (c _ _ n h))
  · exact .inl (.inr ⟨o, c _ _ n h⟩)
  · exact .inr h
theorem BagAt.mut {N : Nat} {b p : Addr} {H' : Hp} {o : HO} (h : BagAt N b H') (n : b ≠ p) : BagAt N b (upd H' p o) := by
  obtain ⟨x, y, z, e, r⟩ := h
  exact ⟨x, y, z, by rw [upd_ne n]; exact e, r⟩
/-! ### readings of draws -/
section
variable {K : PySem.W.Frag} {σ : L2.St} {H : Hp} {Q : VK} {E : XK} {b : Addr} {N : Nat}
theorem rd_draw {te : TE} {i : Nat} {m : Int} (hi : σ[i]? = some (some (.ref b))) (he : ∀ R : VK, R (.int m) H → te σ H R) (m0 : 0 < m) (m1 : m < 2 ^ 256) (hN : N < 2 ^ 60) (hB : BagAt N b H)
    (q : ∀ H' r, Chg b H H' → BagAt (N + 1) b H' → 0 ≤ r → r < m → Q (.int r) H') : tCall spDraw [] E (tCons (tVar i) (tCons te tNil)) σ H Q :=
  ⟨_, hi, he _ ⟨b, m, N, rfl, m0, m1, hN, hB, q⟩⟩
theorem rd_menu {ta : TA} {xs : List V} {i : Nat} {k : Int} (ha : ∀ R : List V → Hp → Prop, R xs H → ta σ H R) (hi : σ[i]? = some (some (.ref b))) (hk : k = xs.length) (h0 : 0 < xs.length) (h1 : xs.length < 1000) (hN : N < 2 ^ 60) (hB : BagAt N b H)
    (q : ∀ H' v, v ∈ xs → Chg b H H' → BagAt (N + 1) b H' → Q v H') : tOp (rIxL K) (tLst ta) (tCall spDraw [] E (tCons (tVar i) (tCons (tC (.int k)) tNil))) σ H Q := by
  refine ha _ ⟨Nat.le_of_lt (small1000 (by omega)), fun p hp => ?_⟩
  refine ⟨_, hi, b, k, N, rfl, by omega, by omega, hN, hB.new hp, fun H1 r c1 B1 r0 r1 => ?_⟩
  obtain ⟨v, hv, e⟩ := at_lt (xs := xs) r0 (by omega)
  have hp1 : H1 p = some (.lst xs) := c1 _ _ (hB.ne hp).symm upd_same
  exact ⟨p, xs, r, v, rfl, rfl, .inl (.inl hp1), e, q H1 v hv ((Chg.new hp).trans c1) B1⟩
theorem wipe1 {σ : L2.St} {k : Nat} {x : V} : wipe ((wipe σ [k]).set k (some x)) [k] = wipe σ [k] := by
  show ((σ.set k none).set k (some x)).set k none = σ.set k none
  rw [List.set_set, List.set_set]
/-- [elt for k in range(n)], elt drawn -/
theorem lc_draws {te : TE} {k n c : Nat} {H1 : Hp} {D : Addr} {Qd : Hp → Prop} (f : V → Prop) (hn : n ≤ 100000) (hD : H1 D = none) (hB : BagAt N b H1)
    (helt : ∀ H2 M x, Chg b H1 H2 → BagAt M b H2 → M < N + c * n → ∀ R : VK, (∀ H3 y, Chg b H2 H3 → BagAt (M + c) b H3 → f y → R y H3) → te ((wipe σ [k]).set k (some x)) H2 R) (hc : 0 < c)
    (hd : ∀ H2 ys, ys.length = n → (∀ y ∈ ys, f y) → Chg b H1 H2 → BagAt (N + c * n) b H2 → H2 D = some (.lst ys) → Qd H2) :
    ∃ W : Nat → Nat → Hp → Prop, (∃ m, W 0 m (upd H1 D (.lst []))) ∧ ∀ i m H, W i m H →
      ((Itr 0 n).stop i H ∧ Qd H) ∨ ((Itr 0 n).go i H ∧ ∃ Nx : Hp → Prop, (∀ H', Nx H' → ∃ m', m' < m ∧ W (i + 1) m' H') ∧ ∀ x H', (Itr 0 n).yld i H x H' → gName k x (wipe σ [k]) H' fun σ2 H2 => wipe σ2 [k] = wipe σ [k] ∧ tYes σ2 H2 fun b H3 =>
        if b = true then te σ2 H3 fun y H4 => ∃ acc, H4 D = some (.lst acc) ∧ acc.length < sizeLine ∧ Nx (upd H4 D (.lst (acc ++ [y]))) else Nx H3) := by
  have nb := hB.ne hD
  refine lc_range (lo := 0) (n := n) (fun i H2 => ∃ ys, ys.length = i ∧ (∀ y ∈ ys, f y) ∧ Chg b H1 H2 ∧ BagAt (N + c * i) b H2 ∧ H2 D = some (.lst ys)) ?_ ?_ ?_
  · exact ⟨[], rfl, (fun _ h => nomatch h), .new hD, hB.new hD, upd_same⟩
  · rintro i H2 hi ⟨ys, rfl, hf, c2, B2, e2⟩
    refine ⟨wipe1, ?_⟩
    show te _ H2 _
    have hm : c * ys.length < c * n := Nat.mul_lt_mul_of_pos_left hi hc
    refine helt H2 _ _ c2 B2 (by omega) _ fun H3 y c3 B3 hy => ?_
    have e3 : H3 D = some (.lst ys) := c3 _ _ nb.symm e2
    refine ⟨ys, e3, Evl.sz_lt (by omega), ys ++ [y], by simp, fun z hz => ?_, (c2.trans c3).mut hD, ?_, upd_same⟩
    · rcases List.mem_append.mp hz with h | h
      · exact hf z h
      · rw [List.mem_singleton.mp h]; exact hy
    · rw [Nat.mul_succ, ← Nat.add_assoc]
      exact B3.mut nb
  · rintro H2 ⟨ys, e, hf, c2, B2, e2⟩
    exact hd H2 ys e hf c2 B2 e2
end
/-- a list of texts -/
theorem strs_of {ys : List V} {f : Str → Prop} (h : ∀ y ∈ ys, ∃ s, y = .str s ∧ f s) : ∃ zs : List Str, ys = zs.map V.str ∧ ∀ z ∈ zs, f z := by
  induction ys with
  | nil => exact ⟨[], rfl, fun _ h => nomatch h⟩
  | cons y r ih =>
    obtain ⟨zs, rfl, hz⟩ := ih fun z hz => h z (List.mem_cons_of_mem _ hz)
    obtain ⟨s, rfl, hs⟩ := h y List.mem_cons_self
    refine ⟨s :: zs, rfl, fun z hm => ?_⟩
    rcases List.mem_cons.mp hm with rfl | hm
    · exact hs
    · exact hz z hm
theorem sum_le {zs : List Str} {c : Nat} (h : ∀ z ∈ zs, z.length ≤ c) : (zs.map (·.length)).sum ≤ c * zs.length := by
  induction zs with
  | nil => simp
  | cons z r ih =>
    rw [List.map_cons, List.sum_cons, List.length_cons, Nat.mul_succ]
    have h1 := ih fun y hy => h y (List.mem_cons_of_mem _ hy)
    have h2 := h z List.mem_cons_self
    omega
end Sk
namespace Sk
open PySem PySem.Spec PyProof.Rows L2
/-! ### names, keys, references -/
def NameS (s : Str) : Prop := 1 ≤ s.length ∧ s.length ≤ 8 ∧ ∀ c ∈ tl s, 97 ≤ c ∧ c ≤ 122
def KeyS (s : Str) : Prop := 1 ≤ s.length ∧ s.length ≤ 40 ∧ WorthS s
def spName : Sp := fun vs H Q _ => ∃ (b : Addr) (N : Nat), vs = [.ref b] ∧ N < 2 ^ 50 ∧ BagAt N b H ∧
  ∀ (H' : Hp) (s : Str), Chg b H H' → BagAt (N + 20) b H' → NameS s → Q (.str s) H'
def spKey : Sp := fun vs H Q _ => ∃ (b : Addr) (N : Nat), vs = [.ref b] ∧ N < 2 ^ 49 ∧ BagAt N b H ∧
  ∀ (H' : Hp) (s : Str), Chg b H H' → BagAt (N + 2001) b H' → KeyS s → Q (.str s) H'
/-- a tuple of a name and a tuple of keys -/
def RefAt (H : Hp) (v : V) (n : Str) (ks : List Str) : Prop := ∃ a k, v = .ref a ∧ H a = some (.tup [.str n, .ref k]) ∧ H k = some (.tup (ks.map V.str))
structure RefS (n : Str) (ks : List Str) : Prop where
  name : NameS n
  len : ks.length ≤ 6
  keys : ∀ k ∈ ks, KeyS k
def spRef : Sp := fun vs H Q _ => ∃ (b : Addr) (N : Nat), vs = [.ref b] ∧ N < 2 ^ 48 ∧ BagAt N b H ∧
  ∀ (H' : Hp) (v : V) (n : Str) (ks : List Str), Chg b H H' → BagAt (N + 20000) b H' → RefAt H' v n ks → RefS n ks → Q v H'
theorem RefAt.same {H H' : Hp} {v : V} {n : Str} {ks : List Str} (h : RefAt H v n ks) (s : Same H H') : RefAt H' v n ks := by
  obtain ⟨a, k, rfl, h1, h2⟩ := h
  exact ⟨a, k, rfl, s _ _ h1, s _ _ h2⟩
theorem RefAt.chg {H H' : Hp} {b : Addr} {N : Nat} {v : V} {n : Str} {ks : List Str} (h : RefAt H v n ks) (c : Chg b H H') (B : BagAt N b H) : RefAt H' v n ks := by
  obtain ⟨a, k, rfl, h1, h2⟩ := h
  exact ⟨a, k, rfl, c _ _ (B.neT h1) h1, c _ _ (B.neT h2) h2⟩
theorem RefAt.new {H : Hp} {p : Addr} {o : HO} {v : V} {n : Str} {ks : List Str} (h : RefAt H v n ks) (e : H p = none) : RefAt (upd H p o) v n ks := h.same (same_new e)
end Sk

namespace Sk
open PySem PySem.Spec PyProof.Rows L2
open PySem.W (Datum Tup)
/-! ### == of data -/
def rEqP (K : PySem.W.Frag) : R2 := fun x y H Q => ∃ d e, Dp K H x d ∧ Dp K H y e ∧ d.plain = true ∧ e.plain = true ∧ d.depth ≤ 64 ∧ Q (.bl (PyData.eqv d e)) H
def rNeP (K : PySem.W.Frag) : R2 := fun x y H Q => ∃ d e, Dp K H x d ∧ Dp K H y e ∧ d.plain = true ∧ e.plain = true ∧ d.depth ≤ 64 ∧ Q (.bl (!PyData.eqv d e)) H
section
variable {X : Cx}
theorem k_eqP (K : PySem.W.Frag) (hu : X.A.units + 64 < cLine) (e : X.K = K := by rfl) : OpR X (compareOp .Eq) (rEqP K) := by
  subst e
  intro pins s σ H x y v u Q I rx ry h
  obtain ⟨d, e, hd, he, sd, se, dl, q⟩ := h
  obtain ⟨as, r1⟩ := Dp.reads I d x v hd rx
  obtain ⟨bs, r2⟩ := Dp.reads I e y u he ry
  exact PySem.SeqAt.eq_plain r1 r2 sd se (by omega) ⟨.bl _, H, I, rfl, q⟩
theorem k_neP (K : PySem.W.Frag) (hu : X.A.units + 64 < cLine) (e : X.K = K := by rfl) : OpR X (compareOp .NotEq) (rNeP K) := by
  subst e
  intro pins s σ H x y v u Q I rx ry h
  obtain ⟨d, e, hd, he, sd, se, dl, q⟩ := h
  obtain ⟨as, r1⟩ := Dp.reads I d x v hd rx
  obtain ⟨bs, r2⟩ := Dp.reads I e y u he ry
  exact PySem.SeqAt.ne_plain r1 r2 sd se (by omega) ⟨.bl _, H, I, rfl, q⟩
end
/-- a value that bears a datum -/
abbrev DV {α : Type} [DecidableEq α] [Datum α] (K : PySem.W.Frag) (H : Hp) (v : V) (x : α) : Prop := Dp K H v (Datum.toD x)
section
variable {α : Type} [DecidableEq α] [Datum α] {K : PySem.W.Frag} {H : Hp} {v w : V} {x y : α} {Q : VK}
theorem rd_eqP (h1 : DV K H v x) (h2 : DV K H w y) (hd : Datum.depth α ≤ 64) (q : Q (.bl (decide (x = y))) H) : rEqP K v w H Q :=
  ⟨_, _, h1, h2, Datum.plain x, Datum.plain y, Nat.le_trans (Datum.depth_le x) hd, by rw [Datum.eqv]; exact q⟩
theorem rd_neP (h1 : DV K H v x) (h2 : DV K H w y) (hd : Datum.depth α ≤ 64) (q : Q (.bl (!decide (x = y))) H) : rNeP K v w H Q :=
  ⟨_, _, h1, h2, Datum.plain x, Datum.plain y, Nat.le_trans (Datum.depth_le x) hd, by rw [Datum.eqv]; exact q⟩
theorem dv_all {f : α → V} : ∀ {xs : List α}, (∀ x ∈ xs, DV K H (f x) x) → DpAll K H (xs.map f) (xs.map Datum.toD)
  | [], _ => .nil
  | x :: r, h => .cons (h x List.mem_cons_self) (dv_all fun y hy => h y (List.mem_cons_of_mem _ hy))
theorem dv_lst {f : α → V} {a : Addr} {xs : List α} (h : SqL K H a (xs.map f)) (hx : ∀ x ∈ xs, DV K H (f x) x) : DV K H (.ref a) xs := Dp.lst h (dv_all hx)
theorem dv_tup {f : α → V} {a : Addr} {xs : List α} (h : SqT K H a (xs.map f)) (hx : ∀ x ∈ xs, DV K H (f x) x) : DV K H (.ref a) (Tup.mk xs) := Dp.tup h (dv_all hx)
end
theorem dv_strs {K : PySem.W.Frag} {H : Hp} {a : Addr} {ks : List Str} (h : SqT K H a (ks.map V.str)) : DV K H (.ref a) (Tup.mk ks) := dv_tup h fun x _ => Dp.str x
theorem dv_ints {K : PySem.W.Frag} {H : Hp} {a : Addr} {ks : List Int} (h : SqL K H a (ks.map V.int)) : DV K H (.ref a) ks := dv_lst h fun x _ => Dp.int x
theorem dv_bools {K : PySem.W.Frag} {H : Hp} {a : Addr} {ks : List Bool} (h : SqL K H a (ks.map V.bl)) : DV K H (.ref a) ks := dv_lst h fun x _ => Dp.bl x
/-! ### stems -/
def stemB (n1 : Str) (k1 : List Str) (n2 : Str) (k2 : List Str) : Bool := decide (n1 = n2) && decide (k2.take k1.length = k1)
def meetB (n1 : Str) (k1 : List Str) (n2 : Str) (k2 : List Str) : Bool := stemB n1 k1 n2 k2 || stemB n2 k2 n1 k1
def spRel (f : Str → List Str → Str → List Str → Bool) : Sp := fun vs H Q _ => ∃ v1 v2 n1 k1 n2 k2, vs = [v1, v2] ∧ RefAt H v1 n1 k1 ∧ RefAt H v2 n2 k2 ∧ k1.length ≤ 1000 ∧ k2.length ≤ 1000 ∧
  ∀ H', Same H H' → Q (.bl (f n1 k1 n2 k2)) H'
theorem cutV_to {xs : List V} {n : Nat} : cutV xs none (some (n : Int)) = xs.take n := by
  unfold cutV
  rw [HT.sIx_none, HT.sIx_nat, List.drop_zero, Nat.sub_zero, List.take_eq_take_iff]
  omega
theorem cutV_from {xs : List V} {n : Nat} : cutV xs (some (n : Int)) none = xs.drop n := by
  unfold cutV
  rw [HT.sIx_none, HT.sIx_nat]
  by_cases h : n ≤ xs.length
  · rw [Nat.min_eq_left h]
    exact List.take_of_length_le (by rw [List.length_drop]; omega)
  · rw [List.drop_eq_nil_of_le (by omega : xs.length ≤ min n xs.length), List.drop_eq_nil_of_le (by omega)]
    exact List.take_nil
/-- t[:n] of a tuple: some tuple of its first n -/
theorem rd_takeT {K : PySem.W.Frag} {H : Hp} {a : Addr} {xs : List V} {n : Nat} {Q : VK} (h : SqT K H a xs) (q : ∀ p H', Same H H' → SqT K H' p (xs.take n) → Q (.ref p) H') : rSlA K (.ref a) none (some (n : Int)) H Q := by
  refine ⟨a, xs, rfl, h, fun ⟨_, e⟩ => q a H (.refl H) ?_, fun _ p hp => q p _ (same_new hp) ?_⟩
  · rw [HT.sIx_nat] at e
    rw [List.take_of_length_le (by omega)]
    exact h
  · rw [cutV_to]
    exact .inl (.inl upd_same)
theorem rd_dropT {K : PySem.W.Frag} {H : Hp} {a : Addr} {xs : List V} {n : Nat} {Q : VK} (h : SqT K H a xs) (q : ∀ p H', Same H H' → SqT K H' p (xs.drop n) → Q (.ref p) H') : rSlA K (.ref a) (some (n : Int)) none H Q := by
  refine ⟨a, xs, rfl, h, fun ⟨e, _⟩ => q a H (.refl H) ?_, fun _ p hp => q p _ (same_new hp) ?_⟩
  · rw [HT.sIx_nat] at e
    by_cases hn : n = 0
    · rw [hn, List.drop_zero]
      exact h
    · have h0 : xs = [] := List.length_eq_zero_iff.mp (by omega)
      subst h0
      rw [List.drop_nil]
      exact h
  · rw [cutV_from]
    exact .inl (.inl upd_same)
end Sk
namespace Sk
open PySem PySem.Spec PyProof.Rows L2
section
variable {K : PySem.W.Frag} {σ : L2.St}
theorem same_mut {H H' : Hp} {p : Addr} {o : HO} (s : Same H H') (n : H p = none) : Same H (upd H' p o) := fun a u e => by
  rw [upd_ne (ne_of_none e n)]
  exact s a u e
/-- [elt for k in range(n) if ..], nothing but new things made -/
theorem lc_pure_range {te : TE} {tt : TT} {k n : Nat} {H1 : Hp} {D : Addr} {Qd : Hp → Prop} (p : Nat → Bool) (f : Nat → V) (hn : n ≤ 100000) (hD : H1 D = none)
    (ht : ∀ i H2, i < n → Same H1 H2 → ∀ R : Bool → Hp → Prop, (∀ H3, Same H2 H3 → R (p i) H3) → tt ((wipe σ [k]).set k (some (.int (0 + (i : Int))))) H2 R)
    (he : ∀ i H2, i < n → p i = true → Same H1 H2 → ∀ R : VK, (∀ H3, Same H2 H3 → R (f i) H3) → te ((wipe σ [k]).set k (some (.int (0 + (i : Int))))) H2 R)
    (hd : ∀ H2, Same H1 H2 → H2 D = some (.lst (((List.range n).filter p).map f)) → Qd H2) :
    ∃ W : Nat → Nat → Hp → Prop, (∃ m, W 0 m (upd H1 D (.lst []))) ∧ ∀ i m H, W i m H →
      ((Itr 0 n).stop i H ∧ Qd H) ∨ ((Itr 0 n).go i H ∧ ∃ Nx : Hp → Prop, (∀ H', Nx H' → ∃ m', m' < m ∧ W (i + 1) m' H') ∧ ∀ x H', (Itr 0 n).yld i H x H' → gName k x (wipe σ [k]) H' fun σ2 H2 => wipe σ2 [k] = wipe σ [k] ∧ tt σ2 H2 fun b H3 =>
        if b = true then te σ2 H3 fun y H4 => ∃ acc, H4 D = some (.lst acc) ∧ acc.length < sizeLine ∧ Nx (upd H4 D (.lst (acc ++ [y]))) else Nx H3) := by
  refine lc_range (lo := 0) (n := n) (fun i H2 => Same H1 H2 ∧ H2 D = some (.lst (((List.range i).filter p).map f))) ?_ ?_ ?_
  · exact ⟨same_new hD, upd_same⟩
  · rintro i H2 hi ⟨s2, e2⟩
    refine ⟨wipe1, ?_⟩
    refine ht i H2 hi s2 _ fun H3 s3 => ?_
    have e3 := s3 _ _ e2
    cases hp : p i with
    | true =>
      show (if true = true then _ else _)
      rw [if_pos rfl]
      refine he i H3 hi hp (s2.trans s3) _ fun H4 s4 => ?_
      refine ⟨_, s4 _ _ e3, Evl.sz_lt ?_, same_mut ((s2.trans s3).trans s4) hD, ?_⟩
      · rw [List.length_map]
        have := List.length_filter_le p (List.range i)
        rw [List.length_range] at this
        omega
      · rw [upd_same, List.range_succ, List.filter_append, List.filter_cons, hp, if_pos rfl, List.filter_nil, List.map_append]
        rfl
    | false =>
      show (if false = true then _ else _)
      rw [if_neg Bool.false_ne_true]
      refine ⟨s2.trans s3, ?_⟩
      rw [e3, List.range_succ, List.filter_append, List.filter_cons, hp, if_neg Bool.false_ne_true, List.filter_nil, List.append_nil]
  · rintro H2 ⟨s2, e2⟩
    exact hd H2 s2 e2
/-- [elt for x in xs if ..] -/
theorem lc_pure_list {te : TE} {tt : TT} {k : Nat} {H1 : Hp} {D a : Addr} {xs : List V} {Qd : Hp → Prop} (p : V → Bool) (f : V → V) (hn : xs.length ≤ 100000) (hD : H1 D = none) (hS : SqL K H1 a xs)
    (ht : ∀ x H2, x ∈ xs → Same H1 H2 → ∀ R : Bool → Hp → Prop, (∀ H3, Same H2 H3 → R (p x) H3) → tt ((wipe σ [k]).set k (some x)) H2 R)
    (he : ∀ x H2, x ∈ xs → p x = true → Same H1 H2 → ∀ R : VK, (∀ H3, Same H2 H3 → R (f x) H3) → te ((wipe σ [k]).set k (some x)) H2 R)
    (hd : ∀ H2, Same H1 H2 → H2 D = some (.lst ((xs.filter p).map f)) → Qd H2) :
    ∃ W : Nat → Nat → Hp → Prop, (∃ m, W 0 m (upd H1 D (.lst []))) ∧ ∀ i m H, W i m H →
      ((Itl K a).stop i H ∧ Qd H) ∨ ((Itl K a).go i H ∧ ∃ Nx : Hp → Prop, (∀ H', Nx H' → ∃ m', m' < m ∧ W (i + 1) m' H') ∧ ∀ x H', (Itl K a).yld i H x H' → gName k x (wipe σ [k]) H' fun σ2 H2 => wipe σ2 [k] = wipe σ [k] ∧ tt σ2 H2 fun b H3 =>
        if b = true then te σ2 H3 fun y H4 => ∃ acc, H4 D = some (.lst acc) ∧ acc.length < sizeLine ∧ Nx (upd H4 D (.lst (acc ++ [y]))) else Nx H3) := by
  refine lc_list (K := K) (a := a) (xs := xs) (fun i H2 => Same H1 H2 ∧ H2 D = some (.lst (((xs.take i).filter p).map f))) ?_ ?_ ?_ ?_
  · exact ⟨same_new hD, upd_same⟩
  · exact fun i H2 _ h => h.1.seq hS
  · rintro i x H2 hx ⟨s2, e2⟩
    have hm : x ∈ xs := List.mem_of_getElem? hx
    refine ⟨wipe1, ?_⟩
    refine ht x H2 hm s2 _ fun H3 s3 => ?_
    have e3 := s3 _ _ e2
    cases hp : p x with
    | true =>
      show (if true = true then _ else _)
      rw [if_pos rfl]
      refine he x H3 hm hp (s2.trans s3) _ fun H4 s4 => ?_
      refine ⟨_, s4 _ _ e3, Evl.sz_lt ?_, same_mut ((s2.trans s3).trans s4) hD, ?_⟩
      · rw [List.length_map]
        have := List.length_filter_le p (xs.take i)
        rw [List.length_take] at this
        have hi := (List.getElem?_eq_some_iff.mp hx).1
        omega
      · rw [upd_same, List.take_add_one, hx, List.filter_append]
        show _ = some (HO.lst ((_ ++ List.filter p [x]).map f))
        rw [List.filter_cons, hp, if_pos rfl, List.filter_nil, List.map_append]
        rfl
    | false =>
      show (if false = true then _ else _)
      rw [if_neg Bool.false_ne_true]
      refine ⟨s2.trans s3, ?_⟩
      rw [e3, List.take_add_one, hx, List.filter_append]
      show _ = some (HO.lst ((_ ++ List.filter p [x]).map f))
      rw [List.filter_cons, hp, if_neg Bool.false_ne_true, List.filter_nil, List.append_nil]
  · rintro H2 ⟨s2, e2⟩
    rw [List.take_length] at e2
    exact hd H2 s2 e2
end
end Sk
namespace Sk
open PySem PySem.Spec PyProof.Rows L2
section
variable {K : PySem.W.Frag} {H : Hp} {a b : Addr} {xs ys : List V} {n : Nat} {Q : VK}
theorem rd_takeH (h : H a = some (.tup xs)) (q : ∀ p H', Same H H' → H' p = some (.tup (xs.take n)) → Q (.ref p) H') : rSlA K (.ref a) none (some (n : Int)) H Q := by
  refine ⟨a, xs, rfl, .inl (.inl h), fun ⟨_, e⟩ => q a H (.refl H) ?_, fun _ p hp => q p _ (same_new hp) ?_⟩
  · rw [HT.sIx_nat] at e
    rw [List.take_of_length_le (by omega)]
    exact h
  · rw [cutV_to]
    exact upd_same
theorem rd_dropH (h : H a = some (.tup xs)) (q : ∀ p H', Same H H' → H' p = some (.tup (xs.drop n)) → Q (.ref p) H') : rSlA K (.ref a) (some (n : Int)) none H Q := by
  refine ⟨a, xs, rfl, .inl (.inl h), fun ⟨e, _⟩ => q a H (.refl H) ?_, fun _ p hp => q p _ (same_new hp) ?_⟩
  · rw [HT.sIx_nat] at e
    by_cases hn : n = 0
    · rw [hn, List.drop_zero]
      exact h
    · have h0 : xs = [] := List.length_eq_zero_iff.mp (by omega)
      subst h0
      rw [List.drop_nil]
      exact h
  · rw [cutV_from]
    exact upd_same
theorem rd_dropI {j : Int} (hj : j = (n : Int)) (h : H a = some (.tup xs)) (q : ∀ p H', Same H H' → H' p = some (.tup (xs.drop n)) → Q (.ref p) H') : rSlA K (.ref a) (some j) none H Q := by
  subst hj
  exact rd_dropH h q
theorem rd_takeI {j : Int} (hj : j = (n : Int)) (h : H a = some (.tup xs)) (q : ∀ p H', Same H H' → H' p = some (.tup (xs.take n)) → Q (.ref p) H') : rSlA K (.ref a) none (some j) H Q := by
  subst hj
  exact rd_takeH h q
theorem rd_catH (h : H a = some (.tup xs)) (h2 : H b = some (.tup ys)) (l : xs.length + ys.length ≤ 100000) (q : ∀ p H', Same H H' → H' p = some (.tup (xs ++ ys)) → Q (.ref p) H') : rCatA K (.ref a) (.ref b) H Q := by
  refine ⟨a, b, xs, ys, rfl, rfl, .inl (.inl h), .inl (.inl h2), Evl.sz_of l, fun e => ?_, fun _ e => ?_, fun _ _ p hp => q p _ (same_new hp) upd_same⟩
  · subst e
    exact q b H (.refl H) h2
  · subst e
    exact q a H (.refl H) (by rw [List.append_nil]; exact h)
end
end Sk
namespace Sk
open PySem PySem.Spec PyProof.Rows L2
/-- (n, k) made of a name and a tuple of keys -/
theorem rd_ref {H : Hp} {k : Addr} {n : Str} {ks : List Str} {Q : VK} (h : H k = some (.tup (ks.map V.str))) (q : ∀ v H', Same H H' → RefAt H' v n ks → Q v H') :
    [V.str n, V.ref k].length ≤ sizeLine ∧ ∀ p, H p = none → Q (.ref p) (upd H p (.tup [.str n, .ref k])) :=
  ⟨Evl.sz_of (by show 2 ≤ 100000; decide), fun p hp => q _ _ (same_new hp) ⟨p, k, rfl, upd_same, same_new hp _ _ h⟩⟩
theorem keys_app {xs ys : List Str} (hx : ∀ k ∈ xs, KeyS k) (hy : ∀ k ∈ ys, KeyS k) : ∀ k ∈ xs ++ ys, KeyS k := fun k h => by
  rcases List.mem_append.mp h with h | h
  · exact hx k h
  · exact hy k h
def spBeside : Sp := fun vs H Q _ => ∃ (b : Addr) (v : V) (N : Nat) (n : Str) (ks : List Str), vs = [.ref b, v] ∧ N < 2 ^ 47 ∧ BagAt N b H ∧ RefAt H v n ks ∧ RefS n ks ∧
  ∀ (H' : Hp) (v : V) (n : Str) (ks : List Str), Chg b H H' → BagAt (N + 40000) b H' → RefAt H' v n ks → RefS n ks → Q v H'
end Sk
namespace Sk
open PySem PySem.Spec PyProof.Rows L2
theorem same_chg {b : Addr} {H0 H1 H2 : Hp} (s : Same H0 H1) (c : Chg b H1 H2) (n : H0 b = none) : Same H0 H2 := fun a o e => c a o (ne_of_none e n) (s a o e)
theorem same_upd {p : Addr} {H0 H1 : Hp} {o : HO} (s : Same H0 H1) (n : H0 p = none) : Same H0 (upd H1 p o) := same_mut s n
theorem RefAt.updL {H : Hp} {p : Addr} {o : HO} {xs : List V} {v : V} {n : Str} {ks : List Str} (h : RefAt H v n ks) (e : H p = some (.lst xs)) : RefAt (upd H p o) v n ks := by
  obtain ⟨a, k, rfl, h1, h2⟩ := h
  have n1 : a ≠ p := ne_of h1 e (by intro z; cases z)
  have n2 : k ≠ p := ne_of h2 e (by intro z; cases z)
  exact ⟨a, k, rfl, by rw [upd_ne n1]; exact h1, by rw [upd_ne n2]; exact h2⟩
def AllRef (H : Hp) (vs : List V) : Prop := ∀ v ∈ vs, ∃ n ks, RefAt H v n ks ∧ RefS n ks
theorem AllRef.map {H H' : Hp} {vs : List V} (h : AllRef H vs) (f : ∀ v n ks, RefAt H v n ks → RefAt H' v n ks) : AllRef H' vs := fun v hv => by
  obtain ⟨n, ks, r, s⟩ := h v hv
  exact ⟨n, ks, f v n ks r, s⟩
def spLaw (K : PySem.W.Frag) : Sp := fun vs H Q _ => ∃ (a : Addr) (ns : List Int), vs = [.ref a] ∧ SqL K H a (ns.map V.int) ∧ ns.length ≤ 63 ∧ (∀ z ∈ ns, Builtin.Int.intBits z ≤ 1048576) ∧ ∀ H', Q (.bl true) H'
theorem spLaw_start {K : PySem.W.Frag} {H : Hp} {a : Addr} {ns : List Int} (hl : ns.length ≤ 63) (hb : ∀ z ∈ ns, Builtin.Int.intBits z ≤ 1048576) (hO : Only H) (hS : SqL K H a (ns.map V.int)) : spLaw K [.ref a] H (fun v _ => v = .bl true) fun _ _ _ => False :=
  ⟨a, ns, rfl, hS, hl, hb, fun _ => rfl⟩
theorem turns_of (n m : Int) (h1 : 1 ≤ m) (h2 : m ≤ 1000) : ∃ k : Int, (if (if n < m then n else m) > 1 then (if n < m then n else m) else 1) = k ∧ 1 ≤ k ∧ k ≤ m := by
  refine ⟨_, rfl, ?_, ?_⟩ <;> repeat' split
  all_goals omega
/-- isinstance(b, bool) of a truth -/
theorem rd_isBool {K : PySem.W.Frag} {b : Bool} {H : Hp} {Q : VK} (q : Q (.bl true) H) : rIsi K [.bl b, .ty "bool"] H Q :=
  ⟨_, _, _, _, true, rfl, .ty "bool", .base (.bl b), kit_ty (by decide +kernel), q⟩
end Sk
namespace Sk
open PySem PySem.Spec PyProof.Rows L2
def topS (i : Nat) : Stmt := PySem.Challenge.pw_stemkeep_k04_stems.main.body.getD i (.Pass ⟨0, 0, 0, 0⟩)
abbrev s_is_stem : Stmt := topS 1
abbrev N_is_stem : List Str := ["one", "other"]
theorem sc_is_stem : FnScope N_is_stem ["one", "other"] (defScope s_is_stem) := ⟨rfl, rfl, rfl, by decide +kernel, rfl, by decide +kernel, by decide +kernel⟩
abbrev s_meet : Stmt := topS 2
abbrev N_meet : List Str := ["one", "other"]
theorem sc_meet : FnScope N_meet ["one", "other"] (defScope s_meet) := ⟨rfl, rfl, rfl, by decide +kernel, rfl, by decide +kernel, by decide +kernel⟩
abbrev s_law_cell_at : Stmt := topS 4
abbrev N_law_cell_at : List Str := ["script", "k"]
theorem sc_law_cell_at : FnScope N_law_cell_at ["script", "k"] (defScope s_law_cell_at) := ⟨rfl, rfl, rfl, by decide +kernel, rfl, by decide +kernel, by decide +kernel⟩
abbrev s_law_bag : Stmt := topS 5
abbrev N_law_bag : List Str := ["cell", "nth"]
theorem sc_law_bag : FnScope N_law_bag ["cell", "nth"] (defScope s_law_bag) := ⟨rfl, rfl, rfl, by decide +kernel, rfl, by decide +kernel, by decide +kernel⟩
abbrev s_law_draw : Stmt := topS 6
abbrev N_law_draw : List Str := ["bag", "many", "found", "mixed"]
theorem sc_law_draw : FnScope N_law_draw ["bag", "many"] (defScope s_law_draw) := ⟨rfl, rfl, rfl, by decide +kernel, rfl, by decide +kernel, by decide +kernel⟩
abbrev s_law_signs : Stmt := topS 7
abbrev N_law_signs : List Str := ["few"]
theorem sc_law_signs : FnScope N_law_signs [] (defScope s_law_signs) := ⟨rfl, rfl, rfl, by decide +kernel, rfl, by decide +kernel, by decide +kernel⟩
abbrev s_law_text : Stmt := topS 8
abbrev N_law_text : List Str := ["bag", "most", "lot", "number", "near", "some", "many", "k"]
theorem sc_law_text : FnScope N_law_text ["bag", "most"] (defScope s_law_text) := ⟨rfl, rfl, rfl, by decide +kernel, rfl, by decide +kernel, by decide +kernel⟩
abbrev s_law_name : Stmt := topS 9
abbrev N_law_name : List Str := ["bag", "some", "many", "k"]
theorem sc_law_name : FnScope N_law_name ["bag"] (defScope s_law_name) := ⟨rfl, rfl, rfl, by decide +kernel, rfl, by decide +kernel, by decide +kernel⟩
abbrev s_law_key : Stmt := topS 10
abbrev N_law_key : List Str := ["bag", "found"]
theorem sc_law_key : FnScope N_law_key ["bag"] (defScope s_law_key) := ⟨rfl, rfl, rfl, by decide +kernel, rfl, by decide +kernel, by decide +kernel⟩
abbrev s_law_ref : Stmt := topS 11
abbrev N_law_ref : List Str := ["bag", "many", "k"]
theorem sc_law_ref : FnScope N_law_ref ["bag"] (defScope s_law_ref) := ⟨rfl, rfl, rfl, by decide +kernel, rfl, by decide +kernel, by decide +kernel⟩
abbrev s_law_stem : Stmt := topS 12
abbrev N_law_stem : List Str := ["one", "other", "k"]
theorem sc_law_stem : FnScope N_law_stem ["one", "other"] (defScope s_law_stem) := ⟨rfl, rfl, rfl, by decide +kernel, rfl, by decide +kernel, by decide +kernel⟩
abbrev s_law_beside : Stmt := topS 13
abbrev N_law_beside : List Str := ["bag", "ref", "name", "keys", "lot", "at"]
theorem sc_law_beside : FnScope N_law_beside ["bag", "ref"] (defScope s_law_beside) := ⟨rfl, rfl, rfl, by decide +kernel, rfl, by decide +kernel, by decide +kernel⟩
abbrev s_law : Stmt := topS 14
abbrev N_law : List Str := ["script", "k", "bag", "some", "turn", "one", "other", "found", "answer"]
theorem sc_law : FnScope N_law ["script"] (defScope s_law) := ⟨rfl, rfl, rfl, by decide +kernel, rfl, by decide +kernel, by decide +kernel⟩
structure Ad where
  a_is_stem : Addr
  d_is_stem : FuncData
  a_meet : Addr
  d_meet : FuncData
  a_law_cell_at : Addr
  d_law_cell_at : FuncData
  a_law_bag : Addr
  d_law_bag : FuncData
  a_law_draw : Addr
  d_law_draw : FuncData
  a_law_signs : Addr
  d_law_signs : FuncData
  a_law_text : Addr
  d_law_text : FuncData
  a_law_name : Addr
  d_law_name : FuncData
  a_law_key : Addr
  d_law_key : FuncData
  a_law_ref : Addr
  d_law_ref : FuncData
  a_law_stem : Addr
  d_law_stem : FuncData
  a_law_beside : Addr
  d_law_beside : FuncData
  a_law : Addr
  d_law : FuncData
structure Txt (K : PySem.W.Frag) (mg : Str → Option Value) (A : Ad) : Prop where
  F_is_stem : Fun K "is_stem" "is_stem" s_is_stem A.a_is_stem A.d_is_stem
  g_is_stem : mg "is_stem" = some (.ref A.a_is_stem)
  b_is_stem : Binds K A.d_is_stem ["one", "other"] []
  F_meet : Fun K "meet" "meet" s_meet A.a_meet A.d_meet
  g_meet : mg "meet" = some (.ref A.a_meet)
  b_meet : Binds K A.d_meet ["one", "other"] []
  F_law_cell_at : Fun K "_law_cell_at" "_law_cell_at" s_law_cell_at A.a_law_cell_at A.d_law_cell_at
  g_law_cell_at : mg "_law_cell_at" = some (.ref A.a_law_cell_at)
  b_law_cell_at : Binds K A.d_law_cell_at ["script", "k"] []
  F_law_bag : Fun K "_law_bag" "_law_bag" s_law_bag A.a_law_bag A.d_law_bag
  g_law_bag : mg "_law_bag" = some (.ref A.a_law_bag)
  b_law_bag : Binds K A.d_law_bag ["cell", "nth"] []
  F_law_draw : Fun K "_law_draw" "_law_draw" s_law_draw A.a_law_draw A.d_law_draw
  g_law_draw : mg "_law_draw" = some (.ref A.a_law_draw)
  b_law_draw : Binds K A.d_law_draw ["bag", "many"] []
  F_law_signs : Fun K "_law_signs" "_law_signs" s_law_signs A.a_law_signs A.d_law_signs
  g_law_signs : mg "_law_signs" = some (.ref A.a_law_signs)
  b_law_signs : Binds K A.d_law_signs [] []
  F_law_text : Fun K "_law_text" "_law_text" s_law_text A.a_law_text A.d_law_text
  g_law_text : mg "_law_text" = some (.ref A.a_law_text)
  b_law_text : Binds K A.d_law_text ["bag", "most"] []
  F_law_name : Fun K "_law_name" "_law_name" s_law_name A.a_law_name A.d_law_name
  g_law_name : mg "_law_name" = some (.ref A.a_law_name)
  b_law_name : Binds K A.d_law_name ["bag"] []
  F_law_key : Fun K "_law_key" "_law_key" s_law_key A.a_law_key A.d_law_key
  g_law_key : mg "_law_key" = some (.ref A.a_law_key)
  b_law_key : Binds K A.d_law_key ["bag"] []
  F_law_ref : Fun K "_law_ref" "_law_ref" s_law_ref A.a_law_ref A.d_law_ref
  g_law_ref : mg "_law_ref" = some (.ref A.a_law_ref)
  b_law_ref : Binds K A.d_law_ref ["bag"] []
  F_law_stem : Fun K "_law_stem" "_law_stem" s_law_stem A.a_law_stem A.d_law_stem
  g_law_stem : mg "_law_stem" = some (.ref A.a_law_stem)
  b_law_stem : Binds K A.d_law_stem ["one", "other"] []
  F_law_beside : Fun K "_law_beside" "_law_beside" s_law_beside A.a_law_beside A.d_law_beside
  g_law_beside : mg "_law_beside" = some (.ref A.a_law_beside)
  b_law_beside : Binds K A.d_law_beside ["bag", "ref"] []
  F_law : Fun K "law" "law" s_law A.a_law A.d_law
  g_law : mg "law" = some (.ref A.a_law)
  b_law : Binds K A.d_law ["script"] []
  n_bool : mg "bool" = none
  n_isinstance : mg "isinstance" = none
  n_len : mg "len" = none
  n_max : mg "max" = none
  n_min : mg "min" = none
  n_range : mg "range" = none
  n_str : mg "str" = none
  n_tuple : mg "tuple" = none
section
variable {P : Program} {w : World} {K : PySem.W.Frag} {mg : Str → Option Value} {base : Heap} {A : Ad}
theorem ok_law_draw (T : Txt K mg A) : FnOk P w K mg base CX0 1 A.a_law_draw A.d_law_draw ["bag", "many"] spDraw := by
  refine T.F_law_draw.ok sc_law_draw (fun vs H Q E h => ?_) (fun cdv A outer s H vs Q E hr h => ?_)
  · obtain ⟨b, m, N, rfl, _⟩ := h
    rfl
  · obtain ⟨b, m, N, rfl, m0, m1, hN, ⟨x, y, z, hb, y0, y1, z0, z1⟩, q⟩ := h
    have hl : SqL K H b [.int x, .int y, .int z] := .inl (.inl hb)
    refine ⟨_, (pss_cons (ps_if (pt_cmpR op_gt (pe_ix (k_ix_list K) (pv 0) pe_int (fun _ _ => rfl)) pe_int (nomark _))
      (pss_cons (ps_set (i := 2) sc_law_draw.nd rfl (.inl rfl) (pe_op op_mod (pe_ix (k_ix_list K) (pv 0) pe_int (fun _ _ => rfl)) (pv 1)))
      (pss_cons (ps_asg (pe_op op_fdivW (pe_ix (k_ix_list K) (pv 0) pe_int (fun _ _ => rfl)) (pv 1)) (pg_sub (pv 0) pe_int set_list))
      (pss_one (ps_ret (pv 2)))))
      pss_nil)
      (pss_cons (ps_asg (pe_op op_add (pe_ix (k_ix_list K) (pv 0) pe_int (fun _ _ => rfl)) pe_int) (pg_sub (pv 0) pe_int set_list))
      (pss_cons (ps_set (i := 3) sc_law_draw.nd rfl (.inl rfl) (pe_op op_mod (pe_op op_powW (pe_op op_add (pe_ix (k_ix_list K) (pv 0) pe_int (fun _ _ => rfl)) (pe_op op_mulW pe_int (pe_ix (k_ix_list K) (pv 0) pe_int (fun _ _ => rfl)))) pe_int) pe_int))
      (pss_cons (ps_set (i := 3) sc_law_draw.nd rfl (.inl rfl) (pe_op op_mod (pe_op op_powW (pe_op op_add (pv 3) (pe_op op_mulW pe_int (pe_ix (k_ix_list K) (pv 0) pe_int (fun _ _ => rfl)))) pe_int) pe_int))
      (pss_one (ps_ret (pe_op op_mod (pe_op op_fdivW (pv 3) pe_int) (pv 1)))))))), ?_⟩
    refine ⟨.ref b, rfl, b, _, 0, .int x, rfl, rfl, hl, atI_nat (j := 0) rfl, x, 1, rfl, rfl, _, rfl, ite2 (fun e => ?_) (fun e => ?_)⟩
    · refine ⟨.ref b, rfl, b, _, 0, .int x, rfl, rfl, hl, atI_nat (j := 0) rfl, .int m, rfl, x, m, rfl, rfl, m0, ?_⟩
      refine ⟨.ref b, rfl, b, _, 0, .int x, rfl, rfl, hl, atI_nat (j := 0) rfl, .int m, rfl, x, m, rfl, rfl, div_ok m0 m1, ?_⟩
      refine ⟨.ref b, rfl, b, _, _, 0, rfl, rfl, hb, rfl, ?_⟩
      refine ⟨_, rfl, q _ _ .upd ⟨x / m, y, z, upd_same, y0, y1, z0, by omega⟩ (Int.emod_nonneg _ (by omega)) (Int.emod_lt_of_pos _ m0)⟩
    · refine ⟨.ref b, rfl, b, _, 2, .int z, rfl, rfl, hl, atI_nat (j := 2) rfl, z, 1, rfl, rfl, ?_⟩
      refine ⟨.ref b, rfl, b, _, _, 2, rfl, rfl, hb, rfl, ?_⟩
      generalize hH1 : upd H b _ = H1
      have hb1 : H1 b = some (.lst [.int x, .int y, .int (z + 1)]) := by rw [← hH1]; exact upd_same
      have hl1 : SqL K H1 b [.int x, .int y, .int (z + 1)] := .inl (.inl hb1)
      refine ⟨.ref b, rfl, b, _, 1, .int y, rfl, rfl, hl1, atI_nat (j := 1) rfl, .ref b, rfl, b, _, 2, .int (z + 1), rfl, rfl, hl1, atI_nat (j := 2) rfl, 67867967, z + 1, rfl, rfl, mul_ok (by decide) (by omega), y, 67867967 * (z + 1), rfl, rfl, _, 3, rfl, rfl, pow_ok (by omega) (by omega), _, _, rfl, rfl, (show (0 : Int) < 170141183460469231731687303715884105727 by decide), ?_⟩
      dsimp only
      generalize hm : (y + 67867967 * (z + 1)) ^ (3 : Int).toNat % 170141183460469231731687303715884105727 = m1
      have p0 : 0 ≤ m1 := by rw [← hm]; exact Int.emod_nonneg _ (by decide)
      have p1 : m1 < 170141183460469231731687303715884105727 := by rw [← hm]; exact Int.emod_lt_of_pos _ (by decide)
      refine ⟨_, rfl, .ref b, rfl, b, _, 2, .int (z + 1), rfl, rfl, hl1, atI_nat (j := 2) rfl, 49979687, z + 1, rfl, rfl, mul_ok (by decide) (by omega), m1, 49979687 * (z + 1), rfl, rfl, _, 3, rfl, rfl, pow_ok (by omega) (by omega), _, _, rfl, rfl, (show (0 : Int) < 162259276829213363391578010288127 by decide), ?_⟩
      refine ⟨_, rfl, _, 4096, rfl, rfl, div_ok (by decide) (by decide), .int m, rfl, _, m, rfl, rfl, m0, ?_⟩
      exact q _ _ (by rw [← hH1]; exact .upd) ⟨x, y, z + 1, hb1, y0, y1, by omega, by omega⟩ (Int.emod_nonneg _ (by omega)) (Int.emod_lt_of_pos _ m0)
theorem ok_law_cell_at (T : Txt K mg A) : FnOk P w K mg base CX0 1 A.a_law_cell_at A.d_law_cell_at ["script", "k"] (spCell K) := by
  refine T.F_law_cell_at.ok sc_law_cell_at (fun vs H Q E h => ?_) (fun cdv A outer s H vs Q E hr h => ?_)
  · obtain ⟨a, ns, k, rfl, _⟩ := h
    rfl
  · obtain ⟨a, ns, k, rfl, hS, hk, q⟩ := h
    refine ⟨_, (pss_cons (ps_if (pt_cmpR op_lt (pv 1) (pe_callB (k_len K) (by rfl) T.n_len PySem.boot_len (pa_cons (pv 0) pa_nil)) (nomark _))
      (pss_one (ps_ret (pe_ix (k_ix_list K) (pv 0) (pv 1) (fun _ _ => rfl))))
      pss_nil)
      (pss_one (ps_ret pe_int))), ?_⟩
    refine ⟨_, rfl, .ref a, rfl, a, _, rfl, .inl hS, k, _, rfl, rfl, _, rfl, ite2 (fun e => ?_) (fun e => ?_)⟩
    · obtain ⟨v, _, hv⟩ := at_map (xs := ns) V.int hk (by
        have := of_decide_eq_true e
        rw [List.length_map] at this
        exact this)
      exact ⟨.ref a, rfl, .int k, rfl, a, _, k, .int v, rfl, rfl, hS, hv, q v⟩
    · exact q 0
theorem ok_law_bag (T : Txt K mg A) : FnOk P w K mg base CX0 1 A.a_law_bag A.d_law_bag ["cell", "nth"] spBag := by
  refine T.F_law_bag.ok sc_law_bag (fun vs H Q E h => ?_) (fun cdv A outer s H vs Q E hr h => ?_)
  · obtain ⟨c, n, rfl, _⟩ := h
    rfl
  · obtain ⟨c, n, rfl, n0, n1, q⟩ := h
    refine ⟨_, (pss_one (ps_ret (pe_lst (pa_cons (pe_callB (call_max2 rfl) (by rfl) T.n_max (by decide +kernel) (pa_cons pe_int (pa_cons (pe_op op_sub (pv 0) (pe_op op_powW pe_int pe_int)) pa_nil))) (pa_cons (pe_op op_add (pe_op op_mod (pv 0) pe_int) (pe_op op_mulW pe_int (pv 1))) (pa_cons pe_int pa_nil)))))), ?_⟩
    refine ⟨.int c, rfl, 10, 18, rfl, rfl, ⟨by decide, by decide, by decide⟩, c, _, rfl, rfl, 0, _, rfl, .int c, rfl, c, 170141183460469231731687303715884105727, rfl, rfl, (show (0 : Int) < 170141183460469231731687303715884105727 by decide), .int n, rfl, 104395303, n, rfl, rfl, mul_ok (by decide) (by omega), _, _, rfl, rfl, (by show 3 ≤ sizeLine; decide), fun p hp => ?_⟩
    have e0 : 0 ≤ c % 170141183460469231731687303715884105727 := Int.emod_nonneg _ (by decide)
    have e1 : c % 170141183460469231731687303715884105727 < 170141183460469231731687303715884105727 := Int.emod_lt_of_pos _ (by decide)
    exact q _ _ hp (same_new hp) ⟨_, _, 0, upd_same, by omega, by omega, by omega, by omega⟩
theorem ok_law_signs (T : Txt K mg A) : FnOk P w K mg base CX0 1 A.a_law_signs A.d_law_signs [] spSigns := by
  refine T.F_law_signs.ok sc_law_signs (fun vs H Q E h => ?_) (fun cdv A outer s H vs Q E hr h => ?_)
  · obtain ⟨rfl, _⟩ := h
    rfl
  · obtain ⟨rfl, q⟩ := h
    refine ⟨_, (pss_cons (ps_set (i := 0) sc_law_signs.nd rfl (.inl rfl) pe_str)
      (pss_one (ps_ret (pe_op op_add_str (pe_op op_add_str (pe_op op_add_str (pe_op op_add_str pe_str (pe_upper (pv 0))) pe_str) (pv 0)) pe_str)))), ?_⟩
    refine ⟨_, rfl, ⟨_, rfl⟩, _, rfl, rfl, (by decide +kernel), _, _, rfl, rfl, (by decide +kernel), _, _, rfl, rfl, (by decide +kernel), _, rfl, _, _, rfl, rfl, (by decide +kernel), _, _, rfl, rfl, (by decide +kernel), ?_⟩
    have e : (((((" !\"#$&'()*+,-./0123456789:;<=>?@" : Str) ++ Txt.upper ("abcdefghijklmnopqrstuvwxyz" : Str)) ++ ("[\\]^_`" : Str)) ++ ("abcdefghijklmnopqrstuvwxyz" : Str)) ++ ("{|}~" : Str)) = lawSigns := by decide +kernel
    exact e ▸ q
theorem ok_law_text (T : Txt K mg A) : FnOk P w K mg base CX0 2 A.a_law_text A.d_law_text ["bag", "most"] spText := by
  have G_law_draw := ok_law_draw (P := P) (w := w) (base := base) T
  have G_law_signs := ok_law_signs (P := P) (w := w) (base := base) T
  refine T.F_law_text.ok sc_law_text (fun vs H Q E h => ?_) (fun cdv A outer s H vs Q E hr h => ?_)
  · obtain ⟨b, m, N, rfl, _⟩ := h
    rfl
  · obtain ⟨b, m, N, rfl, m0, m1, hN, hB, q⟩ := h
    refine ⟨_, (pss_cons (ps_set (i := 2) sc_law_text.nd rfl (.inl rfl) (pe_call G_law_draw (hr.mono (by decide)) (by rfl) T.g_law_draw T.F_law_draw.kp T.b_law_draw .nil pass0 (pa_cons (pv 0) (pa_cons pe_int pa_nil))))
      (pss_cons (ps_if (pt_cmpR op_lt (pv 2) pe_int (nomark _))
      (pss_cons (ps_set (i := 3) sc_law_text.nd rfl (.inl rfl) (pe_call G_law_draw (hr.mono (by decide)) (by rfl) T.g_law_draw T.F_law_draw.kp T.b_law_draw .nil pass0 (pa_cons (pv 0) (pa_cons (pe_ix (k_ix_list K) (pe_lst (pa_cons pe_int (pa_cons pe_int (pa_cons (pe_op op_powW pe_int pe_int) (pa_cons (pe_op op_powW pe_int pe_int) pa_nil))))) (pe_call G_law_draw (hr.mono (by decide)) (by rfl) T.g_law_draw T.F_law_draw.kp T.b_law_draw .nil pass0 (pa_cons (pv 0) (pa_cons pe_int pa_nil))) (fun _ _ => rfl)) pa_nil))))
      (pss_one (ps_ret (pe_slice sl_str (pe_callTy call_str_int (by rfl) T.n_str (by decide +kernel) (pa_cons (pe_op op_mulW (pv 3) (pe_ix (k_ix_list K) (pe_lst (pa_cons pe_int (pa_cons pe_int (pa_cons (pe_un un_neg pe_int) pa_nil)))) (pe_call G_law_draw (hr.mono (by decide)) (by rfl) T.g_law_draw T.F_law_draw.kp T.b_law_draw .nil pass0 (pa_cons (pv 0) (pa_cons pe_int pa_nil))) (fun _ _ => rfl))) pa_nil)) po_none (po_some (pv 1))))))
      pss_nil)
      (pss_cons (ps_if (pt_cmpR op_eq (pv 2) pe_int (nomark _))
      (pss_cons (ps_set (i := 4) sc_law_text.nd rfl (.inl rfl) (pe_lst (pa_cons pe_str (pa_cons pe_str (pa_cons pe_str (pa_cons pe_str (pa_cons pe_str (pa_cons pe_str (pa_cons pe_str (pa_cons pe_str (pa_cons pe_str (pa_cons pe_str (pa_cons pe_str (pa_cons pe_str (pa_cons pe_str (pa_cons pe_str (pa_cons pe_str (pa_cons pe_str pa_nil))))))))))))))))))
      (pss_one (ps_ret (pe_slice sl_str (pe_ix (k_ix_list K) (pv 4) (pe_call G_law_draw (hr.mono (by decide)) (by rfl) T.g_law_draw T.F_law_draw.kp T.b_law_draw .nil pass0 (pa_cons (pv 0) (pa_cons pe_int pa_nil))) (fun _ _ => rfl)) po_none (po_some (pv 1))))))
      pss_nil)
      (pss_cons (ps_if (pt_cmpR op_eq (pv 2) pe_int (nomark _))
      (pss_cons (ps_set (i := 5) sc_law_text.nd rfl (.inr rfl) (pe_lst (pa_cons pe_str (pa_cons pe_str (pa_cons pe_str (pa_cons pe_str (pa_cons pe_str (pa_cons pe_str (pa_cons pe_str (pa_cons pe_str (pa_cons pe_str (pa_cons pe_str (pa_cons pe_str (pa_cons pe_str (pa_cons pe_str (pa_cons pe_str (pa_cons pe_str pa_nil)))))))))))))))))
      (pss_one (ps_ret (pe_slice sl_str (pe_m1 PySem.F.slot_str_join PySem.F.type_str_join (k_mt_join K) pe_str (pe_lc (own := [("k", 7)]) (g := gName 7) (tt := tYes) rfl sc_law_text.nd (pi_range1 (by rfl) T.n_range (pa_cons (pe_op op_add pe_int (pe_call G_law_draw (hr.mono (by decide)) (by rfl) T.g_law_draw T.F_law_draw.kp T.b_law_draw .nil pass0 (pa_cons (pv 0) (pa_cons pe_int pa_nil)))) pa_nil)) (blkOk_by (own := [("k", 7)]) (N := N_law_text) (sc := defScope s_law_text) (by decide +kernel)) (fun _ _ _ _ _ => (pg_name (i := 7) sc_law_text.nd rfl (.inl rfl))) (fun _ _ _ _ _ => pts_nil) (fun _ _ _ _ _ => (pe_ix (k_ix_list K) (pv 5) (pe_call G_law_draw (hr.mono (by decide)) (by rfl) T.g_law_draw T.F_law_draw.kp T.b_law_draw .nil pass0 (pa_cons (pv 0) (pa_cons pe_int pa_nil))) (fun _ _ => rfl))))) po_none (po_some (pv 1))))))
      pss_nil)
      (pss_cons (ps_set (i := 5) sc_law_text.nd rfl (.inr rfl) (pe_ix (k_ix_list K) (pe_lst (pa_cons pe_str (pa_cons pe_str (pa_cons (pe_call0 G_law_signs (hr.mono (by decide)) (by rfl) T.g_law_signs T.F_law_signs.kp T.b_law_signs .nil pass0) pa_nil)))) (pe_op op_sub (pv 2) pe_int) (fun _ _ => rfl)))
      (pss_cons (ps_set (i := 6) sc_law_text.nd rfl (.inl rfl) (pe_ix (k_ix_list K) (pe_lst (pa_cons pe_int (pa_cons pe_int (pa_cons (pe_call G_law_draw (hr.mono (by decide)) (by rfl) T.g_law_draw T.F_law_draw.kp T.b_law_draw .nil pass0 (pa_cons (pv 0) (pa_cons (pe_op op_add (pv 1) pe_int) pa_nil))) pa_nil)))) (pe_call G_law_draw (hr.mono (by decide)) (by rfl) T.g_law_draw T.F_law_draw.kp T.b_law_draw .nil pass0 (pa_cons (pv 0) (pa_cons pe_int pa_nil))) (fun _ _ => rfl)))
      (pss_one (ps_ret (pe_m1 PySem.F.slot_str_join PySem.F.type_str_join (k_mt_join K) pe_str (pe_lc (own := [("k", 7)]) (g := gName 7) (tt := tYes) rfl sc_law_text.nd (pi_range1 (by rfl) T.n_range (pa_cons (pe_callB (call_min2 rfl) (by rfl) T.n_min (by decide +kernel) (pa_cons (pv 6) (pa_cons (pv 1) pa_nil))) pa_nil)) (blkOk_by (own := [("k", 7)]) (N := N_law_text) (sc := defScope s_law_text) (by decide +kernel)) (fun _ _ _ _ _ => (pg_name (i := 7) sc_law_text.nd rfl (.inl rfl))) (fun _ _ _ _ _ => pts_nil) (fun _ _ _ _ _ => (pe_ix ix_str (pv 5) (pe_call G_law_draw (hr.mono (by decide)) (by rfl) T.g_law_draw T.F_law_draw.kp T.b_law_draw .nil pass0 (pa_cons (pv 0) (pa_cons (pe_callB call_len_str (by rfl) T.n_len PySem.boot_len (pa_cons (pv 5) pa_nil)) pa_nil))) (fun _ _ => rfl))))))))))))), ?_⟩
    refine rd_draw (N := N) rfl (fun R h => h) (by decide) (by decide) (by omega) hB fun H1 lot c1 B1 l0 l1 => ?_
    refine ⟨_, rfl, _, _, rfl, rfl, _, rfl, ite2 (fun e => ?_) (fun e => ?_)⟩
    · -- a number's own text
      refine ⟨_, rfl, ?_⟩
      refine rd_menu (xs := [.int 10, .int 200, .int (10 ^ (20 : Int).toNat), .int (10 ^ (40 : Int).toNat)]) (N := N + 1) (fun R h => ⟨_, _, rfl, rfl, ⟨by decide, by decide, by decide⟩, _, _, rfl, rfl, ⟨by decide, by decide, by decide⟩, h⟩) rfl rfl (by decide) (by decide) (by omega) B1 fun H2 v hv c2 B2 => ?_
      obtain ⟨n, rfl, n0, n1⟩ : ∃ n : Int, v = .int n ∧ 0 < n ∧ n ≤ 10 ^ 40 := by
        simp only [List.mem_cons, List.not_mem_nil, or_false] at hv
        rcases hv with rfl | rfl | rfl | rfl <;> exact ⟨_, rfl, by decide, by decide⟩
      refine ⟨b, n, N + 2, rfl, n0, by omega, by omega, B2, fun H3 r c3 B3 r0 r1 => ?_⟩
      refine ⟨_, rfl, ?_⟩
      refine rd_menu (xs := [.int 1, .int 1, .int (-1)]) (N := N + 3) (fun R h => ⟨_, rfl, h⟩) rfl rfl (by decide) (by decide) (by omega) B3 fun H4 v hv c4 B4 => ?_
      obtain ⟨k, rfl, k0⟩ : ∃ k : Int, v = .int k ∧ (k = 1 ∨ k = -1) := by
        simp only [List.mem_cons, List.not_mem_nil, or_false] at hv
        rcases hv with rfl | rfl | rfl <;> exact ⟨_, rfl, by decide⟩
      have hz : (r * k).natAbs < 2 ^ 200 := by
        rcases k0 with rfl | rfl <;> omega
      refine ⟨_, _, rfl, rfl, mul_ok (by omega) (by omega), _, rfl, Nat.lt_of_lt_of_le (PySem.Flt.log2_lt_of (by decide) hz) (by decide), _, rfl, _, rfl, _, rfl, PySem.int_text_fits (Nat.lt_of_lt_of_le (PySem.Flt.log2_lt_of (by decide) hz) (by decide)), ?_⟩
      exact q _ _ (((c1.trans c2).trans c3).trans c4) (B4.mono (by omega)) (len_cut _ m0) (worth_cut (worth_int _) m0)
    · refine ⟨_, rfl, rfl, _, rfl, ite2 (fun e2 => ?_) (fun e2 => ?_)⟩
      · -- near ones
        refine ⟨Evl.sz_of (by decide), fun p hp => ?_⟩
        generalize hxs : HO.lst _ = o
        have hp1 : (upd H1 p o) p = some o := upd_same
        have bp := B1.ne hp
        refine ⟨_, rfl, ?_⟩
        refine rd_draw (N := N + 1) rfl (fun R h => h) (by decide) (by decide) (by omega) (B1.new hp) fun H2 r c2 B2 r0 r1 => ?_
        have hp2 := c2 _ _ bp.symm hp1
        rw [← hxs] at hp2
        obtain ⟨v, hv, ev⟩ := at_lt (xs := ([.str "07", .str "-0", .str "+1", .str "1a", .str "-", .str "--5", .str "+-3x", .str "00", .str "1 ", .str "1.0", .str "-01", .str "-5-", .str "+", .str "0x1", .str "- 5", .str "1e3"] : List V)) r0 r1
        obtain ⟨x, rfl, hx, hl⟩ : ∃ x : Str, v = .str x ∧ WorthS x ∧ x.length ≤ 9 := by
          have key : ∀ v ∈ ([.str "07", .str "-0", .str "+1", .str "1a", .str "-", .str "--5", .str "+-3x", .str "00", .str "1 ", .str "1.0", .str "-01", .str "-5-", .str "+", .str "0x1", .str "- 5", .str "1e3"] : List V), ∃ x : Str, v = .str x ∧ WorthS x ∧ x.length ≤ 9 := by
            intro v hv
            simp only [List.mem_cons, List.not_mem_nil, or_false] at hv
            rcases hv with rfl | rfl | rfl | rfl | rfl | rfl | rfl | rfl | rfl | rfl | rfl | rfl | rfl | rfl | rfl | rfl <;> exact ⟨_, rfl, by decide +kernel, by decide +kernel⟩
          exact key v hv
        refine ⟨p, _, r, _, rfl, rfl, .inl (.inl hp2), ev, ?_⟩
        refine ⟨_, rfl, _, rfl, x, rfl, Evl.sz_of (by omega), ?_⟩
        exact q _ _ ((c1.trans (.new hp)).trans c2) (B2.mono (by omega)) (len_cut _ m0) (worth_cut hx m0)
      · refine ⟨_, rfl, rfl, _, rfl, ite2 (fun e3 => ?_) (fun e3 => ?_)⟩
        · -- joints
          refine ⟨Evl.sz_of (by decide), fun p hp => ?_⟩
          generalize hxs : HO.lst _ = o
          have hp1 : (upd H1 p o) p = some o := upd_same
          have bp := B1.ne hp
          have cp : Chg b H1 (upd H1 p o) := .new hp
          refine ⟨⟨_, rfl⟩, ?_⟩
          refine rd_draw (N := N + 1) rfl (fun R h => h) (by decide) (by decide) (by omega) (B1.new hp) fun H2 n c2 B2 n0 n1 => ?_
          refine ⟨_, _, rfl, rfl, _, rfl, by omega, by omega, fun D hD => ?_⟩
          have hp2 := c2 _ _ bp.symm hp1
          rw [← hxs] at hp2
          refine lc_draws (N := N + 2) (c := 1) (n := (1 + n).toNat) (fun v => ∃ x : Str, v = .str x ∧ WorthS x ∧ x.length ≤ 9) (by omega) hD B2 (fun H3 M k c3 B3 hM R q3 => ?_) (by decide) (fun H3 ys yl hy c3 B3 e3 => ?_)
          · refine ⟨_, rfl, ?_⟩
            refine rd_draw (N := M) rfl (fun R h => h) (by decide) (by decide) (by omega) B3 fun H4 r c4 B4 r0 r1 => ?_
            obtain ⟨v, hv, ev⟩ := at_lt (xs := ([.str "; ", .str ":", .str "=", .str ",", .str "|", .str "|  ", .str ")", .str "(", .str "\"", .str "\"\"", .str ")=\"", .str "; write 1", .str "=\"", .str "x", .str " "] : List V)) r0 r1
            have key : ∀ v ∈ ([.str "; ", .str ":", .str "=", .str ",", .str "|", .str "|  ", .str ")", .str "(", .str "\"", .str "\"\"", .str ")=\"", .str "; write 1", .str "=\"", .str "x", .str " "] : List V), ∃ x : Str, v = .str x ∧ WorthS x ∧ x.length ≤ 9 := by
              intro v hv
              simp only [List.mem_cons, List.not_mem_nil, or_false] at hv
              rcases hv with rfl | rfl | rfl | rfl | rfl | rfl | rfl | rfl | rfl | rfl | rfl | rfl | rfl | rfl | rfl <;> exact ⟨_, rfl, by decide +kernel, by decide +kernel⟩
            exact ⟨p, _, r, _, rfl, rfl, .inl (.inl (c4 _ _ bp.symm (c3 _ _ bp.symm hp2))), ev, q3 _ _ c4 B4 (key v hv)⟩
          · obtain ⟨zs, rfl, hz⟩ := strs_of hy
            have hs := sum_le (c := 9) fun z h => (hz z h).2
            have he : (Str.ofString "").length = 0 := by decide +kernel
            rw [List.length_map] at yl
            refine ⟨_, D, zs, rfl, rfl, .inl (.inl (.inl e3)), (by rw [he]; omega), ?_⟩
            have hlen : (Txt.join (Str.ofString "") zs).length ≤ 9 * zs.length := by
              refine Nat.le_trans (Nat.le_of_eq ?_) hs
              rw [len_tl, tl_join0 empty_tl, List.length_flatten, List.map_map]
              exact congrArg List.sum (List.map_congr_left fun z _ => (len_tl z).symm)
            refine ⟨_, rfl, _, rfl, _, rfl, Evl.sz_of (by omega), ?_⟩
            exact q _ _ (((c1.trans cp).trans c2).trans c3) (B3.mono (by omega)) (len_cut _ m0) (worth_cut (worth_join empty_tl fun z h => (hz z h).1) m0)
        · -- of few signs, of any
          have l3 : 3 ≤ lot ∧ lot ≤ 5 := by
            have h1 := of_decide_eq_false (Bool.eq_false_iff.mpr e)
            have h2 := of_decide_eq_false (Bool.eq_false_iff.mpr e2)
            have h3 := of_decide_eq_false (Bool.eq_false_iff.mpr e3)
            have h2' : lot ≠ 2 := fun z => h2 (congrArg V.int z)
            have h3' : lot ≠ 6 := fun z => h3 (congrArg V.int z)
            omega
          refine ⟨rfl, Evl.sz_of (by decide), fun p hp => ?_⟩
          have cp : Chg b H1 (upd H1 p (.lst [.str "0123456789+-a ", .str "ab", .str lawSigns])) := .new hp
          have bp := B1.ne hp
          refine ⟨_, rfl, _, _, rfl, rfl, ?_⟩
          obtain ⟨v, hv, ev⟩ := at_lt (xs := ([.str "0123456789+-a ", .str "ab", .str lawSigns] : List V)) (r := lot - 3) (by omega) (by show lot - 3 < 3; omega)
          obtain ⟨x, rfl, hx, hl⟩ : ∃ x : Str, v = .str x ∧ WorthS x ∧ 0 < x.length ∧ x.length ≤ 100 := by
            simp only [List.mem_cons, List.not_mem_nil, or_false] at hv
            rcases hv with rfl | rfl | rfl <;> exact ⟨_, rfl, by decide +kernel, by decide +kernel, by decide +kernel⟩
          refine ⟨p, _, _, _, rfl, rfl, .inl (.inl upd_same), ev, ?_⟩
          refine rd_draw (N := N + 1) rfl (fun R h => ⟨_, rfl, _, _, rfl, rfl, h⟩) (by omega) (by omega) (by omega) (B1.new hp) fun H2 r c2 B2 r0 r1 => ?_
          refine ⟨Evl.sz_of (by show 3 ≤ 100000; decide), fun p2 hp2 => ?_⟩
          have bp2 := B2.ne hp2
          refine rd_draw (N := N + 2) rfl (fun R h => h) (by decide) (by decide) (by omega) (B2.new hp2) fun H3 r3 c3 B3 r30 r31 => ?_
          obtain ⟨v, hv, ev⟩ := at_lt (xs := ([.int 1, .int 2, .int r] : List V)) r30 r31
          obtain ⟨k, rfl, k0⟩ : ∃ k : Int, v = .int k ∧ 0 ≤ k := by
            simp only [List.mem_cons, List.not_mem_nil, or_false] at hv
            rcases hv with rfl | rfl | rfl
            · exact ⟨1, rfl, by decide⟩
            · exact ⟨2, rfl, by decide⟩
            · exact ⟨r, rfl, r0⟩
          have hp23 : H3 p2 = some (.lst [.int 1, .int 2, .int r]) := c3 _ _ bp2.symm upd_same
          refine ⟨p2, _, _, _, rfl, rfl, .inl (.inl hp23), ev, ?_⟩
          refine ⟨⟨_, rfl⟩, ?_⟩
          refine ⟨_, rfl, _, rfl, _, _, rfl, ?_⟩
          obtain ⟨n, hn, n0, nm⟩ : ∃ n, n = (if m < k then m else k) ∧ 0 ≤ n ∧ n ≤ m := ⟨_, rfl, by split <;> omega, by split <;> omega⟩
          rw [← hn]
          refine ⟨_, rfl, by omega, by omega, fun D hD => ?_⟩
          refine lc_draws (N := N + 3) (c := 1) (n := n.toNat) (fun v => ∃ y : Str, v = .str y ∧ WorthS y ∧ y.length = 1) (by omega) hD B3 (fun H4 M kk c4 B4 hM R q4 => ?_) (by decide) (fun H4 ys yl hy c4 B4 e4 => ?_)
          · refine ⟨_, rfl, ?_⟩
            refine rd_draw (m := x.length) (N := M) rfl (fun R h => ⟨_, rfl, x, rfl, Evl.sz_of (by omega), h⟩) (by omega) (by omega) (by omega) B4 fun H5 j c5 B5 j0 j1 => ?_
            obtain ⟨c, hc, ec⟩ := at_lt (xs := tl x) j0 (by rw [← len_tl]; exact j1)
            exact ⟨x, j, c, rfl, rfl, Evl.sz_of (by omega), ec, q4 _ _ c5 B5 ⟨_, rfl, worth_sign (hx c hc), rfl⟩⟩
          · obtain ⟨zs, rfl, hz⟩ := strs_of hy
            have hs := sum_le (c := 1) fun z h => Nat.le_of_eq (hz z h).2
            have he : (Str.ofString "").length = 0 := by decide +kernel
            rw [List.length_map] at yl
            refine ⟨_, D, zs, rfl, rfl, .inl (.inl (.inl e4)), (by rw [he]; omega), ?_⟩
            have hlen := len_join1 (e := Str.ofString "") empty_tl fun z h => (hz z h).2
            exact q _ _ ((((c1.trans cp).trans c2).trans ((Chg.new hp2).trans c3)).trans c4) (B4.mono (by omega)) (by omega) (worth_join empty_tl fun z h => (hz z h).1)
theorem ok_law_name (T : Txt K mg A) : FnOk P w K mg base CX0 2 A.a_law_name A.d_law_name ["bag"] spName := by
  have G_law_draw := ok_law_draw (P := P) (w := w) (base := base) T
  refine T.F_law_name.ok sc_law_name (fun vs H Q E h => ?_) (fun cdv A outer s H vs Q E hr h => ?_)
  · obtain ⟨b, N, rfl, _⟩ := h
    rfl
  · obtain ⟨b, N, rfl, hN, hB, q⟩ := h
    refine ⟨_, (pss_cons (ps_set (i := 1) sc_law_name.nd rfl (.inr rfl) (pe_ix (k_ix_list K) (pe_lst (pa_cons pe_str (pa_cons pe_str pa_nil))) (pe_call G_law_draw (hr.mono (by decide)) (by rfl) T.g_law_draw T.F_law_draw.kp T.b_law_draw .nil pass0 (pa_cons (pv 0) (pa_cons pe_int pa_nil))) (fun _ _ => rfl)))
      (pss_cons (ps_set (i := 2) sc_law_name.nd rfl (.inl rfl) (pe_ix (k_ix_list K) (pe_lst (pa_cons pe_int (pa_cons pe_int (pa_cons (pe_op op_add pe_int (pe_call G_law_draw (hr.mono (by decide)) (by rfl) T.g_law_draw T.F_law_draw.kp T.b_law_draw .nil pass0 (pa_cons (pv 0) (pa_cons pe_int pa_nil)))) pa_nil)))) (pe_call G_law_draw (hr.mono (by decide)) (by rfl) T.g_law_draw T.F_law_draw.kp T.b_law_draw .nil pass0 (pa_cons (pv 0) (pa_cons pe_int pa_nil))) (fun _ _ => rfl)))
      (pss_one (ps_ret (pe_m1 PySem.F.slot_str_join PySem.F.type_str_join (k_mt_join K) pe_str (pe_lc (own := [("k", 3)]) (g := gName 3) (tt := tYes) rfl sc_law_name.nd (pi_range1 (by rfl) T.n_range (pa_cons (pv 2) pa_nil)) (blkOk_by (own := [("k", 3)]) (N := N_law_name) (sc := defScope s_law_name) (by decide +kernel)) (fun _ _ _ _ _ => (pg_name (i := 3) sc_law_name.nd rfl (.inl rfl))) (fun _ _ _ _ _ => pts_nil) (fun _ _ _ _ _ => (pe_ix ix_str (pv 1) (pe_call G_law_draw (hr.mono (by decide)) (by rfl) T.g_law_draw T.F_law_draw.kp T.b_law_draw .nil pass0 (pa_cons (pv 0) (pa_cons (pe_callB call_len_str (by rfl) T.n_len PySem.boot_len (pa_cons (pv 1) pa_nil)) pa_nil))) (fun _ _ => rfl))))))))), ?_⟩
    refine rd_menu (xs := [.str "abcdefghijklmnopqrstuvwxyz", .str "ab"]) (N := N) (fun R h => h) rfl rfl (by decide) (by decide) (by omega) hB fun H1 v hv c1 B1 => ?_
    obtain ⟨x, rfl, hx, hl⟩ : ∃ x : Str, v = .str x ∧ (∀ c ∈ tl x, 97 ≤ c ∧ c ≤ 122) ∧ 0 < x.length ∧ x.length ≤ 100 := by
      simp only [List.mem_cons, List.not_mem_nil, or_false] at hv
      rcases hv with rfl | rfl <;> exact ⟨_, rfl, by decide +kernel, by decide +kernel, by decide +kernel⟩
    refine rd_draw (N := N + 1) rfl (fun R h => h) (by decide) (by decide) (by omega) B1 fun H2 r c2 B2 r0 r1 => ?_
    refine ⟨_, _, rfl, rfl, Evl.sz_of (by show 3 ≤ 100000; decide), fun p hp => ?_⟩
    have bp := B2.ne hp
    refine rd_draw (N := N + 2) rfl (fun R h => h) (by decide) (by decide) (by omega) (B2.new hp) fun H3 r3 c3 B3 r30 r31 => ?_
    obtain ⟨v, hv, ev⟩ := at_lt (xs := ([.int 1, .int 2, .int (1 + r)] : List V)) r30 r31
    obtain ⟨k, rfl, k0, k1⟩ : ∃ k : Int, v = .int k ∧ 1 ≤ k ∧ k ≤ 8 := by
      simp only [List.mem_cons, List.not_mem_nil, or_false] at hv
      rcases hv with rfl | rfl | rfl
      · exact ⟨1, rfl, by decide, by decide⟩
      · exact ⟨2, rfl, by decide, by decide⟩
      · exact ⟨1 + r, rfl, by omega, by omega⟩
    have hp3 : H3 p = some (.lst [.int 1, .int 2, .int (1 + r)]) := c3 _ _ bp.symm upd_same
    refine ⟨p, _, _, _, rfl, rfl, .inl (.inl hp3), ev, ?_⟩
    refine ⟨⟨_, rfl⟩, ?_⟩
    refine ⟨_, rfl, _, rfl, by omega, by omega, fun D hD => ?_⟩
    refine lc_draws (N := N + 3) (c := 1) (n := k.toNat) (fun v => ∃ y : Str, v = .str y ∧ (∀ c ∈ tl y, 97 ≤ c ∧ c ≤ 122) ∧ y.length = 1) (by omega) hD B3 (fun H4 M kk c4 B4 hM R q4 => ?_) (by decide) (fun H4 ys yl hy c4 B4 e4 => ?_)
    · refine ⟨_, rfl, ?_⟩
      refine rd_draw (m := x.length) (N := M) rfl (fun R h => ⟨_, rfl, x, rfl, Evl.sz_of (by omega), h⟩) (by omega) (by omega) (by omega) B4 fun H5 j c5 B5 j0 j1 => ?_
      obtain ⟨c, hc, ec⟩ := at_lt (xs := tl x) j0 (by rw [← len_tl]; exact j1)
      refine ⟨x, j, c, rfl, rfl, Evl.sz_of (by omega), ec, q4 _ _ c5 B5 ⟨_, rfl, fun d hd => ?_, rfl⟩⟩
      have : d = c := by simpa [tl] using hd
      rw [this]
      exact hx c hc
    · obtain ⟨zs, rfl, hz⟩ := strs_of hy
      have hs := sum_le (c := 1) fun z h => Nat.le_of_eq (hz z h).2
      have he : (Str.ofString "").length = 0 := by decide +kernel
      rw [List.length_map] at yl
      refine ⟨_, D, zs, rfl, rfl, .inl (.inl (.inl e4)), (by rw [he]; omega), ?_⟩
      have hlen := len_join1 (e := Str.ofString "") empty_tl fun z h => (hz z h).2
      refine q _ _ (((c1.trans c2).trans ((Chg.new hp).trans c3)).trans c4) (B4.mono (by omega)) ⟨by omega, by omega, fun c hc => ?_⟩
      rw [tl_join0 empty_tl, List.mem_flatten] at hc
      obtain ⟨l, hl, hc⟩ := hc
      obtain ⟨y, hy, rfl⟩ := List.mem_map.mp hl
      exact (hz y hy).1 c hc
theorem ok_law_key (T : Txt K mg A) : FnOk P w K mg base CX0 3 A.a_law_key A.d_law_key ["bag"] spKey := by
  have G_law_draw := ok_law_draw (P := P) (w := w) (base := base) T
  have G_law_text := ok_law_text (P := P) (w := w) (base := base) T
  refine T.F_law_key.ok sc_law_key (fun vs H Q E h => ?_) (fun cdv A outer s H vs Q E hr h => ?_)
  · obtain ⟨b, N, rfl, _⟩ := h
    rfl
  · obtain ⟨b, N, rfl, hN, hB, q⟩ := h
    refine ⟨_, (pss_cons (ps_set (i := 1) sc_law_key.nd rfl (.inl rfl) (pe_call G_law_text (hr.mono (by decide)) (by rfl) T.g_law_text T.F_law_text.kp T.b_law_text .nil pass0 (pa_cons (pv 0) (pa_cons (pe_ix (k_ix_list K) (pe_lst (pa_cons pe_int (pa_cons pe_int (pa_cons pe_int pa_nil)))) (pe_call G_law_draw (hr.mono (by decide)) (by rfl) T.g_law_draw T.F_law_draw.kp T.b_law_draw .nil pass0 (pa_cons (pv 0) (pa_cons pe_int pa_nil))) (fun _ _ => rfl)) pa_nil))))
      (pss_one (ps_ret (pe_ifExp (pt_cmpR op_ne (pv 1) pe_str (nomark _)) (pv 1) pe_str)))), ?_⟩
    refine ⟨_, rfl, ?_⟩
    refine rd_menu (xs := [.int 3, .int 8, .int 40]) (N := N) (fun R h => h) rfl rfl (by decide) (by decide) (by omega) hB fun H1 v hv c1 B1 => ?_
    obtain ⟨m, rfl, m0, m1⟩ : ∃ k : Int, v = .int k ∧ 1 ≤ k ∧ k ≤ 40 := by
      simp only [List.mem_cons, List.not_mem_nil, or_false] at hv
      rcases hv with rfl | rfl | rfl <;> exact ⟨_, rfl, by decide, by decide⟩
    refine ⟨b, m, N + 1, rfl, by omega, by omega, by omega, B1, fun H2 x c2 B2 hl hx => ?_⟩
    have B3 := B2.mono (M := N + 2001) (by omega)
    refine ⟨_, rfl, rfl, _, rfl, ite2 (fun e => ?_) (fun e => ?_)⟩
    · refine ⟨_, rfl, q _ x (c1.trans c2) B3 ⟨?_, by omega, hx⟩⟩
      have h1 : x ≠ Str.ofString "" := by
        intro z
        subst z
        exact absurd e (by decide)
      have h2 : x.length ≠ 0 := by
        intro z
        refine h1 (tl_inj ?_)
        rw [empty_tl]
        exact List.length_eq_zero_iff.mp (by rw [← len_tl]; exact z)
      omega
    · exact q _ _ (c1.trans c2) B3 ⟨by decide +kernel, by decide +kernel, by decide +kernel⟩
theorem ok_law_ref (T : Txt K mg A) : FnOk P w K mg base CX0 4 A.a_law_ref A.d_law_ref ["bag"] spRef := by
  have G_law_draw := ok_law_draw (P := P) (w := w) (base := base) T
  have G_law_name := ok_law_name (P := P) (w := w) (base := base) T
  have G_law_key := ok_law_key (P := P) (w := w) (base := base) T
  refine T.F_law_ref.ok sc_law_ref (fun vs H Q E h => ?_) (fun cdv A outer s H vs Q E hr h => ?_)
  · obtain ⟨b, N, rfl, _⟩ := h
    rfl
  · obtain ⟨b, N, rfl, hN, hB, q⟩ := h
    refine ⟨_, (pss_cons (ps_set (i := 1) sc_law_ref.nd rfl (.inl rfl) (pe_ix (k_ix_list K) (pe_lst (pa_cons pe_int (pa_cons pe_int (pa_cons pe_int (pa_cons pe_int (pa_cons pe_int pa_nil)))))) (pe_call G_law_draw (hr.mono (by decide)) (by rfl) T.g_law_draw T.F_law_draw.kp T.b_law_draw .nil pass0 (pa_cons (pv 0) (pa_cons pe_int pa_nil))) (fun _ _ => rfl)))
      (pss_one (ps_ret (pe_tup (pa_cons (pe_call G_law_name (hr.mono (by decide)) (by rfl) T.g_law_name T.F_law_name.kp T.b_law_name .nil pass0 (pa_cons (pv 0) pa_nil)) (pa_cons (pe_callTy (k_tuple K) (by rfl) T.n_tuple (by decide +kernel) (pa_cons (pe_lc (own := [("k", 2)]) (g := gName 2) (tt := tYes) rfl sc_law_ref.nd (pi_range1 (by rfl) T.n_range (pa_cons (pv 1) pa_nil)) (blkOk_by (own := [("k", 2)]) (N := N_law_ref) (sc := defScope s_law_ref) (by decide +kernel)) (fun _ _ _ _ _ => (pg_name (i := 2) sc_law_ref.nd rfl (.inl rfl))) (fun _ _ _ _ _ => pts_nil) (fun _ _ _ _ _ => (pe_call G_law_key (hr.mono (by decide)) (by rfl) T.g_law_key T.F_law_key.kp T.b_law_key .nil pass0 (pa_cons (pv 0) pa_nil)))) pa_nil)) pa_nil)))))), ?_⟩
    refine rd_menu (xs := [.int 0, .int 1, .int 2, .int 3, .int 6]) (N := N) (fun R h => h) rfl rfl (by decide) (by decide) (by omega) hB fun H1 v hv c1 B1 => ?_
    obtain ⟨m, rfl, m0, m1⟩ : ∃ k : Int, v = .int k ∧ 0 ≤ k ∧ k ≤ 6 := by
      simp only [List.mem_cons, List.not_mem_nil, or_false] at hv
      rcases hv with rfl | rfl | rfl | rfl | rfl <;> exact ⟨_, rfl, by decide, by decide⟩
    refine ⟨_, rfl, b, N + 1, rfl, by omega, B1, fun H2 n c2 B2 hn => ?_⟩
    refine ⟨_, rfl, _, rfl, by omega, by omega, fun D hD => ?_⟩
    refine lc_draws (N := N + 21) (c := 2001) (n := m.toNat) (fun v => ∃ y : Str, v = .str y ∧ KeyS y) (by omega) hD B2 (fun H4 M kk c4 B4 hM R q4 => ?_) (by decide) (fun H4 ys yl hy c4 B4 e4 => ?_)
    · exact ⟨_, rfl, b, M, rfl, by omega, B4, fun H5 s c5 B5 hs => q4 _ _ c5 B5 ⟨s, rfl, hs⟩⟩
    · obtain ⟨zs, rfl, hz⟩ := strs_of hy
      rw [List.length_map] at yl
      refine ⟨D, _, rfl, .inl ⟨.inl (.inl e4), fun kt hkt => ?_⟩⟩
      refine ⟨Evl.sz_of (by show 2 ≤ 100000; decide), fun a ha => ?_⟩
      have nk := ne_of_none (upd_same (H := H4) (a := kt) (o := .tup (zs.map V.str))) ha
      exact q _ _ n zs (((c1.trans c2).trans c4).trans ((Chg.new hkt).trans (Chg.new ha))) (((B4.new hkt).new ha).mono (by omega))
        ⟨a, kt, rfl, upd_same, by rw [upd_ne nk]; exact upd_same⟩ ⟨hn, by omega, hz⟩
theorem ok_is_stem (T : Txt K mg A) : FnOk P w K mg base CX0 1 A.a_is_stem A.d_is_stem ["one", "other"] (spRel stemB) := by
  refine T.F_is_stem.ok sc_is_stem (fun vs H Q E h => ?_) (fun cdv A outer s H vs Q E hr h => ?_)
  · obtain ⟨v1, v2, n1, k1, n2, k2, rfl, _⟩ := h
    rfl
  · obtain ⟨v1, v2, n1, k1, n2, k2, rfl, ⟨a1, t1, rfl, e1, f1⟩, ⟨a2, t2, rfl, e2, f2⟩, l1, l2, q⟩ := h
    refine ⟨_, (pss_one (ps_ret (pe_and (pe_cmpR op_eq (pe_ix (k_ix_tup K) (pv 0) pe_int (fun _ _ => rfl)) (pe_ix (k_ix_tup K) (pv 1) pe_int (fun _ _ => rfl)) (nomark _)) (pe_one (pe_cmpR (k_eqP K hr.units) (pe_slice (k_sl_tup K) (pe_ix (k_ix_tup K) (pv 1) pe_int (fun _ _ => rfl)) po_none (po_some (pe_callB (k_len K) (by rfl) T.n_len PySem.boot_len (pa_cons (pe_ix (k_ix_tup K) (pv 0) pe_int (fun _ _ => rfl)) pa_nil)))) (pe_ix (k_ix_tup K) (pv 0) pe_int (fun _ _ => rfl)) (nomark _)))))), ?_⟩
    refine ⟨_, rfl, a1, _, 0, .str n1, rfl, rfl, .inl (.inl e1), atI_nat (j := 0) rfl, _, rfl, a2, _, 0, .str n2, rfl, rfl, .inl (.inl e2), atI_nat (j := 0) rfl, rfl, _, rfl, ite2 (fun e => ?_) (fun e => ?_)⟩
    · have en : n1 = n2 := V.str.inj (of_decide_eq_true e)
      refine ⟨_, rfl, a2, _, 1, .ref t2, rfl, rfl, .inl (.inl e2), atI_nat (j := 1) rfl, _, rfl, a1, _, 1, .ref t1, rfl, rfl, .inl (.inl e1), atI_nat (j := 1) rfl, t1, _, rfl, .inr (.inl (.inl f1)), _, rfl, ?_⟩
      refine rd_takeT (.inl (.inl f2)) fun p H1 s1 hp => ?_
      refine ⟨_, rfl, a1, _, 1, .ref t1, rfl, rfl, .inl (.inl (s1 _ _ e1)), atI_nat (j := 1) rfl, ?_⟩
      rw [List.length_map, ← List.map_take] at hp
      refine rd_eqP (dv_strs hp) (dv_strs (.inl (.inl (s1 _ _ f1)))) (by decide) ?_
      have er : stemB n1 k1 n2 k2 = decide (PySem.W.Tup.mk (k2.take k1.length) = PySem.W.Tup.mk k1) := by
        unfold stemB
        rw [decide_eq_true en, Bool.true_and]
        exact decide_eq_decide.mpr ⟨fun z => by rw [z], fun z => PySem.W.Tup.mk.inj z⟩
      rw [← er]
      exact q _ s1
    · have en : n1 ≠ n2 := fun z => e (decide_eq_true (congrArg V.str z))
      have er : stemB n1 k1 n2 k2 = false := by
        unfold stemB
        rw [decide_eq_false en, Bool.false_and]
      rw [← er]
      exact q _ (.refl H)
theorem ok_meet (T : Txt K mg A) : FnOk P w K mg base CX0 2 A.a_meet A.d_meet ["one", "other"] (spRel meetB) := by
  have G_is_stem := ok_is_stem (P := P) (w := w) (base := base) T
  refine T.F_meet.ok sc_meet (fun vs H Q E h => ?_) (fun cdv A outer s H vs Q E hr h => ?_)
  · obtain ⟨v1, v2, n1, k1, n2, k2, rfl, _⟩ := h
    rfl
  · obtain ⟨v1, v2, n1, k1, n2, k2, rfl, r1, r2, l1, l2, q⟩ := h
    refine ⟨_, (pss_one (ps_ret (pe_or (pe_call G_is_stem (hr.mono (by decide)) (by rfl) T.g_is_stem T.F_is_stem.kp T.b_is_stem .nil pass0 (pa_cons (pv 0) (pa_cons (pv 1) pa_nil))) (pe_one (pe_call G_is_stem (hr.mono (by decide)) (by rfl) T.g_is_stem T.F_is_stem.kp T.b_is_stem .nil pass0 (pa_cons (pv 1) (pa_cons (pv 0) pa_nil))))))), ?_⟩
    refine ⟨_, rfl, _, rfl, _, _, n1, k1, n2, k2, rfl, r1, r2, l1, l2, fun H1 s1 => ⟨_, rfl, ite2 (fun e => ?_) (fun e => ?_)⟩⟩
    · have er : meetB n1 k1 n2 k2 = true := by unfold meetB; rw [e]; rfl
      rw [← er]
      exact q _ s1
    · refine ⟨_, rfl, _, rfl, _, _, n2, k2, n1, k1, rfl, r2.same s1, r1.same s1, l2, l1, fun H2 s2 => ?_⟩
      have er : meetB n1 k1 n2 k2 = stemB n2 k2 n1 k1 := by unfold meetB; rw [Bool.eq_false_iff.mpr e]; rfl
      rw [← er]
      exact q _ (s1.trans s2)
theorem filter_stem {k1 k2 : List Str} (hl : k1.length ≤ k2.length) : decide (((List.range k1.length).filter (fun i => !decide (k1[i]? = k2[i]?))).map (fun i : Nat => (0 : Int) + (i : Int)) = []) = decide (k2.take k1.length = k1) := by
  refine decide_eq_decide.mpr ⟨fun h => ?_, fun h => ?_⟩
  · have h1 : (List.range k1.length).filter (fun i => !decide (k1[i]? = k2[i]?)) = [] := List.map_eq_nil_iff.mp h
    refine List.ext_getElem? fun i => ?_
    by_cases hi : i < k1.length
    · have h2 := List.filter_eq_nil_iff.mp h1 i (List.mem_range.mpr hi)
      have h3 : k1[i]? = k2[i]? := by
        refine Decidable.byContradiction fun z => h2 ?_
        rw [decide_eq_false z]
        rfl
      rw [List.getElem?_take_of_lt hi, h3]
    · rw [List.getElem?_eq_none (by rw [List.length_take]; omega), List.getElem?_eq_none (by omega)]
  · rw [List.filter_eq_nil_iff.mpr]
    · rfl
    · intro i hi
      have hi := List.mem_range.mp hi
      have h3 : k1[i]? = k2[i]? := by
        have h4 : (k2.take k1.length)[i]? = k1[i]? := by rw [h]
        rw [List.getElem?_take_of_lt hi] at h4
        exact h4.symm
      rw [decide_eq_true h3]
      exact Bool.false_ne_true
theorem ok_law_stem (T : Txt K mg A) : FnOk P w K mg base CX0 1 A.a_law_stem A.d_law_stem ["one", "other"] (spRel stemB) := by
  refine T.F_law_stem.ok sc_law_stem (fun vs H Q E h => ?_) (fun cdv A outer s H vs Q E hr h => ?_)
  · obtain ⟨v1, v2, n1, k1, n2, k2, rfl, _⟩ := h
    rfl
  · obtain ⟨v1, v2, n1, k1, n2, k2, rfl, ⟨a1, t1, rfl, e1, f1⟩, ⟨a2, t2, rfl, e2, f2⟩, l1, l2, q⟩ := h
    refine ⟨_, (pss_cons (ps_if (PW.pt (pw_or (pt_cmpR op_ne (pe_ix (k_ix_tup K) (pv 0) pe_int (fun _ _ => rfl)) (pe_ix (k_ix_tup K) (pv 1) pe_int (fun _ _ => rfl)) (nomark _)) (pw_or1 (pt_cmpR op_gt (pe_callB (k_len K) (by rfl) T.n_len PySem.boot_len (pa_cons (pe_ix (k_ix_tup K) (pv 0) pe_int (fun _ _ => rfl)) pa_nil)) (pe_callB (k_len K) (by rfl) T.n_len PySem.boot_len (pa_cons (pe_ix (k_ix_tup K) (pv 1) pe_int (fun _ _ => rfl)) pa_nil)) (nomark _)))))
      (pss_one (ps_ret pe_bl))
      pss_nil)
      (pss_one (ps_ret (pe_cmpR (k_eqP K hr.units) (pe_lc (own := [("k", 2)]) (g := gName 2)  rfl sc_law_stem.nd (pi_range1 (by rfl) T.n_range (pa_cons (pe_callB (k_len K) (by rfl) T.n_len PySem.boot_len (pa_cons (pe_ix (k_ix_tup K) (pv 0) pe_int (fun _ _ => rfl)) pa_nil)) pa_nil)) (blkOk_by (own := [("k", 2)]) (N := N_law_stem) (sc := defScope s_law_stem) (by decide +kernel)) (fun _ _ _ _ _ => (pg_name (i := 2) sc_law_stem.nd rfl (.inl rfl))) (fun _ _ _ _ _ => pts_one (pt_cmpR op_ne (pe_ix (k_ix_tup K) (pe_ix (k_ix_tup K) (pv 0) pe_int (fun _ _ => rfl)) (pv 2) (fun _ _ => rfl)) (pe_ix (k_ix_tup K) (pe_ix (k_ix_tup K) (pv 1) pe_int (fun _ _ => rfl)) (pv 2) (fun _ _ => rfl)) (nomark _))) (fun _ _ _ _ _ => (pv 2))) (pe_lst pa_nil) (nomark _))))), ?_⟩
    refine ⟨_, rfl, a1, _, 0, .str n1, rfl, rfl, .inl (.inl e1), atI_nat (j := 0) rfl, _, rfl, a2, _, 0, .str n2, rfl, rfl, .inl (.inl e2), atI_nat (j := 0) rfl, rfl, _, rfl, ite2 (fun e => ?_) (fun e => ?_)⟩
    · have en : n1 ≠ n2 := fun z => by
        rw [z, decide_eq_true rfl] at e
        cases e
      have er : stemB n1 k1 n2 k2 = false := by unfold stemB; rw [decide_eq_false en]; rfl
      refine iteT ?_
      rw [← er]
      exact q _ (.refl H)
    · have en : n1 = n2 := by
        refine Decidable.byContradiction fun z => e ?_
        rw [decide_eq_false (fun y => z (V.str.inj y))]
        rfl
      refine ⟨_, rfl, a1, _, 1, .ref t1, rfl, rfl, .inl (.inl e1), atI_nat (j := 1) rfl, t1, _, rfl, .inr (.inl (.inl f1)), _, rfl, a2, _, 1, .ref t2, rfl, rfl, .inl (.inl e2), atI_nat (j := 1) rfl, t2, _, rfl, .inr (.inl (.inl f2)), _, _, rfl, rfl, _, rfl, ite2 (fun e3 => ?_) (fun e3 => ?_)⟩
      · have h3 := of_decide_eq_true e3
        rw [List.length_map, List.length_map] at h3
        have er : stemB n1 k1 n2 k2 = false := by
          unfold stemB
          rw [decide_eq_false (p := k2.take k1.length = k1), Bool.and_false]
          intro z
          have := congrArg List.length z
          rw [List.length_take] at this
          omega
        rw [← er]
        exact q _ (.refl H)
      · have h3 : k1.length ≤ k2.length := by
          have := of_decide_eq_false (Bool.eq_false_iff.mpr e3)
          rw [List.length_map, List.length_map] at this
          omega
        refine ⟨_, rfl, a1, _, 1, .ref t1, rfl, rfl, .inl (.inl e1), atI_nat (j := 1) rfl, t1, _, rfl, .inr (.inl (.inl f1)), _, rfl, by rw [List.length_map]; omega, by rw [List.length_map]; omega, fun D hD => ?_⟩
        rw [Int.toNat_natCast, List.length_map]
        refine lc_pure_range (fun i => !decide (k1[i]? = k2[i]?)) (fun i => .int ((0 : Int) + (i : Int))) (by omega) hD (fun i H2 hi s2 R q2 => ?_) (fun i H2 hi hp s2 R q2 => ⟨_, rfl, q2 _ (.refl _)⟩) (fun H2 s2 hd2 => ?_)
        · have hi2 : i < k2.length := by omega
          have g1 : atI (k1.map V.str) ((0 : Int) + (i : Int)) = some (.str k1[i]) := at_of (j := i) (by omega) (by rw [List.getElem?_map, List.getElem?_eq_getElem hi]; rfl)
          have g2 : atI (k2.map V.str) ((0 : Int) + (i : Int)) = some (.str k2[i]) := at_of (j := i) (by omega) (by rw [List.getElem?_map, List.getElem?_eq_getElem hi2]; rfl)
          refine ⟨_, rfl, a1, _, 1, .ref t1, rfl, rfl, .inl (.inl (s2 _ _ e1)), atI_nat (j := 1) rfl, _, rfl, t1, _, _, _, rfl, rfl, .inl (.inl (s2 _ _ f1)), g1, _, rfl, a2, _, 1, .ref t2, rfl, rfl, .inl (.inl (s2 _ _ e2)), atI_nat (j := 1) rfl, _, rfl, t2, _, _, _, rfl, rfl, .inl (.inl (s2 _ _ f2)), g2, rfl, _, rfl, ?_⟩
          have ed : (!decide (V.str k1[i] = V.str k2[i])) = !decide (k1[i]? = k2[i]?) := by
            rw [List.getElem?_eq_getElem hi, List.getElem?_eq_getElem hi2]
            exact congrArg _ (decide_eq_decide.mpr ⟨fun z => by rw [V.str.inj z], fun z => by rw [Option.some.inj z]⟩)
          rw [ed]
          exact q2 _ (.refl _)
        · refine ⟨Nat.zero_le _, fun p hp => ?_⟩
          have hd3 := same_new (o := .lst []) hp _ _ hd2
          rw [show (fun i : Nat => V.int ((0 : Int) + (i : Int))) = V.int ∘ (fun i : Nat => (0 : Int) + (i : Int)) from rfl, ← List.map_map] at hd3
          refine rd_eqP (x := ((List.range k1.length).filter (fun i => !decide (k1[i]? = k2[i]?))).map (fun i : Nat => (0 : Int) + (i : Int))) (y := []) (dv_ints (.inl (.inl hd3))) (dv_ints (.inl (.inl upd_same))) (by decide) ?_
          have er : stemB n1 k1 n2 k2 = decide (k2.take k1.length = k1) := by
            unfold stemB
            rw [decide_eq_true en, Bool.true_and]
          rw [filter_stem h3, ← er]
          exact q _ (s2.trans (same_new hp))
theorem ok_law_beside (T : Txt K mg A) : FnOk P w K mg base CX0 5 A.a_law_beside A.d_law_beside ["bag", "ref"] spBeside := by
  have G_law_draw := ok_law_draw (P := P) (w := w) (base := base) T
  have G_law_name := ok_law_name (P := P) (w := w) (base := base) T
  have G_law_key := ok_law_key (P := P) (w := w) (base := base) T
  have G_law_ref := ok_law_ref (P := P) (w := w) (base := base) T
  refine T.F_law_beside.ok sc_law_beside (fun vs H Q E h => ?_) (fun cdv A outer s H vs Q E hr h => ?_)
  · obtain ⟨b, v, N, n, ks, rfl, _⟩ := h
    rfl
  · obtain ⟨b, v, N, n, ks, rfl, hN, hB, ⟨a, k, rfl, e1, f1⟩, ⟨hn, hl, hk⟩, q⟩ := h
    refine ⟨_, (pss_cons (ps_asg (pv 1) (pg_tup rfl (pgs_cons (pg_name (i := 2) sc_law_beside.nd rfl (.inl rfl)) (pgs_cons (pg_name (i := 3) sc_law_beside.nd rfl (.inl rfl)) pgs_nil))))
      (pss_cons (ps_set (i := 4) sc_law_beside.nd rfl (.inl rfl) (pe_call G_law_draw (hr.mono (by decide)) (by rfl) T.g_law_draw T.F_law_draw.kp T.b_law_draw .nil pass0 (pa_cons (pv 0) (pa_cons pe_int pa_nil))))
      (pss_cons (ps_set (i := 5) sc_law_beside.nd rfl (.inl rfl) (pe_call G_law_draw (hr.mono (by decide)) (by rfl) T.g_law_draw T.F_law_draw.kp T.b_law_draw .nil pass0 (pa_cons (pv 0) (pa_cons (pe_op op_add (pe_callB (k_len K) (by rfl) T.n_len PySem.boot_len (pa_cons (pv 3) pa_nil)) pe_int) pa_nil))))
      (pss_cons (ps_if (pt_cmpR op_eq (pv 4) pe_int (nomark _))
      (pss_one (ps_ret (pe_call G_law_ref (hr.mono (by decide)) (by rfl) T.g_law_ref T.F_law_ref.kp T.b_law_ref .nil pass0 (pa_cons (pv 0) pa_nil))))
      pss_nil)
      (pss_cons (ps_if (pt_cmpR op_eq (pv 4) pe_int (nomark _))
      (pss_one (ps_ret (pe_tup (pa_cons (pe_call G_law_name (hr.mono (by decide)) (by rfl) T.g_law_name T.F_law_name.kp T.b_law_name .nil pass0 (pa_cons (pv 0) pa_nil)) (pa_cons (pv 3) pa_nil)))))
      pss_nil)
      (pss_cons (ps_if (pt_cmpR op_lt (pv 4) pe_int (nomark _))
      (pss_one (ps_ret (pe_tup (pa_cons (pv 2) (pa_cons (pe_slice (k_sl_tup K) (pv 3) po_none (po_some (pv 5))) pa_nil)))))
      pss_nil)
      (pss_cons (ps_if (pt_cmpR op_eq (pv 4) pe_int (nomark _))
      (pss_one (ps_ret (pe_tup (pa_cons (pv 2) (pa_cons (pe_slice (k_sl_tup K) (pe_op (k_catA K) (pv 3) (pe_tup (pa_cons (pe_call G_law_key (hr.mono (by decide)) (by rfl) T.g_law_key T.F_law_key.kp T.b_law_key .nil pass0 (pa_cons (pv 0) pa_nil)) (pa_cons (pe_call G_law_key (hr.mono (by decide)) (by rfl) T.g_law_key T.F_law_key.kp T.b_law_key .nil pass0 (pa_cons (pv 0) pa_nil)) pa_nil)))) po_none (po_some pe_int)) pa_nil)))))
      pss_nil)
      (pss_one (ps_ret (pe_tup (pa_cons (pv 2) (pa_cons (pe_slice (k_sl_tup K) (pe_op (k_catA K) (pe_op (k_catA K) (pe_slice (k_sl_tup K) (pv 3) po_none (po_some (pv 5))) (pe_tup (pa_cons (pe_call G_law_key (hr.mono (by decide)) (by rfl) T.g_law_key T.F_law_key.kp T.b_law_key .nil pass0 (pa_cons (pv 0) pa_nil)) pa_nil))) (pe_slice (k_sl_tup K) (pv 3) (po_some (pe_op op_add (pv 5) pe_int)) po_none)) po_none (po_some pe_int)) pa_nil)))))))))))), ?_⟩
    refine ⟨_, rfl, a, [.str n, .ref k], rfl, .inl (.inl e1), rfl, .str n, [.ref k], rfl, .ref k, [], rfl, rfl, ?_⟩
    refine rd_draw (N := N) rfl (fun R h => h) (by decide) (by decide) (by omega) hB fun H1 lot c1 B1 l0 l1 => ?_
    have g1 := c1 _ _ (hB.neT f1) f1
    refine rd_draw (N := N + 1) rfl (fun R h => ⟨_, rfl, k, _, rfl, .inr (.inl (.inl g1)), _, _, rfl, rfl, h⟩) (by omega) (by rw [List.length_map]; omega) (by omega) B1 fun H2 at_ c2 B2 a0 a1 => ?_
    rw [List.length_map] at a1
    have g2 := c2 _ _ (B1.neT g1) g1
    have c12 := c1.trans c2
    obtain ⟨m, rfl⟩ : ∃ m : Nat, at_ = (m : Int) := ⟨at_.toNat, by omega⟩
    refine ⟨_, rfl, rfl, _, rfl, ite2 (fun _ => ?_) (fun _ => ?_)⟩
    · exact ⟨_, rfl, b, N + 2, rfl, by omega, B2, fun H3 v n2 ks2 c3 B3 r s => q H3 v n2 ks2 (c12.trans c3) (B3.mono (by omega)) r s⟩
    refine ⟨_, rfl, rfl, _, rfl, ite2 (fun _ => ?_) (fun _ => ?_)⟩
    · refine ⟨_, rfl, b, N + 2, rfl, by omega, B2, fun H3 n2 c3 B3 s2 => ?_⟩
      have g3 := c3 _ _ (B2.neT g2) g2
      exact ⟨_, rfl, rd_ref g3 fun v H4 s4 r => q H4 v n2 ks ((c12.trans c3).trans (.same s4)) ((B3.same s4).mono (by omega)) r ⟨s2, hl, hk⟩⟩
    refine ⟨_, rfl, _, _, rfl, rfl, _, rfl, ite2 (fun _ => ?_) (fun _ => ?_)⟩
    · refine ⟨_, rfl, _, rfl, _, rfl, _, rfl, ?_⟩
      refine rd_takeH g2 fun p H3 s3 hp => ?_
      rw [← List.map_take] at hp
      exact rd_ref hp fun v H4 s4 r => q H4 v n _ (c12.trans (.same (s3.trans s4))) ((B2.same (s3.trans s4)).mono (by omega)) r ⟨hn, by rw [List.length_take]; omega, fun x hx => hk x (List.mem_of_mem_take hx)⟩
    refine ⟨_, rfl, rfl, _, rfl, ite2 (fun _ => ?_) (fun _ => ?_)⟩
    · refine ⟨_, rfl, _, rfl, _, rfl, b, N + 2, rfl, by omega, B2, fun H3 x c3 B3 hx => ⟨_, rfl, b, N + 2 + 2001, rfl, by omega, B3, fun H4 y c4 B4 hy => ?_⟩⟩
      refine ⟨Evl.sz_of (by show 2 ≤ 100000; decide), fun p hp => ?_⟩
      have g4 := c4 _ _ (B3.neT (c3 _ _ (B2.neT g2) g2)) (c3 _ _ (B2.neT g2) g2)
      refine rd_catH (ys := [x, y].map V.str) (same_new hp _ _ g4) upd_same (by rw [List.length_map, List.length_map]; show _ + 2 ≤ _; omega) fun p2 H5 s5 hp2 => ?_
      refine ⟨_, rfl, ?_⟩
      refine rd_takeH (n := 6) hp2 fun p3 H6 s6 hp3 => ?_
      rw [← List.map_append, ← List.map_take] at hp3
      exact rd_ref hp3 fun v H7 s7 r => q H7 v n _ (((c12.trans c3).trans c4).trans (.same (((same_new hp).trans s5).trans (s6.trans s7)))) ((B4.same (((same_new hp).trans s5).trans (s6.trans s7))).mono (by omega)) r
        ⟨hn, by rw [List.length_take]; omega, fun z hz => keys_app hk (fun z hz => by
          rcases List.mem_cons.mp hz with rfl | hz
          · exact hx
          · rw [List.mem_singleton.mp hz]; exact hy) z (List.mem_of_mem_take hz)⟩
    · refine ⟨_, rfl, _, rfl, _, rfl, _, rfl, ?_⟩
      refine rd_takeH g2 fun p H3 s3 hp => ?_
      refine ⟨_, rfl, b, N + 2, rfl, by omega, B2.same s3, fun H4 x c4 B4 hx => ?_⟩
      have hp4 := c4 _ _ ((B2.same s3).neT hp) hp
      have g4 := c4 _ _ ((B2.same s3).neT (s3 _ _ g2)) (s3 _ _ g2)
      refine ⟨Evl.sz_of (by show 1 ≤ 100000; decide), fun p4 hp5 => ?_⟩
      refine rd_catH (ys := [x].map V.str) (same_new hp5 _ _ hp4) upd_same (by rw [List.length_take, List.length_map, List.length_map]; show _ + 1 ≤ _; omega) fun p6 H6 s6 hp6 => ?_
      refine ⟨_, rfl, _, rfl, _, _, rfl, rfl, _, rfl, ?_⟩
      dsimp only [tNoPart]
      refine rd_dropI (j := (m : Int) + 1) (n := m + 1) (by omega) (s6 _ _ (same_new hp5 _ _ g4)) fun p7 H7 s7 hp7 => ?_
      refine rd_catH (s7 _ _ hp6) hp7 (by
        rw [List.length_append, List.length_take, List.length_drop, List.length_map, List.length_map]
        show _ + 1 + _ ≤ _
        omega) fun p8 H8 s8 hp8 => ?_
      refine ⟨_, rfl, ?_⟩
      refine rd_takeH (n := 6) hp8 fun p9 H9 s9 hp9 => ?_
      rw [← List.map_take, ← List.map_append, ← List.map_drop, ← List.map_append, ← List.map_take] at hp9
      have sall : Same H4 H9 := (((same_new hp5).trans s6).trans s7).trans (s8.trans s9)
      exact rd_ref hp9 fun v Hz sz r => q Hz v n _ (((c12.trans (.same s3)).trans c4).trans (.same (sall.trans sz))) ((B4.same (sall.trans sz)).mono (by omega)) r
        ⟨hn, by rw [List.length_take]; omega, fun z hz => keys_app (keys_app (fun z hz => hk z (List.mem_of_mem_take hz)) (fun z hz => by rw [List.mem_singleton.mp hz]; exact hx)) (fun z hz => hk z (List.mem_of_mem_drop hz)) z (List.mem_of_mem_take hz)⟩
def SomeAt (bg sm : Addr) (N i : Nat) (H0 H : Hp) : Prop := Same H0 H ∧ H0 bg = none ∧ H0 sm = none ∧ sm ≠ bg ∧ BagAt N bg H ∧ ∃ vs, H sm = some (.lst vs) ∧ vs.length = i + 1 ∧ AllRef H vs
theorem ok_law (T : Txt K mg A) : FnOk P w K mg base CX0 6 A.a_law A.d_law ["script"] (spLaw K) := by
  have G_law_draw := ok_law_draw (P := P) (w := w) (base := base) T
  have G_law_bag := ok_law_bag (P := P) (w := w) (base := base) T
  have G_law_cell_at := ok_law_cell_at (P := P) (w := w) (base := base) T
  have G_law_ref := ok_law_ref (P := P) (w := w) (base := base) T
  have G_law_beside := ok_law_beside (P := P) (w := w) (base := base) T
  have G_law_stem := ok_law_stem (P := P) (w := w) (base := base) T
  have G_is_stem := ok_is_stem (P := P) (w := w) (base := base) T
  have G_meet := ok_meet (P := P) (w := w) (base := base) T
  refine T.F_law.ok sc_law (fun vs H Q E h => ?_) (fun cdv A outer s H vs Q E hr h => ?_)
  · obtain ⟨a, ns, rfl, _⟩ := h
    rfl
  · obtain ⟨a, ns, rfl, hS, hl, hb, q⟩ := h
    refine ⟨_, (pss_cons (ps_for PassesOwn.never rfl (pi_range1 (by rfl) T.n_range (pa_cons (pe_callB (call_max2 rfl) (by rfl) T.n_max (by decide +kernel) (pa_cons pe_int (pa_cons (pe_callB (call_min2 rfl) (by rfl) T.n_min (by decide +kernel) (pa_cons pe_int (pa_cons (pe_callB (k_len K) (by rfl) T.n_len PySem.boot_len (pa_cons (pv 0) pa_nil)) pa_nil))) pa_nil))) pa_nil)) (pg_name (i := 1) sc_law.nd rfl (.inl rfl))
      (pss_cons (ps_set (i := 2) sc_law.nd rfl (.inl rfl) (pe_call G_law_bag (hr.mono (by decide)) (by rfl) T.g_law_bag T.F_law_bag.kp T.b_law_bag .nil pass0 (pa_cons (pe_call G_law_cell_at (hr.mono (by decide)) (by rfl) T.g_law_cell_at T.F_law_cell_at.kp T.b_law_cell_at .nil pass0 (pa_cons (pv 0) (pa_cons (pv 1) pa_nil))) (pa_cons (pv 1) pa_nil))))
      (pss_cons (ps_set (i := 3) sc_law.nd rfl (.inl rfl) (pe_lst (pa_cons (pe_call G_law_ref (hr.mono (by decide)) (by rfl) T.g_law_ref T.F_law_ref.kp T.b_law_ref .nil pass0 (pa_cons (pv 2) pa_nil)) pa_nil)))
      (pss_cons (ps_for PassesOwn.never rfl (pi_range1 (by rfl) T.n_range (pa_cons pe_int pa_nil)) (pg_name (i := 4) sc_law.nd rfl (.inl rfl))
      (pss_one (ps_expr (pe_bm PySem.F.plainAttrs_list PySem.F.slot_list_append PySem.F.type_list_append mt_append (pv 3) (pa_cons (pe_call G_law_beside (hr.mono (by decide)) (by rfl) T.g_law_beside T.F_law_beside.kp T.b_law_beside .nil pass0 (pa_cons (pv 2) (pa_cons (pe_ix (k_ix_list K) (pv 3) (pe_call G_law_draw (hr.mono (by decide)) (by rfl) T.g_law_draw T.F_law_draw.kp T.b_law_draw .nil pass0 (pa_cons (pv 2) (pa_cons (pe_callB (k_len K) (by rfl) T.n_len PySem.boot_len (pa_cons (pv 3) pa_nil)) pa_nil))) (fun _ _ => rfl)) pa_nil))) pa_nil)))))
      (pss_one (ps_for PassesOwn.never rfl (k_pi_list K (pv 3)) (pg_name (i := 5) sc_law.nd rfl (.inl rfl))
      (pss_one (ps_for PassesOwn.never rfl (k_pi_list K (pv 3)) (pg_name (i := 6) sc_law.nd rfl (.inl rfl))
      (pss_cons (ps_set (i := 7) sc_law.nd rfl (.inl rfl) (pe_lst (pa_cons (pe_call G_is_stem (hr.mono (by decide)) (by rfl) T.g_is_stem T.F_is_stem.kp T.b_is_stem .nil pass0 (pa_cons (pv 5) (pa_cons (pv 6) pa_nil))) (pa_cons (pe_call G_meet (hr.mono (by decide)) (by rfl) T.g_meet T.F_meet.kp T.b_meet .nil pass0 (pa_cons (pv 5) (pa_cons (pv 6) pa_nil))) pa_nil))))
      (pss_cons (ps_if (pt_cmpR (k_neP K hr.units) (pe_lc (own := [("answer", 8)]) (g := gName 8)  rfl sc_law.nd (k_pi_list K (pv 7)) (blkOk_by (own := [("answer", 8)]) (N := N_law) (sc := defScope s_law) (by decide +kernel)) (fun _ _ _ _ _ => (pg_name (i := 8) sc_law.nd rfl (.inl rfl))) (fun _ _ _ _ _ => pts_one (pt_not (pt_val (pe_callB (k_isi K) (by rfl) T.n_isinstance (by decide +kernel) (pa_cons (pv 8) (pa_cons (pe_bltn (v := .ty "bool") (by rfl) T.n_bool (by decide +kernel) rfl) pa_nil)))))) (fun _ _ _ _ _ => (pv 8))) (pe_lst pa_nil) (nomark _))
      (pss_one (ps_ret pe_bl))
      pss_nil)
      (pss_one (ps_if (pt_cmpR (k_neP K hr.units) (pv 7) (pe_lst (pa_cons (pe_call G_law_stem (hr.mono (by decide)) (by rfl) T.g_law_stem T.F_law_stem.kp T.b_law_stem .nil pass0 (pa_cons (pv 5) (pa_cons (pv 6) pa_nil))) (pa_cons (pe_or (pe_call G_law_stem (hr.mono (by decide)) (by rfl) T.g_law_stem T.F_law_stem.kp T.b_law_stem .nil pass0 (pa_cons (pv 5) (pa_cons (pv 6) pa_nil))) (pe_one (pe_call G_law_stem (hr.mono (by decide)) (by rfl) T.g_law_stem T.F_law_stem.kp T.b_law_stem .nil pass0 (pa_cons (pv 6) (pa_cons (pv 5) pa_nil))))) pa_nil))) (nomark _))
      (pss_one (ps_ret pe_bl))
      pss_nil))))))))))))
      (pss_one (ps_ret pe_bl))), ?_⟩
    obtain ⟨m, hm, m0, m1⟩ := turns_of ((ns.map V.int).length : Int) 16 (by decide) (by decide)
    refine ⟨_, rfl, a, _, rfl, .inl hS, 16, _, rfl, 1, _, rfl, m, congrArg (fun z => [V.int z]) hm, by omega, by omega, ?_⟩
    refine for_range (fun i σ H' => Same H H' ∧ ∃ y1 y2 y3 y4 y5 y6 y7 y8, σ = [some (.ref a), y1, y2, y3, y4, y5, y6, y7, y8]) ⟨.refl H, _, _, _, _, _, _, _, _, rfl⟩ ?_ (fun σ H' _ => q H')
    rintro i σ H0 hi ⟨s0, y1, y2, y3, y4, y5, y6, y7, y8, rfl⟩
    -- bag
    refine ⟨_, rfl, _, rfl, a, ns, _, rfl, s0.seq hS, by omega, fun cell => ⟨_, rfl, _, _, rfl, by omega, by omega, fun H1 bg nbg s1 B1 => ?_⟩⟩
    -- some
    refine ⟨_, rfl, bg, 0, rfl, by decide, B1, fun H2 v n ks c2 B2 r2 sr => ?_⟩
    refine ⟨Evl.sz_of (by show 1 ≤ 100000; decide), fun sm hsm => ?_⟩
    have ss2 : Same H0 H2 := same_chg s1 c2 nbg
    have nsm : H0 sm = none := ss2.free hsm
    refine ⟨4, rfl, by decide, by decide, ?_⟩
    refine for_range (n := 4) (fun j σ H' => SomeAt bg sm (20000 + 50000 * j) j H0 H' ∧ ∃ y4 y5 y6 y7 y8, σ = [some (.ref a), some (.int (0 + (i : Int))), some (.ref bg), some (.ref sm), y4, y5, y6, y7, y8]) ⟨⟨same_mut ss2 nsm, nbg, nsm, (B2.ne hsm).symm, B2.new hsm, [v], upd_same, rfl, fun x hx => ?_⟩, _, _, _, _, _, rfl⟩ ?_ ?_
    · rw [List.mem_singleton.mp hx]
      exact ⟨n, ks, r2.new hsm, sr⟩
    · -- a turn
      rintro j σ H3 hj ⟨⟨s3, _, _, ne, B3, vs, e3, lv, av⟩, y4, y5, y6, y7, y8, rfl⟩
      refine ⟨_, rfl, .inl ⟨rfl, _, .inl (.inl e3)⟩, _, rfl, _, rfl, ?_⟩
      refine rd_draw (m := (vs.length : Int)) (N := 20000 + 50000 * j) rfl (fun R h => ⟨_, rfl, sm, _, rfl, .inl (.inl (.inl e3)), h⟩) (by omega) (by omega) (by omega) B3 fun H4 r c4 B4 r0 r1 => ?_
      have e4 := c4 _ _ ne e3
      obtain ⟨v, hv, ev⟩ := at_lt r0 r1
      refine ⟨sm, _, r, v, rfl, rfl, .inl (.inl e4), ev, ?_⟩
      obtain ⟨n4, k4, r4, s4⟩ := av v hv
      refine ⟨bg, v, _, n4, k4, rfl, by omega, B4, r4.chg c4 B3, s4, fun H5 v5 n5 k5 c5 B5 r5 s5 => ?_⟩
      have e5 := c5 _ _ ne e4
      refine ⟨sm, vs, v5, rfl, rfl, e5, Evl.sz_lt (by omega), ?_⟩
      refine ⟨⟨same_mut (same_chg (same_chg s3 c4 nbg) c5 nbg) nsm, nbg, nsm, ne, (B5.mut ne.symm).mono (by omega), vs ++ [v5], upd_same, by rw [List.length_append, lv]; rfl, fun x hx => ?_⟩, _, _, _, _, _, rfl⟩
      rcases List.mem_append.mp hx with hx | hx
      · obtain ⟨n6, k6, r6, s6⟩ := av x hx
        exact ⟨n6, k6, ((r6.chg c4 B3).chg c5 B4).updL e5, s6⟩
      · rw [List.mem_singleton.mp hx]
        exact ⟨n5, k5, r5.updL e5, s5⟩
    · -- the two loops
      rintro σ H3 ⟨⟨s3, _, _, ne, B3, vs, e3, lv, av⟩, y4, y5, y6, y7, y8, rfl⟩
      refine ⟨_, rfl, sm, rfl, ⟨_, .inl (.inl e3)⟩, ?_⟩
      refine for_list (xs := vs) (fun j σ H' => Same H3 H' ∧ ∃ y4 y5 y6 y7 y8, σ = [some (.ref a), some (.int (0 + (i : Int))), some (.ref bg), some (.ref sm), y4, y5, y6, y7, y8]) ⟨.refl _, _, _, _, _, _, rfl⟩ (fun j σ H' _ h => h.1.seq (.inl (.inl e3))) ?_ ?_
      · rintro j one σ H4 hone ⟨s4, y4, y5, y6, y7, y8, rfl⟩
        obtain ⟨n1, k1, r1, sr1⟩ := av one (List.mem_of_getElem? hone)
        refine ⟨_, rfl, sm, rfl, ⟨_, s4.seq (.inl (.inl e3))⟩, ?_⟩
        refine for_list (xs := vs) (fun j σ H' => Same H3 H' ∧ ∃ y4 y6 y7 y8, σ = [some (.ref a), some (.int (0 + (i : Int))), some (.ref bg), some (.ref sm), y4, some one, y6, y7, y8]) ⟨s4, _, _, _, _, rfl⟩ (fun j σ H' _ h => h.1.seq (.inl (.inl e3))) ?_ ?_
        · rintro j2 other σ H5 hother ⟨s5, y4, y6, y7, y8, rfl⟩
          obtain ⟨n2, k2, r2', sr2⟩ := av other (List.mem_of_getElem? hother)
          have ra := r1.same s5
          have rb := r2'.same s5
          have l1 : k1.length ≤ 1000 := by have := sr1.len; omega
          have l2 : k2.length ≤ 1000 := by have := sr2.len; omega
          refine ⟨_, rfl, _, rfl, _, _, n1, k1, n2, k2, rfl, ra, rb, l1, l2, fun H6 s6 => ?_⟩
          refine ⟨_, rfl, _, rfl, _, _, n1, k1, n2, k2, rfl, ra.same s6, rb.same s6, l1, l2, fun H7 s7 => ?_⟩
          refine ⟨Evl.sz_of (by show 2 ≤ 100000; decide), fun fo hfo => ?_⟩
          generalize hH8 : upd H7 fo _ = H8
          have e8 : H8 fo = some (.lst ([stemB n1 k1 n2 k2, meetB n1 k1 n2 k2].map V.bl)) := by rw [← hH8]; exact upd_same
          have s8 : Same H5 H8 := (s6.trans s7).trans (by rw [← hH8]; exact same_new hfo)
          -- no answer but truths
          refine ⟨_, rfl, fo, rfl, ⟨_, .inl (.inl e8)⟩, fun D hD => ?_⟩
          refine lc_pure_list (fun _ => false) (fun v => v) (by show 2 ≤ 100000; decide) hD (.inl (.inl e8)) (fun x H9 hx s9 R q9 => ?_) (fun x H9 hx hp => by cases hp) (fun H9 s9 e9 => ?_)
          · obtain ⟨b, _, rfl⟩ := List.mem_map.mp hx
            exact ⟨_, rfl, .bl b, .ty "bool", _, _, true, rfl, .ty "bool", .base (.bl b), kit_ty (by decide +kernel), true, rfl, q9 _ (.refl _)⟩
          · have e9 : H9 D = some (.lst (([] : List Bool).map V.bl)) := e9
            refine ⟨Nat.zero_le _, fun p hp => ?_⟩
            refine rd_neP (dv_bools (.inl (.inl (same_new hp _ _ e9)))) (dv_bools (ks := []) (.inl (.inl upd_same))) (by decide) ⟨_, rfl, iteF ?_⟩
            have s10 : Same H5 (upd H9 p (.lst [])) := (s8.trans s9).trans (same_new hp)
            have e10 : (upd H9 p (.lst [])) fo = some (.lst ([stemB n1 k1 n2 k2, meetB n1 k1 n2 k2].map V.bl)) := same_new hp _ _ (s9 _ _ e8)
            generalize hH10 : upd H9 p _ = H10 at s10 e10
            -- found is as it is due
            refine ⟨_, rfl, _, rfl, _, rfl, _, _, n1, k1, n2, k2, rfl, ra.same s10, rb.same s10, l1, l2, fun H11 s11 => ?_⟩
            have fin : ∀ H12 p2, Same H11 H12 → H12 p2 = none → meetB n1 k1 n2 k2 = meetB n1 k1 n2 k2 → True := fun _ _ _ _ _ => trivial
            have last : ∀ (H12 : Hp) (R : Prop), Same H11 H12 → (∀ H13, Same H12 H13 → R) → R := fun H12 R s12 f => f H12 (.refl _)
            refine ⟨_, rfl, _, rfl, _, _, n1, k1, n2, k2, rfl, (ra.same s10).same s11, (rb.same s10).same s11, l1, l2, fun H12 s12 => ⟨_, rfl, ite2 (fun e => ?_) (fun e => ?_)⟩⟩
            · have em : meetB n1 k1 n2 k2 = true := by unfold meetB; rw [e]; rfl
              refine ⟨Evl.sz_of (by show 2 ≤ 100000; decide), fun p2 hp2 => ?_⟩
              have e12 := same_new (o := .lst [.bl (stemB n1 k1 n2 k2), .bl true]) hp2 _ _ (s12 _ _ (s11 _ _ e10))
              refine rd_neP (dv_bools (.inl (.inl e12))) (dv_bools (ks := [stemB n1 k1 n2 k2, true]) (.inl (.inl upd_same))) (by decide) ⟨_, rfl, ?_⟩
              rw [em, decide_eq_true rfl]
              exact iteF ⟨s5.trans (((s10.trans s11).trans s12).trans (same_new hp2)), _, _, _, _, rfl⟩
            · refine ⟨_, rfl, _, rfl, _, _, n2, k2, n1, k1, rfl, ((rb.same s10).same s11).same s12, ((ra.same s10).same s11).same s12, l2, l1, fun H13 s13 => ?_⟩
              have em : meetB n1 k1 n2 k2 = stemB n2 k2 n1 k1 := by unfold meetB; rw [Bool.eq_false_iff.mpr e]; rfl
              refine ⟨Evl.sz_of (by show 2 ≤ 100000; decide), fun p2 hp2 => ?_⟩
              have e12 := same_new (o := .lst [.bl (stemB n1 k1 n2 k2), .bl (stemB n2 k2 n1 k1)]) hp2 _ _ (s13 _ _ (s12 _ _ (s11 _ _ e10)))
              refine rd_neP (dv_bools (.inl (.inl e12))) (dv_bools (ks := [stemB n1 k1 n2 k2, stemB n2 k2 n1 k1]) (.inl (.inl upd_same))) (by decide) ⟨_, rfl, ?_⟩
              rw [em, decide_eq_true rfl]
              exact iteF ⟨s5.trans ((((s10.trans s11).trans s12).trans s13).trans (same_new hp2)), _, _, _, _, rfl⟩
        · rintro σ H5 ⟨s5, y4, y6, y7, y8, rfl⟩
          exact ⟨s5, _, _, _, _, _, rfl⟩
      · rintro σ H4 ⟨s4, y4, y5, y6, y7, y8, rfl⟩
        exact ⟨s0.trans (s3.trans s4), _, _, _, _, _, _, _, _, rfl⟩

end
theorem txt_mk {K : PySem.W.Frag} {h : Heap} {mg : Str → Option Value} (X : K.In h) (G : h.Ns mainGlobals mg)
    {f0 : Addr} {od0 an0 : Option Addr} {sl0 : Array (Option Value)} {oc0 kV0 dc0 pm0 cd0 ct0 : Value}
    (a0 : PySem.W.nsIn K mainGlobals "is_stem" = some (some (.ref f0))) (l0 : K.lookup f0 = some ⟨oc0, od0, .func (PySem.W.fnOf "is_stem" "is_stem" (defArgs s_is_stem) (defBody s_is_stem) (defScope s_is_stem) .none kV0 dc0 pm0 an0 cd0 ct0), sl0⟩) (c0 : PySem.W.codeIn K cd0 "is_stem" = true) (k0 : PySem.W.keepIn K (.ref f0) = true)
    {f1 : Addr} {od1 an1 : Option Addr} {sl1 : Array (Option Value)} {oc1 kV1 dc1 pm1 cd1 ct1 : Value}
    (a1 : PySem.W.nsIn K mainGlobals "meet" = some (some (.ref f1))) (l1 : K.lookup f1 = some ⟨oc1, od1, .func (PySem.W.fnOf "meet" "meet" (defArgs s_meet) (defBody s_meet) (defScope s_meet) .none kV1 dc1 pm1 an1 cd1 ct1), sl1⟩) (c1 : PySem.W.codeIn K cd1 "meet" = true) (k1 : PySem.W.keepIn K (.ref f1) = true)
    {f2 : Addr} {od2 an2 : Option Addr} {sl2 : Array (Option Value)} {oc2 kV2 dc2 pm2 cd2 ct2 : Value}
    (a2 : PySem.W.nsIn K mainGlobals "_law_cell_at" = some (some (.ref f2))) (l2 : K.lookup f2 = some ⟨oc2, od2, .func (PySem.W.fnOf "_law_cell_at" "_law_cell_at" (defArgs s_law_cell_at) (defBody s_law_cell_at) (defScope s_law_cell_at) .none kV2 dc2 pm2 an2 cd2 ct2), sl2⟩) (c2 : PySem.W.codeIn K cd2 "_law_cell_at" = true) (k2 : PySem.W.keepIn K (.ref f2) = true)
    {f3 : Addr} {od3 an3 : Option Addr} {sl3 : Array (Option Value)} {oc3 kV3 dc3 pm3 cd3 ct3 : Value}
    (a3 : PySem.W.nsIn K mainGlobals "_law_bag" = some (some (.ref f3))) (l3 : K.lookup f3 = some ⟨oc3, od3, .func (PySem.W.fnOf "_law_bag" "_law_bag" (defArgs s_law_bag) (defBody s_law_bag) (defScope s_law_bag) .none kV3 dc3 pm3 an3 cd3 ct3), sl3⟩) (c3 : PySem.W.codeIn K cd3 "_law_bag" = true) (k3 : PySem.W.keepIn K (.ref f3) = true)
    {f4 : Addr} {od4 an4 : Option Addr} {sl4 : Array (Option Value)} {oc4 kV4 dc4 pm4 cd4 ct4 : Value}
    (a4 : PySem.W.nsIn K mainGlobals "_law_draw" = some (some (.ref f4))) (l4 : K.lookup f4 = some ⟨oc4, od4, .func (PySem.W.fnOf "_law_draw" "_law_draw" (defArgs s_law_draw) (defBody s_law_draw) (defScope s_law_draw) .none kV4 dc4 pm4 an4 cd4 ct4), sl4⟩) (c4 : PySem.W.codeIn K cd4 "_law_draw" = true) (k4 : PySem.W.keepIn K (.ref f4) = true)
    {f5 : Addr} {od5 an5 : Option Addr} {sl5 : Array (Option Value)} {oc5 kV5 dc5 pm5 cd5 ct5 : Value}
    (a5 : PySem.W.nsIn K mainGlobals "_law_signs" = some (some (.ref f5))) (l5 : K.lookup f5 = some ⟨oc5, od5, .func (PySem.W.fnOf "_law_signs" "_law_signs" (defArgs s_law_signs) (defBody s_law_signs) (defScope s_law_signs) .none kV5 dc5 pm5 an5 cd5 ct5), sl5⟩) (c5 : PySem.W.codeIn K cd5 "_law_signs" = true) (k5 : PySem.W.keepIn K (.ref f5) = true)
    {f6 : Addr} {od6 an6 : Option Addr} {sl6 : Array (Option Value)} {oc6 kV6 dc6 pm6 cd6 ct6 : Value}
    (a6 : PySem.W.nsIn K mainGlobals "_law_text" = some (some (.ref f6))) (l6 : K.lookup f6 = some ⟨oc6, od6, .func (PySem.W.fnOf "_law_text" "_law_text" (defArgs s_law_text) (defBody s_law_text) (defScope s_law_text) .none kV6 dc6 pm6 an6 cd6 ct6), sl6⟩) (c6 : PySem.W.codeIn K cd6 "_law_text" = true) (k6 : PySem.W.keepIn K (.ref f6) = true)
    {f7 : Addr} {od7 an7 : Option Addr} {sl7 : Array (Option Value)} {oc7 kV7 dc7 pm7 cd7 ct7 : Value}
    (a7 : PySem.W.nsIn K mainGlobals "_law_name" = some (some (.ref f7))) (l7 : K.lookup f7 = some ⟨oc7, od7, .func (PySem.W.fnOf "_law_name" "_law_name" (defArgs s_law_name) (defBody s_law_name) (defScope s_law_name) .none kV7 dc7 pm7 an7 cd7 ct7), sl7⟩) (c7 : PySem.W.codeIn K cd7 "_law_name" = true) (k7 : PySem.W.keepIn K (.ref f7) = true)
    {f8 : Addr} {od8 an8 : Option Addr} {sl8 : Array (Option Value)} {oc8 kV8 dc8 pm8 cd8 ct8 : Value}
    (a8 : PySem.W.nsIn K mainGlobals "_law_key" = some (some (.ref f8))) (l8 : K.lookup f8 = some ⟨oc8, od8, .func (PySem.W.fnOf "_law_key" "_law_key" (defArgs s_law_key) (defBody s_law_key) (defScope s_law_key) .none kV8 dc8 pm8 an8 cd8 ct8), sl8⟩) (c8 : PySem.W.codeIn K cd8 "_law_key" = true) (k8 : PySem.W.keepIn K (.ref f8) = true)
    {f9 : Addr} {od9 an9 : Option Addr} {sl9 : Array (Option Value)} {oc9 kV9 dc9 pm9 cd9 ct9 : Value}
    (a9 : PySem.W.nsIn K mainGlobals "_law_ref" = some (some (.ref f9))) (l9 : K.lookup f9 = some ⟨oc9, od9, .func (PySem.W.fnOf "_law_ref" "_law_ref" (defArgs s_law_ref) (defBody s_law_ref) (defScope s_law_ref) .none kV9 dc9 pm9 an9 cd9 ct9), sl9⟩) (c9 : PySem.W.codeIn K cd9 "_law_ref" = true) (k9 : PySem.W.keepIn K (.ref f9) = true)
    {f10 : Addr} {od10 an10 : Option Addr} {sl10 : Array (Option Value)} {oc10 kV10 dc10 pm10 cd10 ct10 : Value}
    (a10 : PySem.W.nsIn K mainGlobals "_law_stem" = some (some (.ref f10))) (l10 : K.lookup f10 = some ⟨oc10, od10, .func (PySem.W.fnOf "_law_stem" "_law_stem" (defArgs s_law_stem) (defBody s_law_stem) (defScope s_law_stem) .none kV10 dc10 pm10 an10 cd10 ct10), sl10⟩) (c10 : PySem.W.codeIn K cd10 "_law_stem" = true) (k10 : PySem.W.keepIn K (.ref f10) = true)
    {f11 : Addr} {od11 an11 : Option Addr} {sl11 : Array (Option Value)} {oc11 kV11 dc11 pm11 cd11 ct11 : Value}
    (a11 : PySem.W.nsIn K mainGlobals "_law_beside" = some (some (.ref f11))) (l11 : K.lookup f11 = some ⟨oc11, od11, .func (PySem.W.fnOf "_law_beside" "_law_beside" (defArgs s_law_beside) (defBody s_law_beside) (defScope s_law_beside) .none kV11 dc11 pm11 an11 cd11 ct11), sl11⟩) (c11 : PySem.W.codeIn K cd11 "_law_beside" = true) (k11 : PySem.W.keepIn K (.ref f11) = true)
    {f12 : Addr} {od12 an12 : Option Addr} {sl12 : Array (Option Value)} {oc12 kV12 dc12 pm12 cd12 ct12 : Value}
    (a12 : PySem.W.nsIn K mainGlobals "law" = some (some (.ref f12))) (l12 : K.lookup f12 = some ⟨oc12, od12, .func (PySem.W.fnOf "law" "law" (defArgs s_law) (defBody s_law) (defScope s_law) .none kV12 dc12 pm12 an12 cd12 ct12), sl12⟩) (c12 : PySem.W.codeIn K cd12 "law" = true) (k12 : PySem.W.keepIn K (.ref f12) = true)
    (z_bool : PySem.W.nsIn K mainGlobals "bool" = some none)
    (z_isinstance : PySem.W.nsIn K mainGlobals "isinstance" = some none)
    (z_len : PySem.W.nsIn K mainGlobals "len" = some none)
    (z_max : PySem.W.nsIn K mainGlobals "max" = some none)
    (z_min : PySem.W.nsIn K mainGlobals "min" = some none)
    (z_range : PySem.W.nsIn K mainGlobals "range" = some none)
    (z_str : PySem.W.nsIn K mainGlobals "str" = some none)
    (z_tuple : PySem.W.nsIn K mainGlobals "tuple" = some none)
    : Txt K mg ⟨f0, PySem.W.fnOf "is_stem" "is_stem" (defArgs s_is_stem) (defBody s_is_stem) (defScope s_is_stem) .none kV0 dc0 pm0 an0 cd0 ct0, f1, PySem.W.fnOf "meet" "meet" (defArgs s_meet) (defBody s_meet) (defScope s_meet) .none kV1 dc1 pm1 an1 cd1 ct1, f2, PySem.W.fnOf "_law_cell_at" "_law_cell_at" (defArgs s_law_cell_at) (defBody s_law_cell_at) (defScope s_law_cell_at) .none kV2 dc2 pm2 an2 cd2 ct2, f3, PySem.W.fnOf "_law_bag" "_law_bag" (defArgs s_law_bag) (defBody s_law_bag) (defScope s_law_bag) .none kV3 dc3 pm3 an3 cd3 ct3, f4, PySem.W.fnOf "_law_draw" "_law_draw" (defArgs s_law_draw) (defBody s_law_draw) (defScope s_law_draw) .none kV4 dc4 pm4 an4 cd4 ct4, f5, PySem.W.fnOf "_law_signs" "_law_signs" (defArgs s_law_signs) (defBody s_law_signs) (defScope s_law_signs) .none kV5 dc5 pm5 an5 cd5 ct5, f6, PySem.W.fnOf "_law_text" "_law_text" (defArgs s_law_text) (defBody s_law_text) (defScope s_law_text) .none kV6 dc6 pm6 an6 cd6 ct6, f7, PySem.W.fnOf "_law_name" "_law_name" (defArgs s_law_name) (defBody s_law_name) (defScope s_law_name) .none kV7 dc7 pm7 an7 cd7 ct7, f8, PySem.W.fnOf "_law_key" "_law_key" (defArgs s_law_key) (defBody s_law_key) (defScope s_law_key) .none kV8 dc8 pm8 an8 cd8 ct8, f9, PySem.W.fnOf "_law_ref" "_law_ref" (defArgs s_law_ref) (defBody s_law_ref) (defScope s_law_ref) .none kV9 dc9 pm9 an9 cd9 ct9, f10, PySem.W.fnOf "_law_stem" "_law_stem" (defArgs s_law_stem) (defBody s_law_stem) (defScope s_law_stem) .none kV10 dc10 pm10 an10 cd10 ct10, f11, PySem.W.fnOf "_law_beside" "_law_beside" (defArgs s_law_beside) (defBody s_law_beside) (defScope s_law_beside) .none kV11 dc11 pm11 an11 cd11 ct11, f12, PySem.W.fnOf "law" "law" (defArgs s_law) (defBody s_law) (defScope s_law) .none kV12 dc12 pm12 an12 cd12 ct12⟩ where
  F_is_stem := fun_mk (st := s_is_stem) l0 c0 k0
  g_is_stem := PySem.W.mg_of X G a0
  b_is_stem := (fun_mk (st := s_is_stem) l0 c0 k0).binds (ps := ["one", "other"]) fun _ _ _ _ _ _ us hl => match us, hl with | [_, _], _ => rfl
  F_meet := fun_mk (st := s_meet) l1 c1 k1
  g_meet := PySem.W.mg_of X G a1
  b_meet := (fun_mk (st := s_meet) l1 c1 k1).binds (ps := ["one", "other"]) fun _ _ _ _ _ _ us hl => match us, hl with | [_, _], _ => rfl
  F_law_cell_at := fun_mk (st := s_law_cell_at) l2 c2 k2
  g_law_cell_at := PySem.W.mg_of X G a2
  b_law_cell_at := (fun_mk (st := s_law_cell_at) l2 c2 k2).binds (ps := ["script", "k"]) fun _ _ _ _ _ _ us hl => match us, hl with | [_, _], _ => rfl
  F_law_bag := fun_mk (st := s_law_bag) l3 c3 k3
  g_law_bag := PySem.W.mg_of X G a3
  b_law_bag := (fun_mk (st := s_law_bag) l3 c3 k3).binds (ps := ["cell", "nth"]) fun _ _ _ _ _ _ us hl => match us, hl with | [_, _], _ => rfl
  F_law_draw := fun_mk (st := s_law_draw) l4 c4 k4
  g_law_draw := PySem.W.mg_of X G a4
  b_law_draw := (fun_mk (st := s_law_draw) l4 c4 k4).binds (ps := ["bag", "many"]) fun _ _ _ _ _ _ us hl => match us, hl with | [_, _], _ => rfl
  F_law_signs := fun_mk (st := s_law_signs) l5 c5 k5
  g_law_signs := PySem.W.mg_of X G a5
  b_law_signs := (fun_mk (st := s_law_signs) l5 c5 k5).binds (ps := []) fun _ _ _ _ _ _ us hl => match us, hl with | [], _ => rfl
  F_law_text := fun_mk (st := s_law_text) l6 c6 k6
  g_law_text := PySem.W.mg_of X G a6
  b_law_text := (fun_mk (st := s_law_text) l6 c6 k6).binds (ps := ["bag", "most"]) fun _ _ _ _ _ _ us hl => match us, hl with | [_, _], _ => rfl
  F_law_name := fun_mk (st := s_law_name) l7 c7 k7
  g_law_name := PySem.W.mg_of X G a7
  b_law_name := (fun_mk (st := s_law_name) l7 c7 k7).binds (ps := ["bag"]) fun _ _ _ _ _ _ us hl => match us, hl with | [_], _ => rfl
  F_law_key := fun_mk (st := s_law_key) l8 c8 k8
  g_law_key := PySem.W.mg_of X G a8
  b_law_key := (fun_mk (st := s_law_key) l8 c8 k8).binds (ps := ["bag"]) fun _ _ _ _ _ _ us hl => match us, hl with | [_], _ => rfl
  F_law_ref := fun_mk (st := s_law_ref) l9 c9 k9
  g_law_ref := PySem.W.mg_of X G a9
  b_law_ref := (fun_mk (st := s_law_ref) l9 c9 k9).binds (ps := ["bag"]) fun _ _ _ _ _ _ us hl => match us, hl with | [_], _ => rfl
  F_law_stem := fun_mk (st := s_law_stem) l10 c10 k10
  g_law_stem := PySem.W.mg_of X G a10
  b_law_stem := (fun_mk (st := s_law_stem) l10 c10 k10).binds (ps := ["one", "other"]) fun _ _ _ _ _ _ us hl => match us, hl with | [_, _], _ => rfl
  F_law_beside := fun_mk (st := s_law_beside) l11 c11 k11
  g_law_beside := PySem.W.mg_of X G a11
  b_law_beside := (fun_mk (st := s_law_beside) l11 c11 k11).binds (ps := ["bag", "ref"]) fun _ _ _ _ _ _ us hl => match us, hl with | [_, _], _ => rfl
  F_law := fun_mk (st := s_law) l12 c12 k12
  g_law := PySem.W.mg_of X G a12
  b_law := (fun_mk (st := s_law) l12 c12 k12).binds (ps := ["script"]) fun _ _ _ _ _ _ us hl => match us, hl with | [_], _ => rfl
  n_bool := PySem.W.mg_none_of X G z_bool
  n_isinstance := PySem.W.mg_none_of X G z_isinstance
  n_len := PySem.W.mg_none_of X G z_len
  n_max := PySem.W.mg_none_of X G z_max
  n_min := PySem.W.mg_none_of X G z_min
  n_range := PySem.W.mg_none_of X G z_range
  n_str := PySem.W.mg_none_of X G z_str
  n_tuple := PySem.W.mg_none_of X G z_tuple
theorem all_mk {l : PySem.W.OpenLaw} {w : World} {K : PySem.W.Frag} {h : Heap} {mg : Str → Option Value} {fa : Addr} (X : K.In h) (G : h.Ns mainGlobals mg) (hfa : mg "law" = some (.ref fa))
    {f0 : Addr} {od0 an0 : Option Addr} {sl0 : Array (Option Value)} {oc0 kV0 dc0 pm0 cd0 ct0 : Value}
    (a0 : PySem.W.nsIn K mainGlobals "is_stem" = some (some (.ref f0))) (l0 : K.lookup f0 = some ⟨oc0, od0, .func (PySem.W.fnOf "is_stem" "is_stem" (defArgs s_is_stem) (defBody s_is_stem) (defScope s_is_stem) .none kV0 dc0 pm0 an0 cd0 ct0), sl0⟩) (c0 : PySem.W.codeIn K cd0 "is_stem" = true) (k0 : PySem.W.keepIn K (.ref f0) = true)
    {f1 : Addr} {od1 an1 : Option Addr} {sl1 : Array (Option Value)} {oc1 kV1 dc1 pm1 cd1 ct1 : Value}
    (a1 : PySem.W.nsIn K mainGlobals "meet" = some (some (.ref f1))) (l1 : K.lookup f1 = some ⟨oc1, od1, .func (PySem.W.fnOf "meet" "meet" (defArgs s_meet) (defBody s_meet) (defScope s_meet) .none kV1 dc1 pm1 an1 cd1 ct1), sl1⟩) (c1 : PySem.W.codeIn K cd1 "meet" = true) (k1 : PySem.W.keepIn K (.ref f1) = true)
    {f2 : Addr} {od2 an2 : Option Addr} {sl2 : Array (Option Value)} {oc2 kV2 dc2 pm2 cd2 ct2 : Value}
    (a2 : PySem.W.nsIn K mainGlobals "_law_cell_at" = some (some (.ref f2))) (l2 : K.lookup f2 = some ⟨oc2, od2, .func (PySem.W.fnOf "_law_cell_at" "_law_cell_at" (defArgs s_law_cell_at) (defBody s_law_cell_at) (defScope s_law_cell_at) .none kV2 dc2 pm2 an2 cd2 ct2), sl2⟩) (c2 : PySem.W.codeIn K cd2 "_law_cell_at" = true) (k2 : PySem.W.keepIn K (.ref f2) = true)
    {f3 : Addr} {od3 an3 : Option Addr} {sl3 : Array (Option Value)} {oc3 kV3 dc3 pm3 cd3 ct3 : Value}
    (a3 : PySem.W.nsIn K mainGlobals "_law_bag" = some (some (.ref f3))) (l3 : K.lookup f3 = some ⟨oc3, od3, .func (PySem.W.fnOf "_law_bag" "_law_bag" (defArgs s_law_bag) (defBody s_law_bag) (defScope s_law_bag) .none kV3 dc3 pm3 an3 cd3 ct3), sl3⟩) (c3 : PySem.W.codeIn K cd3 "_law_bag" = true) (k3 : PySem.W.keepIn K (.ref f3) = true)
    {f4 : Addr} {od4 an4 : Option Addr} {sl4 : Array (Option Value)} {oc4 kV4 dc4 pm4 cd4 ct4 : Value}
    (a4 : PySem.W.nsIn K mainGlobals "_law_draw" = some (some (.ref f4))) (l4 : K.lookup f4 = some ⟨oc4, od4, .func (PySem.W.fnOf "_law_draw" "_law_draw" (defArgs s_law_draw) (defBody s_law_draw) (defScope s_law_draw) .none kV4 dc4 pm4 an4 cd4 ct4), sl4⟩) (c4 : PySem.W.codeIn K cd4 "_law_draw" = true) (k4 : PySem.W.keepIn K (.ref f4) = true)
    {f5 : Addr} {od5 an5 : Option Addr} {sl5 : Array (Option Value)} {oc5 kV5 dc5 pm5 cd5 ct5 : Value}
    (a5 : PySem.W.nsIn K mainGlobals "_law_signs" = some (some (.ref f5))) (l5 : K.lookup f5 = some ⟨oc5, od5, .func (PySem.W.fnOf "_law_signs" "_law_signs" (defArgs s_law_signs) (defBody s_law_signs) (defScope s_law_signs) .none kV5 dc5 pm5 an5 cd5 ct5), sl5⟩) (c5 : PySem.W.codeIn K cd5 "_law_signs" = true) (k5 : PySem.W.keepIn K (.ref f5) = true)
    {f6 : Addr} {od6 an6 : Option Addr} {sl6 : Array (Option Value)} {oc6 kV6 dc6 pm6 cd6 ct6 : Value}
    (a6 : PySem.W.nsIn K mainGlobals "_law_text" = some (some (.ref f6))) (l6 : K.lookup f6 = some ⟨oc6, od6, .func (PySem.W.fnOf "_law_text" "_law_text" (defArgs s_law_text) (defBody s_law_text) (defScope s_law_text) .none kV6 dc6 pm6 an6 cd6 ct6), sl6⟩) (c6 : PySem.W.codeIn K cd6 "_law_text" = true) (k6 : PySem.W.keepIn K (.ref f6) = true)
    {f7 : Addr} {od7 an7 : Option Addr} {sl7 : Array (Option Value)} {oc7 kV7 dc7 pm7 cd7 ct7 : Value}
    (a7 : PySem.W.nsIn K mainGlobals "_law_name" = some (some (.ref f7))) (l7 : K.lookup f7 = some ⟨oc7, od7, .func (PySem.W.fnOf "_law_name" "_law_name" (defArgs s_law_name) (defBody s_law_name) (defScope s_law_name) .none kV7 dc7 pm7 an7 cd7 ct7), sl7⟩) (c7 : PySem.W.codeIn K cd7 "_law_name" = true) (k7 : PySem.W.keepIn K (.ref f7) = true)
    {f8 : Addr} {od8 an8 : Option Addr} {sl8 : Array (Option Value)} {oc8 kV8 dc8 pm8 cd8 ct8 : Value}
    (a8 : PySem.W.nsIn K mainGlobals "_law_key" = some (some (.ref f8))) (l8 : K.lookup f8 = some ⟨oc8, od8, .func (PySem.W.fnOf "_law_key" "_law_key" (defArgs s_law_key) (defBody s_law_key) (defScope s_law_key) .none kV8 dc8 pm8 an8 cd8 ct8), sl8⟩) (c8 : PySem.W.codeIn K cd8 "_law_key" = true) (k8 : PySem.W.keepIn K (.ref f8) = true)
    {f9 : Addr} {od9 an9 : Option Addr} {sl9 : Array (Option Value)} {oc9 kV9 dc9 pm9 cd9 ct9 : Value}
    (a9 : PySem.W.nsIn K mainGlobals "_law_ref" = some (some (.ref f9))) (l9 : K.lookup f9 = some ⟨oc9, od9, .func (PySem.W.fnOf "_law_ref" "_law_ref" (defArgs s_law_ref) (defBody s_law_ref) (defScope s_law_ref) .none kV9 dc9 pm9 an9 cd9 ct9), sl9⟩) (c9 : PySem.W.codeIn K cd9 "_law_ref" = true) (k9 : PySem.W.keepIn K (.ref f9) = true)
    {f10 : Addr} {od10 an10 : Option Addr} {sl10 : Array (Option Value)} {oc10 kV10 dc10 pm10 cd10 ct10 : Value}
    (a10 : PySem.W.nsIn K mainGlobals "_law_stem" = some (some (.ref f10))) (l10 : K.lookup f10 = some ⟨oc10, od10, .func (PySem.W.fnOf "_law_stem" "_law_stem" (defArgs s_law_stem) (defBody s_law_stem) (defScope s_law_stem) .none kV10 dc10 pm10 an10 cd10 ct10), sl10⟩) (c10 : PySem.W.codeIn K cd10 "_law_stem" = true) (k10 : PySem.W.keepIn K (.ref f10) = true)
    {f11 : Addr} {od11 an11 : Option Addr} {sl11 : Array (Option Value)} {oc11 kV11 dc11 pm11 cd11 ct11 : Value}
    (a11 : PySem.W.nsIn K mainGlobals "_law_beside" = some (some (.ref f11))) (l11 : K.lookup f11 = some ⟨oc11, od11, .func (PySem.W.fnOf "_law_beside" "_law_beside" (defArgs s_law_beside) (defBody s_law_beside) (defScope s_law_beside) .none kV11 dc11 pm11 an11 cd11 ct11), sl11⟩) (c11 : PySem.W.codeIn K cd11 "_law_beside" = true) (k11 : PySem.W.keepIn K (.ref f11) = true)
    {f12 : Addr} {od12 an12 : Option Addr} {sl12 : Array (Option Value)} {oc12 kV12 dc12 pm12 cd12 ct12 : Value}
    (a12 : PySem.W.nsIn K mainGlobals "law" = some (some (.ref f12))) (l12 : K.lookup f12 = some ⟨oc12, od12, .func (PySem.W.fnOf "law" "law" (defArgs s_law) (defBody s_law) (defScope s_law) .none kV12 dc12 pm12 an12 cd12 ct12), sl12⟩) (c12 : PySem.W.codeIn K cd12 "law" = true) (k12 : PySem.W.keepIn K (.ref f12) = true)
    (z_bool : PySem.W.nsIn K mainGlobals "bool" = some none)
    (z_isinstance : PySem.W.nsIn K mainGlobals "isinstance" = some none)
    (z_len : PySem.W.nsIn K mainGlobals "len" = some none)
    (z_max : PySem.W.nsIn K mainGlobals "max" = some none)
    (z_min : PySem.W.nsIn K mainGlobals "min" = some none)
    (z_range : PySem.W.nsIn K mainGlobals "range" = some none)
    (z_str : PySem.W.nsIn K mainGlobals "str" = some none)
    (z_tuple : PySem.W.nsIn K mainGlobals "tuple" = some none)
    : ∃ fd : FuncData, (∀ (s : Shared) (v : Value), BindsTo s fd ⟨[v], []⟩ [("script", v)]) ∧ ∀ base : Heap, K.In base → base.Ns mainGlobals mg → FnOk l.prog w K mg base CX0 6 fa fd ["script"] (spLaw K) := by
  have e := hfa.symm.trans (PySem.W.mg_of X G a12)
  cases e
  have T := txt_mk X G a0 l0 c0 k0 a1 l1 c1 k1 a2 l2 c2 k2 a3 l3 c3 k3 a4 l4 c4 k4 a5 l5 c5 k5 a6 l6 c6 k6 a7 l7 c7 k7 a8 l8 c8 k8 a9 l9 c9 k9 a10 l10 c10 k10 a11 l11 c11 k11 a12 l12 c12 k12 z_bool z_isinstance z_len z_max z_min z_range z_str z_tuple
  exact ⟨_, fun s v => .of_eq rfl, fun base _ _ => ok_law T⟩
end Sk
open PySem PySem.W PyProof.Rows
set_option maxHeartbeats 0 in
theorem PySem.Challenge.cw_stemkeep_k04_stems_holds : PySem.Challenge.rw_stemkeep_k04_stems.Holds := by
  w_on; o_law; k_head; (case hw => w_witness2)
  k_fill
  refine L2.walk_ofB (l := PySem.Challenge.rw_stemkeep_k04_stems) (n := 63) (k := 6) (x := "script") (CX := fun _ => L2.CX0) (sp := fun w => Sk.spLaw _) rfl (by decide) rfl ⟨rfl, by decide, by decide⟩ (fun w h Y => PySem.W.kIn_of Y) ?F (fun _ H a ns hl hb hO hS => Sk.spLaw_start hl hb hO hS) (fun _ _ _ _ _ h => h)
  case F =>
    intro w mg fa h KX G hmg
    refine' Sk.all_mk KX G hmg ?a0 ?l0 ?c0 ?k0 ?a1 ?l1 ?c1 ?k1 ?a2 ?l2 ?c2 ?k2 ?a3 ?l3 ?c3 ?k3 ?a4 ?l4 ?c4 ?k4 ?a5 ?l5 ?c5 ?k5 ?a6 ?l6 ?c6 ?k6 ?a7 ?l7 ?c7 ?k7 ?a8 ?l8 ?c8 ?k8 ?a9 ?l9 ?c9 ?k9 ?a10 ?l10 ?c10 ?k10 ?a11 ?l11 ?c11 ?k11 ?a12 ?l12 ?c12 ?k12 ?z_bool ?z_isinstance ?z_len ?z_max ?z_min ?z_range ?z_str ?z_tuple
    (case a0 => k_is); (case l0 => k_is); (case c0 => k_is); (case k0 => k_is); (case a1 => k_is); (case l1 => k_is); (case c1 => k_is); (case k1 => k_is); (case a2 => k_is); (case l2 => k_is); (case c2 => k_is); (case k2 => k_is); (case a3 => k_is); (case l3 => k_is); (case c3 => k_is); (case k3 => k_is); (case a4 => k_is); (case l4 => k_is); (case c4 => k_is); (case k4 => k_is); (case a5 => k_is); (case l5 => k_is); (case c5 => k_is); (case k5 => k_is); (case a6 => k_is); (case l6 => k_is); (case c6 => k_is); (case k6 => k_is); (case a7 => k_is); (case l7 => k_is); (case c7 => k_is); (case k7 => k_is); (case a8 => k_is); (case l8 => k_is); (case c8 => k_is); (case k8 => k_is); (case a9 => k_is); (case l9 => k_is); (case c9 => k_is); (case k9 => k_is); (case a10 => k_is); (case l10 => k_is); (case c10 => k_is); (case k10 => k_is); (case a11 => k_is); (case l11 => k_is); (case c11 => k_is); (case k11 => k_is); (case a12 => k_is); (case l12 => k_is); (case c12 => k_is); (case k12 => k_is); (case z_bool => k_is); (case z_isinstance => k_is); (case z_len => k_is); (case z_max => k_is); (case z_min => k_is); (case z_range => k_is); (case z_str => k_is); (case z_tuple => k_is)
