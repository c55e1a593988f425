import PyProof.Rows.All
import Wide.All
import OpenK.AllK
import Wide.FinOn
import HandS.ForMost
import HandS.EndBits
import HandS.Wide
import HandS.TupAny
import HandS.IsInst
import HandS.Evl
import HandS.Steps
import KE.Datum
import KE.IntTextLaws
import KE.IntTextText
import HandS.Style
import HandS.TupLe
import HandS.SortKw
import HandS.Keys
import KE.SortKeyHeap
import KE.SortData
import HandS.Defaults
import KE.DatumMoreOrd
import HandS.TupMul
import HandS.Dict
import KE.KDictKeyed
import HandS.Iter
import HandS.Walk
import HandS.TupLen
import HandS.SetTxt0
import HandS.SetBool
import HandS.SetFor
import HandS.More
import HandS.Replace
import HandS.DictComp
import HandS.EndTab
import HandS.Conv
import HandS.TryOnly
import HandS.SetKeys
import HandS.Strs
import KE.LtData
import HandS.Zip
import KE.KUnpackStar
import HandS.Finally
import HandS.ExcOwn
import HandS.ExcInit
import HandS.ExcField
import HandS.WordsExc
import HandS.CallSlots
import HandS.Comp
import PySem.Challenge.RW_stemkeep_k35_places_told
set_option Elab.async false
set_option linter.all false
set_option maxRecDepth 100000
set_option maxHeartbeats 4000000
namespace Sk
open PySem PySem.Spec PyProof.Rows L2
def CPowW (i j : Int) : Prop := 0 ≤ j ∧ j ≤ 1000 ∧ i.natAbs < 2 ^ 4096
theorem op_powW {X : Cx} : OpR X (binaryOp .Pow) (rI CPowW fun i j => .int (i ^ j.toNat)) := opI fun i j _ _ _ _ _ hc q => by
  obtain ⟨h0, h1, h2⟩ := hc
  refine pow_int h0 ?_ q
  have b : Builtin.Int.intBits i ≤ 4096 := by
    have h3 := PySem.Flt.log2_lt_of (n := i.natAbs) (by decide : 0 < 4096) h2
    unfold Builtin.Int.intBits
    split <;> omega
  have b2 : (Builtin.Int.intBits i : Int) ≤ 4096 := by omega
  have b3 : (Builtin.Int.intBits i : Int) * j ≤ 4096 * 1000 := Int.mul_le_mul b2 h1 h0 (by decide)
  omega
section
variable {X : Cx}
theorem k_ix_list (K : PySem.W.Frag) (e : X.K = K := by rfl) : IxR X (rIxL K) := by subst e; exact ix_list
theorem k_ix_tup (K : PySem.W.Frag) (e : X.K = K := by rfl) : IxR X (rIxT K) := by subst e; exact ix_tup
theorem k_sl_list (K : PySem.W.Frag) (e : X.K = K := by rfl) : SlR X (rSlL K) := by subst e; exact sl_list
theorem k_sl_tup (K : PySem.W.Frag) (e : X.K = K := by rfl) : SlR X (rSlA K) := by subst e; exact sl_tupA
theorem k_len (K : PySem.W.Frag) (e : X.K = K := by rfl) : CallR X (.builtin "len") (Evl.rLenS K) := by subst e; exact call_len_seq
theorem k_catA (K : PySem.W.Frag) (e : X.K = K := by rfl) : OpR X (binaryOp .Add) (rCatA K) := by subst e; exact op_catA
theorem k_in (K : PySem.W.Frag) (e : X.K = K := by rfl) : OpR X (compareOp .In) (rIn K false) := by subst e; exact op_in_seq
theorem k_notIn (K : PySem.W.Frag) (e : X.K = K := by rfl) : OpR X (compareOp .NotIn) (rIn K true) := by subst e; exact op_notIn_seq
def rTupOf (K : PySem.W.Frag) : List V → Hp → VK → Prop := fun xs H Q => ∃ p ys, xs = [.ref p] ∧ ((SqL K H p ys ∧ ∀ l, H l = none → Q (.ref l) (upd H l (.tup ys))) ∨ (SqT K H p ys ∧ Q (.ref p) H))
theorem k_tuple (K : PySem.W.Frag) (e : X.K = K := by rfl) : CallR X (.type "tuple") (rTupOf K) := by subst e; exact call_tuple_of
theorem k_isi (K : PySem.W.Frag) (e : X.K = K := by rfl) : CallR X (.builtin "isinstance") (rIsi K) := by subst e; exact call_isi
theorem k_all (K : PySem.W.Frag) (hc : X.calm = true := by rfl) (e : X.K = K := by rfl) : CallR X (.builtin "all") (rAll K) := by subst e; exact cr_all hc
def rJoin (K : PySem.W.Frag) : V → List V → Hp → VK → Prop := fun x xs H Q => ∃ a p, ∃ ys : List Str, x = .str a ∧ xs = [.ref p] ∧ (SqL K H p (ys.map V.str) ∨ SqT K H p (ys.map V.str)) ∧
  (ys.map (·.length)).sum + ys.length * a.length ≤ 16777216 ∧ Q (.str (Txt.join a ys)) H
theorem k_mt_join (K : PySem.W.Frag) (e : X.K = K := by rfl) : MtR X "str.join" (rJoin K) := by subst e; exact mt_join
theorem k_pi_list (K : PySem.W.Frag) {tg l : Expr} {tl : TE} (hl : PE X l tl) (e : X.K = K := by rfl) : PI X tg l (iList K tl) := by subst e; exact pi_list hl
theorem k_pi_tup (K : PySem.W.Frag) {tg l : Expr} {tl : TE} (hl : PE X l tl) (e : X.K = K := by rfl) : PI X tg l (iTup K tl) := by subst e; exact pi_tup hl
end
def Chg (b : Addr) (H H' : Hp) : Prop := ∀ a o, a ≠ b → H a = some o → H' a = some o
theorem Chg.refl (b : Addr) (H : Hp) : Chg b H H := fun _ _ _ h => h
theorem Chg.trans {b : Addr} {H H1 H2 : Hp} (a : Chg b H H1) (c : Chg b H1 H2) : Chg b H H2 := fun x o n h => c x o n (a x o n h)
theorem Chg.upd {b : Addr} {H : Hp} {o : HO} : Chg b H (upd H b o) := fun a u n h => by rw [upd_ne n]; exact h
theorem Chg.new {b p : Addr} {H : Hp} {o : HO} (h : H p = none) : Chg b H (L2.upd H p o) := fun a u n e => by rw [upd_ne (ne_of_none e h)]; exact e
theorem Chg.same {b : Addr} {H H' : Hp} (h : Same H H') : Chg b H H' := fun a o _ e => h a o e
theorem same_new {H : Hp} {p : Addr} {o : HO} (h : H p = none) : Same H (upd H p o) := fun b u e => by
  rw [upd_ne (ne_of_none e h)]
  exact e
def BagAt (N : Nat) (b : Addr) (H : Hp) : Prop := ∃ x y z : Int, H b = some (.lst [.int x, .int y, .int z]) ∧ 0 ≤ y ∧ y < 2 ^ 139 ∧ 0 ≤ z ∧ z ≤ (N : Int)
theorem BagAt.mono {N M : Nat} {b : Addr} {H : Hp} (h : BagAt N b H) (l : N ≤ M) : BagAt M b H := by
  obtain ⟨x, y, z, e, a, c, d, f⟩ := h
  exact ⟨x, y, z, e, a, c, d, by omega⟩
theorem BagAt.same {N : Nat} {b : Addr} {H H' : Hp} (h : BagAt N b H) (s : Same H H') : BagAt N b H' := by
  obtain ⟨x, y, z, e, r⟩ := h
  exact ⟨x, y, z, s _ _ e, r⟩
theorem BagAt.chg {N : Nat} {b c : Addr} {H H' : Hp} (h : BagAt N b H) (s : Chg c H H') (n : b ≠ c) : BagAt N b H' := by
  obtain ⟨x, y, z, e, r⟩ := h
  exact ⟨x, y, z, s _ _ n e, r⟩
theorem BagAt.new {N : Nat} {b p : Addr} {H : Hp} {o : HO} (h : BagAt N b H) (n : H p = none) : BagAt N b (upd H p o) := h.same (same_new n)
theorem BagAt.ne {N : Nat} {b p : Addr} {H : Hp} (h : BagAt N b H) (n : H p = none) : b ≠ p := by
  obtain ⟨x, y, z, e, _⟩ := h
  exact ne_of_none e n
theorem BagAt.neT {N : Nat} {b a : Addr} {H : Hp} {xs : List V} (h : BagAt N b H) (e : H a = some (.tup xs)) : a ≠ b := by
  obtain ⟨x, y, z, e2, _⟩ := h
  exact ne_of e e2 (by intro z; cases z)
theorem BagAt.rd {K : PySem.W.Frag} {N : Nat} {b : Addr} {H : Hp} (h : BagAt N b H) : ∃ xs, SqL K H b xs := by
  obtain ⟨x, y, z, e, _⟩ := h
  exact ⟨_, .inl (.inl e)⟩
/-- a draw: some number below m, the bag one turn older -/
def spDraw : Sp := fun vs H Q _ => ∃ (b : Addr) (m : Int) (N : Nat), vs = [.ref b, .int m] ∧ 0 < m ∧ m < 2 ^ 256 ∧ N < 2 ^ 60 ∧ BagAt N b H ∧
  ∀ (H' : Hp) (r : Int), Chg b H H' → BagAt (N + 1) b H' → 0 ≤ r → r < m → Q (.int r) H'
theorem div_ok {m : Int} (h : 0 < m) (l : m < 2 ^ 256) : CDivW 0 m := wide_div (b := 256) h (by omega) (by decide) (by decide)
theorem pow_ok {i : Int} (h0 : 0 ≤ i) (h : i < 2 ^ 140) : CPowW i 3 := ⟨by decide, by decide, by
  have h1 : i.natAbs < 2 ^ 140 := by omega
  exact Nat.lt_of_lt_of_le h1 (Nat.pow_le_pow_right (by decide) (by decide))⟩
theorem mul_ok {i j : Int} (h0 : i.natAbs < 2 ^ 256) (h : j.natAbs < 2 ^ 256) : CMulW i j := wide_mul h0 h (by decide) (by decide) (by decide)
end Sk
namespace Sk
open PySem PySem.Spec PyProof.Rows L2
abbrev tl (s : Str) : List Nat := s.cps.toList
def Wc (c : Nat) : Prop := 32 ≤ c ∧ c ≤ 126 ∧ c ≠ 37
instance (c : Nat) : Decidable (Wc c) := by unfold Wc; infer_instance
def WorthS (s : Str) : Prop := ∀ c ∈ tl s, Wc c
instance (s : Str) : Decidable (WorthS s) := by unfold WorthS; infer_instance
def lawSigns : Str := Str.ofString " !\"#$&'()*+,-./0123456789:;<=>?@ABCDEFGHIJKLMNOPQRSTUVWXYZ[\\]^_`abcdefghijklmnopqrstuvwxyz{|}~"
theorem lawSigns_worth : WorthS lawSigns := by decide +kernel
theorem lawSigns_mem {c : Nat} : c ∈ tl lawSigns ↔ Wc c := by
  constructor
  · exact fun h => lawSigns_worth c h
  · intro h
    have h1 : c < 127 := by have := h.2.1; omega
    have key : ∀ d < 127, Wc d → d ∈ tl lawSigns := by decide +kernel
    exact key c h1 h
theorem len_tl (s : Str) : s.length = (tl s).length := by simp [Str.length, tl]
theorem tl_inj {a b : Str} (h : tl a = tl b) : a = b := by
  obtain ⟨a⟩ := a
  obtain ⟨b⟩ := b
  exact congrArg Str.mk (Array.toList_inj.mp h)
theorem tl_cat (a b : Str) : tl (a ++ b) = tl a ++ tl b := TL.tl_append a b
theorem joinL_nil : ∀ l : List (List Nat), TL.joinL [] l = l.flatten
  | [] => rfl
  | [p] => by simp [TL.joinL]
  | p :: q :: r => by
    show p ++ ([] ++ TL.joinL [] (q :: r)) = _
    rw [joinL_nil (q :: r)]
    simp
theorem tl_join0 {e : Str} (he : tl e = []) (ys : List Str) : tl (Txt.join e ys) = (ys.map tl).flatten := by
  have h := TL.tl_join e ys
  rw [show Txt.join e ys = Str.join e ys from TL.join_eq e ys]
  exact h.trans (by
    show TL.joinL (tl e) (ys.map tl) = _
    rw [he, joinL_nil])
theorem empty_tl : tl (Str.ofString "") = [] := by decide +kernel
theorem worth_join {e : Str} (he : tl e = []) {ys : List Str} (h : ∀ y ∈ ys, WorthS y) : WorthS (Txt.join e ys) := by
  intro c hc
  rw [tl_join0 he, List.mem_flatten] at hc
  obtain ⟨l, hl, hc⟩ := hc
  obtain ⟨y, hy, rfl⟩ := List.mem_map.mp hl
  exact h y hy c hc
theorem len_join1 {e : Str} (he : tl e = []) {ys : List Str} (h : ∀ y ∈ ys, y.length = 1) : (Txt.join e ys).length = ys.length := by
  rw [len_tl, tl_join0 he]
  induction ys with
  | nil => rfl
  | cons y r ih =>
    rw [List.map_cons, List.flatten_cons, List.length_append, ih (fun z hz => h z (List.mem_cons_of_mem _ hz)), ← len_tl, h y List.mem_cons_self, List.length_cons]
    omega
theorem cut_to (z : Str) {m : Int} (h : 0 ≤ m) : tl (cutS z none (some m)) = (tl z).take m.toNat := by
  obtain ⟨n, rfl⟩ : ∃ n : Nat, m = (n : Int) := ⟨m.toNat, by omega⟩
  show ((z.cps.toList.drop (HT.sIx z.length 0 none)).take (HT.sIx z.length z.length (some (n : Int)) - HT.sIx z.length 0 none)) = _
  rw [HT.sIx_none, HT.sIx_nat, List.drop_zero, Nat.sub_zero, len_tl, Int.toNat_natCast, List.take_eq_take_iff]
  show min (min n (tl z).length) (tl z).length = min n (tl z).length
  omega
theorem len_cut (z : Str) {m : Int} (h0 : 0 ≤ m) : ((cutS z none (some m)).length : Int) ≤ m := by
  rw [len_tl, cut_to z h0, List.length_take]
  omega
theorem worth_int (i : Int) : WorthS (Str.ofString (toString i)) := by
  intro c hc
  refine Decidable.byContradiction fun hn => ?_
  have h2 : c ≠ 45 ∧ (c < 48 ∨ 57 < c) := by
    unfold Wc at hn
    omega
  exact PyProof.Rows.int_text_free' c h2 i hc
/-- an item of a list that is as long as the draw's bound -/
theorem at_lt {α : Type} {xs : List α} {r : Int} (h0 : 0 ≤ r) (h : r < xs.length) : ∃ v, v ∈ xs ∧ atI xs r = some v := by
  obtain ⟨n, rfl⟩ : ∃ n : Nat, r = (n : Int) := ⟨r.toNat, by omega⟩
  have hn : n < xs.length := by omega
  exact ⟨xs[n], List.getElem_mem hn, atI_nat (List.getElem?_eq_getElem hn)⟩
theorem at_map {α : Type} {xs : List α} (f : α → V) {r : Int} (h0 : 0 ≤ r) (h : r < xs.length) : ∃ v, v ∈ xs ∧ atI (xs.map f) r = some (f v) := by
  obtain ⟨n, rfl⟩ : ∃ n : Nat, r = (n : Int) := ⟨r.toNat, by omega⟩
  have hn : n < xs.length := by omega
  exact ⟨xs[n], List.getElem_mem hn, atI_nat (by rw [List.getElem?_map, List.getElem?_eq_getElem hn]; rfl)⟩
def spCell (K : PySem.W.Frag) : Sp := fun vs H Q _ => ∃ (a : Addr) (ns : List Int) (k : Int), vs = [.ref a, .int k] ∧ SqL K H a (ns.map V.int) ∧ 0 ≤ k ∧ ∀ r : Int, Q (.int r) H
end Sk
namespace Sk
open PySem PySem.Spec PyProof.Rows L2
theorem Chg.mut {b p : Addr} {H H' : Hp} {o : HO} (c : Chg b H H') (n : H p = none) : Chg b H (L2.upd H' p o) := fun a u h e => by
  rw [upd_ne (ne_of_none e n)]
  exact c a u h e
theorem BagAt.mut {N : Nat} {b p : Addr} {H' : Hp} {o : HO} (h : BagAt N b H') (n : b ≠ p) : BagAt N b (upd H' p o) := by
  obtain ⟨x, y, z, e, r⟩ := h
  exact ⟨x, y, z, by rw [upd_ne n]; exact e, r⟩
section
variable {K : PySem.W.Frag} {σ : L2.St} {H : Hp} {Q : VK} {E : XK} {b : Addr} {N : Nat}
theorem rd_draw {te : TE} {i : Nat} {m : Int} (hi : σ[i]? = some (some (.ref b))) (he : ∀ R : VK, R (.int m) H → te σ H R) (m0 : 0 < m) (m1 : m < 2 ^ 256) (hN : N < 2 ^ 60) (hB : BagAt N b H)
    (q : ∀ H' r, Chg b H H' → BagAt (N + 1) b H' → 0 ≤ r → r < m → Q (.int r) H') : tCall spDraw [] E (tCons (tVar i) (tCons te tNil)) σ H Q :=
  ⟨_, hi, he _ ⟨b, m, N, rfl, m0, m1, hN, hB, q⟩⟩
theorem rd_menu {ta : TA} {xs : List V} {i : Nat} {k : Int} (ha : ∀ R : List V → Hp → Prop, R xs H → ta σ H R) (hi : σ[i]? = some (some (.ref b))) (hk : k = xs.length) (h0 : 0 < xs.length) (h1 : xs.length < 1000) (hN : N < 2 ^ 60) (hB : BagAt N b H)
    (q : ∀ H' v, v ∈ xs → Chg b H H' → BagAt (N + 1) b H' → Q v H') : tOp (rIxL K) (tLst ta) (tCall spDraw [] E (tCons (tVar i) (tCons (tC (.int k)) tNil))) σ H Q := by
  refine ha _ ⟨Nat.le_of_lt (small1000 (by omega)), fun p hp => ?_⟩
  refine ⟨_, hi, b, k, N, rfl, by omega, by omega, hN, hB.new hp, fun H1 r c1 B1 r0 r1 => ?_⟩
  obtain ⟨v, hv, e⟩ := at_lt (xs := xs) r0 (by omega)
  have hp1 : H1 p = some (.lst xs) := c1 _ _ (hB.ne hp).symm upd_same
  exact ⟨p, xs, r, v, rfl, rfl, .inl (.inl hp1), e, q H1 v hv ((Chg.new hp).trans c1) B1⟩
theorem wipe1 {σ : L2.St} {k : Nat} {x : V} : wipe ((wipe σ [k]).set k (some x)) [k] = wipe σ [k] := by
  show ((σ.set k none).set k (some x)).set k none = σ.set k none
  rw [List.set_set, List.set_set]
/-- [elt for k in range(n)], elt drawn -/
theorem lc_draws {te : TE} {k n c : Nat} {H1 : Hp} {D : Addr} {Qd : Hp → Prop} (f : V → Prop) (hn : n ≤ 100000) (hD : H1 D = none) (hB : BagAt N b H1)
    (helt : ∀ H2 M x, Chg b H1 H2 → BagAt M b H2 → M < N + c * n → ∀ R : VK, (∀ H3 y, Chg b H2 H3 → BagAt (M + c) b H3 → f y → R y H3) → te ((wipe σ [k]).set k (some x)) H2 R) (hc : 0 < c)
    (hd : ∀ H2 ys, ys.length = n → (∀ y ∈ ys, f y) → Chg b H1 H2 → BagAt (N + c * n) b H2 → H2 D = some (.lst ys) → Qd H2) :
    ∃ W : Nat → Nat → Hp → Prop, (∃ m, W 0 m (upd H1 D (.lst []))) ∧ ∀ i m H, W i m H →
      ((Itr 0 n).stop i H ∧ Qd H) ∨ ((Itr 0 n).go i H ∧ ∃ Nx : Hp → Prop, (∀ H', Nx H' → ∃ m', m' < m ∧ W (i + 1) m' H') ∧ ∀ x H', (Itr 0 n).yld i H x H' → gName k x (wipe σ [k]) H' fun σ2 H2 => wipe σ2 [k] = wipe σ [k] ∧ tYes σ2 H2 fun b H3 =>
        if b = true then te σ2 H3 fun y H4 => ∃ acc, H4 D = some (.lst acc) ∧ acc.length < sizeLine ∧ Nx (upd H4 D (.lst (acc ++ [y]))) else Nx H3) := by
  have nb := hB.ne hD
  refine lc_range (lo := 0) (n := n) (fun i H2 => ∃ ys, ys.length = i ∧ (∀ y ∈ ys, f y) ∧ Chg b H1 H2 ∧ BagAt (N + c * i) b H2 ∧ H2 D = some (.lst ys)) ?_ ?_ ?_
  · exact ⟨[], rfl, (fun _ h => nomatch h), .new hD, hB.new hD, upd_same⟩
  · rintro i H2 hi ⟨ys, rfl, hf, c2, B2, e2⟩
    refine ⟨wipe1, ?_⟩
    show te _ H2 _
    have hm : c * ys.length < c * n := Nat.mul_lt_mul_of_pos_left hi hc
    refine helt H2 _ _ c2 B2 (by omega) _ fun H3 y c3 B3 hy => ?_
    have e3 : H3 D = some (.lst ys) := c3 _ _ nb.symm e2
    refine ⟨ys, e3, Evl.sz_lt (by omega), ys ++ [y], by simp, fun z hz => ?_, (c2.trans c3).mut hD, ?_, upd_same⟩
    · rcases List.mem_append.mp hz with h | h
      · exact hf z h
      · rw [List.mem_singleton.mp h]; exact hy
    · rw [Nat.mul_succ, ← Nat.add_assoc]
      exact B3.mut nb
  · rintro H2 ⟨ys, e, hf, c2, B2, e2⟩
    exact hd H2 ys e hf c2 B2 e2
end
/-- a list of texts -/
theorem strs_of {ys : List V} {f : Str → Prop} (h : ∀ y ∈ ys, ∃ s, y = .str s ∧ f s) : ∃ zs : List Str, ys = zs.map V.str ∧ ∀ z ∈ zs, f z := by
  induction ys with
  | nil => exact ⟨[], rfl, fun _ h => nomatch h⟩
  | cons y r ih =>
    obtain ⟨zs, rfl, hz⟩ := ih fun z hz => h z (List.mem_cons_of_mem _ hz)
    obtain ⟨s, rfl, hs⟩ := h y List.mem_cons_self
    refine ⟨s :: zs, rfl, fun z hm => ?_⟩
    rcases List.mem_cons.mp hm with rfl | hm
    · exact hs
    · exact hz z hm
theorem sum_le {zs : List Str} {c : Nat} (h : ∀ z ∈ zs, z.length ≤ c) : (zs.map (·.length)).sum ≤ c * zs.length := by
  induction zs with
  | nil => simp
  | cons z r ih =>
    rw [List.map_cons, List.sum_cons, List.length_cons, Nat.mul_succ]
    have h1 := ih fun y hy => h y (List.mem_cons_of_mem _ hy)
    have h2 := h z List.mem_cons_self
    omega
end Sk
namespace Sk
open PySem PySem.Spec PyProof.Rows L2
def NameS (s : Str) : Prop := 1 ≤ s.length ∧ s.length ≤ 8 ∧ ∀ c ∈ tl s, 97 ≤ c ∧ c ≤ 122
def KeyS (s : Str) : Prop := 1 ≤ s.length ∧ s.length ≤ 40 ∧ WorthS s
def spName : Sp := fun vs H Q _ => ∃ (b : Addr) (N : Nat), vs = [.ref b] ∧ N < 2 ^ 50 ∧ BagAt N b H ∧
  ∀ (H' : Hp) (s : Str), Chg b H H' → BagAt (N + 20) b H' → NameS s → Q (.str s) H'
def spKey : Sp := fun vs H Q _ => ∃ (b : Addr) (N : Nat), vs = [.ref b] ∧ N < 2 ^ 49 ∧ BagAt N b H ∧
  ∀ (H' : Hp) (s : Str), Chg b H H' → BagAt (N + 2001) b H' → KeyS s → Q (.str s) H'
/-- a tuple of a name and a tuple of keys -/
def RefAt (H : Hp) (v : V) (n : Str) (ks : List Str) : Prop := ∃ a k, v = .ref a ∧ H a = some (.tup [.str n, .ref k]) ∧ H k = some (.tup (ks.map V.str))
structure RefS (n : Str) (ks : List Str) : Prop where
  name : NameS n
  len : ks.length ≤ 6
  keys : ∀ k ∈ ks, KeyS k
theorem RefAt.same {H H' : Hp} {v : V} {n : Str} {ks : List Str} (h : RefAt H v n ks) (s : Same H H') : RefAt H' v n ks := by
  obtain ⟨a, k, rfl, h1, h2⟩ := h
  exact ⟨a, k, rfl, s _ _ h1, s _ _ h2⟩
theorem RefAt.chg {H H' : Hp} {b : Addr} {N : Nat} {v : V} {n : Str} {ks : List Str} (h : RefAt H v n ks) (c : Chg b H H') (B : BagAt N b H) : RefAt H' v n ks := by
  obtain ⟨a, k, rfl, h1, h2⟩ := h
  exact ⟨a, k, rfl, c _ _ (B.neT h1) h1, c _ _ (B.neT h2) h2⟩
theorem RefAt.new {H : Hp} {p : Addr} {o : HO} {v : V} {n : Str} {ks : List Str} (h : RefAt H v n ks) (e : H p = none) : RefAt (upd H p o) v n ks := h.same (same_new e)
end Sk
namespace Sk
open PySem PySem.Spec PyProof.Rows L2
open PySem.W (Datum Tup)
def rEqP (K : PySem.W.Frag) : R2 := fun x y H Q => ∃ d e, Dp K H x d ∧ Dp K H y e ∧ d.plain = true ∧ e.plain = true ∧ d.depth ≤ 64 ∧ Q (.bl (PyData.eqv d e)) H
def rNeP (K : PySem.W.Frag) : R2 := fun x y H Q => ∃ d e, Dp K H x d ∧ Dp K H y e ∧ d.plain = true ∧ e.plain = true ∧ d.depth ≤ 64 ∧ Q (.bl (!PyData.eqv d e)) H
section
variable {X : Cx}
theorem k_eqP (K : PySem.W.Frag) (hu : X.A.units + 64 < cLine) (e : X.K = K := by rfl) : OpR X (compareOp .Eq) (rEqP K) := by
  subst e
  intro pins s σ H x y v u Q I rx ry h
  obtain ⟨d, e, hd, he, sd, se, dl, q⟩ := h
  obtain ⟨as, r1⟩ := Dp.reads I d x v hd rx
  obtain ⟨bs, r2⟩ := Dp.reads I e y u he ry
  exact PySem.SeqAt.eq_plain r1 r2 sd se (by omega) ⟨.bl _, H, I, rfl, q⟩
theorem k_neP (K : PySem.W.Frag) (hu : X.A.units + 64 < cLine) (e : X.K = K := by rfl) : OpR X (compareOp .NotEq) (rNeP K) := by
  subst e
  intro pins s σ H x y v u Q I rx ry h
  obtain ⟨d, e, hd, he, sd, se, dl, q⟩ := h
  obtain ⟨as, r1⟩ := Dp.reads I d x v hd rx
  obtain ⟨bs, r2⟩ := Dp.reads I e y u he ry
  exact PySem.SeqAt.ne_plain r1 r2 sd se (by omega) ⟨.bl _, H, I, rfl, q⟩
end
/-- a value that bears a datum -/
abbrev DV {α : Type} [DecidableEq α] [Datum α] (K : PySem.W.Frag) (H : Hp) (v : V) (x : α) : Prop := Dp K H v (Datum.toD x)
section
variable {α : Type} [DecidableEq α] [Datum α] {K : PySem.W.Frag} {H : Hp} {v w : V} {x y : α} {Q : VK}
theorem rd_eqP (h1 : DV K H v x) (h2 : DV K H w y) (hd : Datum.depth α ≤ 64) (q : Q (.bl (decide (x = y))) H) : rEqP K v w H Q :=
  ⟨_, _, h1, h2, Datum.plain x, Datum.plain y, Nat.le_trans (Datum.depth_le x) hd, by rw [Datum.eqv]; exact q⟩
theorem rd_neP (h1 : DV K H v x) (h2 : DV K H w y) (hd : Datum.depth α ≤ 64) (q : Q (.bl (!decide (x = y))) H) : rNeP K v w H Q :=
  ⟨_, _, h1, h2, Datum.plain x, Datum.plain y, Nat.le_trans (Datum.depth_le x) hd, by rw [Datum.eqv]; exact q⟩
theorem dv_all {f : α → V} : ∀ {xs : List α}, (∀ x ∈ xs, DV K H (f x) x) → DpAll K H (xs.map f) (xs.map Datum.toD)
  | [], _ => .nil
  | x :: r, h => .cons (h x List.mem_cons_self) (dv_all fun y hy => h y (List.mem_cons_of_mem _ hy))
theorem dv_tup {f : α → V} {a : Addr} {xs : List α} (h : SqT K H a (xs.map f)) (hx : ∀ x ∈ xs, DV K H (f x) x) : DV K H (.ref a) (Tup.mk xs) := Dp.tup h (dv_all hx)
end
theorem dv_strs {K : PySem.W.Frag} {H : Hp} {a : Addr} {ks : List Str} (h : SqT K H a (ks.map V.str)) : DV K H (.ref a) (Tup.mk ks) := dv_tup h fun x _ => Dp.str x
def stemB (n1 : Str) (k1 : List Str) (n2 : Str) (k2 : List Str) : Bool := decide (n1 = n2) && decide (k2.take k1.length = k1)
def meetB (n1 : Str) (k1 : List Str) (n2 : Str) (k2 : List Str) : Bool := stemB n1 k1 n2 k2 || stemB n2 k2 n1 k1
def spRel (f : Str → List Str → Str → List Str → Bool) : Sp := fun vs H Q _ => ∃ v1 v2 n1 k1 n2 k2, vs = [v1, v2] ∧ RefAt H v1 n1 k1 ∧ RefAt H v2 n2 k2 ∧ k1.length ≤ 1000 ∧ k2.length ≤ 1000 ∧
  ∀ H', Same H H' → Q (.bl (f n1 k1 n2 k2)) H'
theorem cutV_to {xs : List V} {n : Nat} : cutV xs none (some (n : Int)) = xs.take n := by
  unfold cutV
  rw [HT.sIx_none, HT.sIx_nat, List.drop_zero, Nat.sub_zero, List.take_eq_take_iff]
  omega
/-- t[:n] of a tuple: some tuple of its first n -/
theorem rd_takeT {K : PySem.W.Frag} {H : Hp} {a : Addr} {xs : List V} {n : Nat} {Q : VK} (h : SqT K H a xs) (q : ∀ p H', Same H H' → SqT K H' p (xs.take n) → Q (.ref p) H') : rSlA K (.ref a) none (some (n : Int)) H Q := by
  refine ⟨a, xs, rfl, h, fun ⟨_, e⟩ => q a H (.refl H) ?_, fun _ p hp => q p _ (same_new hp) ?_⟩
  · rw [HT.sIx_nat] at e
    rw [List.take_of_length_le (by omega)]
    exact h
  · rw [cutV_to]
    exact .inl (.inl upd_same)
end Sk
namespace Sk
open PySem PySem.Spec PyProof.Rows L2
section
variable {K : PySem.W.Frag} {σ : L2.St}
theorem same_mut {H H' : Hp} {p : Addr} {o : HO} (s : Same H H') (n : H p = none) : Same H (upd H' p o) := fun a u e => by
  rw [upd_ne (ne_of_none e n)]
  exact s a u e
/-- [elt for x in xs if ..] -/
theorem lc_pure_list {te : TE} {tt : TT} {k : Nat} {H1 : Hp} {D a : Addr} {xs : List V} {Qd : Hp → Prop} (p : V → Bool) (f : V → V) (hn : xs.length ≤ 100000) (hD : H1 D = none) (hS : SqL K H1 a xs)
    (ht : ∀ x H2, x ∈ xs → Same H1 H2 → ∀ R : Bool → Hp → Prop, (∀ H3, Same H2 H3 → R (p x) H3) → tt ((wipe σ [k]).set k (some x)) H2 R)
    (he : ∀ x H2, x ∈ xs → p x = true → Same H1 H2 → ∀ R : VK, (∀ H3, Same H2 H3 → R (f x) H3) → te ((wipe σ [k]).set k (some x)) H2 R)
    (hd : ∀ H2, Same H1 H2 → H2 D = some (.lst ((xs.filter p).map f)) → Qd H2) :
    ∃ W : Nat → Nat → Hp → Prop, (∃ m, W 0 m (upd H1 D (.lst []))) ∧ ∀ i m H, W i m H →
      ((Itl K a).stop i H ∧ Qd H) ∨ ((Itl K a).go i H ∧ ∃ Nx : Hp → Prop, (∀ H', Nx H' → ∃ m', m' < m ∧ W (i + 1) m' H') ∧ ∀ x H', (Itl K a).yld i H x H' → gName k x (wipe σ [k]) H' fun σ2 H2 => wipe σ2 [k] = wipe σ [k] ∧ tt σ2 H2 fun b H3 =>
        if b = true then te σ2 H3 fun y H4 => ∃ acc, H4 D = some (.lst acc) ∧ acc.length < sizeLine ∧ Nx (upd H4 D (.lst (acc ++ [y]))) else Nx H3) := by
  refine lc_list (K := K) (a := a) (xs := xs) (fun i H2 => Same H1 H2 ∧ H2 D = some (.lst (((xs.take i).filter p).map f))) ?_ ?_ ?_ ?_
  · exact ⟨same_new hD, upd_same⟩
  · exact fun i H2 _ h => h.1.seq hS
  · rintro i x H2 hx ⟨s2, e2⟩
    have hm : x ∈ xs := List.mem_of_getElem? hx
    refine ⟨wipe1, ?_⟩
    refine ht x H2 hm s2 _ fun H3 s3 => ?_
    have e3 := s3 _ _ e2
    cases hp : p x with
    | true =>
      show (if true = true then _ else _)
      rw [if_pos rfl]
      refine he x H3 hm hp (s2.trans s3) _ fun H4 s4 => ?_
      refine ⟨_, s4 _ _ e3, Evl.sz_lt ?_, same_mut ((s2.trans s3).trans s4) hD, ?_⟩
      · rw [List.length_map]
        have := List.length_filter_le p (xs.take i)
        rw [List.length_take] at this
        have hi := (List.getElem?_eq_some_iff.mp hx).1
        omega
      · rw [upd_same, List.take_add_one, hx, List.filter_append]
        show _ = some (HO.lst ((_ ++ List.filter p [x]).map f))
        rw [List.filter_cons, hp, if_pos rfl, List.filter_nil, List.map_append]
        rfl
    | false =>
      show (if false = true then _ else _)
      rw [if_neg Bool.false_ne_true]
      refine ⟨s2.trans s3, ?_⟩
      rw [e3, List.take_add_one, hx, List.filter_append]
      show _ = some (HO.lst ((_ ++ List.filter p [x]).map f))
      rw [List.filter_cons, hp, if_neg Bool.false_ne_true, List.filter_nil, List.append_nil]
  · rintro H2 ⟨s2, e2⟩
    rw [List.take_length] at e2
    exact hd H2 s2 e2
end
end Sk
namespace Sk
open PySem PySem.Spec PyProof.Rows L2
section
variable {K : PySem.W.Frag} {H : Hp} {a b : Addr} {xs ys : List V} {n : Nat} {Q : VK}
theorem rd_takeH (h : H a = some (.tup xs)) (q : ∀ p H', Same H H' → H' p = some (.tup (xs.take n)) → Q (.ref p) H') : rSlA K (.ref a) none (some (n : Int)) H Q := by
  refine ⟨a, xs, rfl, .inl (.inl h), fun ⟨_, e⟩ => q a H (.refl H) ?_, fun _ p hp => q p _ (same_new hp) ?_⟩
  · rw [HT.sIx_nat] at e
    rw [List.take_of_length_le (by omega)]
    exact h
  · rw [cutV_to]
    exact upd_same
theorem rd_takeI {j : Int} (hj : j = (n : Int)) (h : H a = some (.tup xs)) (q : ∀ p H', Same H H' → H' p = some (.tup (xs.take n)) → Q (.ref p) H') : rSlA K (.ref a) none (some j) H Q := by
  subst hj
  exact rd_takeH h q
theorem rd_catH (h : H a = some (.tup xs)) (h2 : H b = some (.tup ys)) (l : xs.length + ys.length ≤ 100000) (q : ∀ p H', Same H H' → H' p = some (.tup (xs ++ ys)) → Q (.ref p) H') : rCatA K (.ref a) (.ref b) H Q := by
  refine ⟨a, b, xs, ys, rfl, rfl, .inl (.inl h), .inl (.inl h2), Evl.sz_of l, fun e => ?_, fun _ e => ?_, fun _ _ p hp => q p _ (same_new hp) upd_same⟩
  · subst e
    exact q b H (.refl H) h2
  · subst e
    exact q a H (.refl H) (by rw [List.append_nil]; exact h)
end
end Sk
namespace Sk
open PySem PySem.Spec PyProof.Rows L2
theorem turns_of (n m : Int) (h1 : 1 ≤ m) (h2 : m ≤ 1000) : ∃ k : Int, (if (if n < m then n else m) > 1 then (if n < m then n else m) else 1) = k ∧ 1 ≤ k ∧ k ≤ m := by
  refine ⟨_, rfl, ?_, ?_⟩ <;> repeat' split
  all_goals omega
end Sk
namespace Sk
open PySem PySem.Spec PyProof.Rows L2
open PySem.NumText (AllDigits digitsVal digitsVal_snoc digitsVal_pos toDigits_digitsVal takeWhile_all)
def isMark (c : Nat) : Bool := c == 43 || c == 45
def isFig (c : Nat) : Bool := decide (48 ≤ c) && decide (c ≤ 57)
theorem isFig_iff {c : Nat} : isFig c = true ↔ 48 ≤ c ∧ c ≤ 57 := by unfold isFig; rw [Bool.and_eq_true, decide_eq_true_eq, decide_eq_true_eq]
theorem isMark_iff {c : Nat} : isMark c = true ↔ c = 43 ∨ c = 45 := by unfold isMark; rw [Bool.or_eq_true, beq_iff_eq, beq_iff_eq]
def marksOf (l : List Nat) : List Nat := l.takeWhile isMark
def figsOf (l : List Nat) : List Nat := (l.dropWhile isMark).takeWhile isFig
def numL (l : List Nat) : Int := if (marksOf l).count 45 % 2 = 1 then 0 - (digitsVal (figsOf l) : Int) else (digitsVal (figsOf l) : Int)
def isNumF (l f : List Nat) : Bool := if f = [] ∨ (f.takeWhile isFig).length < f.length then false else (l == [48] || !(f.head? == some 48))
def isNumL (l : List Nat) : Bool := isNumF l (if l.take 1 = [45] then l.drop 1 else l)
theorem isNumF_of {l f : List Nat} (h1 : ¬ (f = [] ∨ (f.takeWhile isFig).length < f.length)) (h2 : l = [48] ∨ f.head? ≠ some 48) : isNumF l f = true := by
  unfold isNumF
  rw [if_neg h1]
  rcases h2 with h | h
  · rw [h]; rfl
  · rw [beq_eq_false_iff_ne.mpr h, Bool.not_false, Bool.or_true]
theorem isNumF_to {l f : List Nat} (h : isNumF l f = true) : ¬ (f = [] ∨ (f.takeWhile isFig).length < f.length) ∧ (l = [48] ∨ f.head? ≠ some 48) := by
  unfold isNumF at h
  split at h
  · cases h
  · rename_i hw
    refine ⟨hw, ?_⟩
    rw [Bool.or_eq_true, beq_iff_eq, Bool.not_eq_true', beq_eq_false_iff_ne] at h
    exact h
def decL (n : Nat) : List Nat := (Nat.toDigits 10 n).map Char.toNat
def intL (n : Int) : List Nat := if n < 0 then 45 :: decL n.natAbs else decL n.natAbs
theorem digChar {d : Nat} (h : d < 10) : (Nat.digitChar d).toNat = 48 + d := by
  have key : ∀ d < 10, (Nat.digitChar d).toNat = 48 + d := by decide
  exact key d h
theorem decL_lt {n : Nat} (h : n < 10) : decL n = [48 + n] := by
  unfold decL
  rw [Nat.toDigits_of_lt_base h, List.map_singleton, digChar h]
theorem decL_ge {n : Nat} (h : 10 ≤ n) : decL n = decL (n / 10) ++ [48 + n % 10] := by
  unfold decL
  rw [Nat.toDigits_of_base_le (by decide) h, List.map_append, List.map_singleton, digChar (Nat.mod_lt _ (by decide))]
theorem decL_ne (n : Nat) : decL n ≠ [] := by
  by_cases h : n < 10
  · rw [decL_lt h]; exact List.cons_ne_nil _ _
  · rw [decL_ge (by omega)]; exact List.append_ne_nil_of_right_ne_nil _ (List.cons_ne_nil _ _)
theorem decL_digits : ∀ n : Nat, AllDigits (decL n) := by
  intro n
  induction n using Nat.strongRecOn with
  | ind n ih =>
    by_cases h : n < 10
    · rw [decL_lt h]
      intro c hc
      rw [List.mem_singleton.mp hc]
      omega
    · rw [decL_ge (by omega)]
      intro c hc
      rcases List.mem_append.mp hc with hc | hc
      · exact ih (n / 10) (by omega) c hc
      · rw [List.mem_singleton.mp hc]
        omega
theorem decL_val : ∀ n : Nat, digitsVal (decL n) = n := by
  intro n
  induction n using Nat.strongRecOn with
  | ind n ih =>
    by_cases h : n < 10
    · rw [decL_lt h]
      show 0 * 10 + (48 + n - 48) = n
      omega
    · rw [decL_ge (by omega), digitsVal_snoc, ih (n / 10) (by omega)]
      omega
/-- the first figure is no nought, but of nought itself -/
theorem decL_head : ∀ n : Nat, n = 0 ∨ ∃ c r, decL n = c :: r ∧ 49 ≤ c := by
  intro n
  induction n using Nat.strongRecOn with
  | ind n ih =>
    by_cases h : n < 10
    · by_cases h0 : n = 0
      · exact .inl h0
      · exact .inr ⟨48 + n, [], decL_lt h, by omega⟩
    · rcases ih (n / 10) (by omega) with e | ⟨c, r, e, hc⟩
      · omega
      · exact .inr ⟨c, r ++ [48 + n % 10], by rw [decL_ge (by omega), e]; rfl, hc⟩
theorem mem_takeWhile {p : Nat → Bool} {c : Nat} : ∀ {l : List Nat}, c ∈ l.takeWhile p → p c = true
  | [], h => nomatch h
  | d :: r, h => by
    cases hd : p d with
    | false => rw [List.takeWhile_cons_of_neg (by rw [hd]; exact Bool.false_ne_true)] at h; cases h
    | true =>
      rw [List.takeWhile_cons_of_pos hd] at h
      rcases List.mem_cons.mp h with rfl | h
      · exact hd
      · exact mem_takeWhile h
theorem takeWhile_all' {p : Nat → Bool} {l : List Nat} (h : ∀ c ∈ l, p c = true) : l.takeWhile p = l := takeWhile_all h
theorem figs_all {l : List Nat} (h : AllDigits l) : l.takeWhile isFig = l := takeWhile_all fun c hc => isFig_iff.mpr (h c hc)
theorem dropWhile_head {p : Nat → Bool} {c : Nat} {r : List Nat} (h : p c = false) : (c :: r).dropWhile p = c :: r := by
  rw [List.dropWhile_cons_of_neg (by rw [h]; exact Bool.false_ne_true)]
theorem noMark {c : Nat} (h : 48 ≤ c ∧ c ≤ 57) : isMark c = false := by
  cases e : isMark c with
  | false => rfl
  | true => have := isMark_iff.mp e; omega
theorem num_digits {l : List Nat} (h : AllDigits l) : numL l = (digitsVal l : Int) := by
  cases l with
  | nil => rfl
  | cons c r =>
    have hm := noMark h.head
    unfold numL marksOf figsOf
    rw [List.takeWhile_cons_of_neg (by rw [hm]; exact Bool.false_ne_true), dropWhile_head hm, figs_all h]
    rfl
theorem num_minus {l : List Nat} (h : AllDigits l) : numL (45 :: l) = 0 - (digitsVal l : Int) := by
  have hm : isMark 45 = true := rfl
  have hn : (45 :: l).takeWhile isMark = [45] ∧ (45 :: l).dropWhile isMark = l := by
    rw [List.takeWhile_cons_of_pos hm, List.dropWhile_cons_of_pos hm]
    cases l with
    | nil => exact ⟨rfl, rfl⟩
    | cons c r =>
      have hm := noMark h.head
      rw [List.takeWhile_cons_of_neg (by rw [hm]; exact Bool.false_ne_true), dropWhile_head hm]
      exact ⟨rfl, rfl⟩
  unfold numL marksOf figsOf
  rw [hn.1, hn.2, figs_all h]
  rfl
theorem dig_head45 {l : List Nat} (h : AllDigits l) : l.take 1 ≠ [45] := by
  cases l with
  | nil => exact fun e => nomatch e
  | cons c r =>
    intro e
    have e1 : c = 45 := (List.cons.inj e).1
    have := h.head
    omega
theorem isNum_int (n : Int) : isNumL (intL n) = true := by
  have hd := decL_digits n.natAbs
  have hne := decL_ne n.natAbs
  have hw : ¬ (decL n.natAbs = [] ∨ ((decL n.natAbs).takeWhile isFig).length < (decL n.natAbs).length) := by
    rw [figs_all hd]
    intro h
    rcases h with h | h
    · exact hne h
    · omega
  unfold intL isNumL
  split
  · rename_i hn
    rw [if_pos (show List.take 1 (45 :: decL n.natAbs) = [45] from rfl)]
    refine isNumF_of hw ?_
    rcases decL_head n.natAbs with e | ⟨c, r, e, hc⟩
    · omega
    · refine .inr ?_
      rw [List.drop_succ_cons, List.drop_zero, e]
      exact fun z => by have := Option.some.inj z; omega
  · rw [if_neg (dig_head45 hd)]
    refine isNumF_of hw ?_
    rcases decL_head n.natAbs with e | ⟨c, r, e, hc⟩
    · rw [e]
      exact .inl (decL_lt (by decide))
    · refine .inr ?_
      rw [e]
      exact fun z => by have := Option.some.inj z; omega
theorem all_of_len {l : List Nat} (h : ¬ (l.takeWhile isFig).length < l.length) : AllDigits l := by
  induction l with
  | nil => exact fun c hc => nomatch hc
  | cons d r ih =>
    cases hd : isFig d with
    | false =>
      rw [List.takeWhile_cons_of_neg (by rw [hd]; exact Bool.false_ne_true)] at h
      exact absurd (Nat.succ_pos _) h
    | true =>
      rw [List.takeWhile_cons_of_pos hd, List.length_cons, List.length_cons] at h
      intro c hc
      rcases List.mem_cons.mp hc with rfl | hc
      · exact isFig_iff.mp hd
      · exact ih (by omega) c hc
theorem dec_of {l : List Nat} (h : AllDigits l) (hne : l ≠ []) (hh : l = [48] ∨ l.head? ≠ some 48) : decL (digitsVal l) = l := by
  obtain ⟨c, r, rfl⟩ : ∃ c r, l = c :: r := by
    cases l with
    | nil => exact absurd rfl hne
    | cons c r => exact ⟨c, r, rfl⟩
  have e : Nat.toDigits 10 (digitsVal (c :: r)) = (c :: r).map Char.ofNat := by
    refine toDigits_digitsVal r.length (c :: r) rfl h ?_
    rcases hh with e | hh
    · have := (List.cons.inj e).2
      subst this
      exact .inl rfl
    · have h1 := h.head
      have h2 : c ≠ 48 := fun z => hh (by rw [z]; rfl)
      exact .inr ⟨c, r, rfl, by omega⟩
  unfold decL
  rw [e, List.map_map]
  refine (List.map_congr_left fun d hd => ?_).trans (List.map_id _)
  have hd := h d hd
  have key : ∀ d, d ≤ 57 → (Char.ofNat d).toNat = d := by decide
  exact key d hd.2
theorem isNum_own {l : List Nat} (h : isNumL l = true) : intL (numL l) = l := by
  unfold isNumL at h
  by_cases h45 : l.take 1 = [45]
  · rw [if_pos h45] at h
    obtain ⟨f, rfl⟩ : ∃ f, l = 45 :: f := by
      cases l with
      | nil => cases h45
      | cons c r => exact ⟨r, by rw [(List.cons.inj h45).1]⟩
    obtain ⟨hw, hh⟩ := isNumF_to h
    have hf : f ≠ [] := fun z => hw (.inl z)
    have hd : AllDigits f := all_of_len fun z => hw (.inr z)
    have hh : f.head? ≠ some 48 := hh.resolve_left fun z => by have := (List.cons.inj z).1; omega
    obtain ⟨c, r, rfl⟩ : ∃ c r, f = c :: r := by
      cases f with
      | nil => exact absurd rfl hf
      | cons c r => exact ⟨c, r, rfl⟩
    have h1 := hd.head
    have hp : 0 < digitsVal (c :: r) := digitsVal_pos (by
      have : c ≠ 48 := fun z => hh (by rw [z]; rfl)
      omega)
    have e := dec_of hd hf (.inr hh)
    rw [num_minus hd]
    unfold intL
    rw [if_pos (by omega), show (0 - (digitsVal (c :: r) : Int)).natAbs = digitsVal (c :: r) by omega, e]
  · rw [if_neg h45] at h
    obtain ⟨hw, hh⟩ := isNumF_to h
    have hf : l ≠ [] := fun z => hw (.inl z)
    have hd : AllDigits l := all_of_len fun z => hw (.inr z)
    rw [num_digits hd]
    unfold intL
    rw [if_neg (by omega), show (digitsVal l : Int).natAbs = digitsVal l by omega]
    exact dec_of hd hf hh
theorem isNum_iff (l : List Nat) : isNumL l = decide (intL (numL l) = l) := by
  cases h : isNumL l with
  | true => exact (decide_eq_true (isNum_own h)).symm
  | false =>
    refine (decide_eq_false fun e => ?_).symm
    rw [← e, isNum_int] at h
    cases h
/-- a number's own text -/
theorem tl_int (n : Int) : tl (Str.ofString (toString n)) = intL n := by
  rw [tl, Str.ofString_eq_toList, Int.toString_eq_repr, Int.repr_eq_if]
  show ((if 0 ≤ n then n.toNat.repr else "-" ++ (-n).toNat.repr).toList.map Char.toNat) = _
  unfold intL
  split
  · rw [if_neg (by omega), Nat.toList_repr]
    unfold decL
    rw [show n.natAbs = n.toNat by omega]
  · rw [if_pos (by omega), String.toList_append, Nat.toList_repr, List.map_append]
    unfold decL
    rw [show n.natAbs = (-n).toNat by omega]
    rfl
/-- the number of a text, whether it is a number's own -/
def numS (s : Str) : Int := numL (tl s)
def isNumS (s : Str) : Bool := isNumL (tl s)
def intS (n : Int) : Str := Str.ofString (toString n)
theorem isNumS_iff (s : Str) : isNumS s = decide (intS (numS s) = s) := by
  unfold isNumS numS intS
  rw [isNum_iff]
  exact decide_eq_decide.mpr ⟨fun h => tl_inj (by rw [tl_int]; exact h), fun h => by rw [← tl_int, h]⟩
end Sk
namespace Sk
open PySem PySem.Spec PyProof.Rows L2
def rRepS : R2 := fun x y H Q => ∃ (z : Str) (n : Int), x = .str z ∧ y = .int n ∧ 0 ≤ n ∧ n ≤ 1000 ∧ z.length ≤ 10000 ∧ ∀ r : Str, (r.length : Int) = z.length * n → (∀ c ∈ tl r, c ∈ tl z) → Q (.str r) H
theorem mulOk {z : Str} {n : Int} (h0 : 0 ≤ n) (h1 : n ≤ 1000) (hz : z.length ≤ 10000) : MulOk z n := by
  refine ⟨?_, fun h _ => ?_, fun h _ => ?_⟩
  · rw [decide_eq_false (by omega), decide_eq_false (by omega)]; rfl
  · have h2 : (10000 : Int) ≤ (2 ^ 63 - 1) / n := by
      rw [Int.le_ediv_iff_mul_le (by omega)]
      omega
    omega
  · have h2 : z.length * n.toNat ≤ 10000 * 1000 := Nat.mul_le_mul hz (by omega)
    exact PyProof.Rows.short24 (by omega)
theorem foldl_app (l : List Nat) : ∀ (k : Nat) (acc : Array Nat), ((List.replicate k l.toArray).foldl (· ++ ·) acc).toList = acc.toList ++ (List.replicate k l).flatten
  | 0, acc => by simp
  | k + 1, acc => by
    rw [List.replicate_succ, List.foldl_cons, foldl_app l k, List.replicate_succ, List.flatten_cons, Array.toList_append, List.append_assoc]
theorem tl_mul (z : Str) {n : Int} (h0 : 0 ≤ n) : tl (Txt.mul z n) = (List.replicate n.toNat (tl z)).flatten := by
  unfold Txt.mul
  by_cases h : n < 1
  · rw [if_pos h, show n.toNat = 0 by omega]
    rfl
  · rw [if_neg h]
    by_cases h2 : (n == 1 || z.length == 0) = true
    · rw [if_pos h2]
      rcases Bool.or_eq_true _ _ ▸ h2 with e | e
      · rw [beq_iff_eq.mp e]
        show tl z = (List.replicate 1 (tl z)).flatten
        simp
      · have h3 : tl z = [] := List.length_eq_zero_iff.mp (by rw [← len_tl]; exact beq_iff_eq.mp e)
        rw [h3]
        simp
    · rw [if_neg h2]
      have e := foldl_app (tl z) n.toNat #[]
      rw [show (tl z).toArray = z.cps from Array.toArray_toList] at e
      exact e.trans (List.nil_append _)
theorem op_repS {X : Cx} : OpR X (binaryOp .Mult) rRepS := by
  intro pins s σ H x y v u Q I rx ry h
  obtain ⟨z, n, rfl, rfl, h0, h1, hz, q⟩ := h
  obtain ⟨t, rfl⟩ := rx
  obtain ⟨t', rfl⟩ := ry
  refine SB.mul (mulOk h0 h1 hz) fun t2 k => ⟨.str _, H, I.tok _, ⟨_, rfl⟩, q _ ?_ fun c hc => ?_⟩
  · have hk : ∀ k : Nat, (List.replicate k (tl z)).flatten.length = k * z.length := by
      intro k
      induction k with
      | zero => simp
      | succ k ih => rw [List.replicate_succ, List.flatten_cons, List.length_append, ih, ← len_tl, Nat.succ_mul, Nat.add_comm]
    rw [len_tl, tl_mul z h0, hk, Int.natCast_mul, Int.toNat_of_nonneg h0, Int.mul_comm]
  · rw [tl_mul z h0, List.mem_flatten] at hc
    obtain ⟨l, hl, hc⟩ := hc
    rw [(List.mem_replicate.mp hl).2] at hc
    exact hc
theorem cut_from (z : Str) (a : Nat) : tl (cutS z (some (a : Int)) none) = (tl z).drop a := by
  show ((z.cps.toList.drop (HT.sIx z.length 0 (some (a : Int)))).take (HT.sIx z.length z.length none - HT.sIx z.length 0 (some (a : Int)))) = _
  rw [HT.sIx_none, HT.sIx_nat, len_tl]
  by_cases h : a ≤ (tl z).length
  · rw [Nat.min_eq_left h]
    exact List.take_of_length_le (by rw [List.length_drop]; exact Nat.le_refl _)
  · rw [List.drop_eq_nil_of_le (show z.cps.toList.length ≤ min a (tl z).length by show (tl z).length ≤ _; omega), List.drop_eq_nil_of_le (show (tl z).length ≤ a by omega)]
    exact List.take_nil
theorem cut_mid (z : Str) (a b : Nat) : tl (cutS z (some (a : Int)) (some (b : Int))) = ((tl z).drop a).take (b - a) := by
  show ((z.cps.toList.drop (HT.sIx z.length 0 (some (a : Int)))).take (HT.sIx z.length z.length (some (b : Int)) - HT.sIx z.length 0 (some (a : Int)))) = _
  rw [HT.sIx_nat, HT.sIx_nat, len_tl]
  by_cases h : a ≤ (tl z).length
  · rw [Nat.min_eq_left h, List.take_eq_take_iff]
    show min (min b (tl z).length - a) (List.drop a (tl z)).length = min (b - a) (List.drop a (tl z)).length
    rw [List.length_drop]
    omega
  · rw [List.drop_eq_nil_of_le (show z.cps.toList.length ≤ min a (tl z).length by show (tl z).length ≤ _; omega), List.drop_eq_nil_of_le (show (tl z).length ≤ a by omega), List.take_nil, List.take_nil]
theorem cut_toN (z : Str) (b : Nat) : tl (cutS z none (some (b : Int))) = (tl z).take b := by
  rw [cut_to z (by omega), Int.toNat_natCast]
theorem cnt_count (c : Nat) : ∀ l : List Nat, cnt c l = (l.count c : Int)
  | [] => rfl
  | n :: r => by
    rw [cnt_cons, cnt_count c r, List.count_cons]
    by_cases h : n = c
    · rw [if_pos h, h, beq_self_eq_true, if_pos rfl]
      omega
    · rw [if_neg h, beq_eq_false_iff_ne.mpr h, if_neg Bool.false_ne_true]
      omega
theorem count_one (z : Str) (c : Nat) : Txt.count z ⟨#[c]⟩ = ((tl z).count c : Int) := (count_cnt z c).trans (cnt_count c _)
theorem takeWhile_pre {p : Nat → Bool} {pre rest : List Nat} (h : ∀ c ∈ pre, p c = true) (hr : rest = [] ∨ ∃ c r, rest = c :: r ∧ p c = false) : (pre ++ rest).takeWhile p = pre ∧ (pre ++ rest).dropWhile p = rest := by
  induction pre with
  | nil =>
    rcases hr with e | ⟨c, r, e, hc⟩
    · subst e; exact ⟨rfl, rfl⟩
    · subst e
      rw [List.nil_append, List.takeWhile_cons_of_neg (by rw [hc]; exact Bool.false_ne_true), List.dropWhile_cons_of_neg (by rw [hc]; exact Bool.false_ne_true)]
      exact ⟨rfl, rfl⟩
  | cons d r ih =>
    have hd := h d List.mem_cons_self
    rw [List.cons_append, List.takeWhile_cons_of_pos hd, List.dropWhile_cons_of_pos hd]
    obtain ⟨e1, e2⟩ := ih fun c hc => h c (List.mem_cons_of_mem _ hc)
    rw [e1, e2]
    exact ⟨rfl, rfl⟩
def aheadL (l some : List Nat) : List Nat := l.takeWhile fun c => decide (c ∈ some)
def spAhead : Sp := fun vs H Q _ => ∃ w z : Str, vs = [.str w, .str z] ∧ w.length ≤ 100000 ∧ Q (.int ((aheadL (tl w) (tl z)).length : Int)) H
def spNumberOf : Sp := fun vs H Q _ => ∃ w : Str, vs = [.str w] ∧ w.length ≤ 640 ∧ Q (.int (numS w)) H
def spIsNumber : Sp := fun vs H Q _ => ∃ w : Str, vs = [.str w] ∧ w.length ≤ 100000 ∧ Q (.bl (isNumS w)) H
def spNumberText : Sp := fun vs H Q _ => ∃ n : Int, vs = [.int n] ∧ n.natAbs.log2 < 1920 ∧ Q (.str (intS n)) H
theorem ahead_marks (l : List Nat) : aheadL l (tl (Str.ofString "+-")) = marksOf l := by
  unfold aheadL marksOf
  refine congrArg (fun p => List.takeWhile p l) (funext fun c => ?_)
  rw [show tl (Str.ofString "+-") = [43, 45] by decide +kernel]
  unfold isMark
  simp [List.mem_cons, beq_iff_eq, Bool.decide_or, decide_eq_decide]
  rw [Bool.beq_eq_decide_eq, Bool.beq_eq_decide_eq]
theorem ahead_figs (l : List Nat) : aheadL l (tl (Str.ofString "0123456789")) = l.takeWhile isFig := by
  unfold aheadL
  refine congrArg (fun p => List.takeWhile p l) (funext fun c => ?_)
  rw [show tl (Str.ofString "0123456789") = [48, 49, 50, 51, 52, 53, 54, 55, 56, 57] by decide +kernel]
  unfold isFig
  rw [← Bool.decide_and]
  refine decide_eq_decide.mpr ?_
  simp only [List.mem_cons, List.not_mem_nil, or_false]
  omega
end Sk
namespace Sk
open PySem PySem.Spec PyProof.Rows L2
open PySem.W (KeepsBut AllAlike Sortable KeyedOut dataKind dataLe EachIs SortsAt copyHeap)
theorem dpAll_snoc {K : PySem.W.Frag} {H : Hp} : ∀ {vs : List V} {ds : List PyData} {v : V} {d : PyData}, DpAll K H vs ds → Dp K H v d → DpAll K H (vs ++ [v]) (ds ++ [d])
  | _, _, _, _, .nil, h => .cons h .nil
  | _, _, _, _, .cons a b, h => .cons a (dpAll_snoc b h)
mutual
theorem dp_same {K : PySem.W.Frag} {H H' : Hp} (s : Same H H') : ∀ {v : V} {d : PyData}, Dp K H v d → Dp K H' v d
  | _, _, .non => .non
  | _, _, .bl b => .bl b
  | _, _, .int i => .int i
  | _, _, .str x => .str x
  | _, _, .lst h g => .lst (s.seq h) (dpAll_same s g)
  | _, _, .tup h g => .tup (by
      rcases h with (h | ⟨o, h⟩) | h
      · exact .inl (.inl (s _ _ h))
      · exact .inl (.inr ⟨o, s _ _ h⟩)
      · exact .inr h) (dpAll_same s g)
theorem dpAll_same {K : PySem.W.Frag} {H H' : Hp} (s : Same H H') : ∀ {vs : List V} {ds : List PyData}, DpAll K H vs ds → DpAll K H' vs ds
  | _, _, .nil => .nil
  | _, _, .cons h g => .cons (dp_same s h) (dpAll_same s g)
end
section
variable {X : Cx}
theorem eachReads {pins : List (Addr × Obj)} {σ : L2.St} {H : Hp} {s : Shared} (I : Inv X pins σ H s) : ∀ {ks : List V} {ds : List PyData} {us : List Value}, DpAll X.K H ks ds → Vals ks us → EachIs (fun v k => ∃ as, Reads s.heap v k as) us ds
  | _, _, _, .nil, .nil => .nil
  | _, _, _, .cons h g, .cons r t => .cons (Dp.reads I _ _ _ h r) (eachReads I g t)
theorem eachVals : ∀ {xs : List V} {us : List Value}, Vals xs us → EachIs (fun u x => RelV x u) us xs
  | _, _, .nil => .nil
  | _, _, .cons r t => .cons r (eachVals t)
theorem valsEach : ∀ {xs : List V} {us : List Value}, EachIs (fun u x => RelV x u) us xs → Vals xs us
  | _, _, .nil => .nil
  | _, _, .cons r t => .cons r (valsEach t)
end
end Sk
namespace Sk
open PySem PySem.Spec PyProof.Rows L2
open PySem.W (KeepsBut AllAlike Sortable KeyedOut dataKind dataLe EachIs SortsAt copyHeap copyHeap_at copyHeap_old keyH_end hideAll)
section
variable {X : Cx} {k : Nat} {f : Addr} {fd : FuncData} {xn : Str} {sp : Sp}
/-- what stands between two calls of the key -/
structure Mid (X : Cx) (pins : List (Addr × Obj)) (σ : L2.St) (H : Hp) (D kS : Addr) (e1 : Nat) (ds : List PyData) (s' : Shared) : Prop where
  ex : ∃ (Hi : Hp) (kA : Array Value) (e : Nat) (ks : List V), Inv X pins σ Hi s' ∧ Same H Hi ∧ Hi D = none ∧ Hi kS = none ∧
    s'.heap.get? kS = some (seqObj "list" kA e) ∧ s'.heap.get? D = some (seqObj "list" #[] e1) ∧ Vals ks kA.toList ∧ DpAll X.K Hi ks ds
theorem dpAll_len {K : PySem.W.Frag} {H : Hp} : ∀ {vs : List V} {ds : List PyData}, DpAll K H vs ds → vs.length = ds.length
  | _, _, .nil => rfl
  | _, _, .cons _ g => by rw [List.length_cons, List.length_cons, dpAll_len g]
theorem mid_turn (F : FnOk X.prog X.w X.K X.mg X.base CX0 k f fd [xn] sp) (hr : Room (k + 2) X.A) (hb : Binds X.K fd [xn] []) {pins : List (Addr × Obj)} {σ : L2.St} {H : Hp} {D kS : Addr} {e1 : Nat} {ds : List PyData} {d : PyData} {s' : Shared} {x : V} {u : Value} {E : Value → Shared → Prop}
    {next : Value → Sem (ForInStep PUnit)}
    (fD : FpOk X pins H D) (fS : FpOk X pins H kS) (hne : kS ≠ D) (hsz : ds.length < 100000)
    (m : Mid X pins σ H D kS e1 ds s') (rx : RelV x u) (hsp : ∀ H1, Same H H1 → ∀ R : VK, (∀ v H2, Same H1 H2 → Dp X.K H2 v d → R v H2) → sp [x] H1 R E0) :
    wpAny (model X.prog X.w) X.A.in1.in1 (do
      match ← (call (.ref f) [u]).attempt with
      | .ok k => Builtin.List.listUpdate (.ref kS) (·.push k); pure (ForInStep.yield PUnit.unit)
      | .error e => next e) (fun r s'' => r = .yield PUnit.unit ∧ Mid X pins σ H D kS e1 (ds ++ [d]) s'') E s' := by
  obtain ⟨Hi, kA, e, ks, I, sm, nD, nS, gS, gD, rk, dk⟩ := m.ex
  have stk : ∀ {b : Addr}, FpOk X pins H b → b ∉ frs X.stack := fun {b} fb hb' => by
    rcases List.mem_cons.mp (I.stkSub b hb') with z | z
    · exact fb.2.1 z
    · exact fb.2.2.1 z
  refine wpAny_bind (wpAny_attempt (wpAny_call (codeAny_mono (F.run X.A.in1.in1 X.stack s' Hi ⟨[u], []⟩ [u] [x] (fun v H2 => Same Hi H2 ∧ Dp X.K H2 v d) E0 hr.in1.in1 I.env0.in1.in1 (hb s' [u] I.kIn rfl) (.cons rx .nil) (hsp Hi sm _ fun v H2 s2 h2 => ⟨s2, h2⟩)) fun r s2 hq => ?_)))
  cases r with
  | error z => exact hq.elim
  | ok fl =>
    cases fl with
    | next => exact hq.elim
    | brk => exact hq.elim
    | cont => exact hq.elim
    | ret y =>
      obtain ⟨v0, H0', os, bare, un, hok, rv0, q0⟩ := hq
      have hq' : CE X.stack X.prog X.w Hi s' (fun v H2 => (Same Hi H2 ∧ Dp X.K H2 v d) ∧ H2 kS = none ∧ H2 D = none) y s2 := ⟨v0, H0', os, bare, un, hok, rv0, q0, un.free kS _ gS nS List.not_mem_nil, un.free D _ gD nD List.not_mem_nil⟩
      have gS2 := un.keep kS _ gS nS (stk fS) List.not_mem_nil
      have gD2 := un.keep D _ gD nD (stk fD) List.not_mem_nil
      obtain ⟨v, H2, I2, rv, ⟨s2', dv⟩, n2S, n2D⟩ := I.after hq'
      have hlen : kA.size ≤ sizeLine := by
        have h1 : kA.toList.length = kA.size := Array.length_toList
        have h2 := dpAll_len dk
        have h3 : ks.length = kA.toList.length := Vals.length rk
        exact Evl.sz_of (by omega)
      refine wpAny_bind (listUpdate_at gS2 rfl ?_ hlen (by rw [Array.size_push]; omega))
      have sb := Heap.SameBut.update s2.heap kS (Obj.mapSeq (·.push y))
      obtain ⟨c2, hc2⟩ : ∃ c2, (s2.heap.update kS (Obj.mapSeq (·.push y))).get? kS = some (seqObj "list" (kA.push y) c2) := ⟨_, get?_update_seq gS2 (·.push y)⟩
      have fS2 : FpOk X pins H2 kS := ⟨n2S, fS.2⟩
      refine wpAny_pure ⟨rfl, ⟨H2, kA.push y, c2, ks ++ [v], ?_, sm.trans s2', n2D, n2S, hc2, (sb.2 D hne.symm).trans gD2, ?_, dpAll_snoc (dpAll_same s2' dk) dv⟩⟩
      · exact I2.turned (t' := s2.toks) (fun b o hb e => (sb.2 b hb).trans e) n2S fS.2.1 fS.2.2.2.1 fS.2.2.2.2.1 fS.2.2.2.2.2
      · rw [Array.toList_push]
        exact rk.append (.cons rv .nil)
end
end Sk
namespace Sk
open PySem PySem.Spec PyProof.Rows L2
open PySem.W (Datum DatumOrd Tup T3 dataLt dataLe alike AllAlike Sortable)
def pick {α : Type} (d : α) (ix : List (Bool × Nat)) (us ws : List α) : List α := ix.map fun p => if p.1 then ws.getD p.2 d else us.getD p.2 d
theorem vals_getD : ∀ {vs : List V} {us : List Value} (i : Nat), Vals vs us → RelV (vs.getD i .non) (us.getD i .none)
  | _, _, _, .nil => rfl
  | _, _, 0, .cons r _ => r
  | _, _, i + 1, .cons _ t => vals_getD i t
theorem pick_rel {ix : List (Bool × Nat)} {vs zs : List V} {us ws : List Value} (r : Vals vs us) (t : Vals zs ws) : Vals (pick .non ix vs zs) (pick .none ix us ws) := by
  unfold pick
  induction ix with
  | nil => exact .nil
  | cons p l ih =>
    obtain ⟨b, i⟩ := p
    refine .cons ?_ ih
    cases b with
    | true => exact vals_getD i t
    | false => exact vals_getD i r
theorem kbn_of {K : PySem.W.Frag} {x qual : Str} {st : Stmt} {f : Addr} {fd : FuncData} (F : Fun K x qual st f fd) (ps ks : List Str) (n : Nat) (ix : List (Bool × Nat))
    (h : ∀ (kV doc pm : Value) (an : Option Addr) (cdv ct : Value) (us ws : List Value), us.length = n → ws.length = ks.length → bindArgs (PySem.W.fnOf x qual (defArgs st) (defBody st) (defScope st) .none kV doc pm an cdv ct) ⟨us, ks.zip ws⟩ = pure (ps.zip (pick .none ix us ws))) :
    KBn K fd ps n ks (pick .none ix) (pick .non ix) := by
  obtain ⟨oc, od, kV, doc, pm, an, cdv, ct, osl, rfl, lk, hcd⟩ := F.ex
  exact ⟨fun s us ws _ l1 l2 => .of_eq (h kV doc pm an cdv ct us ws l1 l2), fun r t => pick_rel r t⟩
def rLtP (K : PySem.W.Frag) : R2 := fun x y H Q => ∃ d e, Dp K H x d ∧ Dp K H y e ∧ alike d e = true ∧ d ≠ .none ∧ d.depth ≤ 64 ∧ Q (.bl (dataLt d e)) H
section
variable {X : Cx}
theorem k_ltP (K : PySem.W.Frag) (hu : X.A.units + 64 < cLine) (e : X.K = K := by rfl) : OpR X (compareOp .Lt) (rLtP K) := by
  subst e
  intro pins s σ H x y v u Q I rx ry h
  obtain ⟨d, e, hd, he, sd, sn, dl, q⟩ := h
  obtain ⟨as, r1⟩ := Dp.reads I d x v hd rx
  obtain ⟨bs, r2⟩ := Dp.reads I e y u he ry
  exact PySem.W.lt_data r1 r2 sd sn (by omega) ⟨.bl _, H, I, rfl, q⟩
end
def rGtP (K : PySem.W.Frag) : R2 := fun x y H Q => ∃ d e, Dp K H x d ∧ Dp K H y e ∧ alike d e = true ∧ d ≠ .none ∧ d.depth ≤ 64 ∧ Q (.bl (dataLt e d)) H
theorem k_gtP {X : Cx} (K : PySem.W.Frag) (hu : X.A.units + 64 < cLine) (e : X.K = K := by rfl) : OpR X (compareOp .Gt) (rGtP K) := by
  subst e
  intro pins s σ H x y v u Q I rx ry h
  obtain ⟨d, e, hd, he, sd, sn, dl, q⟩ := h
  obtain ⟨as, r1⟩ := Dp.reads I d x v hd rx
  obtain ⟨bs, r2⟩ := Dp.reads I e y u he ry
  exact PySem.W.gt_data r1 r2 sd sn (by omega) ⟨.bl _, H, I, rfl, q⟩
theorem rd_gtP {α : Type} [DecidableEq α] [DatumOrd α] {K : PySem.W.Frag} {H : Hp} {v w : V} {x y : α} {Q : VK} (h1 : DV K H v x) (h2 : DV K H w y) (hd : Datum.depth α ≤ 64) (q : Q (.bl (DatumOrd.lt y x)) H) : rGtP K v w H Q :=
  ⟨_, _, h1, h2, DatumOrd.alike x y, DatumOrd.notNone x, Nat.le_trans (Datum.depth_le x) hd, by rw [DatumOrd.lt_eq]; exact q⟩
theorem rd_ltP {α : Type} [DecidableEq α] [DatumOrd α] {K : PySem.W.Frag} {H : Hp} {v w : V} {x y : α} {Q : VK} (h1 : DV K H v x) (h2 : DV K H w y) (hd : Datum.depth α ≤ 64) (q : Q (.bl (DatumOrd.lt x y)) H) : rLtP K v w H Q :=
  ⟨_, _, h1, h2, DatumOrd.alike x y, DatumOrd.notNone x, Nat.le_trans (Datum.depth_le x) hd, by rw [DatumOrd.lt_eq]; exact q⟩
abbrev Rank := T3 Int Int Str
def rankT (s : Str) : Rank := if isNumS s then ⟨0, numS s, Str.ofString ""⟩ else ⟨1, 0, s⟩
def ltK (a b : Str) : Bool := DatumOrd.lt (rankT a) (rankT b)
def leK (a b : Str) : Bool := !ltK b a
def sortK (ks : List Str) : List Str := ks.mergeSort leK
def keyOf : V → PyData
  | .str s => Datum.toD (rankT s)
  | _ => .none
theorem sortK_map (ks : List Str) : (ks.map V.str).mergeSort (dataLe false keyOf) = (sortK ks).map V.str := by
  unfold sortK
  refine (List.map_mergeSort (r := leK) (s := dataLe false keyOf) (f := V.str) fun a _ b _ => ?_).symm
  show (!ltK b a) = !dataLt (Datum.toD (rankT b)) (Datum.toD (rankT a))
  rw [DatumOrd.lt_eq]
  rfl
theorem alikeK (ks : List Str) : AllAlike ((ks.map V.str).map keyOf) := by
  intro d hd e he
  rw [List.map_map] at hd he
  obtain ⟨a, _, rfl⟩ := List.mem_map.mp hd
  obtain ⟨b, _, rfl⟩ := List.mem_map.mp he
  exact DatumOrd.alike (rankT a) (rankT b)
theorem sortableK (ks : List Str) : Sortable ((ks.map V.str).map keyOf) := by
  refine .inl fun d hd => ?_
  rw [List.map_map] at hd
  obtain ⟨a, _, rfl⟩ := List.mem_map.mp hd
  exact ⟨_, _, rfl⟩
def spRank (K : PySem.W.Frag) : Sp := fun vs H Q _ => ∃ w : Str, vs = [.str w] ∧ w.length ≤ 640 ∧ ∀ v H', Same H H' → DV K H' v (rankT w) → Q v H'
theorem dv_rank {K : PySem.W.Frag} {H : Hp} {p : Addr} {x : Int} {y : Int} {s : Str} (h : H p = some (.tup [.int x, .int y, .str s])) : DV K H (.ref p) (⟨x, y, s⟩ : Rank) :=
  Dp.tup (xs := [.int x, .int y, .str s]) (.inl (.inl h)) (.cons (.int x) (.cons (.int y) (.cons (.str s) .nil)))
end Sk
namespace Sk
open PySem PySem.Spec PyProof.Rows L2
section
variable {K : PySem.W.Frag} {σ : L2.St}
/-- the step that all pure comprehensions share -/
theorem lc_step {te : TE} {tt : TT} {H1 H2 : Hp} {D : Addr} {acc : List V} {b : Bool} {y : V} {σ2 : L2.St} {Nx : Hp → Prop} (hD : H1 D = none) (s2 : Same H1 H2) (e2 : H2 D = some (.lst acc)) (hl : acc.length < 100000)
    (ht : ∀ R : Bool → Hp → Prop, (∀ H3, Same H2 H3 → R b H3) → tt σ2 H2 R) (he : b = true → ∀ H3, Same H2 H3 → ∀ R : VK, (∀ H4, Same H3 H4 → R y H4) → te σ2 H3 R)
    (hn : ∀ H4, Same H1 H4 → H4 D = some (.lst (if b = true then acc ++ [y] else acc)) → Nx H4) :
    tt σ2 H2 fun b H3 => if b = true then te σ2 H3 fun y H4 => ∃ acc, H4 D = some (.lst acc) ∧ acc.length < sizeLine ∧ Nx (upd H4 D (.lst (acc ++ [y]))) else Nx H3 := by
  refine ht _ fun H3 s3 => ?_
  have e3 := s3 _ _ e2
  cases b with
  | true =>
    refine iteT (he rfl H3 s3 _ fun H4 s4 => ?_)
    exact ⟨_, s4 _ _ e3, Evl.sz_lt hl, hn _ (same_mut ((s2.trans s3).trans s4) hD) upd_same⟩
  | false => exact iteF (hn _ (s2.trans s3) e3)
theorem flt_snoc {α β : Type} {p : α → Bool} {f : α → β} {xs : List α} {i : Nat} {x : α} (h : xs[i]? = some x) : ((xs.take (i + 1)).filter p).map f = if p x = true then ((xs.take i).filter p).map f ++ [f x] else ((xs.take i).filter p).map f := by
  rw [List.take_add_one, h, List.filter_append]
  show ((_ ++ List.filter p [x]).map f) = _
  cases hp : p x with
  | true => rw [List.filter_cons, hp, if_pos rfl, List.filter_nil, List.map_append, if_pos rfl]; rfl
  | false => rw [List.filter_cons, hp, if_neg Bool.false_ne_true, List.filter_nil, List.append_nil, if_neg Bool.false_ne_true]
theorem flt_len {α β : Type} {p : α → Bool} {f : α → β} {xs : List α} {i : Nat} {x : α} (h : xs[i]? = some x) (hn : xs.length ≤ 100000) : (((xs.take i).filter p).map f).length < 100000 := by
  have hi := (List.getElem?_eq_some_iff.mp h).1
  have := List.length_filter_le p (xs.take i)
  rw [List.length_take] at this
  rw [List.length_map]
  omega
/-- over the signs of a text -/
theorem lc_pure_str {te : TE} {tt : TT} {k : Nat} {H1 : Hp} {D : Addr} {x : Str} {Qd : Hp → Prop} (p : Nat → Bool) (f : Nat → V) (hn : x.length ≤ 100000) (hD : H1 D = none)
    (ht : ∀ c H2, c ∈ tl x → Same H1 H2 → ∀ R : Bool → Hp → Prop, (∀ H3, Same H2 H3 → R (p c) H3) → tt ((wipe σ [k]).set k (some (.str ⟨#[c]⟩))) H2 R)
    (he : ∀ c H2, c ∈ tl x → p c = true → Same H1 H2 → ∀ R : VK, (∀ H3, Same H2 H3 → R (f c) H3) → te ((wipe σ [k]).set k (some (.str ⟨#[c]⟩))) H2 R)
    (hd : ∀ H2, Same H1 H2 → H2 D = some (.lst (((tl x).filter p).map f)) → Qd H2) :
    ∃ W : Nat → Nat → Hp → Prop, (∃ m, W 0 m (upd H1 D (.lst []))) ∧ ∀ i m H, W i m H →
      ((Its x).stop i H ∧ Qd H) ∨ ((Its x).go i H ∧ ∃ Nx : Hp → Prop, (∀ H', Nx H' → ∃ m', m' < m ∧ W (i + 1) m' H') ∧ ∀ y H', (Its x).yld i H y H' → gName k y (wipe σ [k]) H' fun σ2 H2 => wipe σ2 [k] = wipe σ [k] ∧ tt σ2 H2 fun b H3 =>
        if b = true then te σ2 H3 fun y H4 => ∃ acc, H4 D = some (.lst acc) ∧ acc.length < sizeLine ∧ Nx (upd H4 D (.lst (acc ++ [y]))) else Nx H3) := by
  have hx := len_tl x
  refine ⟨fun i m H => m = (tl x).length - i ∧ i ≤ (tl x).length ∧ Same H1 H ∧ H D = some (.lst ((((tl x).take i).filter p).map f)), ⟨_, rfl, Nat.zero_le _, same_new hD, upd_same⟩, ?_⟩
  rintro i m H ⟨em, hi, s2, e2⟩
  by_cases hlt : i < (tl x).length
  · refine .inr ⟨by
      show i < x.cps.size
      have h : x.cps.size = (tl x).length := hx
      omega, fun H4 => Same H1 H4 ∧ H4 D = some (.lst ((((tl x).take (i + 1)).filter p).map f)), fun H' h => ⟨(tl x).length - (i + 1), by omega, rfl, hlt, h⟩, ?_⟩
    rintro y H' ⟨rfl, c, hc, rfl⟩
    have hc' : (tl x)[i]? = some c := by rw [show tl x = x.cps.toList from rfl, Array.getElem?_toList]; exact hc
    have hm := List.mem_of_getElem? hc'
    refine ⟨wipe1, ?_⟩
    refine lc_step (b := p c) (y := f c) hD s2 e2 (flt_len hc' (by omega)) (ht c _ hm s2) (fun hp H3 s3 => he c H3 hm hp (s2.trans s3)) fun H4 s4 e4 => ⟨s4, ?_⟩
    rw [flt_snoc hc']
    exact e4
  · have ei : i = (tl x).length := by omega
    refine .inl ⟨by
      show x.cps.size ≤ i
      have h : x.cps.size = (tl x).length := hx
      omega, hd H s2 ?_⟩
    rw [ei, List.take_length] at e2
    exact e2
/-- over a tuple -/
theorem lc_pure_tup {te : TE} {tt : TT} {k : Nat} {H1 : Hp} {D a : Addr} {xs : List V} {Qd : Hp → Prop} (p : V → Bool) (f : V → V) (hn : xs.length ≤ 100000) (hD : H1 D = none) (hS : H1 a = some (.tup xs))
    (ht : ∀ x H2, x ∈ xs → Same H1 H2 → ∀ R : Bool → Hp → Prop, (∀ H3, Same H2 H3 → R (p x) H3) → tt ((wipe σ [k]).set k (some x)) H2 R)
    (he : ∀ x H2, x ∈ xs → p x = true → Same H1 H2 → ∀ R : VK, (∀ H3, Same H2 H3 → R (f x) H3) → te ((wipe σ [k]).set k (some x)) H2 R)
    (hd : ∀ H2, Same H1 H2 → H2 D = some (.lst ((xs.filter p).map f)) → Qd H2) :
    ∃ W : Nat → Nat → Hp → Prop, (∃ m, W 0 m (upd H1 D (.lst []))) ∧ ∀ i m H, W i m H →
      ((Itt K a).stop i H ∧ Qd H) ∨ ((Itt K a).go i H ∧ ∃ Nx : Hp → Prop, (∀ H', Nx H' → ∃ m', m' < m ∧ W (i + 1) m' H') ∧ ∀ x H', (Itt K a).yld i H x H' → gName k x (wipe σ [k]) H' fun σ2 H2 => wipe σ2 [k] = wipe σ [k] ∧ tt σ2 H2 fun b H3 =>
        if b = true then te σ2 H3 fun y H4 => ∃ acc, H4 D = some (.lst acc) ∧ acc.length < sizeLine ∧ Nx (upd H4 D (.lst (acc ++ [y]))) else Nx H3) := by
  refine lc_tup (K := K) (a := a) (xs := xs) (fun i H2 => Same H1 H2 ∧ H2 D = some (.lst (((xs.take i).filter p).map f))) ⟨same_new hD, upd_same⟩ (fun i H2 _ h => .inl (.inl (h.1 _ _ hS))) ?_ ?_
  · rintro i x H2 hx ⟨s2, e2⟩
    have hm : x ∈ xs := List.mem_of_getElem? hx
    refine ⟨wipe1, ?_⟩
    refine lc_step (b := p x) (y := f x) hD s2 e2 (flt_len hx hn) (ht x _ hm s2) (fun hp H3 s3 => he x H3 hm hp (s2.trans s3)) fun H4 s4 e4 => ⟨s4, ?_⟩
    rw [flt_snoc hx]
    exact e4
  · rintro H2 ⟨s2, e2⟩
    rw [List.take_length] at e2
    exact hd H2 s2 e2
end
theorem all_bools {α : Type} (l : List α) (f : α → Bool) : ((l.filter fun _ => true).map fun x => V.bl (f x)) = (l.map f).map V.bl := by
  rw [List.filter_eq_self.mpr (fun _ _ => rfl), List.map_map]
  rfl
mutual
inductive Rd (H : Hp) : V → PyData → Prop where
  | non : Rd H .non .none
  | bl (b : Bool) : Rd H (.bl b) (.bool b)
  | int (i : Int) : Rd H (.int i) (.int i)
  | str (x : Str) : Rd H (.str x) (.str x)
  | lst {a : Addr} {xs : List V} {ds : List PyData} : H a = some (.lst xs) → RdAll H xs ds → Rd H (.ref a) (.list ds)
  | tup {a : Addr} {xs : List V} {ds : List PyData} : H a = some (.tup xs) → RdAll H xs ds → Rd H (.ref a) (.tuple ds)
  | dct {a : Addr} : H a = some (.dK []) → Rd H (.ref a) (.dict [])
inductive RdAll (H : Hp) : List V → List PyData → Prop where
  | nil : RdAll H [] []
  | cons {v : V} {vs : List V} {d : PyData} {ds : List PyData} : Rd H v d → RdAll H vs ds → RdAll H (v :: vs) (d :: ds)
end
mutual
theorem Rd.same {H H' : Hp} (s : Same H H') : ∀ {v : V} {d : PyData}, Rd H v d → Rd H' v d
  | _, _, .non => .non
  | _, _, .bl b => .bl b
  | _, _, .int i => .int i
  | _, _, .str x => .str x
  | _, _, .lst h g => .lst (s _ _ h) (RdAll.same s g)
  | _, _, .tup h g => .tup (s _ _ h) (RdAll.same s g)
  | _, _, .dct h => .dct (s _ _ h)
theorem RdAll.same {H H' : Hp} (s : Same H H') : ∀ {vs : List V} {ds : List PyData}, RdAll H vs ds → RdAll H' vs ds
  | _, _, .nil => .nil
  | _, _, .cons h g => .cons (Rd.same s h) (RdAll.same s g)
end
theorem RdAll.len {H : Hp} : ∀ {vs : List V} {ds : List PyData}, RdAll H vs ds → vs.length = ds.length
  | _, _, .nil => rfl
  | _, _, .cons _ g => by rw [List.length_cons, List.length_cons, RdAll.len g]
theorem RdAll.at {H : Hp} : ∀ {vs : List V} {ds : List PyData} {i : Nat} {v : V}, RdAll H vs ds → vs[i]? = some v → ∃ d, ds[i]? = some d ∧ Rd H v d
  | _, _, 0, _, .cons h _, e => ⟨_, rfl, by rw [← Option.some.inj e]; exact h⟩
  | _, _, i + 1, _, .cons _ g, e => RdAll.at (i := i) g e
theorem rdAll_strs {H : Hp} : ∀ ks : List Str, RdAll H (ks.map V.str) (ks.map PyData.str)
  | [] => .nil
  | k :: ks => .cons (.str k) (rdAll_strs ks)
inductive Bnd (B : Nat) : PyData → Prop where
  | non : Bnd B .none
  | bl (b : Bool) : Bnd B (.bool b)
  | int {i : Int} (h : i.natAbs ≤ 10 ^ 30 + B) : Bnd B (.int i)
  | str {x : Str} (h : x.length ≤ B) : Bnd B (.str x)
  | lst {ds : List PyData} (h : ds.length ≤ B) (a : ∀ d ∈ ds, Bnd B d) : Bnd B (.list ds)
  | tup {ds : List PyData} (h : ds.length ≤ B) (a : ∀ d ∈ ds, Bnd B d) : Bnd B (.tuple ds)
  | dct : Bnd B (.dict [])
def tyName : PyData → String
  | .none => "NoneType" | .bool _ => "bool" | .int _ => "int" | .str _ => "str" | .list _ => "list" | .tuple _ => "tuple" | .dict _ => "dict"
theorem Rd.ty {K : PySem.W.Frag} {H : Hp} {v : V} {d : PyData} (r : Rd H v d) : TyX K H v (.type (tyName d)) := by
  cases r with
  | non => exact .base .non
  | bl b => exact .base (.bl b)
  | int i => exact .base (.int i)
  | str x => exact .base (.str x)
  | lst h g => exact .base (.lst h)
  | tup h g => exact .base (.tup h)
  | dct h => exact .base (.dK h)
def instD (T : String) (d : PyData) : Bool := tyName d == T || (T == "int" && tyName d == "bool")
theorem kit_inst {K : PySem.W.Frag} {d : PyData} {T : String} (hT : T ∈ ["str", "tuple", "list", "int", "bool"]) : PySem.W.kitOne K (.type (tyName d)) (.type T) = some (instD T d) := by
  refine kit_ty (r := instD T d) ?_
  have key : ∀ n ∈ ["NoneType", "bool", "int", "str", "list", "tuple", "dict"], ∀ T ∈ ["str", "tuple", "list", "int", "bool"], kitB n T = some (n == T || (T == "int" && n == "bool")) := by decide +kernel
  refine key (tyName d) ?_ T hT
  cases d <;> simp [tyName]
def isWorthD : PyData → Bool
  | .str s => decide (WorthS s)
  | _ => false
def isNameD : PyData → Bool
  | .str s => decide (1 ≤ s.length) && decide (s.length ≤ 8) && (tl s).all fun c => decide (97 ≤ c ∧ c ≤ 122)
  | _ => false
def isKeyD : PyData → Bool
  | .str s => decide (WorthS s) && (decide (1 ≤ s.length) && decide (s.length ≤ 40))
  | _ => false
def isRefD : PyData → Bool
  | .tuple [n, .tuple ks] => isNameD n && (decide (ks.length ≤ 6) && ks.all isKeyD)
  | _ => false
def spThing (f : PyData → Bool) : Sp := fun vs H Q _ => ∃ v d, vs = [v] ∧ Rd H v d ∧ Bnd 100000 d ∧ ∀ H', Same H H' → Q (.bl (f d)) H'
theorem letters_mem {c : Nat} : decide (c ∈ tl (Str.ofString "abcdefghijklmnopqrstuvwxyz")) = decide (97 ≤ c ∧ c ≤ 122) := by
  have e : tl (Str.ofString "abcdefghijklmnopqrstuvwxyz") = (List.range 26).map (· + 97) := by decide +kernel
  rw [e]
  refine decide_eq_decide.mpr ?_
  rw [List.mem_map]
  constructor
  · rintro ⟨k, hk, rfl⟩
    have := List.mem_range.mp hk
    omega
  · intro h
    exact ⟨c - 97, List.mem_range.mpr (by omega), by omega⟩
theorem lawSigns_dec {c : Nat} : decide (c ∈ tl lawSigns) = decide (Wc c) := decide_eq_decide.mpr lawSigns_mem
theorem all_dec {l : List Nat} {p : Nat → Prop} [DecidablePred p] : (l.map fun c => decide (p c)).all id = decide (∀ c ∈ l, p c) := by
  rw [List.all_map, Bool.eq_iff_iff, List.all_eq_true, decide_eq_true_eq]
  exact ⟨fun h c hc => of_decide_eq_true (h c hc), fun h c hc => decide_eq_true (h c hc)⟩
end Sk
namespace Sk
open PySem PySem.Spec PyProof.Rows L2
theorem iteT_of {b : Bool} {A B : Prop} (h : if b = true then A else B) (e : b = true) : A := by rw [if_pos e] at h; exact h
theorem iteF_of {b : Bool} {A B : Prop} (h : if b = true then A else B) (e : b = false) : B := by
  rw [if_neg (by rw [e]; exact Bool.false_ne_true)] at h
  exact h
end Sk
namespace Sk
open PySem PySem.Spec PyProof.Rows L2
mutual
theorem Rd.uniq {H : Hp} : ∀ {v : V} {d e : PyData}, Rd H v d → Rd H v e → d = e
  | _, _, _, .non, r => by cases r; rfl
  | _, _, _, .bl b, r => by cases r; rfl
  | _, _, _, .int i, r => by cases r; rfl
  | _, _, _, .str x, r => by cases r; rfl
  | _, _, _, .lst h g, r => by
    cases r with
    | lst h' g' => rw [h] at h'; cases h'; rw [RdAll.uniq g g']
    | tup h' g' => rw [h] at h'; cases h'
    | dct h' => rw [h] at h'; cases h'
  | _, _, _, .tup h g, r => by
    cases r with
    | lst h' g' => rw [h] at h'; cases h'
    | tup h' g' => rw [h] at h'; cases h'; rw [RdAll.uniq g g']
    | dct h' => rw [h] at h'; cases h'
  | _, _, _, .dct h, r => by
    cases r with
    | lst h' g' => rw [h] at h'; cases h'
    | tup h' g' => rw [h] at h'; cases h'
    | dct h' => rfl
theorem RdAll.uniq {H : Hp} : ∀ {vs : List V} {ds es : List PyData}, RdAll H vs ds → RdAll H vs es → ds = es
  | _, _, _, .nil, r => by cases r; rfl
  | _, _, _, .cons h g, r => by
    cases r with
    | cons h' g' => rw [Rd.uniq h h', RdAll.uniq g g']
end
open Classical in
noncomputable def datOf (H : Hp) (v : V) : PyData := if h : ∃ d, Rd H v d then h.choose else .none
theorem datOf_eq {H : Hp} {v : V} {d : PyData} (r : Rd H v d) : datOf H v = d := by
  have h : ∃ d, Rd H v d := ⟨d, r⟩
  unfold datOf
  rw [dif_pos h]
  exact Rd.uniq h.choose_spec r
theorem RdAll.map {H : Hp} : ∀ {vs : List V} {ds : List PyData}, RdAll H vs ds → ds = vs.map (datOf H)
  | _, _, .nil => rfl
  | _, _, .cons h g => by rw [List.map_cons, datOf_eq h, ← RdAll.map g]
theorem RdAll.each {H : Hp} : ∀ {vs : List V} {ds : List PyData}, RdAll H vs ds → ∀ v ∈ vs, Rd H v (datOf H v)
  | _, _, .nil, v, h => nomatch h
  | _, _, .cons h g, v, hv => by
    rcases List.mem_cons.mp hv with rfl | hv
    · rw [datOf_eq h]; exact h
    · exact RdAll.each g v hv
end Sk
namespace Sk
open PySem PySem.Spec PyProof.Rows L2
theorem nameS_is {s : Str} (h : NameS s) : isNameD (.str s) = true := by
  obtain ⟨h1, h2, h3⟩ := h
  show (decide (1 ≤ s.length) && decide (s.length ≤ 8) && _) = true
  rw [decide_eq_true h1, decide_eq_true h2, Bool.true_and, Bool.true_and, List.all_eq_true]
  exact fun c hc => decide_eq_true (h3 c hc)
theorem keyS_is {s : Str} (h : KeyS s) : isKeyD (.str s) = true := by
  obtain ⟨h1, h2, h3⟩ := h
  show (decide (WorthS s) && (decide (1 ≤ s.length) && decide (s.length ≤ 40))) = true
  rw [decide_eq_true h1, decide_eq_true h2, decide_eq_true h3]
  rfl
def refD (n : Str) (ks : List Str) : PyData := .tuple [.str n, .tuple (ks.map PyData.str)]
theorem ref_rd {H : Hp} {v : V} {n : Str} {ks : List Str} (r : RefAt H v n ks) : Rd H v (refD n ks) := by
  obtain ⟨a, k, rfl, h1, h2⟩ := r
  exact .tup h1 (.cons (.str n) (.cons (.tup h2 (rdAll_strs ks)) .nil))
theorem ref_is {n : Str} {ks : List Str} (h : RefS n ks) : isRefD (refD n ks) = true := by
  show (isNameD (.str n) && (decide ((ks.map PyData.str).length ≤ 6) && (ks.map PyData.str).all isKeyD)) = true
  rw [nameS_is h.name, List.length_map, decide_eq_true h.len, Bool.true_and, Bool.true_and, List.all_eq_true]
  intro d hd
  obtain ⟨k, hk, rfl⟩ := List.mem_map.mp hd
  exact keyS_is (h.keys k hk)
theorem ref_bnd {n : Str} {ks : List Str} (h : RefS n ks) : Bnd 100000 (refD n ks) := by
  refine .tup (by show 2 ≤ 100000; decide) fun d hd => ?_
  rcases List.mem_cons.mp hd with rfl | hd
  · exact .str (Nat.le_trans h.name.2.1 (by decide))
  · rw [List.mem_singleton.mp hd]
    refine .tup (by rw [List.length_map]; exact Nat.le_trans h.len (by decide)) fun d hd => ?_
    obtain ⟨k, hk, rfl⟩ := List.mem_map.mp hd
    exact .str (Nat.le_trans (h.keys k hk).2.1 (by decide))
end Sk
namespace Sk
open PySem PySem.Spec PyProof.Rows L2
open PySem.W (Datum DatumOrd Tup T3 dataLt dataLe alike AllAlike Sortable EachIs)
def kS : V → PyData | .str x => .str x | _ => .none
theorem ltK_nn {a b : Str} (ha : isNumS a = true) (hb : isNumS b = true) : ltK a b = decide (numS a < numS b) := by
  unfold ltK rankT
  rw [if_pos ha, if_pos hb]
  show (if (0 : Int) = 0 then (if numS a = numS b then DatumOrd.lt (Str.ofString "") (Str.ofString "") else decide (numS a < numS b)) else _) = _
  rw [if_pos rfl]
  by_cases h : numS a = numS b
  · rw [if_pos h, h, decide_eq_false (Int.lt_irrefl _)]
    decide +kernel
  · rw [if_neg h]
theorem ltK_nt {a b : Str} (ha : isNumS a = true) (hb : isNumS b = false) : ltK a b = true := by
  unfold ltK rankT
  rw [if_pos ha, if_neg (by rw [hb]; exact Bool.false_ne_true)]
  rfl
theorem ltK_tn {a b : Str} (ha : isNumS a = false) (hb : isNumS b = true) : ltK a b = false := by
  unfold ltK rankT
  rw [if_neg (by rw [ha]; exact Bool.false_ne_true), if_pos hb]
  rfl
theorem ltK_tt {a b : Str} (ha : isNumS a = false) (hb : isNumS b = false) : ltK a b = decide (tl a < tl b) := by
  unfold ltK rankT
  rw [if_neg (by rw [ha]; exact Bool.false_ne_true), if_neg (by rw [hb]; exact Bool.false_ne_true)]
  show (if (1 : Int) = 1 then (if (0 : Int) = 0 then DatumOrd.lt a b else _) else _) = _
  rw [if_pos rfl, if_pos rfl]
  rfl
theorem ltK_irrefl (a : Str) : ltK a a = false := by
  cases h : isNumS a with
  | true => rw [ltK_nn h h, decide_eq_false (Int.lt_irrefl _)]
  | false => rw [ltK_tt h h, decide_eq_false (List.lt_irrefl _)]
theorem ltK_trans {a b c : Str} (h1 : ltK a b = true) (h2 : ltK b c = true) : ltK a c = true := by
  cases ha : isNumS a <;> cases hb : isNumS b <;> cases hc : isNumS c
  · rw [ltK_tt ha hb, decide_eq_true_eq] at h1
    rw [ltK_tt hb hc, decide_eq_true_eq] at h2
    rw [ltK_tt ha hc, decide_eq_true_eq]
    exact List.lt_trans h1 h2
  · rw [ltK_tn hb hc] at h2; cases h2
  · rw [ltK_tn ha hb] at h1; cases h1
  · rw [ltK_tn ha hb] at h1; cases h1
  · exact ltK_nt ha hc
  · rw [ltK_tn hb hc] at h2; cases h2
  · exact ltK_nt ha hc
  · rw [ltK_nn ha hb, decide_eq_true_eq] at h1
    rw [ltK_nn hb hc, decide_eq_true_eq] at h2
    rw [ltK_nn ha hc, decide_eq_true_eq]
    omega
theorem ltK_asymm {a b : Str} (h : ltK a b = true) : ltK b a = false := by
  cases h2 : ltK b a with
  | false => rfl
  | true => have := ltK_trans h h2; rw [ltK_irrefl] at this; cases this
theorem numS_inj {a b : Str} (ha : isNumS a = true) (hb : isNumS b = true) (h : numS a = numS b) : a = b := by
  rw [isNumS_iff, decide_eq_true_eq] at ha hb
  rw [← ha, ← hb, h]
theorem ltK_total {a b : Str} (h : a ≠ b) : ltK a b = true ∨ ltK b a = true := by
  cases ha : isNumS a <;> cases hb : isNumS b
  · rw [ltK_tt ha hb, ltK_tt hb ha, decide_eq_true_eq, decide_eq_true_eq]
    by_cases h1 : tl a < tl b
    · exact .inl h1
    · refine .inr ?_
      have h2 : tl b ≤ tl a := List.not_lt.mp h1
      rcases List.le_iff_lt_or_eq.mp h2 with h3 | h3
      · exact h3
      · exact absurd (tl_inj h3.symm) h
  · exact .inr (ltK_nt hb ha)
  · exact .inl (ltK_nt ha hb)
  · rw [ltK_nn ha hb, ltK_nn hb ha, decide_eq_true_eq, decide_eq_true_eq]
    have : numS a ≠ numS b := fun z => h (numS_inj ha hb z)
    omega
theorem leK_total (a b : Str) : (leK a b || leK b a) = true := by
  unfold leK
  cases h1 : ltK b a with
  | false => rfl
  | true => rw [ltK_asymm h1]; rfl
theorem leK_trans (a b c : Str) (h1 : leK a b = true) (h2 : leK b c = true) : leK a c = true := by
  unfold leK at *
  rw [Bool.not_eq_true'] at *
  by_cases e : a = b
  · rw [e]; exact h2
  by_cases e2 : b = c
  · rw [← e2]; exact h1
  have g1 := (ltK_total e).resolve_right (by rw [h1]; exact Bool.false_ne_true)
  have g2 := (ltK_total e2).resolve_right (by rw [h2]; exact Bool.false_ne_true)
  exact ltK_asymm (ltK_trans g1 g2)
theorem sortK_pairwise (ks : List Str) : (sortK ks).Pairwise fun a b => leK a b = true := List.pairwise_mergeSort leK_trans leK_total ks
theorem sortK_perm (ks : List Str) : (sortK ks).Perm ks := List.mergeSort_perm ks leK
end Sk
namespace Sk
open PySem PySem.Spec PyProof.Rows L2
open PySem.W (Datum DatumOrd Tup T3 dataLt dataLe alike AllAlike Sortable)
section
variable {X : Cx} {o e : Expr} {es : List Expr} {to te : TE} {t : TA} {name : Str} {apos cpos : Pos} {T id : String} {r : V → List V → Hp → VK → Prop}
theorem k_bm (K : PySem.W.Frag) (pa : PlainAttrs T) (slot : Slot T name id) (hty : typeOf (.builtin id) = pure (.type "method_descriptor")) (hm : MtR X id r) (ho : PE X o to) (ha : PA X (e :: es) t) (eK : X.K = K := by rfl)
    (hbase : attributeBase o name X.env (eval o X.env) = eval o X.env := by rfl)
    (hfew : ((backTo cpos (starEach (e :: es) X.env)).all (fun x => !x.1) && (backToKw cpos (keywordEach [] X.env)).all (fun x => x.1.isSome)
      && decide ((e :: es).length + ([] : List Keyword).length + (if ([] : List Keyword).isEmpty then 0 else 1) < 30)) = true := by rfl)
    (hline : (apos.endLine == cpos.line) = true := by rfl) (hs : starEach (e :: es) X.env = (false, eval e X.env) :: starEach es X.env := by rfl) (hplain : (backTo cpos (starEach es X.env)).any (·.1) = false := by rfl) :
    PE X (.Call (.Attribute o name apos) (e :: es) [] cpos) (tBM K T r to t) := by
  subst eK
  exact pe_bm pa slot hty hm ho ha hbase hfew hline hs hplain
theorem k_revL (K : PySem.W.Frag) {k : Nat} {p1 p2 p3 pos : Pos} (he : PE X e te) (eK : X.K = K := by rfl) : PE X (.Subscript e (.Slice none none (some (.UnaryOp .USub (.Constant (.int 1) k p1) p2)) p3) pos) (tRevL K te) := by
  subst eK
  exact pe_revL he
end
end Sk
namespace Sk
open PySem PySem.Spec PyProof.Rows L2
theorem none_of_same {H H' : Hp} (s : Same H H') {a : Addr} (h : H' a = none) : H a = none := by
  cases e : H a with
  | none => rfl
  | some o => rw [s _ _ e] at h; cases h
theorem none_of_chg {b : Addr} {H H' : Hp} (s : Chg b H H') {a : Addr} (n : a ≠ b) (h : H' a = none) : H a = none := by
  cases e : H a with
  | none => rfl
  | some o => rw [s _ _ n e] at h; cases h
end Sk
namespace Sk
open PySem PySem.Spec PyProof.Rows L2
/-- one statement, then the rest from what it leaves -/
theorem seq_abs {t u : TS} {D : Ends} {σ : L2.St} {H : Hp} (P : L2.St → Hp → Prop) (first : ∀ N : L2.St → Hp → Prop, (∀ σ' H', P σ' H' → N σ' H') → t { D with nx := N } σ H) (rest : ∀ σ' H', P σ' H' → u D σ' H') : tSeq t u D σ H := first (u D) rest
end Sk
namespace Sk
open PySem PySem.Spec PyProof.Rows L2
theorem len_intS (n : Int) {k : Nat} (hk : 0 < k) (h : n.natAbs < 10 ^ k) : (Str.ofString (toString n)).length ≤ k + 2 := by
  rw [len_tl, tl_int]
  have key : ∀ (m n : Nat), n < 10 ^ m → (decL n).length ≤ m + 1 := by
    intro m
    induction m with
    | zero => intro n h; rw [show n = 0 by omega, decL_lt (by decide)]; decide
    | succ m ih =>
      intro n h
      by_cases hn : n < 10
      · rw [decL_lt hn]; show 1 ≤ _; omega
      · rw [decL_ge (by omega), List.length_append, List.length_singleton]
        have := ih (n / 10) (by rw [Nat.pow_succ] at h; omega)
        omega
  have := key k n.natAbs h
  unfold intL
  split
  · rw [List.length_cons]; omega
  · omega
end Sk
namespace Sk
open PySem PySem.Spec PyProof.Rows L2
theorem len_appS (a b : Str) : (a ++ b).length = a.length + b.length := Array.size_append
end Sk
namespace Sk
open PySem PySem.Spec PyProof.Rows L2
theorem BagAt.neS {N : Nat} {b a : Addr} {H : Hp} {ks : List Str} (h : BagAt N b H) (e : H a = some (.lst (ks.map V.str))) : a ≠ b := by
  rintro rfl
  obtain ⟨x, y, z, e2, _⟩ := h
  rw [e2] at e
  have e3 := HO.lst.inj (Option.some.inj e)
  cases ks with
  | nil => cases e3
  | cons k r => cases e3
def onStr (f : Str → V) : V → V
  | .str x => f x
  | _ => .non
end Sk
namespace Sk
open PySem PySem.Spec PyProof.Rows L2
theorem at_strs {ks : List Str} {i : Nat} {x : Str} {j : Int} (hj : j = (i : Int)) (h : ks[i]? = some x) : atI (ks.map V.str) j = some (.str x) := by
  subst hj
  refine atI_nat ?_
  rw [List.getElem?_map, h]
  rfl
end Sk
namespace Sk
open PySem PySem.Spec PyProof.Rows L2
def onStrB (f : Str → Bool) : V → Bool
  | .str x => f x
  | _ => false
theorem strs_filter (f : Str → Bool) (g : Str → Str) (ks : List Str) : ((ks.map V.str).filter (onStrB f)).map (onStr fun x => V.str (g x)) = ((ks.filter f).map g).map V.str := by
  rw [List.filter_map, List.map_map, List.map_map]
  rfl
end Sk
namespace Sk
open PySem PySem.Spec PyProof.Rows L2
def rNeE (K : PySem.W.Frag) : R2 := fun x y H Q => ∃ a b xs, x = .ref a ∧ y = .ref b ∧ SqL K H a xs ∧ SqL K H b [] ∧ Q (.bl (!xs.isEmpty)) H
section
variable {X : Cx}
theorem k_neE (K : PySem.W.Frag) (hu : X.A.units + 64 < cLine) (e : X.K = K := by rfl) : OpR X (compareOp .NotEq) (rNeE K) := by
  subst e
  intro pins s σ H x y v u Q I rx ry h
  obtain ⟨a, b, xs, rfl, rfl, ha, hb, q⟩ := h
  cases rx
  cases ry
  cases xs with
  | nil =>
    obtain ⟨as, r1⟩ := Dp.reads I _ _ _ (Dp.lst (K := X.K) (H := H) (a := a) (xs := []) (ds := []) ha .nil) (rfl : RelV (.ref a) (.ref a))
    obtain ⟨bs, r2⟩ := Dp.reads I _ _ _ (Dp.lst (K := X.K) (H := H) (a := b) (xs := []) (ds := []) hb .nil) (rfl : RelV (.ref b) (.ref b))
    exact PySem.SeqAt.ne_plain r1 r2 rfl rfl (by have : min (PyData.list []).depth (PyData.list []).depth ≤ 64 := by decide
                                                 omega) ⟨.bl false, H, I, rfl, q⟩
  | cons x r =>
    obtain ⟨its, ra, la, za⟩ := I.list ha
    obtain ⟨jts, rb, lb, zb⟩ := I.list hb
    have h1 := ra.length
    have h2 := rb.length
    refine PySem.SeqAt.RcNeAt.lists_lengths la.isList lb.isList ?_ (by omega) _ _ _ _ ⟨.bl true, H, I, rfl, q⟩
    rw [List.size_toArray, List.size_toArray, bne_iff_ne]
    rw [List.length_cons] at h1
    rw [List.length_nil] at h2
    omega
end
theorem Bnd.mono {B C : Nat} (h : B ≤ C) : ∀ {d : PyData}, Bnd B d → Bnd C d
  | _, .non => .non
  | _, .bl b => .bl b
  | _, .int k => .int (by omega)
  | _, .str k => .str (by omega)
  | _, .lst k a => .lst (by omega) fun d hd => Bnd.mono h (a d hd)
  | _, .tup k a => .tup (by omega) fun d hd => Bnd.mono h (a d hd)
  | _, .dct => .dct
end Sk
namespace Sk
open PySem PySem.Spec PyProof.Rows L2
abbrev Rf := Str × List Str
def nk (r : Rf) : NestedKey := .tup [.text r.1, .tup (r.2.map .text)]
theorem texts_inj : ∀ {a b : List Str}, a.map NestedKey.text = b.map NestedKey.text → a = b
  | [], [], _ => rfl
  | [], _ :: _, e => by cases e
  | _ :: _, [], e => by cases e
  | x :: xs, y :: ys, e => by
    rw [List.map_cons, List.map_cons] at e
    injection e with e1 e2
    injection e1 with e1
    rw [e1, texts_inj e2]
theorem nk_inj {a b : Rf} (h : nk a = nk b) : a = b := by
  obtain ⟨n, ks⟩ := a
  obtain ⟨m, js⟩ := b
  unfold nk at h
  injection h with h
  injection h with h1 h2
  injection h1 with h1
  injection h2 with h2 _
  injection h2 with h2
  have h1 : n = m := h1
  subst h1
  exact congrArg (Prod.mk n) (texts_inj h2)
theorem depthAll_texts : ∀ ks : List Str, NestedKey.depthAll (ks.map .text) = 0
  | [] => rfl
  | k :: ks => by
    show max 0 (NestedKey.depthAll (ks.map .text)) = 0
    rw [depthAll_texts ks]
    rfl
theorem nk_depth (r : Rf) : (nk r).depth ≤ 8 := by
  show max 0 (max (NestedKey.depthAll (r.2.map .text) + 1) 0) + 1 ≤ 8
  rw [depthAll_texts]
  decide
/-- how the entries stand beside the dict's own -/
abbrev Ent := Rf × Addr × V
abbrev NT : List Ent → List (NestedKey × Addr × Value) → Prop := Paired fun p q => nk p.1 = q.1 ∧ p.2.1 = q.2.1 ∧ RelV p.2.2 q.2.2
def ndφ (w : World) (a : Addr) (es : List Ent) (h : Heap) : Prop := (a == sysModules) = false ∧ es.length ≤ sizeLine ∧ (es.map (·.1)).Nodup ∧ ∃ xs : List (NestedKey × Addr × Value), NT es xs ∧
  ∃ o en ep, h.get? a = some o ∧ o.ExactDict ∧ o.data = .dict en ep ∧ en.toList = xs.map fun x => ⟨x.1.hash w, .ref x.2.1, x.2.2⟩
def ndO (w : World) (a : Addr) (es : List Ent) : HO := .ext (ndφ w a es)
/-- a dict with these entries; the keys' own tuples -/
def NdAt (w : World) (H : Hp) (a : Addr) (es : List Ent) : Prop := H a = some (ndO w a es) ∧ ∀ e ∈ es, RefAt H (.ref e.2.1) e.1.1 e.1.2
theorem ndφ_ok {P : Program} {w : World} {H : Hp} {h : Heap} {a : Addr} {es : List Ent} (x : ndφ w a es h) : ObjOk P w H h a (ndO w a es) := by
  refine ⟨x, ?_, fun h1 h2 y k => ?_⟩
  · obtain ⟨_, _, _, _, _, o, _, _, e, _⟩ := x
    exact ⟨o, e⟩
  · obtain ⟨z, l, n, xs, r, o, en, ep, e, c⟩ := y
    exact ⟨z, l, n, xs, r, o, en, ep, k _ e, c⟩
section
variable {P : Program} {w : World} {H : Hp} {h : Heap} {a b : Addr} {es : List Ent} {r : Rf}
theorem texts_all : ∀ {ks : List Str} {us : List Value}, Vals (ks.map V.str) us → NestedAll h (ks.map .text) us
  | [], _, r => by cases r; exact .nil
  | k :: ks, _, r => by
    cases r with
    | cons z t =>
      obtain ⟨tk, rfl⟩ := (show ∃ t, _ = Value.str k t from z)
      exact .cons (.text k tk) (texts_all t)
theorem ref_key (ok : HOk P w H h) (e : RefAt H (.ref b) r.1 r.2) : (nestedKind P w).is h (nk r) b := by
  obtain ⟨a, k, eb, h1, h2⟩ := e
  cases eb
  obtain ⟨_, its, v1, o1, g1, c1, m1, d1⟩ := (show ObjOk P w H h b (.tup [.str r.1, .ref k]) from ok b _ h1)
  obtain ⟨_, jts, v2, o2, g2, c2, m2, d2⟩ := (show ObjOk P w H h k (.tup (r.2.map V.str)) from ok k _ h2)
  refine ⟨?_, nk_depth r⟩
  cases v1 with
  | cons z t =>
    cases t with
    | cons z2 t2 =>
      cases t2
      obtain ⟨tk, rfl⟩ := (show ∃ t, _ = Value.str r.1 t from z)
      cases (show _ = Value.ref k from z2)
      exact .tup g1 c1 d1 (.cons (.text r.1 tk) (.cons (.tup g2 c2 d2 (texts_all v2)) .nil))
theorem nt_nodup {xs : List (NestedKey × Addr × Value)} (t : NT es xs) (n : (es.map (·.1)).Nodup) : (xs.map (·.1)).Nodup := by
  have e : xs.map (·.1) = (es.map (·.1)).map nk := by
    induction t with
    | nil => rfl
    | cons z _ ih =>
      rw [List.map_cons, List.map_cons, List.map_cons, ih (List.nodup_cons.mp (by rwa [List.map_cons] at n)).2, z.1]
  rw [e, List.nodup_iff_pairwise_ne, List.pairwise_map]
  exact (List.nodup_iff_pairwise_ne.mp n).imp fun h z => h (nk_inj z)
theorem nt_mem {xs : List (NestedKey × Addr × Value)} (t : NT es xs) : ∀ x ∈ xs, ∃ e ∈ es, nk e.1 = x.1 ∧ e.2.1 = x.2.1 := by
  induction t with
  | nil => exact fun x h => nomatch h
  | @cons p q ps qs z _ ih =>
    intro x hx
    rcases List.mem_cons.mp hx with rfl | hx
    · exact ⟨p, List.mem_cons_self, z.1, z.2.1⟩
    · obtain ⟨e, he, k⟩ := ih x hx
      exact ⟨e, List.mem_cons_of_mem _ he, k⟩
theorem nd_of (ok : HOk P w H h) (x : NdAt w H a es) : (a == sysModules) = false ∧ es.length ≤ sizeLine ∧ (es.map (·.1)).Nodup ∧ ∃ xs, NT es xs ∧ h.DictOfH (nestedKind P w) a xs := by
  obtain ⟨e, hk⟩ := x
  obtain ⟨⟨z, l, n, xs, t, o, en, ep, g, c, dt, et⟩, _⟩ := (show ObjOk P w H h a (ndO w a es) from ok a _ e)
  refine ⟨z, l, n, xs, t, o, en, ep, g, c, dt, et, fun x hx => ?_, nt_nodup t n⟩
  obtain ⟨p, hp, e1, e2⟩ := nt_mem t x hx
  rw [← e1, ← e2]
  exact ref_key ok (hk p hp)
end
/-- the value at a key -/
def ndGet (es : List Ent) (r : Rf) : Option V := (es.find? fun e => decide (e.1 = r)).map (·.2.2)
theorem nt_get {es : List Ent} {xs : List (NestedKey × Addr × Value)} (t : NT es xs) (r : Rf) : RelO (ndGet es r) ((atKey xs (nk r)).map (·.2)) := by
  induction t with
  | nil => exact True.intro
  | @cons p q ps qs z _ ih =>
    by_cases e : p.1 = r
    · have e' : q.1 = nk r := by rw [← z.1, e]
      rw [show ndGet (p :: ps) r = some p.2.2 by unfold ndGet; rw [List.find?_cons_of_pos (by exact decide_eq_true e)]; rfl, show atKey (q :: qs) (nk r) = some q.2 by simp [atKey, List.find?_cons, e']]
      exact z.2.2
    · have e' : ¬ q.1 = nk r := fun y => e (nk_inj (z.1.trans y))
      rw [show ndGet (p :: ps) r = ndGet ps r by unfold ndGet; rw [List.find?_cons_of_neg (by rw [decide_eq_false e]; exact Bool.false_ne_true)], show atKey (q :: qs) (nk r) = atKey qs (nk r) by simp [atKey, List.find?_cons, e']]
      exact ih
/-- the entries behind d[r] = v, r's own tuple at b -/
def ndPut (es : List Ent) (r : Rf) (b : Addr) (v : V) : List Ent := if (ndGet es r).isSome then es.map fun e => if e.1 = r then (e.1, e.2.1, v) else e else es ++ [(r, b, v)]
def ndDrop (es : List Ent) (r : Rf) : List Ent := es.filter fun e => !decide (e.1 = r)
theorem nt_put {es : List Ent} {xs : List (NestedKey × Addr × Value)} (t : NT es xs) (r : Rf) (b : Addr) {v : V} {u : Value} (rv : RelV v u) : NT (ndPut es r b v) (storedH xs (nk r) b u) := by
  have e : (ndGet es r).isSome = (atKey xs (nk r)).isSome := by
    rw [(nt_get t r).isSome_eq, Option.isSome_map]
  unfold ndPut storedH
  rw [e]
  have all : NT (es.map fun e => if e.1 = r then (e.1, e.2.1, v) else e) (xs.map (putAt (nk r) u)) := by
    clear e
    induction t with
    | nil => exact .nil
    | @cons p q ps qs z _ ih =>
      rw [List.map_cons, List.map_cons]
      refine .cons ?_ ih
      unfold putAt
      by_cases e : p.1 = r
      · rw [if_pos e, if_pos (by rw [← z.1, e])]
        exact ⟨z.1, z.2.1, rv⟩
      · rw [if_neg e, if_neg (fun y => e (nk_inj (z.1.trans y)))]
        exact z
  split
  · exact all
  · exact Paired.snoc t ⟨rfl, rfl, rv⟩
theorem nt_drop {es : List Ent} {xs : List (NestedKey × Addr × Value)} (t : NT es xs) (r : Rf) : NT (ndDrop es r) (withoutH xs (nk r)) := by
  unfold ndDrop withoutH
  induction t with
  | nil => exact .nil
  | @cons p q ps qs z _ ih =>
    by_cases e : p.1 = r
    · have e' : q.1 = nk r := by rw [← z.1, e]
      simpa [List.filter_cons, e, e'] using ih
    · have e' : ¬ q.1 = nk r := fun y => e (nk_inj (z.1.trans y))
      rw [List.filter_cons, List.filter_cons, if_pos (by rw [decide_eq_false e]; rfl), if_pos (decide_eq_true e')]
      exact .cons z ih
theorem put_len (es : List Ent) (r : Rf) (b : Addr) (v : V) : (ndPut es r b v).length ≤ es.length + 1 := by
  unfold ndPut
  split
  · rw [List.length_map]; omega
  · rw [List.length_append]; exact Nat.le_refl _
theorem get_none {es : List Ent} {r : Rf} : (ndGet es r).isSome = false ↔ r ∉ es.map (·.1) := by
  unfold ndGet
  rw [Option.isSome_map]
  constructor
  · intro h hm
    obtain ⟨e, he, rfl⟩ := List.mem_map.mp hm
    have h2 : (es.find? fun x => decide (x.1 = e.1)) = none := Option.not_isSome_iff_eq_none.mp (by rw [h]; exact Bool.false_ne_true)
    have := List.find?_eq_none.mp h2 e he
    exact this (decide_eq_true rfl)
  · intro h
    cases hf : (es.find? fun x => decide (x.1 = r)) with
    | none => rfl
    | some e =>
      have h1 := List.find?_some hf
      have h2 := List.mem_of_find?_eq_some hf
      exact absurd (List.mem_map.mpr ⟨e, h2, of_decide_eq_true h1⟩) h
theorem put_keys (es : List Ent) (r : Rf) (b : Addr) (v : V) (h : (ndGet es r).isSome = true) : (ndPut es r b v).map (·.1) = es.map (·.1) := by
  unfold ndPut
  rw [if_pos h, List.map_map]
  refine List.map_congr_left fun e _ => ?_
  show (if e.1 = r then (e.1, e.2.1, v) else e).1 = e.1
  split <;> rfl
theorem put_nodup {es : List Ent} (n : (es.map (·.1)).Nodup) (r : Rf) (b : Addr) (v : V) : ((ndPut es r b v).map (·.1)).Nodup := by
  cases h : (ndGet es r).isSome with
  | true => rw [put_keys es r b v h]; exact n
  | false =>
    unfold ndPut
    rw [if_neg (by rw [h]; exact Bool.false_ne_true), List.map_append, List.nodup_append]
    refine ⟨n, by simp, fun x hx y hy => ?_⟩
    rw [show y = r by simpa using hy]
    exact fun z => get_none.mp h (z ▸ hx)
theorem drop_nodup {es : List Ent} (n : (es.map (·.1)).Nodup) (r : Rf) : ((ndDrop es r).map (·.1)).Nodup := n.sublist ((List.filter_sublist (l := es)).map _)
theorem put_refs {H : Hp} {es : List Ent} (hk : ∀ e ∈ es, RefAt H (.ref e.2.1) e.1.1 e.1.2) {r : Rf} {b : Addr} (hr : RefAt H (.ref b) r.1 r.2) (v : V) : ∀ e ∈ ndPut es r b v, RefAt H (.ref e.2.1) e.1.1 e.1.2 := by
  intro e he
  unfold ndPut at he
  split at he
  · obtain ⟨x, hx, rfl⟩ := List.mem_map.mp he
    have := hk x hx
    by_cases h : x.1 = r
    · rw [if_pos h]; exact this
    · rw [if_neg h]; exact this
  · rcases List.mem_append.mp he with he | he
    · exact hk e he
    · rw [List.mem_singleton.mp he]; exact hr
theorem RefAt.nd {H : Hp} {a : Addr} {w : World} {es fs : List Ent} (e : H a = some (ndO w a es)) {v : V} {n : Str} {ks : List Str} (r : RefAt H v n ks) : RefAt (upd H a (ndO w a fs)) v n ks := by
  obtain ⟨x, k, rfl, h1, h2⟩ := r
  have n1 : x ≠ a := ne_of h1 e (fun z => nomatch z)
  have n2 : k ≠ a := ne_of h2 e (fun z => nomatch z)
  exact ⟨x, k, rfl, by rw [upd_ne n1]; exact h1, by rw [upd_ne n2]; exact h2⟩
def rPopN (w : World) : V → List V → Hp → VK → Prop := fun x vs H Q => ∃ a b es r v, x = .ref a ∧ vs = [.ref b] ∧ RefAt H (.ref b) (Prod.fst r) (Prod.snd r) ∧ NdAt w H a es ∧ ndGet es r = some v ∧ Q v (upd H a (ndO w a (ndDrop es r)))
def rSetN (w : World) : V → V → V → Hp → (Hp → Prop) → Prop := fun o i v H Q => ∃ a b es r, o = .ref a ∧ i = .ref b ∧ RefAt H (.ref b) (Prod.fst r) (Prod.snd r) ∧ NdAt w H a es ∧ es.length < sizeLine ∧ Q (upd H a (ndO w a (ndPut es r b v)))
end Sk
namespace Sk
open PySem PySem.Spec PyProof.Rows L2
def Refs (H : Hp) (es : List Ent) : Prop := ∀ e ∈ es, RefAt H (.ref e.2.1) e.1.1 e.1.2
/-- read: locked or not -/
def NdRd (w : World) (H : Hp) (a : Addr) (es : List Ent) : Prop := L2.Rd H a (ndO w a es) ∧ Refs H es
theorem NdAt.rd {w : World} {H : Hp} {a : Addr} {es : List Ent} (h : NdAt w H a es) : NdRd w H a es := ⟨.inl h.1, h.2⟩
theorem Refs.same {H H' : Hp} {es : List Ent} (h : Refs H es) (s : Same H H') : Refs H' es := fun e he => (h e he).same s
section
variable {P : Program} {w : World} {H : Hp} {h : Heap} {a b : Addr} {es : List Ent} {r : Rf}
theorem nd_rd (ok : HOk P w H h) (x : NdRd w H a es) : (a == sysModules) = false ∧ es.length ≤ sizeLine ∧ (es.map (·.1)).Nodup ∧ ∃ xs, NT es xs ∧ h.DictOfH (nestedKind P w) a xs := by
  obtain ⟨e, hk⟩ := x
  obtain ⟨⟨z, l, n, xs, t, o, en, ep, g, c, dt, et⟩, _⟩ := (show ObjOk P w H h a (ndO w a es) from L2.Rd.ok e ok)
  refine ⟨z, l, n, xs, t, o, en, ep, g, c, dt, et, fun x hx => ?_, nt_nodup t n⟩
  obtain ⟨p, hp, e1, e2⟩ := nt_mem t x hx
  rw [← e1, ← e2]
  exact ref_key ok (hk p hp)
end
def rdInN (w : World) : R2 := fun x y H Q => ∃ b a es r, x = .ref b ∧ y = .ref a ∧ RefAt H (.ref b) (Prod.fst r) (Prod.snd r) ∧ NdRd w H a es ∧ Q (.bl (ndGet es r).isSome) H
def rdIxN (w : World) : R2 := fun x y H Q => ∃ a b es r v, x = .ref a ∧ y = .ref b ∧ RefAt H (.ref b) (Prod.fst r) (Prod.snd r) ∧ NdRd w H a es ∧ ndGet es r = some v ∧ Q v H
def rdGetN (w : World) : V → List V → Hp → VK → Prop := fun x vs H Q => ∃ a b es r o, x = .ref a ∧ vs = [.ref b, o] ∧ RefAt H (.ref b) (Prod.fst r) (Prod.snd r) ∧ NdRd w H a es ∧ Q ((ndGet es r).getD o) H
section
variable {X : Cx}
theorem k_inN (w : World) (hu : X.A.units + 64 < cLine) (ew : X.w = w := by rfl) : OpR X (compareOp .In) (rdInN w) := by
  subst ew
  intro pins s σ H x y v u Q I rx ry h
  obtain ⟨b, a, es, r, rfl, rfl, hr, hn, q⟩ := h
  cases rx
  cases ry
  obtain ⟨z, l, n, xs, t, hx⟩ := nd_rd I.hok hn
  refine wpAny_in_heap (knd := nestedKind X.prog X.w) (show _ + 1 + 8 < _ by omega) (ref_key I.hok hr) z hx ?_
  have e := (nt_get t r).isSome_eq
  rw [Option.isSome_map] at e
  rw [← e]
  exact ⟨.bl _, H, I.tok _, rfl, q⟩
theorem k_getN (w : World) (hu : X.A.units + 64 < cLine) (ew : X.w = w := by rfl) : MtR X "dict.get" (rdGetN w) := by
  subst ew
  intro pins s σ H x vs v us Q I rx rv h
  obtain ⟨a, b, es, r, o, rfl, rfl, hr, hn, q⟩ := h
  cases rx
  obtain ⟨u1, u2, rfl, r1, r2⟩ := vals2 rv
  cases r1
  obtain ⟨z, l, n, xs, t, hx⟩ := nd_rd I.hok hn
  refine getOr_keyed (knd := nestedKind X.prog X.w) (kvs := pairsH xs) (show _ + 1 + 8 < _ by omega) (ref_key I.hok hr) z ⟨xs, hx, rfl⟩ ?_
  rw [valueAt_pairsH]
  have e := nt_get t r
  cases hg : ndGet es r with
  | some v =>
    rw [hg] at e q
    obtain ⟨u, hu2, ru⟩ := RelO.some_of e
    rw [hu2]
    exact ⟨v, H, I.tok _, ru, q⟩
  | none =>
    rw [hg] at e q
    rw [RelO.none_of e]
    exact ⟨o, H, I.tok _, r2, q⟩
/-- d[r] = v -/
theorem k_setN (w : World) (hu : X.A.units + 64 < cLine) (ew : X.w = w := by rfl) : PSet X (rSetN w) := by
  subst ew
  intro pins s σ H o i v ov iv u Q I ro ri rv h
  obtain ⟨a, b, es, r, rfl, rfl, hr, hn, hl, q⟩ := h
  cases ro
  cases ri
  obtain ⟨z, l, n, xs, t, hx⟩ := nd_of I.hok hn
  have hz : xs.length ≤ sizeLine := by rw [← Paired.length t]; exact l
  refine wpAny_setItem_heap (hsz := hz) (knd := nestedKind X.prog X.w) (show _ + 1 + 8 < _ by omega) (ref_key I.hok hr) hx fun h' hx' hs => ?_
  obtain ⟨ob, en, ep, g, c, dt, et, _, _⟩ := hx'
  refine ⟨_, d_write I (by rw [hn.1]; exact True.intro) hs ⟨ob, g⟩ (ndφ_ok ⟨z, by have := put_len es r b v; omega, put_nodup n r b v, _, nt_put t r b rv, ob, en, ep, g, c, dt, et⟩), q⟩
/-- d.pop(r), there -/
theorem k_popN (w : World) (hu : X.A.units + 64 < cLine) (ew : X.w = w := by rfl) : MtR X "dict.pop" (rPopN w) := by
  subst ew
  intro pins s σ H x vs v us Q I rx rv h
  obtain ⟨a, b, es, r, y, rfl, rfl, hr, hn, hg, q⟩ := h
  cases rx
  obtain ⟨u1, rfl, r1⟩ := vals1 rv
  cases r1
  obtain ⟨z, l, n, xs, t, hx⟩ := nd_of I.hok hn
  have hz : xs.length ≤ sizeLine := by rw [← Paired.length t]; exact l
  have e := nt_get t r
  rw [hg] at e
  obtain ⟨u, hu2, ru⟩ := RelO.some_of e
  obtain ⟨p, hp, rfl⟩ := Option.map_eq_some_iff.mp hu2
  refine call_pop_heap (hsz := hz) (knd := nestedKind X.prog X.w) (.inl rfl) (PySem.F.args_dict_pop_2 _ _) (show _ + 1 + 8 < _ by omega) (ref_key I.hok hr) z hx hp fun h' hx' hs => ?_
  obtain ⟨ob, en, ep, g, c, dt, et, _, _⟩ := hx'
  exact ⟨y, _, d_write I (by rw [hn.1]; exact True.intro) hs ⟨ob, g⟩ (ndφ_ok ⟨z, Nat.le_trans (List.length_filter_le _ _) l, drop_nodup n r, _, nt_drop t r, ob, en, ep, g, c, dt, et⟩), ru, q⟩
/-- {} -/
def tNewN (w : World) : TE := fun _ H Q => ∀ p, H p = none → Q (.ref p) (upd H p (ndO w p []))
theorem k_newN {pos : Pos} (w : World) (ew : X.w = w := by rfl) : PE X (.Dict [] [] pos) (tNewN w) := by
  subst ew
  refine ⟨fun pins s σ H Q I h => ?_⟩
  have hb : (s.heap.objs.size == sysModules) = false := beq_eq_false_iff_ne.mpr (Nat.ne_of_gt I.big)
  exact wpAny_Dict_empty ⟨.ref s.heap.objs.size, _, I.laid (a := s.heap.objs.size) (o := ndO X.w s.heap.objs.size []) (t' := s.toks) (fun _ _ q => Heap.get?_push_of_some _ q) (Nat.le_refl _)
    (ndφ_ok ⟨hb, Nat.zero_le _, List.nodup_nil, [], .nil, _, #[], 0, Heap.get?_push_size _ rfl, ⟨rfl, rfl, rfl⟩, rfl, rfl⟩), rfl, h _ (I.hok.fresh (Nat.le_refl _))⟩
end
def Itn (w : World) (d : Addr) (o : Obj) (es : List Ent) : It :=
  ⟨fun i H => H d = some (.frz o (ndO w d es)) ∧ i < es.length, fun i H x H' => H' = H ∧ ∃ e, es[i]? = some e ∧ x = .ref e.2.1, fun i H => H d = some (.frz o (ndO w d es)) ∧ es.length ≤ i⟩
section
variable {X : Cx} {pins : List (Addr × Obj)} {σ : L2.St} {H : Hp} {s : Shared} {d : Addr} {o : Obj} {es : List Ent}
theorem frz_nd (I : Inv X pins σ H s) (h : H d = some (.frz o (ndO X.w d es))) : (d == sysModules) = false ∧ s.heap.get? d = some o ∧ o.ExactDict ∧ ∃ (en : Array DictEntry) (ep : Nat), o.data = .dict en ep ∧ en.size = es.length ∧
    ∀ (i : Nat) (e : Ent), es[i]? = some e → ∃ x : DictEntry, en[i]? = some x ∧ x.key = .ref e.2.1 := by
  obtain ⟨hd, ⟨z, l, n, xs, t, ob, en, ep, g, c, dt, et⟩, _⟩ := (show ObjOk X.prog X.w H s.heap d (.frz o (ndO X.w d es)) from I.hok d _ h)
  rw [hd] at g
  cases g
  have hl : es.length = xs.length := Paired.length t
  have hsz : en.size = xs.length := by
    have := congrArg List.length et
    rw [List.length_map] at this
    exact this
  refine ⟨z, hd, c, en, ep, dt, by omega, fun i e he => ?_⟩
  obtain ⟨x, hx, e1, e2, _⟩ := paired_get t he
  refine ⟨⟨x.1.hash X.w, .ref x.2.1, x.2.2⟩, ?_, ?_⟩
  · rw [← Array.getElem?_toList, et, List.getElem?_map, hx]
    rfl
  · show Value.ref x.2.1 = _
    rw [← e2]
end
section
variable {P : Program} {w : World} {K : PySem.W.Frag} {tg : Expr} {d : Addr} {o : Obj} {es : List Ent} {en : Array DictEntry} {ep : Nat}
theorem turn_nd (it : Addr) (hod : o.data = .dict en ep) : Turn P w K tg (Itn w d o es) [it] it (fun i h => h.IsKeyIter it d i es.length ep) where
  mem := List.mem_singleton.mpr rfl
  obj := fun i h st b hb => by
    rw [List.mem_singleton.mp hb]
    obtain ⟨u, hu, _, hdata⟩ := st
    exact ⟨u, hu, fun v hv => by rw [hdata] at hv; cases hv⟩
  keep := fun i h h' st k => st.at fun u hu => k it (List.mem_singleton.mpr rfl) u hu
  item := by
    intro X hP hw hK hc i pins s σ H E I hf st hg
    subst hP hw hK
    obtain ⟨f0, f1, f2, f3, f4, f5⟩ := hf it (List.mem_singleton.mpr rfl)
    obtain ⟨z, gd, cd, en', ep', dt, sz, at_⟩ := frz_nd I hg.1
    obtain ⟨rfl, rfl⟩ := dict_ep hod dt
    obtain ⟨e, he⟩ : ∃ e, es[i]? = some e := ⟨_, List.getElem?_eq_getElem hg.2⟩
    obtain ⟨x, hx, hk⟩ := at_ i _ he
    refine next_key_item st gd dt sz hx fun h' st' sb => ?_
    have I' : Inv X pins σ H { s with heap := h' } := I.turned (t' := s.toks) (fun b ob hb g => (sb.2 b hb).trans g) f0 f1 f3 f4 f5
    obtain ⟨u, hu, hcls, hdata⟩ := id st'
    exact ⟨x.key, rfl, go_of (s := { s with heap := h' }) hu hcls hdata (by decide) ⟨.ref e.2.1, H, I', hk, ⟨rfl, e, he, rfl⟩, st', fun b hb => (hf b hb).1⟩⟩
  done := by
    intro X hP hw hK hc i pins s σ H E I hf st hg
    subst hP hw hK
    obtain ⟨f0, f1, f2, f3, f4, f5⟩ := hf it (List.mem_singleton.mpr rfl)
    obtain ⟨z, gd, cd, en', ep', dt, sz, _⟩ := frz_nd I hg.1
    obtain ⟨rfl, rfl⟩ := dict_ep hod dt
    exact next_key_end (I.ok.hd hc) st gd dt sz hg.2 fun h' eb => ⟨rfl, I.turned (t' := s.toks) (fun b ob hb g => eb b ob hb g) f0 f1 f3 f4 f5⟩
  self := fun A i s Q E st h => wpAny_pyIter_keyiter st h
end
def iNd (w : World) (td : TE) : TI := fun σ H R => td σ H fun x H1 => ∃ d o es, x = .ref d ∧ H1 d = some (.frz o (ndO w d es)) ∧ R (Itn w d o es) H1
theorem k_pi_nd {X : Cx} {tg e : Expr} {td : TE} (w : World) (he : PE X e td) (ew : X.w = w := by rfl) : PI X tg e (iNd w td) := by
  subst ew
  refine ⟨fun pins s σ H R I h => ?_⟩
  refine thn (he.run pins s σ H _ I h) fun u s1 ⟨x, H1, I1, rx, d, o, es, ex, hd, q⟩ => ?_
  subst ex
  cases (show u = Value.ref d from rx)
  obtain ⟨z, gd, cd, en, ep, dt, sz, _⟩ := frz_nd I1 hd
  refine iter_keys z gd cd dt (pi_one (tk := s1.toks) I1 _ (turn_nd _ dt) ⟨_, Heap.get?_push_size _ rfl, rfl, ?_⟩ q)
  rw [sz] <;> rfl
theorem walk_nd {w : World} {d : Addr} {o : Obj} {es : List Ent} : Walk (Itn w d o es) es.length (fun H => H d = some (.frz o (ndO w d es))) (fun i H x H' => H' = H ∧ ∃ e, es[i]? = some e ∧ x = .ref e.2.1) :=
  ⟨fun _ _ hi q => ⟨q, hi⟩, fun _ q => ⟨q, Nat.le_refl _⟩, fun _ _ _ _ _ _ y => y⟩
end Sk
namespace Sk
open PySem PySem.Spec PyProof.Rows L2
theorem ps_never {X : Cx} {st : Stmt} : PS X st (fun _ _ _ => False) := ⟨fun _ _ _ _ _ _ h => h.elim⟩
theorem nd_type {X : Cx} {pins : List (Addr × Obj)} {σ : L2.St} {H : Hp} {s : Shared} {a : Addr} {es : List Ent} (I : Inv X pins σ H s) (h : NdRd X.w H a es) :
    s.TypeIs (.ref a) "dict" ∧ ∀ b, Value.ref a = .ref b → ∃ ob, s.heap.get? b = some ob ∧ ob.dict = none := by
  obtain ⟨_, _, _, xs, _, o, en, ep, g, c, _⟩ := nd_rd I.hok h
  refine ⟨⟨o, g, c.1⟩, fun b e => ?_⟩
  cases e
  exact ⟨o, g, c.2.1⟩
def tMN (w : World) (r : V → List V → Hp → VK → Prop) (to : TE) (t : TA) : TE := fun σ H Q => to σ H fun x H1 => (∃ a es, x = .ref a ∧ NdRd w H1 a es) ∧ t σ H1 fun xs H2 => r x xs H2 Q
section
variable {X : Cx} {o e : Expr} {es : List Expr} {to : TE} {t tk : TA} {name m : Str} {apos cpos pos : Pos} {id : String} {r : V → List V → Hp → VK → Prop}
theorem k_mN (w : World) (slot : Slot "dict" name id) (hty : typeOf (.builtin id) = pure (.type "method_descriptor")) (hm : MtR X id r) (ho : PE X o to) (ha : PA X (e :: es) t) (ew : X.w = w := by rfl)
    (hbase : attributeBase o name X.env (eval o X.env) = eval o X.env := by rfl)
    (hfew : ((backTo cpos (starEach (e :: es) X.env)).all (fun x => !x.1) && (backToKw cpos (keywordEach [] X.env)).all (fun x => x.1.isSome)
      && decide ((e :: es).length + ([] : List Keyword).length + (if ([] : List Keyword).isEmpty then 0 else 1) < 30)) = true := by rfl)
    (hline : (apos.endLine == cpos.line) = true := by rfl) (hs : starEach (e :: es) X.env = (false, eval e X.env) :: starEach es X.env := by rfl) (hplain : (backTo cpos (starEach es X.env)).any (·.1) = false := by rfl) :
    PE X (.Call (.Attribute o name apos) (e :: es) [] cpos) (tMN w r to t) := by
  subst ew
  refine ⟨fun pins s σ H Q I h => wpAny_Call_method_late hbase hfew hline rfl (thn (ho.run pins s σ H _ I h) fun v s1 ⟨x, H1, I1, r1, ⟨a, en, ex, hn⟩, q1⟩ => ?_)⟩
  subst ex
  cases (show v = Value.ref a from r1)
  obtain ⟨h1, h2⟩ := nd_type I1 hn
  refine ⟨"dict", id, PySem.F.plainAttrs_dict, slot, hty, h1, h2, ?_⟩
  have hA := ha.run cpos pins s1 σ H1 _ I1 q1
  rw [hs] at hA ⊢
  refine Calls.callWith_builtin (by show (false || (backTo cpos (starEach es X.env)).any (·.1)) = false; rw [hplain] <;> rfl) (Calls.evalArgs_plain ?_)
  exact thn hA fun us s2 ⟨vs, H2, I2, r2, q2⟩ => hm pins s2 σ H2 (.ref a) vs (.ref a) us Q I2 rfl r2 q2
def tMethN (C : Addr) (m : Str) (n k : Nat) (sp : Sp) (gV : List V → List V → List V) (E : XK) (to : TE) (t tk : TA) : TE := fun σ H Q => to σ H fun x H1 => ∃ a dx fs, x = .ref a ∧ H1 a = some (.ins C dx fs) ∧ fs.lookup m = none ∧
  t σ H1 fun vs H2 => tk σ H2 fun zs H3 => vs.length + 1 = n ∧ zs.length = k ∧ sp (gV (.ref a :: vs) zs) H3 Q E
variable {CX : CXT} {k n : Nat} {C f : Addr} {fd : FuncData} {ps ks : List Str} {sp : Sp} {E : XK} {kws : List Keyword} {g : List Value → List Value → List Value} {gV : List V → List V → List V}
theorem pe_methN {pl : Sem Bool} (he : PE X o to) (c : Cls X.K C) (hm : Meth X.K C m f) (F : FnOk X.prog X.w X.K X.mg X.base CX k f fd ps sp) (hr : Room k X.A) (hb : KBn X.K fd ps n ks g gV) (hx : Passes CX X E) (ha : PA X (e :: es) t) (hkw : PK X kws tk)
    (hall : (backToKw pos (keywordEach kws X.env)).all (·.1.isSome) = true := by rfl) (hks : (backToKw pos (keywordEach kws X.env)).filterMap (·.1) = ks := by rfl)
    (hst : starEach (e :: es) X.env = (false, eval e X.env) :: starEach es X.env := by rfl) (hpl : ((backTo pos (starEach (e :: es) X.env)).any (·.1) || (backToKw pos (keywordEach kws X.env)).any (·.1.isNone)) = false := by rfl)
    (ht : eval (.Call (.Attribute o m apos) (e :: es) kws pos) X.env = (do
      let ov ← eval o X.env
      standAt apos.atName
      let (f, first) ← holding [ov] (getMethod ov m pl)
      callWith pos f first (backTo pos (starEach (e :: es) X.env)) (backToKw pos (keywordEach kws X.env))) := by rfl) :
    PE X (.Call (.Attribute o m apos) (e :: es) kws pos) (tMethN C m n ks.length sp gV E to t tk) := by
  refine ⟨fun pins s σ H Q I h => PySem.W.methodCall_KW (pl := pl) (thn (he.run pins s σ H _ I h) fun u s1 ⟨x, H1, I1, rx, a, dx, fs, ex, ea, l, q⟩ => ?_) ht⟩
  subst ex
  cases (show u = Value.ref a from rx)
  refine getmeth_ok I1 ea c hm l ?_
  refine PySem.W.callWith_KW (first := [.ref a]) (h₀ := X.base) I.ok.mod.kin hm.kp hall (thn (ha.run pos pins s1 σ H1 _ I1 q) fun us s2 ⟨vs, H2, I2, r2, q2⟩ => ?_) hpl hst
  refine thn (hkw.run pos pins s2 σ H2 _ I2 q2) fun ws s3 ⟨zs, H3, I3, rz, l1, l2, q3⟩ => ⟨I3.kIn, ?_⟩
  rw [hks]
  exact run_fnN (us := .ref a :: us) (vs := .ref a :: vs) F hr hb hx I3 (.cons rfl r2) rz l1 l2 q3
end
end Sk
namespace Sk
open PySem PySem.Spec PyProof.Rows L2
/-- keyword-only parameters left out: their defaults as the def's own table holds them -/
theorem kwd_binds {K : PySem.W.Frag} {x qual : Str} {st : Stmt} {f D : Addr} {oc doc pm cdv ct : Value} {od an : Option Addr} {sl : Array (Option Value)}
    (lk : K.lookup f = some ⟨oc, od, .func (PySem.W.fnOf x qual (defArgs st) (defBody st) (defScope st) .none (.ref D) doc pm an cdv ct), sl⟩) (ps : List Str) (n : Nat) (kw : List (Str × Value)) (hn : n + kw.length = ps.length)
    (hq : ∀ q ∈ kw, PySem.W.nsIn K D q.1 = some (some q.2))
    (h : ∀ us : List Value, us.length = n → KwChain D kw (bindArgs (PySem.W.fnOf x qual (defArgs st) (defBody st) (defScope st) .none (.ref D) doc pm an cdv ct) ⟨us, []⟩) (ps.zip (us ++ kw.map (·.2)))) :
    Binds K (PySem.W.fnOf x qual (defArgs st) (defBody st) (defScope st) .none (.ref D) doc pm an cdv ct) ps (kw.map (·.2)) := fun s us X hlen => by
  have l : us.length = n := by
    rw [List.length_append, List.length_map] at hlen
    omega
  exact BindsTo.of_looks fun M => KwChain.looks X hq (h us l)
end Sk
namespace Sk
open PySem PySem.Spec PyProof.Rows L2
def ArAt (w : World) (C : Addr) (H : Hp) (p d : Addr) (es : List Ent) : Prop := (∃ dx, H p = some (.ins C dx [(Str.ofString "nodes", .ref d)])) ∧ NdAt w H d es
theorem ArAt.same {w : World} {C : Addr} {H H' : Hp} {p d : Addr} {es : List Ent} (h : ArAt w C H p d es) (s : Same H H') : ArAt w C H' p d es := by
  obtain ⟨⟨dx, e⟩, e2, r⟩ := h
  exact ⟨⟨dx, s _ _ e⟩, s _ _ e2, fun x hx => (r x hx).same s⟩
theorem ArAt.ne {w : World} {C : Addr} {H : Hp} {p d : Addr} {es : List Ent} (h : ArAt w C H p d es) : p ≠ d := by
  obtain ⟨⟨dx, e⟩, e2, r⟩ := h
  exact ne_of e e2 (fun z => nomatch z)
/-- need_reference, need_worth of what is good -/
def spNeed (f : PyData → Bool) : Sp := fun vs H Q _ => ∃ v d, vs = [v] ∧ Rd H v d ∧ Bnd 100000 d ∧ f d = true ∧ ∀ H', Same H H' → Q .non H'
def spArInit (w : World) (C : Addr) : Sp := fun vs H Q _ => ∃ (p dx : Addr), vs = [.ref p] ∧ H p = some (.ins C dx []) ∧ ∀ (d : Addr) (H' : Hp), H d = none → ArAt w C H' p d [] → (∀ b o, H b = some o → b ≠ p → H' b = some o) → Q .non H'
def spArPut (w : World) (C : Addr) : Sp := fun vs H Q _ => ∃ (p d b : Addr) (es : List Ent) (r : Rf) (x : Str), vs = [.ref p, .ref b, .str x] ∧ ArAt w C H p d es ∧ RefAt H (.ref b) r.1 r.2 ∧ RefS r.1 r.2 ∧ WorthS x ∧ x.length ≤ 1000 ∧ es.length ≤ 1000 ∧
  ∀ H1, Same H H1 → Q .non (upd H1 d (ndO w d (ndPut es r b (.str x))))
def spArRead (w : World) (C : Addr) : Sp := fun vs H Q _ => ∃ (p d b : Addr) (es : List Ent) (r : Rf) (o : V), vs = [.ref p, .ref b, o] ∧ ArAt w C H p d es ∧ RefAt H (.ref b) r.1 r.2 ∧ RefS r.1 r.2 ∧ ∀ H1, Same H H1 → Q ((ndGet es r).getD o) H1
end Sk
namespace Sk
open PySem PySem.Spec PyProof.Rows L2
/-- [elt for one in d if ..], d locked: nothing but new things made -/
theorem lc_nd {σ : L2.St} {w : World} {te : TE} {tt : TT} {k : Nat} {H1 : Hp} {D d : Addr} {o : Obj} {es : List Ent} {Qd : Hp → Prop} (p : Ent → Bool) (f : Ent → V) (hn : es.length ≤ 100000) (hD : H1 D = none) (hd0 : H1 d = some (.frz o (ndO w d es)))
    (ht : ∀ e H2, e ∈ es → Same H1 H2 → ∀ R : Bool → Hp → Prop, (∀ H3, Same H2 H3 → R (p e) H3) → tt ((wipe σ [k]).set k (some (.ref e.2.1))) H2 R)
    (he : ∀ e H2, e ∈ es → p e = true → Same H1 H2 → ∀ R : VK, (∀ H3, Same H2 H3 → R (f e) H3) → te ((wipe σ [k]).set k (some (.ref e.2.1))) H2 R)
    (hd : ∀ H2, Same H1 H2 → H2 D = some (.lst ((es.filter p).map f)) → Qd H2) :
    ∃ W : Nat → Nat → Hp → Prop, (∃ m, W 0 m (upd H1 D (.lst []))) ∧ ∀ i m H, W i m H →
      ((Itn w d o es).stop i H ∧ Qd H) ∨ ((Itn w d o es).go i H ∧ ∃ Nx : Hp → Prop, (∀ H', Nx H' → ∃ m', m' < m ∧ W (i + 1) m' H') ∧ ∀ x H', (Itn w d o es).yld i H x H' → gName k x (wipe σ [k]) H' fun σ2 H2 => wipe σ2 [k] = wipe σ [k] ∧ tt σ2 H2 fun b H3 =>
        if b = true then te σ2 H3 fun y H4 => ∃ acc, H4 D = some (.lst acc) ∧ acc.length < sizeLine ∧ Nx (upd H4 D (.lst (acc ++ [y]))) else Nx H3) := by
  refine lc_it walk_nd (fun i H2 => Same H1 H2 ∧ H2 D = some (.lst (((es.take i).filter p).map f))) ⟨same_new hD, upd_same⟩ (fun i H2 _ h => h.1 _ _ hd0) ?_ fun H2 h => ?_
  · rintro i x H2 H2' hi ⟨s2, e2⟩ ⟨rfl, e, hx, rfl⟩
    have hm : e ∈ es := List.mem_of_getElem? hx
    refine ⟨wipe1, ?_⟩
    refine lc_step (b := p e) (y := f e) hD s2 e2 (flt_len hx hn) (ht e _ hm s2) (fun hp H3 s3 => he e H3 hm hp (s2.trans s3)) fun H4 s4 e4 => ⟨s4, ?_⟩
    rw [flt_snoc hx]
    exact e4
  · obtain ⟨s2, e2⟩ := h
    rw [List.take_length] at e2
    exact hd H2 s2 e2
/-- the nodes of which a reference is a stem -/
def ndBelow (es : List Ent) (n : Str) (ks : List Str) : List Ent := es.filter fun e => stemB n ks e.1.1 e.1.2
def spArBeneath (w : World) (C : Addr) : Sp := fun vs H Q _ => ∃ (p d b : Addr) (es : List Ent) (r : Rf), vs = [.ref p, .ref b] ∧ ArAt w C H p d es ∧ RefAt H (.ref b) r.1 r.2 ∧ r.2.length ≤ 1000 ∧ es.length ≤ 1000 ∧ (∀ e ∈ es, RefS e.1.1 e.1.2) ∧
  ∀ D H', H D = none → Same H H' → H' D = some (.lst ((ndBelow es r.1 r.2).map fun e => V.ref e.2.1)) → Q (.ref D) H'
/-- unlocked again -/
theorem lock_same {H H' : Hp} {d : Addr} {o : Obj} {u : HO} (h : H d = some u) (s : Same (upd H d (.frz o u)) H') : Same H (upd H' d u) := fun a x e => by
  by_cases n : a = d
  · subst n
    rw [h] at e
    rw [upd_same, e]
  · rw [upd_ne n]
    exact s _ _ (by rw [upd_ne n]; exact e)
theorem RefAt.frz {H : Hp} {d : Addr} {o : Obj} {w : World} {es : List Ent} (e : H d = some (ndO w d es)) {v : V} {n : Str} {ks : List Str} (r : RefAt H v n ks) : RefAt (upd H d (.frz o (ndO w d es))) v n ks := by
  obtain ⟨x, k, rfl, h1, h2⟩ := r
  have n1 : x ≠ d := ne_of h1 e (fun z => nomatch z)
  have n2 : k ≠ d := ne_of h2 e (fun z => nomatch z)
  exact ⟨x, k, rfl, by rw [upd_ne n1]; exact h1, by rw [upd_ne n2]; exact h2⟩
end Sk
namespace Sk
open PySem PySem.Spec PyProof.Rows L2
def ownN (es : List Ent) (r : Rf) : Int := if (ndGet es r).isSome = true then 1 else 0
def dataN (es : List Ent) (r : Rf) : Int := ownN es r + 10 * (if decide (ownN es r < (((ndBelow es r.1 r.2).map fun e => V.ref e.2.1).length : Int)) = true then 1 else 0)
theorem ownN_le (es : List Ent) (r : Rf) : 0 ≤ ownN es r ∧ ownN es r ≤ 1 := by unfold ownN; split <;> omega
def spArData (w : World) (C : Addr) : Sp := fun vs H Q _ => ∃ (p d b : Addr) (es : List Ent) (r : Rf), vs = [.ref p, .ref b] ∧ ArAt w C H p d es ∧ RefAt H (.ref b) r.1 r.2 ∧ RefS r.1 r.2 ∧ es.length ≤ 1000 ∧ (∀ e ∈ es, RefS e.1.1 e.1.2) ∧ ∀ H', Same H H' → Q (.int (dataN es r)) H'
theorem get_of {es : List Ent} (n : (es.map (·.1)).Nodup) {e : Ent} (h : e ∈ es) : ndGet es e.1 = some e.2.2 := by
  unfold ndGet
  induction es with
  | nil => cases h
  | cons x r ih =>
    rw [List.map_cons, List.nodup_cons] at n
    rcases List.mem_cons.mp h with rfl | h
    · rw [List.find?_cons_of_pos (by exact decide_eq_true rfl)]
      rfl
    · have ne : x.1 ≠ e.1 := fun z => n.1 (z ▸ List.mem_map.mpr ⟨e, h, rfl⟩)
      rw [List.find?_cons_of_neg (by rw [decide_eq_false ne]; exact Bool.false_ne_true)]
      exact ih n.2 h
/-- the entries but those of the keys ks -/
def ndBut (es : List Ent) (ks : List Rf) : List Ent := es.filter fun e => !decide (e.1 ∈ ks)
theorem but_nil (es : List Ent) : ndBut es [] = es := by
  unfold ndBut
  rw [List.filter_eq_self]
  intro e _
  rw [decide_eq_false (by simp)]
  rfl
theorem but_drop (es : List Ent) (ks : List Rf) (r : Rf) : ndDrop (ndBut es ks) r = ndBut es (ks ++ [r]) := by
  unfold ndDrop ndBut
  rw [List.filter_filter]
  refine List.filter_congr fun e _ => ?_
  by_cases h1 : e.1 = r
  · rw [decide_eq_true h1, decide_eq_true (show e.1 ∈ ks ++ [r] by simp [h1])]
    rfl
  · rw [decide_eq_false h1]
    by_cases h2 : e.1 ∈ ks
    · rw [decide_eq_true h2, decide_eq_true (show e.1 ∈ ks ++ [r] by simp [h2])]
      rfl
    · rw [decide_eq_false h2, decide_eq_false (show e.1 ∉ ks ++ [r] by simp [h1, h2])]
      rfl
theorem but_nodup {es : List Ent} (n : (es.map (·.1)).Nodup) (ks : List Rf) : ((ndBut es ks).map (·.1)).Nodup := n.sublist ((List.filter_sublist (l := es)).map _)
theorem but_get {es : List Ent} (n : (es.map (·.1)).Nodup) {ks : List Rf} {e : Ent} (h : e ∈ es) (hk : e.1 ∉ ks) : ndGet (ndBut es ks) e.1 = some e.2.2 :=
  get_of (but_nodup n ks) (List.mem_filter.mpr ⟨h, by rw [decide_eq_false hk]; rfl⟩)
/-- all of a filter taken away -/
theorem but_all {es : List Ent} (n : (es.map (·.1)).Nodup) (f : Ent → Bool) : ndBut es ((es.filter f).map (·.1)) = es.filter fun e => !f e := by
  unfold ndBut
  refine List.filter_congr fun e he => ?_
  cases hf : f e with
  | true => rw [decide_eq_true (List.mem_map.mpr ⟨e, List.mem_filter.mpr ⟨he, hf⟩, rfl⟩)]
  | false =>
    rw [decide_eq_false]
    intro h
    obtain ⟨x, hx, ex⟩ := List.mem_map.mp h
    obtain ⟨hx, fx⟩ := List.mem_filter.mp hx
    have : x = e := by
      have h1 := get_of n hx
      have h2 := get_of n he
      have key : ∀ {l : List Ent}, (l.map (·.1)).Nodup → ∀ {a b : Ent}, a ∈ l → b ∈ l → a.1 = b.1 → a = b := by
        intro l
        induction l with
        | nil => exact fun _ _ _ h => nomatch h
        | cons y r ih =>
          intro m a b ha hb e
          rw [List.map_cons, List.nodup_cons] at m
          rcases List.mem_cons.mp ha with e1 | h1 <;> rcases List.mem_cons.mp hb with e2 | h2
          · rw [e1, e2]
          · exact absurd (show y.1 ∈ r.map (·.1) from List.mem_map.mpr ⟨b, h2, e.symm.trans (congrArg Prod.fst e1)⟩) m.1
          · exact absurd (show y.1 ∈ r.map (·.1) from List.mem_map.mpr ⟨a, h1, e.trans (congrArg Prod.fst e2)⟩) m.1
          · exact ih m.2 h1 h2 e
      exact key n hx he ex
    rw [this, hf] at fx
    cases fx
end Sk
namespace Sk
open PySem PySem.Spec PyProof.Rows L2
/-- what stays when a reference is killed -/
def ndRest (es : List Ent) (n : Str) (ks : List Str) : List Ent := es.filter fun e => !stemB n ks e.1.1 e.1.2
def spArKill (w : World) (C : Addr) : Sp := fun vs H Q _ => ∃ (p d b : Addr) (es : List Ent) (r : Rf), vs = [.ref p, .ref b] ∧ ArAt w C H p d es ∧ RefAt H (.ref b) r.1 r.2 ∧ RefS r.1 r.2 ∧ es.length ≤ 1000 ∧ (∀ e ∈ es, RefS e.1.1 e.1.2) ∧ (es.map (·.1)).Nodup ∧
  ∀ H1, Same H H1 → Q (.int ((ndBelow es r.1 r.2).length : Int)) (upd H1 d (ndO w d (ndRest es r.1 r.2)))
end Sk
namespace Sk
open PySem PySem.Spec PyProof.Rows L2
theorem NdAt.same {w : World} {H H' : Hp} {d : Addr} {es : List Ent} (h : NdAt w H d es) (s : Same H H') : NdAt w H' d es := ⟨s _ _ h.1, fun x hx => (h.2 x hx).same s⟩
end Sk
namespace Sk
open PySem PySem.Spec PyProof.Rows L2
open PySem.W (Datum)
section
variable {X : Cx}
def rIxA (K : PySem.W.Frag) : R2 := fun x y H Q => rIxL K x y H Q ∨ rIxT K x y H Q
theorem k_ix_any (K : PySem.W.Frag) (e : X.K = K := by rfl) : IxR X (rIxA K) := by
  subst e
  intro value slice pins s σ H x y v u Q I rx ry h hs
  rcases h with h | h
  · exact ix_list value slice pins s σ H x y v u Q I rx ry h hs
  · exact ix_tup value slice pins s σ H x y v u Q I rx ry h hs
end
theorem NdRd.same {w : World} {H H' : Hp} {d : Addr} {es : List Ent} (h : NdRd w H d es) (s : Same H H') : NdRd w H' d es := by
  obtain ⟨e | ⟨od, e⟩, r⟩ := h
  · exact ⟨.inl (s _ _ e), fun x hx => (r x hx).same s⟩
  · exact ⟨.inr ⟨od, s _ _ e⟩, fun x hx => (r x hx).same s⟩
def PoolAt (H : Hp) (v : V) : Prop := ∃ (d l1 l2 : Addr) (ns ks : List Str), v = .ref d ∧ H d = some (.dK [(.inr (Str.ofString "names"), .ref l1), (.inr (Str.ofString "keys"), .ref l2)]) ∧ H l1 = some (.lst (ns.map V.str)) ∧ H l2 = some (.lst (ks.map V.str)) ∧
  0 < ns.length ∧ ns.length ≤ 100 ∧ 0 < ks.length ∧ ks.length ≤ 100 ∧ (∀ n ∈ ns, NameS n) ∧ ∀ k ∈ ks, KeyS k
theorem PoolAt.same {H H' : Hp} {v : V} (h : PoolAt H v) (s : Same H H') : PoolAt H' v := by
  obtain ⟨d, l1, l2, ns, ks, ev, e, e1, e2, r⟩ := h
  exact ⟨d, l1, l2, ns, ks, ev, s _ _ e, s _ _ e1, s _ _ e2, r⟩
theorem PoolAt.chg {H H' : Hp} {v : V} {b : Addr} {N : Nat} (h : PoolAt H v) (c : Chg b H H') (B : BagAt N b H) : PoolAt H' v := by
  obtain ⟨d, l1, l2, ns, ks, ev, e, e1, e2, r⟩ := h
  have nd : d ≠ b := by
    obtain ⟨x, y, z, eb, _⟩ := B
    exact ne_of e eb (fun z => nomatch z)
  exact ⟨d, l1, l2, ns, ks, ev, c _ _ nd e, c _ _ (B.neS e1) e1, c _ _ (B.neS e2) e2, r⟩
theorem k_pg_tup {X : Cx} {es : List Expr} {k : Nat} {t : TGs} {n : Nat} {pos : Pos} (K : PySem.W.Frag) (hc : X.calm = true) (h : PGs X es t) (hn : (assignEach es X.env).length = n := by rfl) (hst : (assignEach es X.env).findIdx? (·.1) = none := by rfl) (e : X.K = K := by rfl) :
    PG X (.Tuple es k pos) (gTup K n t) := by subst e; exact pg_tup hc h hn hst
end Sk
namespace Sk
open PySem PySem.Spec PyProof.Rows L2
structure GoodEs (es : List Ent) : Prop where
  refs : ∀ e ∈ es, RefS e.1.1 e.1.2
  nd : (es.map (·.1)).Nodup
  wor : ∀ e ∈ es, ∃ x : Str, e.2.2 = .str x ∧ x.length ≤ 1000
theorem GoodEs.nil : GoodEs [] := ⟨(fun _ h => nomatch h), List.nodup_nil, (fun _ h => nomatch h)⟩
theorem GoodEs.put {es : List Ent} (h : GoodEs es) {r : Rf} (hr : RefS r.1 r.2) (a : Addr) {x : Str} (hx : x.length ≤ 1000) : GoodEs (ndPut es r a (.str x)) := by
  refine ⟨fun e he => ?_, put_nodup h.nd r a _, fun e he => ?_⟩
  · unfold ndPut at he
    split at he
    · obtain ⟨y, hy, rfl⟩ := List.mem_map.mp he
      have := h.refs y hy
      split <;> exact this
    · rcases List.mem_append.mp he with he | he
      · exact h.refs e he
      · rw [List.mem_singleton.mp he]; exact hr
  · unfold ndPut at he
    split at he
    · obtain ⟨y, hy, rfl⟩ := List.mem_map.mp he
      split
      · exact ⟨x, rfl, hx⟩
      · exact h.wor y hy
    · rcases List.mem_append.mp he with he | he
      · exact h.wor e he
      · rw [List.mem_singleton.mp he]; exact ⟨x, rfl, hx⟩
theorem GoodEs.rest {es : List Ent} (h : GoodEs es) (n : Str) (ks : List Str) : GoodEs (ndRest es n ks) :=
  ⟨fun e he => h.refs e (List.mem_filter.mp he).1, h.nd.sublist ((List.filter_sublist (l := es)).map _), fun e he => h.wor e (List.mem_filter.mp he).1⟩
theorem rest_len (es : List Ent) (n : Str) (ks : List Str) : (ndRest es n ks).length ≤ es.length := List.length_filter_le _ _
section
variable {w : World} {C : Addr} {H H' : Hp} {p d m b : Addr} {es fs gs : List Ent} {N : Nat}
theorem NdAt.upd (h : NdAt w H d es) (e : H m = some (ndO w m fs)) (ne : d ≠ m) : NdAt w (upd H m (ndO w m gs)) d es := ⟨by rw [upd_ne ne]; exact h.1, fun x hx => (h.2 x hx).nd e⟩
theorem ArAt.upd (h : ArAt w C H p d es) (e : H m = some (ndO w m fs)) (ne : d ≠ m) : ArAt w C (upd H m (ndO w m gs)) p d es := by
  obtain ⟨⟨dx, ep⟩, hn⟩ := h
  exact ⟨⟨dx, by rw [upd_ne (ne_of ep e (fun z => nomatch z))]; exact ep⟩, hn.upd e ne⟩
theorem ArAt.put (h : ArAt w C H p d es) (hr : ∀ e ∈ gs, RefAt H (.ref e.2.1) e.1.1 e.1.2) : ArAt w C (L2.upd H d (ndO w d gs)) p d gs := by
  have ne := h.ne
  obtain ⟨⟨dx, ep⟩, hn⟩ := h
  exact ⟨⟨dx, by rw [upd_ne ne]; exact ep⟩, upd_same, fun x hx => (hr x hx).nd hn.1⟩
theorem NdAt.put (h : NdAt w H d es) (hr : ∀ e ∈ gs, RefAt H (.ref e.2.1) e.1.1 e.1.2) : NdAt w (L2.upd H d (ndO w d gs)) d gs := ⟨upd_same, fun x hx => (hr x hx).nd h.1⟩
theorem BagAt.neN (B : BagAt N b H) (e : H d = some (ndO w d es)) : b ≠ d := by
  obtain ⟨x, y, z, eb, _⟩ := B
  exact ne_of eb e (fun z => nomatch z)
theorem NdAt.chg (h : NdAt w H d es) (c : Chg b H H') (B : BagAt N b H) : NdAt w H' d es := ⟨c _ _ (B.neN h.1).symm h.1, fun x hx => (h.2 x hx).chg c B⟩
theorem ArAt.chg (h : ArAt w C H p d es) (c : Chg b H H') (B : BagAt N b H) : ArAt w C H' p d es := by
  obtain ⟨⟨dx, ep⟩, hn⟩ := h
  have nb : p ≠ b := by
    obtain ⟨x, y, z, eb, _⟩ := B
    exact ne_of ep eb (fun z => nomatch z)
  exact ⟨⟨dx, c _ _ nb ep⟩, hn.chg c B⟩
end
/-- all stays but three -/
def Kp3 (b d m : Addr) (H H' : Hp) : Prop := ∀ a o, a ≠ b → a ≠ d → a ≠ m → H a = some o → H' a = some o
end Sk
namespace Sk
open PySem PySem.Spec PyProof.Rows L2
theorem for_nd {w : World} {d : Addr} {o : Obj} {es : List Ent} {g : TG} {tb : TS} {D : Ends} {σ : L2.St} {H : Hp} (Pv : Nat → L2.St → Hp → Prop) (h0 : Pv 0 σ H) (hl : ∀ i σ H, i ≤ es.length → Pv i σ H → H d = some (.frz o (ndO w d es)))
    (hs : ∀ i e σ H, es[i]? = some e → Pv i σ H → g (.ref e.2.1) σ H fun σ2 H2 => tb { D with nx := Pv (i + 1), ct := Pv (i + 1), bk := D.nx } σ2 H2) (hd : ∀ σ H, Pv es.length σ H → D.nx σ H) :
    ∃ W : Nat → Nat → L2.St → Hp → Prop, (∃ m, W 0 m σ H) ∧ ∀ i m σ H, W i m σ H →
      ((Itn w d o es).stop i H ∧ D.nx σ H) ∨ ((Itn w d o es).go i H ∧ ∃ N : L2.St → Hp → Prop, (∀ σ' H', N σ' H' → ∃ m', m' < m ∧ W (i + 1) m' σ' H') ∧ ∀ x H', (Itn w d o es).yld i H x H' → g x σ H' fun σ2 H2 => tb { D with nx := N, ct := N, bk := D.nx } σ2 H2) := by
  refine ⟨fun i m σ H => m = es.length - i ∧ i ≤ es.length ∧ Pv i σ H, ⟨_, rfl, Nat.zero_le _, h0⟩, ?_⟩
  rintro i m σ H ⟨rfl, hi, p⟩
  have e := hl i σ H hi p
  by_cases lt : i < es.length
  · refine .inr ⟨⟨e, lt⟩, Pv (i + 1), fun σ' H' p' => ⟨es.length - (i + 1), by omega, rfl, lt, p'⟩, ?_⟩
    rintro x H' ⟨rfl, y, hy, rfl⟩
    exact hs i y σ _ hy p
  · have ei : i = es.length := by omega
    subst ei
    exact .inl ⟨⟨e, Nat.le_refl _⟩, hd σ H p⟩
section
variable {w : World} {C : Addr} {H H' : Hp} {pv : V} {lb lm p0 p1 d0 d1 m0 m1 b : Addr} {e0 e1 es : List Ent} {N M : Nat}
theorem BagAt.neL {a : Addr} {x y : Addr} (B : BagAt N b H) (e : H a = some (.lst [.ref x, .ref y])) : a ≠ b := by
  rintro rfl
  obtain ⟨x, y, z, e2, _⟩ := B
  rw [e2] at e
  cases e
/-- a deed of the one pair leaves the other -/
structure Out (b d m : Addr) (H : Hp) : Prop where
  lst : ∀ {a : Addr} {xs : List V}, H a = some (.lst xs) → (∀ x y z : Int, xs ≠ [.int x, .int y, .int z]) → a ≠ b ∧ a ≠ d ∧ a ≠ m
  tup : ∀ {a : Addr} {xs : List V}, H a = some (.tup xs) → a ≠ b ∧ a ≠ d ∧ a ≠ m
  dk : ∀ {a : Addr} {xs : List (Key × V)}, H a = some (.dK xs) → a ≠ b ∧ a ≠ d ∧ a ≠ m
  ins : ∀ {a C dx : Addr} {fs : List (Str × V)}, H a = some (.ins C dx fs) → a ≠ b ∧ a ≠ d ∧ a ≠ m
  nd : ∀ {a : Addr} {es : List Ent} {w : World}, H a = some (ndO w a es) → a ≠ d → a ≠ m → a ≠ b ∧ a ≠ d ∧ a ≠ m
variable {d m : Addr}
theorem RefAt.kp {v : V} {n : Str} {ks : List Str} (h : RefAt H v n ks) (k : Kp3 b d m H H') (O : Out b d m H) : RefAt H' v n ks := by
  obtain ⟨x, y, rfl, h1, h2⟩ := h
  obtain ⟨a1, a2, a3⟩ := O.tup h1
  obtain ⟨c1, c2, c3⟩ := O.tup h2
  exact ⟨x, y, rfl, k _ _ a1 a2 a3 h1, k _ _ c1 c2 c3 h2⟩
theorem NdAt.kp {a : Addr} (h : NdAt w H a es) (k : Kp3 b d m H H') (O : Out b d m H) (n1 : a ≠ d) (n2 : a ≠ m) : NdAt w H' a es := by
  obtain ⟨a1, a2, a3⟩ := O.nd h.1 n1 n2
  exact ⟨k _ _ a1 a2 a3 h.1, fun x hx => (h.2 x hx).kp k O⟩
theorem ArAt.kp {p a : Addr} (h : ArAt w C H p a es) (k : Kp3 b d m H H') (O : Out b d m H) (n1 : a ≠ d) (n2 : a ≠ m) : ArAt w C H' p a es := by
  obtain ⟨⟨dx, e⟩, hn⟩ := h
  obtain ⟨a1, a2, a3⟩ := O.ins e
  exact ⟨⟨dx, k _ _ a1 a2 a3 e⟩, hn.kp k O n1 n2⟩
theorem PoolAt.kp (h : PoolAt H pv) (k : Kp3 b d m H H') (O : Out b d m H) : PoolAt H' pv := by
  obtain ⟨d', l1, l2, ns, ks, ev, e, e1, e2, r⟩ := h
  obtain ⟨a1, a2, a3⟩ := O.dk e
  have ne : ∀ (ks : List Str) (x y z : Int), ks.map V.str ≠ [.int x, .int y, .int z] := fun ks x y z h => by
    cases ks with
    | nil => cases h
    | cons k r => cases h
  obtain ⟨b1, b2, b3⟩ := O.lst e1 (ne ns)
  obtain ⟨c1, c2, c3⟩ := O.lst e2 (ne ks)
  exact ⟨d', l1, l2, ns, ks, ev, k _ _ a1 a2 a3 e, k _ _ b1 b2 b3 e1, k _ _ c1 c2 c3 e2, r⟩
end
section
variable {w : World} {C : Addr} {H : Hp} {p d m : Addr} {o : Obj} {es fs : List Ent}
theorem ArAt.frz (h : ArAt w C H p d es) (e : H m = some (ndO w m fs)) (ne : d ≠ m) : ArAt w C (L2.upd H m (.frz o (ndO w m fs))) p d es := by
  obtain ⟨⟨dx, ep⟩, ed, hr⟩ := h
  exact ⟨⟨dx, by rw [upd_ne (ne_of ep e (fun z => nomatch z))]; exact ep⟩, by rw [upd_ne ne]; exact ed, fun x hx => (hr x hx).frz e⟩
theorem NdAt.frz (h : NdAt w H m es) : NdRd w (L2.upd H m (.frz o (ndO w m es))) m es := ⟨.inr ⟨_, upd_same⟩, fun x hx => (h.2 x hx).frz h.1⟩
end
end Sk
namespace Sk
open PySem PySem.Spec PyProof.Rows L2
open PySem.W (KeepsBut AllAlike Sortable KeyedOut dataKind dataLe EachIs SortsAt copyHeap copyHeap_at copyHeap_old keyH_end hideAll)
section
variable {X : Cx} {k : Nat} {f : Addr} {fd : FuncData} {xn : Str} {sp : Sp}
theorem sortKey_core (F : FnOk X.prog X.w X.K X.mg X.base CX0 k f fd [xn] sp) (hr : Room (k + 2) X.A) (hb : Binds X.K fd [xn] []) {pins : List (Addr × Obj)} {σ : L2.St} {H : Hp} {s : Shared} (I : Inv X pins σ H s) {its : List Value} {xs : List V} {key : V → PyData} {g1 : Heap} {D : Addr} {c0 : Nat}
    (rv : Vals xs its) (hzL : xs.length ≤ sizeLine) (hlen : xs.length < 100000) (hal : AllAlike (xs.map key)) (hsk : Sortable (xs.map key)) (hdep : ∀ x ∈ xs, (key x).depth ≤ 40)
    (hsp : ∀ x ∈ xs, ∀ H1, Same H H1 → ∀ R : VK, (∀ v H2, Same H1 H2 → Dp X.K H2 v (key x) → R v H2) → sp [x] H1 R E0)
    (ho : g1.get? D = some (seqObj "list" its.toArray c0)) (old1 : ∀ b o, s.heap.get? b = some o → g1.get? b = some o) (hD : s.heap.objs.size ≤ D) {E' : Value → Shared → Prop} {Q : VK}
    (q : ∀ p H2, H p = none → Same H H2 → H2 p = some (.lst (xs.mergeSort (dataLe false key))) → Q (.ref p) H2) :
    wpAny (model X.prog X.w) X.A.in1.in1 (ksk_tree D (.ref f) false) (fun fl s' => fl = .done (.ret .none) ∧ EP X pins σ Q (.ref D) s') E' { s with heap := g1 } := by
  have hil : its.length = xs.length := (Vals.length rv).symm
  have nD : H D = none := I.hok.fresh hD
  have fD : FpOk X pins H D := I.fpOk hD nD
  have hsi : its.toArray.size ≤ sizeLine := by rw [List.size_toArray, hil]; exact hzL
  have ltD : ∀ b o, s.heap.get? b = some o → b ≠ D := fun b o e => Nat.ne_of_lt (Nat.lt_of_lt_of_le (Heap.lt_size e) hD)
  unfold ksk_tree
  refine wpAny_bind (listItems_at ho rfl ?_)
  refine wpAny_bind (listUpdate_at ho rfl ?_ hsi (Nat.zero_le _))
  obtain ⟨c1, hc1⟩ : ∃ c1, (g1.update D (Obj.mapSeq fun _ => (#[] : Array Value))).get? D = some (seqObj "list" #[] c1) := ⟨_, get?_update_seq ho fun _ => #[]⟩
  have sb1 := Heap.SameBut.update g1 D (Obj.mapSeq fun _ => (#[] : Array Value))
  refine wpAny_bind (seqEpoch_at hc1 rfl ?_)
  refine wpAny_bind (wpAny_newTuple ?_ (by rw [Array.length_toList]; exact hsi))
  refine wpAny_bind (wpAny_newList ?_ (Nat.zero_le _))
  refine wpAny_holding ?_
  dsimp only
  have old2 : ∀ b o, s.heap.get? b = some o → (g1.update D (Obj.mapSeq fun _ => (#[] : Array Value))).get? b = some o := fun b o e => (sb1.2 b (ltD b o e)).trans (old1 b o e)
  generalize g1.update D (Obj.mapSeq fun _ => (#[] : Array Value)) = g2 at hc1 old2 ⊢
  have old3 : ∀ b o, s.heap.get? b = some o → (g2.push { cls := .type "tuple", data := .seq its.toArray.toList.toArray }).get? b = some o := fun b o e => Heap.get?_push_of_some _ (old2 b o e)
  have hc3 : (g2.push { cls := .type "tuple", data := .seq its.toArray.toList.toArray }).get? D = some (seqObj "list" #[] c1) := Heap.get?_push_of_some _ hc1
  generalize g2.push { cls := .type "tuple", data := .seq its.toArray.toList.toArray } = g3 at hc3 old3 ⊢
  have gS : (g3.push { cls := .type "list", data := .seq ([] : List Value).toArray }).get? g3.objs.size = some (seqObj "list" #[] 0) := Heap.get?_push_size _ rfl
  have gD : (g3.push { cls := .type "list", data := .seq ([] : List Value).toArray }).get? D = some (seqObj "list" #[] c1) := Heap.get?_push_of_some _ hc3
  have hne : g3.objs.size ≠ D := Nat.ne_of_gt (Heap.lt_size hc3)
  have hS : s.heap.objs.size ≤ g3.objs.size := Nat.le_trans hD (Nat.le_of_lt (Heap.lt_size hc3))
  have nS : H g3.objs.size = none := I.hok.fresh hS
  have fS : FpOk X pins H g3.objs.size := I.fpOk hS nS
  have I4 : Inv X pins σ H { s with heap := g3.push { cls := .type "list", data := .seq ([] : List Value).toArray } } := I.kept (t' := s.toks) fun b o e => Heap.get?_push_of_some _ (old3 b o e)
  generalize g3.objs.size = kS at gS hne nS fS ⊢
  generalize g3.push { cls := .type "list", data := .seq ([] : List Value).toArray } = g4 at gS gD I4 ⊢
  unfold ksk_rest
  refine wpAny_bind (wpAny_rule ?_)
  rw [List.forIn_toArray]
  refine wpAny_bind (ksk_fold (fun i s' => Mid X pins σ H D kS c1 ((xs.take i).map key) s') its 0 _ ⟨H, #[], 0, [], I4, .refl H, nD, nS, gS, gD, .nil, .nil⟩ ?_ ?_)
  · intro j u s' hu m
    simp only [Nat.zero_add] at m ⊢
    have hj : j < xs.length := by rw [← hil]; exact (List.getElem?_eq_some_iff.mp hu).1
    have hx : xs[j]? = some xs[j] := List.getElem?_eq_getElem hj
    have rx : RelV xs[j] u := by
      obtain ⟨u', hu', r'⟩ := Vals.get rv hx
      rw [hu] at hu'
      cases hu'
      exact r'
    have et : (xs.take (j + 1)).map key = (xs.take j).map key ++ [key xs[j]] := by rw [List.take_add_one, hx, List.map_append]; rfl
    rw [et]
    exact mid_turn F hr hb fD fS hne (by rw [List.length_map, List.length_take]; omega) m rx (hsp _ (List.getElem_mem hj))
  · intro s' m
    rw [Nat.zero_add, hil, List.take_length] at m
    obtain ⟨Hi, kA, e, ks, I5, sm, nD5, nS5, gS5, gD5, rk, dk⟩ := m.ex
    refine wpAny_bind (listItems_at gS5 rfl ?_)
    have ek := eachReads I5 dk rk
    have hks : kA.size = its.length := by
      have h1 : kA.toList.length = kA.size := Array.length_toList
      have h2 := dpAll_len dk
      have h3 : ks.length = kA.toList.length := Vals.length rk
      rw [List.length_map] at h2
      omega
    have hu : ∀ d, d ∈ xs.map key → X.A.in1.in1.units + d.depth < cLine := fun d hd => by
      obtain ⟨x, hx, rfl⟩ := List.mem_map.mp hd
      have h1 := hdep x hx
      have h2 := hr.in1.in1.units
      omega
    have old5 : ∀ b o, (hideAll s'.heap [kS]).get? b = some o → s'.heap.get? b = some o := fun b o e => PySem.W.of_hideAll _ e
    refine keyH_end (h₁ := hideAll s'.heap [kS]) (fun b o _ e => old5 b o e) (PySem.W.hideAll_none _ (List.mem_singleton.mpr rfl)) gS5 gD5 hne (SortsAt.data ek hal hsk hu) hks (by rw [hil]; exact hzL) fun h' tk c kp gD6 => ⟨rfl, ?_⟩
    have eo := PySem.W.keyedOut_each key (⟨s'.heap, kA.toList, hal, rfl, ek⟩ : KeyedOut false (xs.map key) its _) (eachVals rv)
    have fD5 : FpOk X pins Hi D := ⟨nD5, fD.2⟩
    have fS5 : FpOk X pins Hi kS := ⟨nS5, fS.2⟩
    have I6 := I5.turnedL (h' := h') (t' := tk) (ch := [D, kS]) (fun b o hb e => kp b o (fun z => hb (by rw [z]; exact List.mem_cons_self)) (PySem.W.hideAll_get _ e fun z => hb (List.mem_cons_of_mem _ z))) fun b hb => by
      rcases List.mem_cons.mp hb with z | z
      · rw [z]; exact fD5
      · rw [List.mem_singleton.mp z]; exact fS5
    have hml : (xs.mergeSort (dataLe false key)).length = xs.length := List.length_mergeSort _
    have I7 := I6.take (h' := h') (t' := tk) (o := .lst (xs.mergeSort (dataLe false key))) (fun b o _ e => e) fD5 ⟨by rw [hml]; exact hzL, _, c, valsEach eo, gD6⟩
    exact ⟨.ref D, _, I7, rfl, q D _ nD (same_mut sm nD) upd_same⟩
def rSortKeyD (K : PySem.W.Frag) (f : Addr) (sp : Sp) : List V → List V → Hp → VK → Prop := fun vs zs H Q => ∃ (a : Addr) (kvs : List (Key × V)) (ks : List Str) (key : V → PyData), vs = [.ref a] ∧ zs = [.ref f] ∧ L2.Rd H a (.dK kvs) ∧ kvs.map (·.1) = ks.map Sum.inr ∧ ks.length < 100000 ∧
  AllAlike ((ks.map V.str).map key) ∧ Sortable ((ks.map V.str).map key) ∧ (∀ x ∈ ks.map V.str, (key x).depth ≤ 40) ∧
  (∀ x ∈ ks.map V.str, ∀ H1, Same H H1 → ∀ R : VK, (∀ v H2, Same H1 H2 → Dp K H2 v (key x) → R v H2) → sp [x] H1 R E0) ∧
  ∀ p H2, H p = none → Same H H2 → H2 p = some (.lst ((ks.map V.str).mergeSort (dataLe false key))) → Q (.ref p) H2
theorem cr_sortKeyD (F : FnOk X.prog X.w X.K X.mg X.base CX0 k f fd [xn] sp) (hr : Room (k + 2) X.A) (hb : Binds X.K fd [xn] []) (hc : X.calm = true := by rfl) : CallRK X (.builtin "sorted") [Str.ofString "key"] (rSortKeyD X.K f sp) := by
  intro pins s σ H vs zs us ws Q I r rz h
  obtain ⟨a, kvs, ks, key, rfl, rfl, hd, hks, hlen, hal, hsk, hdep, hsp, q⟩ := h
  obtain rfl := Vals.ref1 r
  obtain ⟨w1, rfl, e1⟩ := vals1 rz
  obtain rfl : w1 = Value.ref f := e1
  obtain ⟨z, lo, vs, rel, dd⟩ := dk_rd I.hok hd
  obtain ⟨ep, hat⟩ := dd.dictAt
  have ek : vs.map (fun p => kV p.1) = ks.map V.str := by
    have e := congrArg (List.map kV) (rel.keys.symm.trans hks)
    rw [List.map_map, List.map_map] at e
    exact e
  have hvl : vs.length = ks.length := by
    have e := congrArg List.length ek
    rw [List.length_map, List.length_map] at e
    exact e
  have hL : ks.length ≤ sizeLine := Nat.le_of_lt (Evl.sz_lt hlen)
  refine call_function_entry_kw kind_sorted plain_sorted entry_sorted (ksk_s1 _ _) ?_
  unfold Builtin.«sorted»
  refine wpAny_bind (m := checkCount "sorted" 1 1 _) (wpAny_pure ?_)
  refine wpAny_bind (PySem.W.kdu_collect (A := X.A.in1) (PySem.W.kdl_dict (knd := mixKind X.prog X.w) (kvs := vs) (ep := ep) lo) (I.ok.hd hc) hat (by rw [hvl]; exact hL) fun h' tk acc kp items => ?_)
  have rv : Vals (ks.map V.str) acc.toList := by
    rw [← ek]
    exact keys_at (by rw [Array.length_toList]; exact items.1) fun j v e => items.2 j v (by rw [← Array.getElem?_toList]; exact e)
  have al : acc.toList.length = ks.length := by rw [← Vals.length rv, List.length_map]
  have I1 : Inv X pins σ H { s with heap := h', toks := tk } := I.kept kp
  refine wpAny_bind (wpAny_newList ?_ (by rw [al]; exact hL))
  have oL : (h'.push (seqObj "list" acc.toList.toArray 0)).get? h'.objs.size = some (seqObj "list" acc.toList.toArray 0) := Heap.get?_push_size _ rfl
  refine wpAny_bind (wpAny_holding (wpAny_call_entry_kw slot_list_sort ⟨_, oL, rfl⟩ entry_list_sort ?body (ksk_l1 _ _)))
  case body =>
    show wpAny (model X.prog X.w) X.A.in1.in1 (ksk_tree h'.objs.size (.ref f) false) _ _ _
    refine wpAny_mono (sortKey_core F hr hb I1 rv (by rw [List.length_map]; exact hL) (by rw [List.length_map]; exact hlen) hal hsk hdep hsp oL (fun b o e => Heap.get?_push_of_some _ e) (Nat.le_refl _) q) (fun fl s' hf => ?_) fun _ _ e => e
    obtain ⟨rfl, hq⟩ := hf
    exact ⟨_, rfl, wpAny_pure ⟨_, rfl, hq⟩⟩
end
end Sk
namespace Sk
open PySem PySem.Spec PyProof.Rows L2
open PySem.W (Datum DatumOrd Tup T3 dataLt dataLe listLt)
open PySem.NumText (AllDigits digitsVal)
theorem intText_num {a : Str} (h : isNumS a = true) (l : a.length ≤ 640) : PySem.intText? a = some (numS a) := by
  have e : tl a = intL (numS a) := by
    have h2 : intS (numS a) = a := of_decide_eq_true (by rw [← isNumS_iff]; exact h)
    conv => lhs; rw [← h2]
    exact tl_int _
  unfold intL at e
  split at e
  · rename_i hn
    rw [PySem.intText_neg e (decL_digits _) (decL_ne _) (by omega), decL_val]
    exact congrArg some (by omega)
  · rename_i hn
    have h1 : (a.cps.toList) = decL (numS a).natAbs := e
    rw [PySem.intText_digits (by rw [h1]; exact decL_digits _) (by rw [h1]; exact decL_ne _) (by omega), h1, decL_val]
    exact congrArg some (by omega)
/-- whether a key is a number's own text, by the law's look -/
def figS (s : Str) : List Nat := if (tl s).take 1 = [45] then (tl s).drop 1 else tl s
theorem isNumS_look (s : Str) : isNumS s = (!(figS s).isEmpty && ((figS s).filter fun c => !isFig c).isEmpty && (!((figS s).head? == some 48) || decide (tl s = [48]))) := by
  unfold isNumS isNumL isNumF
  show (if figS s = [] ∨ ((figS s).takeWhile isFig).length < (figS s).length then false else _) = _
  cases hf : figS s with
  | nil => rw [if_pos (.inl rfl)]; rfl
  | cons c r =>
    by_cases all : ∀ d ∈ (c :: r), isFig d = true
    · have e1 : (c :: r).takeWhile isFig = c :: r := takeWhile_all' all
      have e2 : ((c :: r).filter fun c => !isFig c) = [] := by
        rw [List.filter_eq_nil_iff]
        intro d hd
        rw [all d hd]
        exact Bool.false_ne_true
      rw [e1, e2, if_neg (by intro z; rcases z with z | z; · cases z
                             · omega)]
      show _ = (true && true && _)
      rw [Bool.true_and, Bool.true_and, Bool.or_comm]
      congr 1
      · exact congrArg (fun z : List Nat => !(z.head? == some 48)) hf
      · exact Bool.eq_iff_iff.mpr ⟨fun h => decide_eq_true (beq_iff_eq.mp h), fun h => beq_iff_eq.mpr (of_decide_eq_true h)⟩
    · have e2 : ((c :: r).filter fun c => !isFig c) ≠ [] := fun z => all fun d hd => by
        have := List.filter_eq_nil_iff.mp z d hd
        cases h : isFig d with
        | true => rfl
        | false => rw [h] at this; exact absurd rfl this
      have e3 : ((c :: r).filter fun c => !isFig c).isEmpty = false := by
        cases h : ((c :: r).filter fun c => !isFig c) with
        | nil => exact absurd h e2
        | cons _ _ => rfl
      have e4 : ((c :: r).takeWhile isFig).length < (c :: r).length := by
        refine Decidable.byContradiction fun z => all ?_
        have h5 := all_of_len z
        exact fun d hd => isFig_iff.mpr (h5 d hd)
      rw [if_pos (.inr e4), e3, Bool.and_false, Bool.false_and]
def cand (L : List Str) (own : Str) (t : Bool) : List Str := L.filter fun x => decide (own = Str.ofString "") || (if t = true then ltK x own else ltK own x)
def IsNext (L : List Str) (own : Str) (t : Bool) (r : Str) : Prop := (cand L own t = [] ∧ r = Str.ofString "") ∨ (r ∈ cand L own t ∧ ∀ x ∈ cand L own t, (if t = true then ltK r x else ltK x r) = false)
theorem IsNext.uniq {L : List Str} {own : Str} {t : Bool} {r s : Str} (h : IsNext L own t r) (k : IsNext L own t s) : r = s := by
  rcases h with ⟨h1, h2⟩ | ⟨h1, h2⟩ <;> rcases k with ⟨k1, k2⟩ | ⟨k1, k2⟩
  · rw [h2, k2]
  · rw [h1] at k1; cases k1
  · rw [k1] at h1; cases h1
  · refine Decidable.byContradiction fun ne => ?_
    have a := h2 s k1
    have b := k2 r h1
    cases t with
    | true =>
      rw [if_pos rfl] at a b
      rcases ltK_total ne with z | z
      · rw [z] at a; cases a
      · rw [z] at b; cases b
    | false =>
      rw [if_neg Bool.false_ne_true] at a b
      rcases ltK_total ne with z | z
      · rw [z] at b; cases b
      · rw [z] at a; cases a
theorem cand_mem {L M : List Str} (h : ∀ x, x ∈ L ↔ x ∈ M) {own : Str} {t : Bool} (x : Str) : x ∈ cand L own t ↔ x ∈ cand M own t := by
  unfold cand
  rw [List.mem_filter, List.mem_filter, h x]
theorem IsNext.congr {L M : List Str} (h : ∀ x, x ∈ L ↔ x ∈ M) {own : Str} {t : Bool} {r : Str} (k : IsNext L own t r) : IsNext M own t r := by
  rcases k with ⟨k1, k2⟩ | ⟨k1, k2⟩
  · refine .inl ⟨?_, k2⟩
    cases e : cand M own t with
    | nil => rfl
    | cons x r =>
      have : x ∈ cand L own t := (cand_mem h x).mpr (by rw [e]; exact List.mem_cons_self)
      rw [k1] at this
      cases this
  · exact .inr ⟨(cand_mem h r).mp k1, fun x hx => k2 x ((cand_mem h x).mpr hx)⟩
/-- the first of the row in its order -/
def headS (l : List Str) : Str := match l.head? with
  | some x => x
  | none => Str.ofString ""
theorem next_head {U : List Str} {own : Str} {r : Str} (h : r = headS (cand (sortK U) own false)) : IsNext U own false r := by
  refine IsNext.congr (L := sortK U) (fun x => (sortK_perm U).mem_iff) ?_
  have hp := (sortK_pairwise U).sublist (show (cand (sortK U) own false).Sublist (sortK U) from List.filter_sublist)
  unfold IsNext
  cases e : cand (sortK U) own false with
  | nil => rw [e] at h; exact .inl ⟨rfl, h⟩
  | cons x l =>
    rw [e] at h hp
    refine .inr ⟨by rw [h]; exact List.mem_cons_self, fun y hy => ?_⟩
    rw [if_neg Bool.false_ne_true, h]
    show ltK y x = false
    rcases List.mem_cons.mp hy with rfl | hy
    · exact ltK_irrefl _
    · have := List.rel_of_pairwise_cons hp hy
      unfold leK at this
      rwa [Bool.not_eq_true'] at this
theorem next_last {U : List Str} {own : Str} {r : Str} (h : r = headS (cand (sortK U) own true).reverse) : IsNext U own true r := by
  refine IsNext.congr (L := sortK U) (fun x => (sortK_perm U).mem_iff) ?_
  have hp := (sortK_pairwise U).sublist (show (cand (sortK U) own true).Sublist (sortK U) from List.filter_sublist)
  have hq := List.pairwise_reverse.mpr hp
  unfold IsNext
  have hm : ∀ y, y ∈ cand (sortK U) own true ↔ y ∈ (cand (sortK U) own true).reverse := fun y => List.mem_reverse.symm
  cases e : (cand (sortK U) own true).reverse with
  | nil =>
    rw [e] at h
    exact .inl ⟨List.reverse_eq_nil_iff.mp e, h⟩
  | cons x l =>
    rw [e] at h hq
    refine .inr ⟨by rw [hm, e, h]; exact List.mem_cons_self, fun y hy => ?_⟩
    rw [if_pos rfl, h]
    show ltK x y = false
    rw [hm, e] at hy
    rcases List.mem_cons.mp hy with rfl | hy
    · exact ltK_irrefl _
    · have := List.rel_of_pairwise_cons hq hy
      unfold leK at this
      rwa [Bool.not_eq_true'] at this
structure OrdS (n : Str) (ks : List Str) (last : Str) : Prop where
  name : NameS n
  len : ks.length ≤ 5
  keys : ∀ k ∈ ks, KeyS k
  last : last = Str.ofString "" ∨ KeyS last
theorem KeyS.ne {k : Str} (h : KeyS k) : k ≠ Str.ofString "" := fun z => by
  have := h.1
  rw [z] at this
  exact absurd this (by decide +kernel)
/-- what stands behind a head -/
def behOf (es : List Ent) (n : Str) (ks : List Str) : List Str := ((ndBelow es n ks).filter fun e => decide (ks.length < e.1.2.length)).map fun e => e.1.2.getD ks.length (Str.ofString "")
def spNeedOrd : Sp := fun vs H Q _ => ∃ (a : Addr) (n : Str) (ks : List Str) (last : Str), vs = [.ref a] ∧ RefAt H (.ref a) n (ks ++ [last]) ∧ OrdS n ks last ∧ ∀ H', Same H H' → Q .non H'
def spOrder (w : World) (C : Addr) : Sp := fun vs H Q _ => ∃ (p d a : Addr) (es : List Ent) (n : Str) (ks : List Str) (last : Str) (t : Bool), vs = [.ref p, .ref a, .bl t] ∧ ArAt w C H p d es ∧ GoodEs es ∧ es.length ≤ 1000 ∧ RefAt H (.ref a) n (ks ++ [last]) ∧ OrdS n ks last ∧
  ∀ H' r, Same H H' → IsNext (behOf es n ks) last t r → Q (.str r) H'
end Sk
namespace Sk
open PySem PySem.Spec PyProof.Rows L2
open PySem.W (Datum DatumOrd Tup T3 dataLt dataLe listLt)
theorem iteF' {b : Bool} {A B : Prop} (e : b = false) (h : B) : if b = true then A else B := by rw [if_neg (by rw [e]; exact Bool.false_ne_true)]; exact h
theorem iteT' {b : Bool} {A B : Prop} (e : b = true) (h : A) : if b = true then A else B := by rw [if_pos e]; exact h
theorem sIx_neg (n : Nat) (h : 0 < n) : HT.sIx n n (some (-1)) = n - 1 := by
  show (if (-1 : Int) < 0 then ((-1 : Int) + (n : Int)).toNat else min (-1 : Int).toNat n) = n - 1
  rw [if_pos (by decide)]
  omega
theorem cut_init {xs : List V} {x : V} : cutV (xs ++ [x]) none (some (-1)) = xs := by
  unfold cutV
  rw [HT.sIx_none, sIx_neg _ (by rw [List.length_append]; exact Nat.succ_pos _), List.drop_zero, Nat.sub_zero, List.length_append, List.length_singleton, Nat.add_sub_cancel, List.take_append_of_le_length (Nat.le_refl _), List.take_length]
theorem rd_initT {K : PySem.W.Frag} {H : Hp} {a : Addr} {xs : List V} {x : V} {Q : VK} (h : H a = some (.tup (xs ++ [x]))) (q : ∀ p H', Same H H' → H' p = some (.tup xs) → Q (.ref p) H') : rSlA K (.ref a) none (some (-1)) H Q := by
  refine ⟨a, _, rfl, .inl (.inl h), fun ⟨_, e⟩ => ?_, fun _ p hp => q p _ (same_new hp) ?_⟩
  · rw [sIx_neg _ (by rw [List.length_append]; exact Nat.succ_pos _), List.length_append, List.length_singleton] at e
    omega
  · rw [cut_init]
    exact upd_same
theorem at_last {α : Type} {xs : List α} {x : α} : atI (xs ++ [x]) (-1) = some x := by
  have hl : (xs ++ [x]).length = xs.length + 1 := by rw [List.length_append, List.length_singleton]
  have e : ixN (xs ++ [x]).length (-1) = some xs.length := by
    unfold ixN
    rw [if_neg (by decide), hl]
    first
      | (rw [if_pos (by omega)]; exact congrArg some (by omega))
      | (split <;> first | exact congrArg some (by omega) | omega)
  unfold atI
  rw [e]
  show (xs ++ [x])[xs.length]? = some x
  rw [List.getElem?_append_right (Nat.le_refl _), Nat.sub_self]
  rfl
/-- {k: v for x in xs if ..}, xs a list that stays -/
theorem dc_list {K : PySem.W.Frag} {a : Addr} {xs : List V} {g : TG} {tt : TT} {tk tv : TE} {vs : List Nat} {σ : L2.St} {H1 : Hp} {D : Addr} {Qd : Hp → Prop} (Pv : Nat → Hp → Prop) (h0 : Pv 0 (upd H1 D (.dK []))) (hl : ∀ i H, i ≤ xs.length → Pv i H → SqL K H a xs)
    (hs : ∀ i x H, xs[i]? = some x → Pv i H → g x (wipe σ vs) H fun σ2 H2 => wipe σ2 vs = wipe σ vs ∧ tt σ2 H2 fun b H3 =>
      if b = true then tk σ2 H3 fun y H4 => tv σ2 H4 fun z H5 => ∃ kvs k, y = kV k ∧ H5 D = some (.dK kvs) ∧ kvs.length < sizeLine ∧ Pv (i + 1) (upd H5 D (.dK (putK kvs k z))) else Pv (i + 1) H3) (hd : ∀ H, Pv xs.length H → Qd H) :
    ∃ W : Nat → Nat → Hp → Prop, (∃ m, W 0 m (upd H1 D (.dK []))) ∧ ∀ i m H, W i m H →
      ((Itl K a).stop i H ∧ Qd H) ∨ ((Itl K a).go i H ∧ ∃ Nx : Hp → Prop, (∀ H', Nx H' → ∃ m', m' < m ∧ W (i + 1) m' H') ∧ ∀ x H', (Itl K a).yld i H x H' → g x (wipe σ vs) H' fun σ2 H2 => wipe σ2 vs = wipe σ vs ∧ tt σ2 H2 fun b H3 =>
        if b = true then tk σ2 H3 fun y H4 => tv σ2 H4 fun z H5 => ∃ kvs k, y = kV k ∧ H5 D = some (.dK kvs) ∧ kvs.length < sizeLine ∧ Nx (upd H5 D (.dK (putK kvs k z))) else Nx H3) := by
  refine ⟨fun i m H => m = xs.length - i ∧ i ≤ xs.length ∧ Pv i H, ⟨_, rfl, Nat.zero_le _, h0⟩, ?_⟩
  rintro i m H ⟨rfl, hi, p⟩
  have e := hl i H hi p
  by_cases lt : i < xs.length
  · refine .inr ⟨⟨xs, xs[i], e, List.getElem?_eq_getElem lt⟩, Pv (i + 1), fun H' p' => ⟨xs.length - (i + 1), by omega, rfl, lt, p'⟩, ?_⟩
    rintro x H' ⟨rfl, y⟩
    exact hs i x _ (y xs e) p
  · have ei : i = xs.length := by omega
    subst ei
    exact .inl ⟨⟨xs, e, Nat.le_refl _⟩, hd H p⟩
/-- the keys of a dict that grows -/
theorem putK_keys (kvs : List (Key × V)) (x : Str) (v : V) {U : List Str} (h : kvs.map (·.1) = U.map Sum.inr) : ∃ W : List Str, (putK kvs (.inr x) v).map (·.1) = W.map Sum.inr ∧ W.length ≤ U.length + 1 ∧ ∀ y, y ∈ W ↔ y ∈ U ∨ y = x := by
  unfold putK
  have hm : ∀ y : Str, (Sum.inr y : Key) ∈ kvs.map (·.1) ↔ y ∈ U := fun y => by
    rw [h, List.mem_map]
    constructor
    · rintro ⟨z, hz, e⟩
      rw [← Sum.inr.inj e]
      exact hz
    · exact fun hy => ⟨y, hy, rfl⟩
  split
  · rename_i ha
    obtain ⟨p, hp, ep⟩ := List.any_eq_true.mp ha
    have ep : p.1 = .inr x := of_decide_eq_true ep
    have hx : x ∈ U := (hm x).mp (List.mem_map.mpr ⟨p, hp, ep⟩)
    refine ⟨U, ?_, Nat.le_succ _, fun y => ⟨.inl, fun z => z.elim id fun e => e ▸ hx⟩⟩
    rw [List.map_map, ← h]
    refine List.map_congr_left fun q _ => ?_
    show (if q.1 = .inr x then (q.1, v) else q).1 = q.1
    split <;> rfl
  · refine ⟨U ++ [x], by rw [List.map_append, List.map_append, h]; rfl, by rw [List.length_append]; exact Nat.le_refl _, fun y => ?_⟩
    rw [List.mem_append, List.mem_singleton]
theorem filter_snoc {α β : Type} {p : α → Bool} {f : α → β} {xs : List α} {i : Nat} {x : α} (h : xs[i]? = some x) (y : β) : y ∈ ((xs.take (i + 1)).filter p).map f ↔ y ∈ ((xs.take i).filter p).map f ∨ (p x = true ∧ y = f x) := by
  rw [flt_snoc h]
  cases hp : p x with
  | true =>
    rw [if_pos rfl, List.mem_append, List.mem_singleton]
    exact ⟨fun z => z.imp id fun z => ⟨rfl, z⟩, fun z => z.imp id (·.2)⟩
  | false =>
    rw [if_neg Bool.false_ne_true]
    exact ⟨.inl, fun z => z.elim id fun z => nomatch z.1⟩
theorem OrdS.refS {n : Str} {ks : List Str} {last : Str} (h : OrdS n ks last) : RefS n ks := ⟨h.name, Nat.le_trans h.len (by decide), h.keys⟩
section
variable {X : Cx}
theorem sw_dc {kx vx : Expr} {gs : List Comprehension} {scope : Scope} {pos py : Pos} {y : Str} {l : Nat} {env : Env} (hk : env.scope.kind = .function) (hy : env.scope.names.lookup y = some .local) (hl : (py.line == pos.line) = true)
    (ha : (scope.names.any fun (n, k) => n == y && (k == .local || k == .cell)) = false) : swapsWith (.DictComp kx vx gs scope pos) (some (.Name y py)) l env = pure true := by
  have a1 : env.kindOf y = some .local := hy
  have a2 : env.blockKind = .function := by
    unfold Env.blockKind
    rw [hk]
    rfl
  unfold swapsWith
  simp only [a1, a2, ha, Expr.pos, hl]
  rfl
/-- x = {k: v for ..} -/
theorem ps_setDc {i : Nat} {y : Str} {py : Pos} {kx vx tg iter : Expr} {ifs : List Expr} {scope : Scope} {own : List (Str × Nat)} {pos spos : Pos} {wi : TI} {g : TG} {tt : TT} {tk tv : TE} (hc : X.calm = true) (hN : X.N.Nodup) (hy : X.N[i]? = some y) (hyl : X.env.scope.names.lookup y = some .local)
    (hsw : swapsWith (.DictComp kx vx [⟨tg, iter, ifs, 0⟩] scope pos) (some (.Name y py)) spos.line X.env = pure true) (hi : PI X tg iter wi) (ok : BlkOk X.N X.env.scope scope own)
    (hg : ∀ (s : Shared) (H : Hp) (C : Addr) (cl : List (Str × Addr)) (fp : List Addr), PG (X.blk s H scope (compEnvC scope cl C X.env) fp) tg g)
    (ht : ∀ (s : Shared) (H : Hp) (C : Addr) (cl : List (Str × Addr)) (fp : List Addr), PTs (X.blk s H scope (compEnvC scope cl C X.env) fp) ifs tt)
    (hk : ∀ (s : Shared) (H : Hp) (C : Addr) (cl : List (Str × Addr)) (fp : List Addr), PE (X.blk s H scope (compEnvC scope cl C X.env) fp) kx tk)
    (he : ∀ (s : Shared) (H : Hp) (C : Addr) (cl : List (Str × Addr)) (fp : List Addr), PE (X.blk s H scope (compEnvC scope cl C X.env) fp) vx tv) (hs : ∀ x, foldedSetIterable iter X.env x = pure x := by intro _; rfl) :
    PS X (.Assign [.Name y py] (.DictComp kx vx [⟨tg, iter, ifs, 0⟩] scope pos) spos) (tAsg (tDc wi g tt tk tv (own.map (·.2))) (gName i)) := by
  refine ⟨fun pins s σ H D I h => ?_⟩
  rw [exec_Assign_Name_used _ _ _ _ hsw]
  refine wpAny_bind (wpAny_standAt (wpAny_bind ?_))
  show wpAny _ X.A (do let _ ← comprehension (.DictComp kx vx [⟨tg, iter, ifs, 0⟩] scope pos) scope X.env (firstIterPos [⟨tg, iter, ifs, 0⟩] pos) newDict false (eval iter X.env) (some (assign (.Name y py) X.env))) _ _ s
  have h0 : tDc wi g tt tk tv (own.map (·.2)) σ H (fun x H1 => gName i x σ H1 D.nx) := h
  refine wpAny_bind (thn (dc_core (Qf := fun _ s' => SP X pins D .next s') hc hN I hi ok hg ht hk he hs h0 fun L C s' m H' J q hm f => ?_) fun _ s' z => wpAny_pure (wpAny_pure z))
  show wpAny _ _ (assign (.Name y py) X.env (.ref L)) _ _ _
  refine wpAny_assign_Name (store_ok2 (v := V.ref L) J hN hy (.inl hyl) rfl (fun s2 J2 ⟨a, sb, ha⟩ => ?_) (.inr hyl))
  obtain ⟨b0, b1, b2, b3, b4, b5⟩ := f
  have ne : C ≠ a := by
    rcases ha with z | z
    · rw [z]
      exact b1
    · exact fun e => b4 y a z e.symm
  exact ⟨m, hm.sameBut sb ne, fun h3 sb3 => ⟨_, H', J2.turned (t' := s2.toks) (fun b o n z => (sb3.2 b n).trans z) b0 b1 b3 b4 b5, q⟩⟩
end
theorem beh_snoc {es : List Ent} {i : Nat} {e : Ent} (h : es[i]? = some e) (n : Str) (ks : List Str) : behOf (es.take (i + 1)) n ks = if (stemB n ks e.1.1 e.1.2 && decide (ks.length < e.1.2.length)) = true then behOf (es.take i) n ks ++ [e.1.2.getD ks.length (Str.ofString "")] else behOf (es.take i) n ks := by
  unfold behOf ndBelow
  rw [List.take_add_one, h, List.filter_append]
  show (((_ ++ List.filter (fun e => stemB n ks e.1.1 e.1.2) [e]).filter _).map _) = _
  rw [List.filter_append, List.map_append]
  cases h1 : stemB n ks e.1.1 e.1.2 with
  | false =>
    rw [List.filter_cons, h1, if_neg Bool.false_ne_true, Bool.false_and, if_neg Bool.false_ne_true]
    exact List.append_nil _
  | true =>
    rw [List.filter_cons, h1, if_pos rfl, Bool.true_and]
    cases h2 : decide (ks.length < e.1.2.length) with
    | false =>
      rw [List.filter_nil, List.filter_cons, h2, if_neg Bool.false_ne_true, if_neg Bool.false_ne_true]
      exact List.append_nil _
    | true =>
      rw [List.filter_nil, List.filter_cons, h2, if_pos rfl, if_pos rfl]
      rfl
theorem GoodEs.sub {es : List Ent} (h : GoodEs es) (i : Nat) : GoodEs (es.take i) :=
  ⟨fun e he => h.refs e (List.mem_of_mem_take he), h.nd.sublist ((List.take_sublist i es).map _), fun e he => h.wor e (List.mem_of_mem_take he)⟩
theorem IsNext.key {L : List Str} {own r : Str} {t : Bool} (h : IsNext L own t r) (hL : ∀ x ∈ L, KeyS x) : r = Str.ofString "" ∨ KeyS r := by
  rcases h with ⟨_, e⟩ | ⟨hm, _⟩
  · exact .inl e
  · exact .inr (hL r (List.mem_filter.mp hm).1)
end Sk
namespace Sk
open PySem PySem.Spec PyProof.Rows L2
open LamX (CodeO TabS Tabs ExtN TabB)
open PySem.W (KeepsBut AllAlike Sortable KeyedOut dataKind dataLe EachIs SortsAt copyHeap copyHeap_at copyHeap_old keyH_end hideAll)
/-- all but the tables stays; nothing is lost -/
structure Ext2 (H H' : Hp) : Prop where
  ext : ExtN H H'
  back : ∀ a, H' a = none → H a = none
theorem Ext2.refl (H : Hp) : Ext2 H H := ⟨.refl H, fun _ h => h⟩
theorem Ext2.trans {H H1 H2 : Hp} (a : Ext2 H H1) (b : Ext2 H1 H2) : Ext2 H H2 := ⟨a.ext.trans b.ext, fun x h => a.back x (b.back x h)⟩
theorem Ext2.of {H H' : Hp} (s : Same H H') : Ext2 H H' := ⟨.of s, fun _ h => none_of_same s h⟩
theorem Ext2.get {H H' : Hp} (e : Ext2 H H') {a : Addr} {o : HO} (h : H a = some o) (n : ∀ ps, o ≠ .tbl ps) : H' a = some o := e.ext a o h n
section
variable {X : Cx} {pins : List (Addr × Obj)} {σ : L2.St} {H : Hp} {s : Shared}
/-- the lambda made: its code object new, or found -/
theorem lam_new {T : List (Addr × Str)} {c P : Addr} {q : Str} {params : Arguments} {body : Expr} {scope : Scope} {pos : Pos} {E Q : Value → Shared → Prop} (I : Inv X pins σ H s) (TB : TabB X.base X.mg c P) (hcd : X.env.code = .ref c) (eq : X.env.qual ++ "<lambda>" = q)
    (hm : (P, q) ∈ T) (hu : ∀ p ∈ T, p.1 = P → p.2 = q) (hT : Tabs T H) (hdef : defaultsOf params X.env = ([], [])) (hfree : ∀ y ∈ scope.names, y.2 = .free → ∃ c, X.env.cells.lookup y.1 = some c) (hcl : cloFrom X.env.cells scope.names [] = [])
    (h : ∀ (f c' : Addr) (pm ctv : Value) (H1 : Hp) (s' : Shared), Inv X pins σ H1 s' → Ext2 H H1 → Tabs T H1 → s'.heap.get? f = some (PySem.W.kla_obj "<lambda>" q params body scope [] pm c' ctv) → H1 f = none → f ∉ frs X.stack → H1 c' = some (CodeO c' q) → Q (.ref f) s') :
    wpAny (model X.prog X.w) X.A (eval (.Lambda params body scope pos) X.env) Q E s := by
  subst eq
  obtain ⟨ps, eP, okP, inP⟩ := hT _ hm
  have gP : s.heap.get? P = some { cls := .none, data := .fields ps } := I.hok P _ eP
  have bP : s.heap.BuiltinsAt X.mg P := TB.bm.keeps I.bk
  have clos := closure_ok hfree
  rw [hcl] at clos
  have off : ∀ f, s.heap.objs.size ≤ f → f ∉ frs X.stack := fun f hf z => (List.mem_cons.mp (I.stkSub _ z)).elim (fun e => Nat.lt_irrefl _ (Nat.lt_of_lt_of_le (e ▸ I.lt) hf)) (I.nofs hf)
  refine PySem.W.kla_eval hdef ?_
  cases hc : codeAmong pos ps.toList with
  | some cv =>
    obtain ⟨c', rfl, hco⟩ := inP pos cv hc
    exact PySem.W.kla_makeFunctionHit (mg := X.mg) (c := c) (P := P) (ps := ps) clos I.ok.glob (I.mod.glob.keeps I.bk) hcd (TB.code.keeps I.bk) gP okP hc bP fun ctv h' tk hx hz =>
      h _ c' _ ctv H _ (I.kept fun b o e => Heap.get?_push_of_some _ (hx b o e)) (.refl H) hT (Heap.get?_push_size _ rfl) (I.hok.fresh hz) (off _ hz) hco
  | none =>
    refine PySem.W.kla_makeFunction (mg := X.mg) (c := c) (P := P) (ps := ps) clos I.ok.glob (I.mod.glob.keeps I.bk) hcd (TB.code.keeps I.bk) gP okP hc TB.gP bP fun c' ctv h' tk hx ge lt hrec htb => ?_
    obtain ⟨c2, oc, vs, t, ec, hoc, hd, hv⟩ := hrec
    cases ec
    have hz : s.heap.objs.size ≤ h'.objs.size := Nat.le_trans ge (Nat.le_of_lt lt)
    have nC : H c' = none := I.hok.fresh ge
    have nPC : P ≠ c' := ne_of_none eP nC
    have I1 := LamX.inv_table (q := X.env.qual ++ "<lambda>") (t' := tk) (more := #[rawInt pos.line, rawInt pos.col, .ref c']) (h' := h'.push (PySem.W.kla_obj "<lambda>" (X.env.qual ++ "<lambda>") params body scope [] ((X.mg "__name__").getD .none) c' ctv)) I eP
      (fun b o n e => Heap.get?_push_of_some _ (hx b o n e)) (Heap.get?_push_of_some _ htb) ge ⟨oc, vs, t, Heap.get?_push_of_some _ hoc, hd, hv⟩
    have ext : Ext2 H (upd (upd H P (.tbl (ps ++ #[rawInt pos.line, rawInt pos.col, .ref c']))) c' (CodeO c' (X.env.qual ++ "<lambda>"))) := by
      refine ⟨fun b o e n => ?_, fun b e => ?_⟩
      · have n1 : b ≠ c' := ne_of_none e nC
        have n2 : b ≠ P := fun z => by rw [z, eP] at e; exact n ps (Option.some.inj e).symm
        rw [upd_ne n1, upd_ne n2]
        exact e
      · have n1 : b ≠ c' := fun z => by rw [z, upd_same] at e; cases e
        have n2 : b ≠ P := fun z => by rw [z, upd_ne nPC, upd_same] at e; cases e
        rw [upd_ne n1, upd_ne n2] at e
        exact e
    have tl : (ps ++ #[rawInt pos.line, rawInt pos.col, .ref c']).toList = ps.toList ++ [rawInt pos.line, rawInt pos.col, .ref c'] := by simp
    refine h h'.objs.size c' _ ctv _ _ I1 ext (fun p hp => ?_) (Heap.get?_push_size _ rfl) ?_ (off _ hz) upd_same
    · by_cases e : p.1 = P
      · rw [hu p hp e, e]
        refine ⟨_, by rw [upd_ne nPC, upd_same], by rw [tl]; exact PySem.TriplesOk_snoc _ _ _ _ okP, fun p' cv hcv => ?_⟩
        rw [tl] at hcv
        rcases LamX.among_app _ okP hcv with z | z
        · obtain ⟨c0, ec, eo⟩ := inP p' cv z
          exact ⟨c0, ec, ext.get eo LamX.codeO_ne⟩
        · exact ⟨c', z, upd_same⟩
      · obtain ⟨qs, a1, a2, a3⟩ := hT p hp
        refine ⟨qs, by rw [upd_ne (ne_of_none a1 nC), upd_ne e]; exact a1, a2, fun p' cv hcv => ?_⟩
        obtain ⟨c0, ec, eo⟩ := a3 p' cv hcv
        exact ⟨c0, ec, ext.get eo LamX.codeO_ne⟩
    · rw [upd_ne (Nat.ne_of_gt lt), upd_ne (Nat.ne_of_gt (Nat.lt_of_lt_of_le (Heap.lt_size gP) hz))]
      exact I.hok.fresh hz
end
/-- a lambda of one parameter, called -/
theorem run_lam {P : Program} {w : World} {K : PySem.W.Frag} {mg : Str → Option Value} {base : Heap} {CX : CXT} {k : Nat} {f c' : Addr} {q a : Str} {params : Arguments} {body : Expr} {scope : Scope} {pm ctv : Value} {N : List Str} {A : Around} {outer : List Env} {s : Shared} {H : Hp} {u : Value} {v : V} {Q : VK} {E : XK} {tb : TE}
    (of : s.heap.get? f = some (PySem.W.kla_obj "<lambda>" q params body scope [] pm c' ctv)) (hco : H c' = some (CodeO c' q)) (S : FnScope N [a] scope) (hr : Room (k + 1) A) (e0 : Env0 P w K mg base A outer s H)
    (hbind : bindArgs (PySem.W.kla_fn "<lambda>" q params body scope [] pm (.ref c') ctv) ⟨[u], []⟩ = pure [(a, u)]) (r : RelV v u)
    (hbody : Room k (A.deeper (envOfC q scope s.heap.objs.size f (.ref c'))) → PE (cxOf CX P w K mg base N q scope f (.ref c') A outer s H E) body tb) (ht : tb (L2.start N [v]) H Q) :
    codeAny (model P w) A (.call (.ref f) ⟨[u], []⟩) (CR CX outer P w H s Q E) s := by
  have lim : s.heap.NoLimit := e0.mod.nolimit.keeps fun b o e => (e0.bs b o e).1
  obtain ⟨⟨oc, vs, t, hoc, hdc, hvc⟩, _, _⟩ := (show ObjOk P w H s.heap c' (CodeO c' q) from e0.hok c' _ hco)
  have kinds : ∀ y ∈ [a].zip [u], scope.names.lookup y.1 = some .local ∨ (scope.names.lookup y.1 = some .cell ∧ ((cellsFrom (s.heap.objs.size + 1) scope.names []).lookup y.1).isSome = true) := fun ⟨n, z⟩ hy =>
    (S.par n (List.of_mem_zip hy).1).imp id fun e => ⟨e, PySem.W.cellsFrom_some _ _ _ (.inl e)⟩
  refine PySem.W.kla_callFunE hr.depth of rfl S.co S.gen rfl ⟨c', oc, vs, t, rfl, hoc, hdc, hvc⟩ ?_
  rw [hbind]
  refine wpAny_pure (wpAny_newFunctionEnv_cells S.kind kinds fun env he s1 x => ?_)
  subst he
  refine ⟨lim.keeps x.toInCall.keep, ?_⟩
  have J : Inv (cxOf CX P w K mg base N q scope f (.ref c') A outer s H E) [] (L2.start N [v]) H s1 := inv_start S hr.hd e0 rfl (.cons r .nil) x
  show codeAny _ A (.expr body (envOfC q scope s.heap.objs.size f (.ref c'))) _ _
  refine PySem.W.kla_codeExpr (wpAny_mono ((hbody (hr.deeper _)).run [] s1 (L2.start N [v]) H Q J ht) (fun y s' z => ?_) fun e s' z => z)
  obtain ⟨w', H', J', rv, qq⟩ := z
  exact ⟨w', H', J'.os, J'.bare, J'.base, J'.hok, rv, qq⟩
section
variable {X : Cx} {k : Nat} {f c' : Addr} {lq xn : Str} {params : Arguments} {body : Expr} {scope : Scope} {pm ctv : Value} {N : List Str} {tb : TE}
/-- the lambda at hand -/
structure LamOk (X : Cx) (k : Nat) (f c' : Addr) (lq xn : Str) (params : Arguments) (body : Expr) (scope : Scope) (pm ctv : Value) (N : List Str) (tb : TE) : Prop where
  S : FnScope N [xn] scope
  bind : ∀ (u : Value), bindArgs (PySem.W.kla_fn "<lambda>" lq params body scope [] pm (.ref c') ctv) ⟨[u], []⟩ = pure [(xn, u)]
  body : ∀ (A : Around) (outer : List Env) (s : Shared) (H : Hp), Room k (A.deeper (envOfC lq scope s.heap.objs.size f (.ref c'))) → PE (cxOf CX0 X.prog X.w X.K X.mg X.base N lq scope f (.ref c') A outer s H E0) body tb
/-- what stands between two calls of the key -/
structure MidL (X : Cx) (pins : List (Addr × Obj)) (σ : L2.St) (H : Hp) (f : Addr) (fo : Obj) (D kS : Addr) (e1 : Nat) (ds : List PyData) (s' : Shared) : Prop where
  ex : ∃ (Hi : Hp) (kA : Array Value) (e : Nat) (ks : List V), Inv X pins σ Hi s' ∧ Same H Hi ∧ Hi D = none ∧ Hi kS = none ∧ Hi f = none ∧ s'.heap.get? f = some fo ∧
    s'.heap.get? kS = some (seqObj "list" kA e) ∧ s'.heap.get? D = some (seqObj "list" #[] e1) ∧ Vals ks kA.toList ∧ DpAll X.K Hi ks ds
theorem mid_turnL (F : LamOk X k f c' lq xn params body scope pm ctv N tb) (hr : Room (k + 2 + 1) X.A) (hff : f ∉ frs X.stack) {pins : List (Addr × Obj)} {σ : L2.St} {H : Hp} {D kS : Addr} {e1 : Nat} {ds : List PyData} {d : PyData} {s' : Shared} {x : V} {u : Value} {E : Value → Shared → Prop}
    {next : Value → Sem (ForInStep PUnit)}
    (fD : FpOk X pins H D) (fS : FpOk X pins H kS) (hne : kS ≠ D) (hsz : ds.length < 100000)
    (nfD : f ≠ D) (nfS : f ≠ kS) (hco : H c' = some (CodeO c' lq)) (m : MidL X pins σ H f (PySem.W.kla_obj "<lambda>" lq params body scope [] pm c' ctv) D kS e1 ds s') (rx : RelV x u) (hsp : ∀ H1, Same H H1 → ∀ R : VK, (∀ v H2, Same H1 H2 → Dp X.K H2 v d → R v H2) → tb (L2.start N [x]) H1 R) :
    wpAny (model X.prog X.w) X.A.in1.in1 (do
      match ← (call (.ref f) [u]).attempt with
      | .ok k => Builtin.List.listUpdate (.ref kS) (·.push k); pure (ForInStep.yield PUnit.unit)
      | .error e => next e) (fun r s'' => r = .yield PUnit.unit ∧ MidL X pins σ H f (PySem.W.kla_obj "<lambda>" lq params body scope [] pm c' ctv) D kS e1 (ds ++ [d]) s'') E s' := by
  obtain ⟨Hi, kA, e, ks, I, sm, nD, nS, nF, gF, gS, gD, rk, dk⟩ := m.ex
  have stk : ∀ {b : Addr}, FpOk X pins H b → b ∉ frs X.stack := fun {b} fb hb' => by
    rcases List.mem_cons.mp (I.stkSub b hb') with z | z
    · exact fb.2.1 z
    · exact fb.2.2.1 z
  refine wpAny_bind (wpAny_attempt (wpAny_call (codeAny_mono (run_lam (CX := CX0) (E := E0) (Q := fun v H2 => Same Hi H2 ∧ Dp X.K H2 v d) gF (sm _ _ hco) F.S hr.in1.in1 I.env0.in1.in1 (F.bind u) rx (F.body _ _ _ _) (hsp Hi sm _ fun v H2 s2 h2 => ⟨s2, h2⟩)) fun r s2 hq => ?_)))
  cases r with
  | error z => exact hq.elim
  | ok fl =>
    cases fl with
    | next => exact hq.elim
    | brk => exact hq.elim
    | cont => exact hq.elim
    | ret y =>
      obtain ⟨v0, H0', os, bare, un, hok, rv0, q0⟩ := hq
      have hq' : CE X.stack X.prog X.w Hi s' (fun v H2 => (Same Hi H2 ∧ Dp X.K H2 v d) ∧ H2 kS = none ∧ H2 D = none ∧ H2 f = none) y s2 := ⟨v0, H0', os, bare, un, hok, rv0, q0, un.free kS _ gS nS List.not_mem_nil, un.free D _ gD nD List.not_mem_nil, un.free f _ gF nF List.not_mem_nil⟩
      have gS2 := un.keep kS _ gS nS (stk fS) List.not_mem_nil
      have gD2 := un.keep D _ gD nD (stk fD) List.not_mem_nil
      have gF2 := un.keep f _ gF nF hff List.not_mem_nil
      obtain ⟨v, H2, I2, rv, ⟨s2', dv⟩, n2S, n2D, n2F⟩ := I.after hq'
      have hlen : kA.size ≤ sizeLine := by
        have h1 : kA.toList.length = kA.size := Array.length_toList
        have h2 := dpAll_len dk
        have h3 : ks.length = kA.toList.length := Vals.length rk
        exact Evl.sz_of (by omega)
      refine wpAny_bind (listUpdate_at gS2 rfl ?_ hlen (by rw [Array.size_push]; omega))
      have sb := Heap.SameBut.update s2.heap kS (Obj.mapSeq (·.push y))
      obtain ⟨c2, hc2⟩ : ∃ c2, (s2.heap.update kS (Obj.mapSeq (·.push y))).get? kS = some (seqObj "list" (kA.push y) c2) := ⟨_, get?_update_seq gS2 (·.push y)⟩
      have fS2 : FpOk X pins H2 kS := ⟨n2S, fS.2⟩
      refine wpAny_pure ⟨rfl, ⟨H2, kA.push y, c2, ks ++ [v], ?_, sm.trans s2', n2D, n2S, n2F, (sb.2 f nfS).trans gF2, hc2, (sb.2 D hne.symm).trans gD2, ?_, dpAll_snoc (dpAll_same s2' dk) dv⟩⟩
      · exact I2.turned (t' := s2.toks) (fun b o hb e => (sb.2 b hb).trans e) n2S fS.2.1 fS.2.2.2.1 fS.2.2.2.2.1 fS.2.2.2.2.2
      · rw [Array.toList_push]
        exact rk.append (.cons rv .nil)
theorem sortLam_core (F : LamOk X k f c' lq xn params body scope pm ctv N tb) (hr : Room (k + 2 + 1) X.A) (hff : f ∉ frs X.stack) {pins : List (Addr × Obj)} {σ : L2.St} {H : Hp} {s : Shared} (I : Inv X pins σ H s) {its : List Value} {xs : List V} {key : V → PyData} {g1 : Heap} {D : Addr} {c0 : Nat}
    (rv : Vals xs its) (hzL : xs.length ≤ sizeLine) (hlen : xs.length < 100000) (hal : AllAlike (xs.map key)) (hsk : Sortable (xs.map key)) (hdep : ∀ x ∈ xs, (key x).depth ≤ 40)
    (hsp : ∀ x ∈ xs, ∀ H1, Same H H1 → ∀ R : VK, (∀ v H2, Same H1 H2 → Dp X.K H2 v (key x) → R v H2) → tb (L2.start N [x]) H1 R)
    (hco : H c' = some (CodeO c' lq)) (hf0 : s.heap.get? f = some (PySem.W.kla_obj "<lambda>" lq params body scope [] pm c' ctv)) (nf0 : H f = none)
    (ho : g1.get? D = some (seqObj "list" its.toArray c0)) (old1 : ∀ b o, s.heap.get? b = some o → g1.get? b = some o) (hD : s.heap.objs.size ≤ D) {E' : Value → Shared → Prop} {Q : VK}
    (q : ∀ p H2, H p = none → Same H H2 → H2 p = some (.lst (xs.mergeSort (dataLe false key))) → Q (.ref p) H2) :
    wpAny (model X.prog X.w) X.A.in1.in1 (ksk_tree D (.ref f) false) (fun fl s' => fl = .done (.ret .none) ∧ EP X pins σ Q (.ref D) s') E' { s with heap := g1 } := by
  have hil : its.length = xs.length := (Vals.length rv).symm
  have nD : H D = none := I.hok.fresh hD
  have fD : FpOk X pins H D := I.fpOk hD nD
  have hsi : its.toArray.size ≤ sizeLine := by rw [List.size_toArray, hil]; exact hzL
  have nfD : f ≠ D := Nat.ne_of_lt (Nat.lt_of_lt_of_le (Heap.lt_size hf0) hD)
  have ltD : ∀ b o, s.heap.get? b = some o → b ≠ D := fun b o e => Nat.ne_of_lt (Nat.lt_of_lt_of_le (Heap.lt_size e) hD)
  unfold ksk_tree
  refine wpAny_bind (listItems_at ho rfl ?_)
  refine wpAny_bind (listUpdate_at ho rfl ?_ hsi (Nat.zero_le _))
  obtain ⟨c1, hc1⟩ : ∃ c1, (g1.update D (Obj.mapSeq fun _ => (#[] : Array Value))).get? D = some (seqObj "list" #[] c1) := ⟨_, get?_update_seq ho fun _ => #[]⟩
  have sb1 := Heap.SameBut.update g1 D (Obj.mapSeq fun _ => (#[] : Array Value))
  refine wpAny_bind (seqEpoch_at hc1 rfl ?_)
  refine wpAny_bind (wpAny_newTuple ?_ (by rw [Array.length_toList]; exact hsi))
  refine wpAny_bind (wpAny_newList ?_ (Nat.zero_le _))
  refine wpAny_holding ?_
  dsimp only
  have old2 : ∀ b o, s.heap.get? b = some o → (g1.update D (Obj.mapSeq fun _ => (#[] : Array Value))).get? b = some o := fun b o e => (sb1.2 b (ltD b o e)).trans (old1 b o e)
  generalize g1.update D (Obj.mapSeq fun _ => (#[] : Array Value)) = g2 at hc1 old2 ⊢
  have old3 : ∀ b o, s.heap.get? b = some o → (g2.push { cls := .type "tuple", data := .seq its.toArray.toList.toArray }).get? b = some o := fun b o e => Heap.get?_push_of_some _ (old2 b o e)
  have hc3 : (g2.push { cls := .type "tuple", data := .seq its.toArray.toList.toArray }).get? D = some (seqObj "list" #[] c1) := Heap.get?_push_of_some _ hc1
  generalize g2.push { cls := .type "tuple", data := .seq its.toArray.toList.toArray } = g3 at hc3 old3 ⊢
  have gS : (g3.push { cls := .type "list", data := .seq ([] : List Value).toArray }).get? g3.objs.size = some (seqObj "list" #[] 0) := Heap.get?_push_size _ rfl
  have gD : (g3.push { cls := .type "list", data := .seq ([] : List Value).toArray }).get? D = some (seqObj "list" #[] c1) := Heap.get?_push_of_some _ hc3
  have hne : g3.objs.size ≠ D := Nat.ne_of_gt (Heap.lt_size hc3)
  have hS : s.heap.objs.size ≤ g3.objs.size := Nat.le_trans hD (Nat.le_of_lt (Heap.lt_size hc3))
  have nS : H g3.objs.size = none := I.hok.fresh hS
  have fS : FpOk X pins H g3.objs.size := I.fpOk hS nS
  have I4 : Inv X pins σ H { s with heap := g3.push { cls := .type "list", data := .seq ([] : List Value).toArray } } := I.kept (t' := s.toks) fun b o e => Heap.get?_push_of_some _ (old3 b o e)
  have gF4 : (g3.push { cls := .type "list", data := .seq ([] : List Value).toArray }).get? f = some (PySem.W.kla_obj "<lambda>" lq params body scope [] pm c' ctv) := Heap.get?_push_of_some _ (old3 f _ hf0)
  have nfS : f ≠ g3.objs.size := Nat.ne_of_lt (Heap.lt_size (old3 f _ hf0))
  generalize g3.objs.size = kS at gS hne nS fS nfS ⊢
  generalize g3.push { cls := .type "list", data := .seq ([] : List Value).toArray } = g4 at gS gD I4 gF4 ⊢
  unfold ksk_rest
  refine wpAny_bind (wpAny_rule ?_)
  rw [List.forIn_toArray]
  refine wpAny_bind (ksk_fold (fun i s' => MidL X pins σ H f (PySem.W.kla_obj "<lambda>" lq params body scope [] pm c' ctv) D kS c1 ((xs.take i).map key) s') its 0 _ ⟨H, #[], 0, [], I4, .refl H, nD, nS, nf0, gF4, gS, gD, .nil, .nil⟩ ?_ ?_)
  · intro j u s' hu m
    simp only [Nat.zero_add] at m ⊢
    have hj : j < xs.length := by rw [← hil]; exact (List.getElem?_eq_some_iff.mp hu).1
    have hx : xs[j]? = some xs[j] := List.getElem?_eq_getElem hj
    have rx : RelV xs[j] u := by
      obtain ⟨u', hu', r'⟩ := Vals.get rv hx
      rw [hu] at hu'
      cases hu'
      exact r'
    have et : (xs.take (j + 1)).map key = (xs.take j).map key ++ [key xs[j]] := by rw [List.take_add_one, hx, List.map_append]; rfl
    rw [et]
    exact mid_turnL F hr hff fD fS hne (by rw [List.length_map, List.length_take]; omega) nfD nfS hco m rx (hsp _ (List.getElem_mem hj))
  · intro s' m
    rw [Nat.zero_add, hil, List.take_length] at m
    obtain ⟨Hi, kA, e, ks, I5, sm, nD5, nS5, nF5, gF5, gS5, gD5, rk, dk⟩ := m.ex
    refine wpAny_bind (listItems_at gS5 rfl ?_)
    have ek := eachReads I5 dk rk
    have hks : kA.size = its.length := by
      have h1 : kA.toList.length = kA.size := Array.length_toList
      have h2 := dpAll_len dk
      have h3 : ks.length = kA.toList.length := Vals.length rk
      rw [List.length_map] at h2
      omega
    have hu : ∀ d, d ∈ xs.map key → X.A.in1.in1.units + d.depth < cLine := fun d hd => by
      obtain ⟨x, hx, rfl⟩ := List.mem_map.mp hd
      have h1 := hdep x hx
      have h2 := hr.in1.in1.units
      omega
    have old5 : ∀ b o, (hideAll s'.heap [kS]).get? b = some o → s'.heap.get? b = some o := fun b o e => PySem.W.of_hideAll _ e
    refine keyH_end (h₁ := hideAll s'.heap [kS]) (fun b o _ e => old5 b o e) (PySem.W.hideAll_none _ (List.mem_singleton.mpr rfl)) gS5 gD5 hne (SortsAt.data ek hal hsk hu) hks (by rw [hil]; exact hzL) fun h' tk c kp gD6 => ⟨rfl, ?_⟩
    have eo := PySem.W.keyedOut_each key (⟨s'.heap, kA.toList, hal, rfl, ek⟩ : KeyedOut false (xs.map key) its _) (eachVals rv)
    have fD5 : FpOk X pins Hi D := ⟨nD5, fD.2⟩
    have fS5 : FpOk X pins Hi kS := ⟨nS5, fS.2⟩
    have I6 := I5.turnedL (h' := h') (t' := tk) (ch := [D, kS]) (fun b o hb e => kp b o (fun z => hb (by rw [z]; exact List.mem_cons_self)) (PySem.W.hideAll_get _ e fun z => hb (List.mem_cons_of_mem _ z))) fun b hb => by
      rcases List.mem_cons.mp hb with z | z
      · rw [z]; exact fD5
      · rw [List.mem_singleton.mp z]; exact fS5
    have hml : (xs.mergeSort (dataLe false key)).length = xs.length := List.length_mergeSort _
    have I7 := I6.take (h' := h') (t' := tk) (o := .lst (xs.mergeSort (dataLe false key))) (fun b o _ e => e) fD5 ⟨by rw [hml]; exact hzL, _, c, valsEach eo, gD6⟩
    exact ⟨.ref D, _, I7, rfl, q D _ nD (same_mut sm nD) upd_same⟩
end
end Sk
namespace Sk
open PySem PySem.Spec PyProof.Rows L2
open LamX (CodeO TabS Tabs ExtN TabB LawAtS)
open PySem.W (AllAlike Sortable dataKind dataLe EachIs copyHeap copyHeap_at copyHeap_old tabObj CodeHd tabIn)
theorem sql_ext {K : PySem.W.Frag} {H H' : Hp} {a : Addr} {xs : List V} (h : SqL K H a xs) (e : Ext2 H H') : SqL K H' a xs := by
  rcases h with (h | ⟨u, h⟩) | h
  · exact .inl (.inl (e.get h (fun _ z => nomatch z)))
  · exact .inl (.inr ⟨u, e.get h (fun _ z => nomatch z)⟩)
  · exact .inr h
def tSortLam (K : PySem.W.Frag) (T : List (Addr × Str)) (N : List Str) (t : TA) (tb : TE) : TE := fun σ H Q => t σ H fun vs H1 => ∃ (a : Addr) (xs : List V) (key : V → PyData), vs = [.ref a] ∧ SqL K H1 a xs ∧ xs.length < 100000 ∧
  AllAlike (xs.map key) ∧ Sortable (xs.map key) ∧ (∀ x ∈ xs, (key x).depth ≤ 40) ∧ Tabs T H1 ∧ ∀ H2, Ext2 H1 H2 → Tabs T H2 →
    (∀ x ∈ xs, ∀ H3, Same H2 H3 → ∀ R : VK, (∀ v H4, Same H3 H4 → Dp K H4 v (key x) → R v H4) → tb (L2.start N [x]) H3 R) ∧ ∀ p H4, H2 p = none → Same H2 H4 → H4 p = some (.lst (xs.mergeSort (dataLe false key))) → Q (.ref p) H4
section
variable {X : Cx}
theorem pe_sortLam {T : List (Addr × Str)} {k : Nat} {c P : Addr} {q xn : Str} {params : Arguments} {body e : Expr} {scope : Scope} {p lpos kpos pos : Pos} {N : List Str} {t : TA} {tb : TE} (hg : Gl X "sorted") (hm : X.mg "sorted" = none) (hv : bootBuiltins (Str.ofString "sorted") = some (.builtin "sorted")) (TB : TabB X.base X.mg c P) (hcd : X.env.code = .ref c) (eq : X.env.qual ++ "<lambda>" = q)
    (hmT : (P, q) ∈ T) (hu : ∀ p ∈ T, p.1 = P → p.2 = q) (hr : Room (k + 2 + 1) X.A) (S : FnScope N [xn] scope) (hbind : ∀ (pm cv ctv u : Value), bindArgs (PySem.W.kla_fn "<lambda>" q params body scope [] pm cv ctv) ⟨[u], []⟩ = pure [(xn, u)])
    (hbody : ∀ (f c' : Addr) (A : Around) (outer : List Env) (s : Shared) (H : Hp), Room k (A.deeper (envOfC q scope s.heap.objs.size f (.ref c'))) → PE (cxOf CX0 X.prog X.w X.K X.mg X.base N q scope f (.ref c') A outer s H E0) body tb) (ha : PA X [e] t)
    (hdef : defaultsOf params X.env = ([], []) := by rfl) (hcl : cloFrom X.env.cells scope.names [] = [] := by rfl)
    (he : backTo pos (starEach [e] X.env) = (false, eval e X.env) :: backTo pos (starEach [] X.env) := by rfl) (hpl : (backTo pos (starEach [e] X.env)).any (·.1) = false := by rfl) :
    PE X (.Call (.Name "sorted" p) [e] [⟨some "key", .Lambda params body scope lpos, kpos⟩] pos) (tSortLam X.K T N t tb) := by
  refine ⟨fun pins s σ H Q I h => ?_⟩
  refine wpAny_Call_Name_kw (ld_blt I hg hm hv ?_ (by decide) (by decide))
  refine PyProof.Rows.callWith_kw (thn (ha.run pos pins s σ H _ I h) fun us s1 ⟨vs, H1, I1, r1, q1⟩ => ?_) he hpl (by rfl) (by rfl)
  obtain ⟨a, xs, key, rfl, hs, hlen, hal, hsk, hdep, hT, qq⟩ := q1
  obtain rfl := Vals.ref1 r1
  show wpAny _ _ (evalAll ((do let v ← eval (.Lambda params body scope lpos) X.env; standAt pos; pure v) :: [])) _ _ s1
  refine wpAny_evalAll_cons (wpAny_bind (lam_new I1 TB hcd eq hmT hu hT hdef (fun y hy e => absurd e (S.nofree y hy)) hcl fun f c' pm ctv H2 s2 I2 eN T2 hf hfn hfr hco => wpAny_bind (wpAny_standAt (wpAny_pure (wpAny_evalAll_nil ?_)))))
  show wpAny _ _ (call (.builtin "sorted") [.ref a] [(Str.ofString "key", .ref f)]) _ _ s2
  obtain ⟨its, rv, hl, hz⟩ := I2.list (sql_ext hs eN)
  obtain ⟨htb, fin⟩ := qq H2 eN T2
  refine PySem.W.sorted_of_sort hl.isList (by rw [← Vals.length rv]; exact hz) (ksk_s1 _ _) (fun x => ksk_l1 _ _) fun E' => ?_
  show wpAny _ _ (ksk_tree (s2.heap.objs.size + 1) (.ref f) false) _ E' _
  exact sortLam_core ⟨S, fun u => hbind _ _ _ _, hbody f c'⟩ hr hfr I2 rv hz hlen hal hsk hdep htb hco hf hfn (copyHeap_at s2.heap its) (fun b o e => copyHeap_old e) (Nat.le_succ _) fin
end
section
variable {P : Program} {w : World} {K : PySem.W.Frag} {mg : Str → Option Value} {base : Heap}
/-- a def whose code object is told -/
theorem _root_.L2.Fun.okc {x qual : Str} {st : Stmt} {f c : Addr} {fd : FuncData} {N ps : List Str} {k : Nat} {sp : Sp} (F : Fun K x qual st f fd) (hc : fd.code = .ref c) (S : FnScope N ps (defScope st)) (len : ∀ vs H Q E, sp vs H Q E → vs.length = ps.length)
    (hbody : ∀ (A : Around) (outer : List Env) (s : Shared) (H : Hp) (vs : List V) (Q : VK) (E : XK), Room k (A.deeper (envOfC qual (defScope st) s.heap.objs.size f (.ref c))) → sp vs H Q E →
      ∃ t, PSs (cxOf CX0 P w K mg base N qual (defScope st) f (.ref c) A outer s H E).nox (defBody st) t ∧ t { nx := fun _ H' => Q .non H', rt := Q } (L2.start N vs) H) : FnOk P w K mg base CX0 (k + 1) f fd ps sp := by
  obtain ⟨oc, od, kV, doc, pm, an, cdv, ct, osl, rfl, lk, hcd⟩ := F.ex
  obtain rfl : cdv = .ref c := hc
  refine fn_of lk hcd S len fun A outer s H vs Q E hr hsp => ?_
  obtain ⟨t, h, q⟩ := hbody A outer s H vs Q E hr hsp
  exact ⟨t, h.nox, q⟩
end
section
variable {w : World} {C : Addr} {H H' : Hp} {p d m b : Addr} {es : List Ent} {N : Nat} {v pv : V} {n : Str} {ks : List Str}
theorem RefAt.ext (h : RefAt H v n ks) (e : Ext2 H H') : RefAt H' v n ks := by
  obtain ⟨x, k, rfl, h1, h2⟩ := h
  exact ⟨x, k, rfl, e.get h1 (fun _ z => nomatch z), e.get h2 (fun _ z => nomatch z)⟩
theorem NdAt.ext (h : NdAt w H d es) (e : Ext2 H H') : NdAt w H' d es := ⟨e.get h.1 (fun _ z => nomatch z), fun x hx => (h.2 x hx).ext e⟩
theorem ArAt.ext (h : ArAt w C H p d es) (e : Ext2 H H') : ArAt w C H' p d es := by
  obtain ⟨⟨dx, ep⟩, hn⟩ := h
  exact ⟨⟨dx, e.get ep (fun _ z => nomatch z)⟩, hn.ext e⟩
theorem BagAt.ext (h : BagAt N b H) (e : Ext2 H H') : BagAt N b H' := by
  obtain ⟨x, y, z, eb, r⟩ := h
  exact ⟨x, y, z, e.get eb (fun _ z => nomatch z), r⟩
theorem PoolAt.ext (h : PoolAt H pv) (e : Ext2 H H') : PoolAt H' pv := by
  obtain ⟨d, l1, l2, ns, ks, ev, ed, e1, e2, r⟩ := h
  exact ⟨d, l1, l2, ns, ks, ev, e.get ed (fun _ z => nomatch z), e.get e1 (fun _ z => nomatch z), e.get e2 (fun _ z => nomatch z), r⟩
theorem NdRd.ext (h : NdRd w H d es) (e : Ext2 H H') : NdRd w H' d es := by
  obtain ⟨g | ⟨od, g⟩, r⟩ := h
  · exact ⟨.inl (e.get g (fun _ z => nomatch z)), fun x hx => (r x hx).ext e⟩
  · exact ⟨.inr ⟨od, e.get g (fun _ z => nomatch z)⟩, fun x hx => (r x hx).ext e⟩
mutual
theorem Rd.ext {H H' : Hp} (e : Ext2 H H') : ∀ {v : V} {d : PyData}, Rd H v d → Rd H' v d
  | _, _, .non => .non
  | _, _, .bl b => .bl b
  | _, _, .int i => .int i
  | _, _, .str x => .str x
  | _, _, .lst h g => .lst (e.get h (fun _ z => nomatch z)) (RdAll.ext e g)
  | _, _, .tup h g => .tup (e.get h (fun _ z => nomatch z)) (RdAll.ext e g)
  | _, _, .dct h => .dct (e.get h (fun _ z => nomatch z))
theorem RdAll.ext {H H' : Hp} (e : Ext2 H H') : ∀ {vs : List V} {ds : List PyData}, RdAll H vs ds → RdAll H' vs ds
  | _, _, .nil => .nil
  | _, _, .cons h g => .cons (Rd.ext e h) (RdAll.ext e g)
end
theorem Tabs.same {T : List (Addr × Str)} (h : Tabs T H) (s : Same H H') : Tabs T H' := LamX.Tabs.ext h s
end
def lamq (q : Str) : Str := (q ++ ".<locals>.") ++ "<lambda>"
def spLawT (K : PySem.W.Frag) (T : List (Addr × Str)) : Sp := fun vs H Q _ => ∃ (a : Addr) (ns : List Int), vs = [.ref a] ∧ SqL K H a (ns.map V.int) ∧ ns.length ≤ 63 ∧ (∀ z ∈ ns, Builtin.Int.intBits z ≤ 1048576) ∧ Tabs T H ∧ ∀ H', Q (.bl true) H'
end Sk
namespace Sk
open PySem PySem.Spec PyProof.Rows L2
open LamX (CodeO TabS Tabs ExtN TabB LawAtS)
open PySem.W (AllAlike Sortable dataLe Datum DatumOrd dataLt listLt EachIs tabIn)
theorem tabS_nil {H : Hp} {P : Addr} {q : Str} (h : H P = some (.tbl #[])) : TabS H P q := ⟨#[], h, True.intro, fun _ _ e => nomatch e⟩
section
variable {X : Cx}
theorem k_ixN (w : World) (hu : X.A.units + 64 < cLine) (ew : X.w = w := by rfl) : IxR X (rdIxN w) := by
  subst ew
  intro value slice pins s σ H x y v u Q I rx ry h hs
  obtain ⟨a, b, es, r, z, rfl, rfl, hr, hn, hg, q⟩ := h
  cases rx
  cases ry
  obtain ⟨lo, l, n, xs, t, hx⟩ := nd_rd I.hok hn
  have e := nt_get t r
  rw [hg] at e
  obtain ⟨u2, hu2, ru⟩ := RelO.some_of e
  refine tail_any hx.typeIs PySem.F.slot_dict_getitem.lookup (PySem.getItem_keyed (knd := nestedKind X.prog X.w) (kvs := pairsH xs) (show _ + 1 + 8 < _ by omega) (ref_key I.hok hr) ⟨xs, hx, rfl⟩ (v := u2) (by rw [valueAt_pairsH]; exact hu2) ⟨z, H, I.tok _, ru, q⟩) hs
/-- list(d) -/
def rdListN (w : World) : List V → Hp → VK → Prop := fun xs H Q => ∃ a es, xs = [.ref a] ∧ NdRd w H a es ∧ ∀ p, H p = none → Q (.ref p) (upd H p (.lst (es.map fun e => .ref e.2.1)))
theorem k_listN (w : World) (hc : X.calm = true := by rfl) (ew : X.w = w := by rfl) : CallR X (.type "list") (rdListN w) := by
  subst ew
  intro pins s σ H xs us Q I r h
  obtain ⟨a, es, rfl, hn, q⟩ := h
  obtain ⟨u, rfl, rx⟩ := vals1 r
  cases rx
  obtain ⟨⟨z, l, n, ks, t, o, en, ep, g, c, dt, et⟩, _⟩ := (show ObjOk X.prog X.w H s.heap a (ndO X.w a es) from L2.Rd.ok hn.1 I.hok)
  have l1 : en.size = ks.length := by
    have := congrArg List.length et
    rw [List.length_map] at this
    exact this
  have l2 : es.length = ks.length := Paired.length t
  refine PySem.W.kdl_call (kdl_raw z c dt) (I.ok.hd hc) g (by omega) fun h' tk acc' c' kp e it => ?_
  have rv : Vals (es.map fun e => V.ref e.2.1) acc'.toList := by
    refine vals_of_at (by have h1 := it.1; rw [← Array.length_toList] at h1; rw [List.length_map, h1]; omega) fun j u v hu hv => ?_
    obtain ⟨x, hx, rfl⟩ := it.2 j v (by rw [← Array.getElem?_toList]; exact hv)
    rw [List.getElem?_map] at hu
    obtain ⟨e1, he, rfl⟩ := Option.map_eq_some_iff.mp hu
    obtain ⟨y, hy, _, e2, _⟩ := paired_get t he
    rw [← Array.getElem?_toList, et, List.getElem?_map, hy] at hx
    obtain rfl := Option.some.inj hx
    show Value.ref y.2.1 = Value.ref e1.2.1
    rw [e2]
  have hz : (es.map fun e => V.ref e.2.1).length ≤ sizeLine := by rw [List.length_map]; omega
  exact ⟨.ref s.heap.objs.size, _, I.laid (t' := tk) (o := .lst (es.map fun e => V.ref e.2.1)) kp (Nat.le_refl _) ⟨hz, acc'.toList, c', rv, by rw [Array.toArray_toList]; exact e⟩, rfl, q _ (I.hok.fresh (Nat.le_refl _))⟩
end
theorem paired_mem {α β : Type} {F : α → β → Prop} : ∀ {xs : List α} {ys : List β}, Paired F xs ys → ∀ z ∈ ys, ∃ x ∈ xs, F x z
  | _, _, .nil, _, h => nomatch h
  | _, _, .cons h t, z, hz => by
    rcases List.mem_cons.mp hz with rfl | hz
    · exact ⟨_, List.mem_cons_self, h⟩
    · obtain ⟨x, hx, hf⟩ := paired_mem t z hz
      exact ⟨x, List.mem_cons_of_mem _ hx, hf⟩
section
variable {K : PySem.W.Frag} {σ : L2.St}
theorem lc_rel_tup {te : TE} {k : Nat} {H1 : Hp} {D a : Addr} {xs : List V} {Qd : Hp → Prop} (F : Hp → V → V → Prop) (mono : ∀ {H H' : Hp} {x y : V} {acc : List V}, H D = some (.lst acc) → (∀ z ∈ acc, ∃ H0 x0, F H0 x0 z) → (∀ b o, b ≠ D → H b = some o → H' b = some o) → F H x y → F H' x y) (hn : xs.length ≤ 100000) (hD : H1 D = none) (hS : H1 a = some (.tup xs))
    (he : ∀ x H2, x ∈ xs → Same H1 H2 → ∀ R : VK, (∀ y H3, Same H2 H3 → F H3 x y → R y H3) → te ((wipe σ [k]).set k (some x)) H2 R)
    (hd : ∀ H2 ys, Same H1 H2 → H2 D = some (.lst ys) → Paired (F H2) xs ys → Qd H2) :
    ∃ W : Nat → Nat → Hp → Prop, (∃ m, W 0 m (upd H1 D (.lst []))) ∧ ∀ i m H, W i m H →
      ((Itt K a).stop i H ∧ Qd H) ∨ ((Itt K a).go i H ∧ ∃ Nx : Hp → Prop, (∀ H', Nx H' → ∃ m', m' < m ∧ W (i + 1) m' H') ∧ ∀ x H', (Itt K a).yld i H x H' → gName k x (wipe σ [k]) H' fun σ2 H2 => wipe σ2 [k] = wipe σ [k] ∧ tYes σ2 H2 fun b H3 =>
        if b = true then te σ2 H3 fun y H4 => ∃ acc, H4 D = some (.lst acc) ∧ acc.length < sizeLine ∧ Nx (upd H4 D (.lst (acc ++ [y]))) else Nx H3) := by
  refine lc_tup (K := K) (a := a) (xs := xs) (fun i H2 => Same H1 H2 ∧ ∃ ys, H2 D = some (.lst ys) ∧ Paired (F H2) (xs.take i) ys) ⟨same_new hD, [], upd_same, .nil⟩ (fun i H2 _ h => .inl (.inl (h.1 _ _ hS))) ?_ ?_
  · rintro i x H2 hx ⟨s2, ys, e2, p2⟩
    have hm : x ∈ xs := List.mem_of_getElem? hx
    have hi := (List.getElem?_eq_some_iff.mp hx).1
    refine ⟨wipe1, ?_⟩
    dsimp only [tYes]
    rw [if_pos rfl]
    refine he x H2 hm s2 _ fun y H3 s3 f3 => ?_
    have hl := Paired.length p2
    rw [List.length_take] at hl
    have ac : ∀ z ∈ ys, ∃ H0 x0, F H0 x0 z := fun z hz => by
      obtain ⟨x0, _, hf⟩ := paired_mem p2 z hz
      exact ⟨_, x0, hf⟩
    have out : ∀ b o, b ≠ D → H3 b = some o → upd H3 D (.lst (ys ++ [y])) b = some o := fun b o n e => by rw [upd_ne n]; exact e
    have e3 := s3 _ _ e2
    refine ⟨ys, e3, Evl.sz_lt (by omega), same_mut (s2.trans s3) hD, _, upd_same, ?_⟩
    rw [List.take_add_one, hx]
    exact Paired.snoc (L2.Paired.mapP p2 fun _ _ h => mono e3 ac out (mono e2 ac (fun b o _ e => s3 _ _ e) h)) (mono e3 ac out f3)
  · rintro H2 ⟨s2, ys, e2, p2⟩
    rw [List.take_length] at p2
    exact hd H2 ys s2 e2 p2
end
end Sk
namespace Sk
open PySem PySem.Spec PyProof.Rows L2
open LamX (CodeO TabS Tabs ExtN TabB LawAtS)
open PySem.W (AllAlike Sortable dataLe Datum DatumOrd dataLt listLt)
def ltKs : List Str → List Str → Bool
  | [], [] => false
  | [], _ :: _ => true
  | _ :: _, [] => false
  | a :: as, b :: bs => if a = b then ltKs as bs else ltK a b
section
variable {α : Type} [DecidableEq α] [DatumOrd α] {ρ : Str → α}
def RankOk (ρ : Str → α) : Prop := ∀ a b, KeyS a → KeyS b → DatumOrd.lt (ρ a) (ρ b) = ltK a b
theorem RankOk.eq (h : RankOk ρ) {a b : Str} (ha : KeyS a) (hb : KeyS b) : ρ a = ρ b ↔ a = b := by
  refine ⟨fun e => Decidable.byContradiction fun n => ?_, congrArg ρ⟩
  have irr : ∀ x : α, DatumOrd.lt x x = false := fun x => by rw [← DatumOrd.lt_eq]; exact PySem.W.dataLt_self _
  rcases ltK_total n with z | z
  · rw [← h a b ha hb, e, irr] at z
    cases z
  · rw [← h b a hb ha, e, irr] at z
    cases z
theorem listLt_rank (h : RankOk ρ) : ∀ {ks js : List Str}, (∀ k ∈ ks, KeyS k) → (∀ j ∈ js, KeyS j) → listLt (ks.map ρ) (js.map ρ) = ltKs ks js
  | [], [], _, _ => rfl
  | [], _ :: _, _, _ => rfl
  | _ :: _, [], _, _ => rfl
  | a :: as, b :: bs, ha, hb => by
    have ka := ha a List.mem_cons_self
    have kb := hb b List.mem_cons_self
    rw [List.map_cons, List.map_cons, listLt, ltKs]
    by_cases e : a = b
    · rw [if_pos ((h.eq ka kb).mpr e), if_pos e]
      exact listLt_rank h (fun k z => ha k (List.mem_cons_of_mem _ z)) fun k z => hb k (List.mem_cons_of_mem _ z)
    · rw [if_neg (fun z => e ((h.eq ka kb).mp z)), if_neg e]
      exact h a b ka kb
end
theorem rankT_ok : RankOk rankT := fun a b _ _ => rfl
def ltE (a b : Ent) : Bool := if a.1.1 = b.1.1 then ltKs a.1.2 b.1.2 else DatumOrd.lt a.1.1 b.1.1
def srtE (L : List Ent) : List Ent := L.mergeSort fun a b => !ltE b a
theorem srt_mem {L : List Ent} {e : Ent} : e ∈ srtE L ↔ e ∈ L := (List.mergeSort_perm L _).mem_iff
theorem srt_len (L : List Ent) : (srtE L).length = L.length := List.length_mergeSort _
open Classical in
noncomputable def refOf (H : Hp) (v : V) : Rf := if h : ∃ r : Rf, RefAt H v r.1 r.2 then h.choose else (Str.ofString "", [])
theorem RefAt.uniq {H : Hp} {v : V} {n m : Str} {ks js : List Str} (h : RefAt H v n ks) (g : RefAt H v m js) : n = m ∧ ks = js := by
  obtain ⟨a, k, rfl, h1, h2⟩ := h
  obtain ⟨b, j, e, g1, g2⟩ := g
  cases e
  rw [h1] at g1
  injection g1 with g1
  injection g1 with g1
  injection g1 with e1 e2
  injection e1 with e1
  injection e2 with e2 _
  injection e2 with e2
  subst e2
  rw [h2] at g2
  injection g2 with g2
  injection g2 with g2
  exact ⟨e1, (List.map_inj_right fun _ _ z => V.str.inj z).mp g2⟩
theorem refOf_eq {H : Hp} {v : V} {n : Str} {ks : List Str} (h : RefAt H v n ks) : refOf H v = (n, ks) := by
  have e : ∃ r : Rf, RefAt H v r.1 r.2 := ⟨(n, ks), h⟩
  unfold refOf
  rw [dif_pos e]
  obtain ⟨e1, e2⟩ := e.choose_spec.uniq h
  exact Prod.ext e1 e2
section
variable {α : Type} [DecidableEq α] [DatumOrd α] {ρ : Str → α} {H : Hp} {L : List Ent}
noncomputable def keyE (ρ : Str → α) (H : Hp) (v : V) : PyData := Datum.toD (((refOf H v).1, (refOf H v).2.map ρ) : Str × List α)
theorem keyE_at {v : V} {n : Str} {ks : List Str} (h : RefAt H v n ks) : keyE ρ H v = Datum.toD ((n, ks.map ρ) : Str × List α) := by
  unfold keyE
  rw [refOf_eq h]
theorem srt_map (h : RankOk ρ) (hR : Refs H L) (hk : ∀ e ∈ L, RefS e.1.1 e.1.2) : (L.map fun e => V.ref e.2.1).mergeSort (dataLe false (keyE ρ H)) = (srtE L).map fun e => V.ref e.2.1 := by
  unfold srtE
  refine (List.map_mergeSort (s := dataLe false (keyE ρ H)) (f := fun e : Ent => V.ref e.2.1) fun a ha b hb => ?_).symm
  show (!ltE b a) = !dataLt (keyE ρ H (.ref b.2.1)) (keyE ρ H (.ref a.2.1))
  rw [keyE_at (hR a ha), keyE_at (hR b hb), DatumOrd.lt_eq]
  congr 1
  show ltE b a = if b.1.1 = a.1.1 then listLt (b.1.2.map ρ) (a.1.2.map ρ) else DatumOrd.lt b.1.1 a.1.1
  rw [listLt_rank h (hk b hb).keys (hk a ha).keys]
  rfl
theorem alikeE (xs : List V) : AllAlike (xs.map (keyE ρ H)) := by
  intro d hd e he
  obtain ⟨a, _, rfl⟩ := List.mem_map.mp hd
  obtain ⟨b, _, rfl⟩ := List.mem_map.mp he
  exact DatumOrd.alike _ _
theorem sortableE (xs : List V) : Sortable (xs.map (keyE ρ H)) := by
  refine .inl fun d hd => ?_
  obtain ⟨a, _, rfl⟩ := List.mem_map.mp hd
  exact ⟨_, _, rfl⟩
end
theorem dv_rank_out {K : PySem.W.Frag} {H H' : Hp} {D : Addr} {acc : List V} {y : V} {z : Str} (hd : H D = some (.lst acc)) (k : ∀ b o, b ≠ D → H b = some o → H' b = some o) (h : DV K H y (rankT z)) : DV K H' y (rankT z) := by
  generalize rankT z = r at h ⊢
  have h : Dp K H y (.tuple [.int r.a, .int r.b, .str r.c]) := h
  show Dp K H' y (.tuple [.int r.a, .int r.b, .str r.c])
  cases h with
  | @tup _ xs _ hs ha =>
    refine Dp.tup (xs := xs) ?_ ?_
    · rcases hs with (h | ⟨u, h⟩) | h
      · exact .inl (.inl (k _ _ (ne_of h hd (fun z => nomatch z)) h))
      · exact .inl (.inr ⟨u, k _ _ (ne_of h hd (fun z => nomatch z)) h⟩)
      · exact .inr h
    · cases ha with
      | cons h1 t =>
        cases h1
        cases t with
        | cons h2 t =>
          cases h2
          cases t with
          | cons h3 t =>
            cases h3
            cases t
            exact .cons (.int _) (.cons (.int _) (.cons (.str _) .nil))
theorem paired_dp {α : Type} [DecidableEq α] [Datum α] {K : PySem.W.Frag} {H : Hp} {ρ : Str → α} : ∀ {ks : List Str} {ys : List V}, Paired (fun x y => ∃ z, x = V.str z ∧ DV K H y (ρ z)) (ks.map V.str) ys → DpAll K H ys ((ks.map ρ).map Datum.toD)
  | [], _, .nil => .nil
  | k :: ks, _, .cons ⟨z, e, d⟩ t => by
    cases V.str.inj e
    exact .cons d (paired_dp t)
def spRanks (K : PySem.W.Frag) : Sp := fun vs H Q _ => ∃ (a : Addr) (n : Str) (ks : List Str), vs = [.ref a] ∧ RefAt H (.ref a) n ks ∧ RefS n ks ∧ ∀ v H', Same H H' → DV K H' v (ks.map rankT) → Q v H'
def spWalked (K : PySem.W.Frag) (T : List (Addr × Str)) : Sp := fun vs H Q _ => ∃ (a : Addr) (L : List Ent), vs = [.ref a] ∧ SqL K H a (L.map fun e => .ref e.2.1) ∧ Refs H L ∧ L.length ≤ 1000 ∧ (∀ e ∈ L, RefS e.1.1 e.1.2) ∧ Tabs T H ∧
  ∀ p H', H p = none → Ext2 H H' → Tabs T H' → H' p = some (.lst ((srtE L).map fun e => .ref e.2.1)) → Q (.ref p) H'
def rfD (r : Rf) : PyData := .tuple [.str r.1, .tuple (r.2.map .str)]
def valD : V → PyData
  | .str x => .str x
  | _ => .none
def rowD (e : Ent) : PyData := .tuple [rfD e.1, valD e.2.2]
def spRows (w : World) (C : Addr) (T : List (Addr × Str)) : Sp := fun vs H Q _ => ∃ (p d a : Addr) (es : List Ent) (n : Str) (ks : List Str), vs = [.ref p, .ref a] ∧ ArAt w C H p d es ∧ GoodEs es ∧ es.length ≤ 1000 ∧ RefAt H (.ref a) n ks ∧ RefS n ks ∧ Tabs T H ∧
  ∀ r xs H', H r = none → Ext2 H H' → Tabs T H' → H' r = some (.lst xs) → RdAll H' xs ((srtE (ndBelow es n ks)).map rowD) → Q (.ref r) H'
section
variable {H : Hp} {es : List Ent}
theorem rd_rf {v : V} {n : Str} {ks : List Str} (h : RefAt H v n ks) : Rd H v (rfD (n, ks)) := by
  obtain ⟨a, k, rfl, h1, h2⟩ := h
  exact .tup h1 (.cons (.str n) (.cons (.tup h2 (rdAll_strs ks)) .nil))
end
end Sk
namespace Sk
open PySem PySem.Spec PyProof.Rows L2
open LamX (Tabs CodeO)
open PySem.W (Datum DatumOrd)
section
variable {K : PySem.W.Frag} {σ : L2.St}
theorem lc_rel_ents {te : TE} {k : Nat} {H1 : Hp} {D a : Addr} {L : List Ent} {Qd : Hp → Prop} (F : Hp → Ent → V → Prop) (mono : ∀ {H H' : Hp} {x : Ent} {y : V} {acc : List V}, H D = some (.lst acc) → (∀ b o, b ≠ D → H b = some o → H' b = some o) → F H x y → F H' x y) (hn : L.length ≤ 100000) (hD : H1 D = none) (hS : SqL K H1 a (L.map fun e => V.ref e.2.1))
    (he : ∀ e H2, e ∈ L → Same H1 H2 → ∀ R : VK, (∀ y H3, Same H2 H3 → F H3 e y → R y H3) → te ((wipe σ [k]).set k (some (.ref e.2.1))) H2 R)
    (hd : ∀ H2 ys, Same H1 H2 → H2 D = some (.lst ys) → Paired (F H2) L ys → Qd H2) :
    ∃ W : Nat → Nat → Hp → Prop, (∃ m, W 0 m (upd H1 D (.lst []))) ∧ ∀ i m H, W i m H →
      ((Itl K a).stop i H ∧ Qd H) ∨ ((Itl K a).go i H ∧ ∃ Nx : Hp → Prop, (∀ H', Nx H' → ∃ m', m' < m ∧ W (i + 1) m' H') ∧ ∀ x H', (Itl K a).yld i H x H' → gName k x (wipe σ [k]) H' fun σ2 H2 => wipe σ2 [k] = wipe σ [k] ∧ tYes σ2 H2 fun b H3 =>
        if b = true then te σ2 H3 fun y H4 => ∃ acc, H4 D = some (.lst acc) ∧ acc.length < sizeLine ∧ Nx (upd H4 D (.lst (acc ++ [y]))) else Nx H3) := by
  refine lc_list (K := K) (a := a) (xs := L.map fun e => V.ref e.2.1) (fun i H2 => Same H1 H2 ∧ ∃ ys, H2 D = some (.lst ys) ∧ Paired (F H2) (L.take i) ys) ⟨same_new hD, [], upd_same, .nil⟩ (fun i H2 _ h => h.1.seq hS) ?_ ?_
  · rintro i x H2 hx ⟨s2, ys, e2, p2⟩
    rw [List.getElem?_map] at hx
    obtain ⟨e, hxe, rfl⟩ := Option.map_eq_some_iff.mp hx
    have hm : e ∈ L := List.mem_of_getElem? hxe
    have hi := (List.getElem?_eq_some_iff.mp hxe).1
    refine ⟨wipe1, ?_⟩
    dsimp only [tYes]
    rw [if_pos rfl]
    refine he e H2 hm s2 _ fun y H3 s3 f3 => ?_
    have hl := Paired.length p2
    rw [List.length_take] at hl
    have out : ∀ b o, b ≠ D → H3 b = some o → upd H3 D (.lst (ys ++ [y])) b = some o := fun b o n e => by rw [upd_ne n]; exact e
    have e3 := s3 _ _ e2
    refine ⟨ys, e3, Evl.sz_lt (by omega), same_mut (s2.trans s3) hD, _, upd_same, ?_⟩
    rw [List.take_add_one, hxe]
    exact Paired.snoc (L2.Paired.mapP p2 fun _ _ h => mono e3 out (mono e2 (fun b o _ e => s3 _ _ e) h)) (mono e3 out f3)
  · rintro H2 ⟨s2, ys, e2, p2⟩
    rw [List.length_map, List.take_length] at p2
    exact hd H2 ys s2 e2 p2
end
def RowF (H : Hp) (e : Ent) (y : V) : Prop := ∃ p, y = .ref p ∧ H p = some (.tup [.ref e.2.1, e.2.2])
theorem rowF_out {H H' : Hp} {D : Addr} {x : Ent} {y : V} {acc : List V} (hd : H D = some (.lst acc)) (k : ∀ b o, b ≠ D → H b = some o → H' b = some o) (h : RowF H x y) : RowF H' x y := by
  obtain ⟨p, ey, ep⟩ := h
  exact ⟨p, ey, k _ _ (ne_of ep hd (fun z => nomatch z)) ep⟩
theorem rows_rd {H : Hp} : ∀ {L : List Ent} {ys : List V}, Refs H L → (∀ e ∈ L, ∃ x : Str, e.2.2 = .str x ∧ x.length ≤ 1000) → Paired (RowF H) L ys → RdAll H ys (L.map rowD)
  | [], _, _, _, .nil => .nil
  | e :: L, _, hR, hw, .cons ⟨p, ey, ep⟩ t => by
    subst ey
    obtain ⟨x, hx, _⟩ := hw e List.mem_cons_self
    rw [List.map_cons]
    refine .cons (.tup ep (.cons (rd_rf (hR e List.mem_cons_self)) (.cons ?_ .nil))) (rows_rd (fun y hy => hR y (List.mem_cons_of_mem _ hy)) (fun y hy => hw y (List.mem_cons_of_mem _ hy)) t)
    rw [hx]
    exact .str x
theorem Refs.ext {H H' : Hp} {L : List Ent} (h : Refs H L) (e : Ext2 H H') : Refs H' L := fun x hx => (h x hx).ext e
theorem refs_srt {H : Hp} {L : List Ent} (h : Refs H L) : Refs H (srtE L) := fun x hx => h x (srt_mem.mp hx)
theorem refs_below {H : Hp} {es : List Ent} (h : Refs H es) (n : Str) (ks : List Str) : Refs H (ndBelow es n ks) := fun x hx => h x (List.mem_filter.mp hx).1
theorem GoodEs.below {es : List Ent} (h : GoodEs es) (n : Str) (ks : List Str) : ∀ e ∈ ndBelow es n ks, RefS e.1.1 e.1.2 := fun e he => h.refs e (List.mem_filter.mp he).1
end Sk
namespace Sk
open PySem PySem.Spec PyProof.Rows L2
open LamX (Tabs CodeO)
theorem heap_size : ∀ n : Nat, ∃ h : Heap, h.objs.size = n
  | 0 => ⟨⟨#[], {}⟩, rfl⟩
  | n + 1 => by
    obtain ⟨h, e⟩ := heap_size n
    refine ⟨h.push { cls := .none, data := .fields #[] }, ?_⟩
    obtain ⟨o, l⟩ := h
    show (o.push _).size = n + 1
    rw [Array.size_push]
    exact congrArg (· + 1) e
theorem code_ne_nd {H : Hp} {c d : Addr} {q : Str} {w : World} {es : List Ent} (hc : H c = some (CodeO c q)) (hd : H d = some (ndO w d es)) : c ≠ d := by
  rintro rfl
  rw [hc] at hd
  injection hd with z
  unfold CodeO ndO at z
  injection z with z
  obtain ⟨h, e⟩ := heap_size c
  have g : (h.push { cls := .none, data := .fields #[.none, .str q default] }).get? c = some { cls := .none, data := .fields #[.none, .str q default] } := by
    rw [← e]
    exact Heap.get?_push_size _ rfl
  have t := congrFun z (h.push { cls := .none, data := .fields #[.none, .str q default] })
  have y : ndφ w c es (h.push { cls := .none, data := .fields #[.none, .str q default] }) := by
    rw [← t]
    exact ⟨_, _, default, g, rfl, rfl⟩
  obtain ⟨_, _, _, _, _, o, en, ep, g2, ex, dt, _⟩ := y
  rw [g] at g2
  cases g2
  cases dt
section
variable {T : List (Addr × Str)} {w : World} {C : Addr} {H H' H'' : Hp} {b d m : Addr} {es fs : List Ent} {N : Nat}
theorem tabs_chg (h : Tabs T H) (c : Chg b H H') (B : BagAt N b H) : Tabs T H' := fun p hp => by
  obtain ⟨x, y, z, eb, _⟩ := B
  obtain ⟨ps, a1, a2, a3⟩ := h p hp
  refine ⟨ps, c _ _ (ne_of a1 eb (fun z => nomatch z)) a1, a2, fun q cv hcv => ?_⟩
  obtain ⟨k, ec, eo⟩ := a3 q cv hcv
  exact ⟨k, ec, c _ _ (ne_of eo eb (fun z => nomatch z)) eo⟩
theorem tabs_kp (h : Tabs T H) (k : Kp3 b d m H H') (B : BagAt N b H) (hd : H d = some (ndO w d es)) (hm : H m = some (ndO w m fs)) : Tabs T H' := fun p hp => by
  obtain ⟨x, y, z, eb, _⟩ := B
  obtain ⟨ps, a1, a2, a3⟩ := h p hp
  refine ⟨ps, k _ _ (ne_of a1 eb (fun z => nomatch z)) (ne_of a1 hd (fun z => nomatch z)) (ne_of a1 hm (fun z => nomatch z)) a1, a2, fun q cv hcv => ?_⟩
  obtain ⟨c, ec, eo⟩ := a3 q cv hcv
  exact ⟨c, ec, k _ _ (ne_of eo eb (fun z => nomatch z)) (code_ne_nd eo hd) (code_ne_nd eo hm) eo⟩
theorem Ext2.chg (e : Ext2 H H') (c : Chg b H' H'') (n : H b = none) : Ext2 H H'' := by
  refine ⟨fun a o ha hn => c _ _ (ne_of_none ha n) (e.ext a o ha hn), fun a ha => ?_⟩
  by_cases z : a = b
  · rw [z]; exact n
  · cases h : H' a with
    | none => exact e.back a h
    | some o => rw [c _ _ z h] at ha; cases ha
theorem Ext2.kp (e : Ext2 H H') (k : Kp3 b d m H' H'') (n1 : H b = none) (n2 : H d = none) (n3 : H m = none) : Ext2 H H'' := by
  refine ⟨fun a o ha hn => k _ _ (ne_of_none ha n1) (ne_of_none ha n2) (ne_of_none ha n3) (e.ext a o ha hn), fun a ha => ?_⟩
  by_cases z1 : a = b
  · rw [z1]; exact n1
  by_cases z2 : a = d
  · rw [z2]; exact n2
  by_cases z3 : a = m
  · rw [z3]; exact n3
  cases h : H' a with
  | none => exact e.back a h
  | some o => rw [k _ _ z1 z2 z3 h] at ha; cases ha
end
end Sk
namespace Sk
open PySem PySem.Spec PyProof.Rows L2
open LamX (Tabs CodeO)
/-- a reference that a desk may remember: its last key may be empty -/
structure RefL (r : Rf) : Prop where
  name : NameS r.1
  len : r.2.length ≤ 6
  ne : r.2 ≠ []
  keys : ∀ k ∈ r.2.dropLast, KeyS k
def LastAt (H : Hp) (v : V) : Option Rf → Prop
  | none => v = .non
  | some r => RefAt H v r.1 r.2 ∧ RefL r
def lastOf (r : Rf) : Option Rf := if r.2 = [] then none else some r
theorem LastAt.ext {H H' : Hp} {v : V} {o : Option Rf} (h : LastAt H v o) (e : Ext2 H H') : LastAt H' v o := by
  cases o with
  | none => exact h
  | some r => exact ⟨h.1.ext e, h.2⟩
theorem LastAt.same {H H' : Hp} {v : V} {o : Option Rf} (h : LastAt H v o) (s : Same H H') : LastAt H' v o := h.ext (.of s)
/-- all but these stays; nothing is lost -/
structure KpX (S : List Addr) (H H' : Hp) : Prop where
  keep : ∀ c u, c ∉ S → H c = some u → (∀ ps, u ≠ .tbl ps) → H' c = some u
  back : ∀ c, H' c = none → H c = none
theorem KpX.of {S : List Addr} {H H' : Hp} (e : Ext2 H H') : KpX S H H' := ⟨fun c u _ => e.ext c u, e.back⟩
theorem KpX.same {S : List Addr} {H H' : Hp} (e : Same H H') : KpX S H H' := .of (.of e)
theorem KpX.trans {S : List Addr} {H H1 H2 : Hp} (a : KpX S H H1) (b : KpX S H1 H2) : KpX S H H2 := ⟨fun c u n e t => b.keep c u n (a.keep c u n e t) t, fun c e => a.back c (b.back c e)⟩
theorem KpX.upd {S : List Addr} {H : Hp} {c : Addr} {o : HO} (h : c ∈ S) : KpX S H (upd H c o) := by
  refine ⟨fun x u n e _ => ?_, fun x e => ?_⟩
  · rw [upd_ne (fun z => n (by rw [z]; exact h))]
    exact e
  · by_cases z : x = c
    · rw [z, upd_same] at e; cases e
    · rw [upd_ne z] at e; exact e
theorem KpX.mono {S S' : List Addr} {H H' : Hp} (k : KpX S H H') (h : ∀ c ∈ S, c ∈ S') : KpX S' H H' := ⟨fun c u n => k.keep c u (fun z => n (h c z)), k.back⟩
theorem tabs_updO {T : List (Addr × Str)} {H : Hp} {c : Addr} {u o : HO} (h : Tabs T H) (hc : H c = some u) (h1 : ∀ ps, u ≠ .tbl ps) (h2 : ∀ k q, H k = some (CodeO k q) → k ≠ c) : Tabs T (upd H c o) := fun p hp => by
  obtain ⟨ps, a1, a2, a3⟩ := h p hp
  refine ⟨ps, by rw [upd_ne (ne_of a1 hc fun z => h1 _ z.symm)]; exact a1, a2, fun q cv hcv => ?_⟩
  obtain ⟨k, ec, eo⟩ := a3 q cv hcv
  exact ⟨k, ec, by rw [upd_ne (h2 _ _ eo)]; exact eo⟩
theorem RefS.last {n : Str} {ks : List Str} (h : RefS n ks) (e : ks ≠ []) : RefL (n, ks) := ⟨h.name, h.len, e, fun k hk => h.keys k (List.dropLast_subset _ hk)⟩
end Sk
namespace Sk
open PySem PySem.Spec PyProof.Rows L2
open LamX (Tabs CodeO)
open PySem.W (DatumOrd)
def pr (e : Ent) : Rf × V := (e.1, e.2.2)
def ltP (a b : Rf × V) : Bool := if a.1.1 = b.1.1 then ltKs a.1.2 b.1.2 else DatumOrd.lt a.1.1 b.1.1
end Sk
namespace Sk
open PySem PySem.Spec PyProof.Rows L2
open LamX (Tabs CodeO)
theorem NameS.ne {n : Str} (h : NameS n) : n ≠ Str.ofString "" := fun z => by
  have := h.1
  rw [z] at this
  exact absurd this (by decide +kernel)
end Sk
namespace Sk
open PySem PySem.Spec PyProof.Rows L2
open LamX (Tabs CodeO)
def Kind2 (u : HO) : Prop := (∃ w d es, u = ndO w d es) ∨ ∃ D dx fs, u = .ins D dx fs
def Off (S : List Addr) (H : Hp) : Prop := ∀ c ∈ S, ∃ u, H c = some u ∧ Kind2 u
section
variable {w : World} {C D : Addr} {H H' : Hp} {S : List Addr} {a b m : Addr} {v : V} {n : Str} {ks : List Str} {o : Option Rf} {pv : V} {N : Nat} {es fs : List Ent}
theorem Off.ne (h : Off S H) {o : HO} (e : H a = some o) (k : ¬ Kind2 o) : a ∉ S := fun z => by
  obtain ⟨u, g, ku⟩ := h a z
  rw [e] at g
  cases g
  exact k ku
theorem kind_lst {xs : List V} : ¬ Kind2 (.lst xs) := by
  rintro (⟨_, _, _, z⟩ | ⟨_, _, _, z⟩) <;> cases z
theorem kind_tup {xs : List V} : ¬ Kind2 (.tup xs) := by
  rintro (⟨_, _, _, z⟩ | ⟨_, _, _, z⟩) <;> cases z
theorem kind_dK {xs : List (Key × V)} : ¬ Kind2 (.dK xs) := by
  rintro (⟨_, _, _, z⟩ | ⟨_, _, _, z⟩) <;> cases z
theorem KpX.lst (k : KpX S H H') (f : Off S H) {xs : List V} (e : H a = some (.lst xs)) : H' a = some (.lst xs) := k.keep _ _ (f.ne e kind_lst) e (fun _ z => nomatch z)
theorem KpX.tup (k : KpX S H H') (f : Off S H) {xs : List V} (e : H a = some (.tup xs)) : H' a = some (.tup xs) := k.keep _ _ (f.ne e kind_tup) e (fun _ z => nomatch z)
theorem KpX.ref (k : KpX S H H') (f : Off S H) (h : RefAt H v n ks) : RefAt H' v n ks := by
  obtain ⟨x, y, rfl, h1, h2⟩ := h
  exact ⟨x, y, rfl, k.tup f h1, k.tup f h2⟩
theorem KpX.last (k : KpX S H H') (f : Off S H) (h : LastAt H v o) : LastAt H' v o := by
  cases o with
  | none => exact h
  | some r => exact ⟨k.ref f h.1, h.2⟩
theorem KpX.pool (k : KpX S H H') (f : Off S H) (h : PoolAt H pv) : PoolAt H' pv := by
  obtain ⟨d, l1, l2, ns, ks, ev, ed, e1, e2, r⟩ := h
  exact ⟨d, l1, l2, ns, ks, ev, k.keep _ _ (f.ne ed kind_dK) ed (fun _ z => nomatch z), k.lst f e1, k.lst f e2, r⟩
theorem KpX.bag (k : KpX S H H') (f : Off S H) (h : BagAt N b H) : BagAt N b H' := by
  obtain ⟨x, y, z, e, r⟩ := h
  exact ⟨x, y, z, k.lst f e, r⟩
theorem LastAt.chg (h : LastAt H v o) (c : Chg b H H') (B : BagAt N b H) : LastAt H' v o := by
  cases o with
  | none => exact h
  | some r => exact ⟨h.1.chg c B, h.2⟩
end
end Sk
namespace Sk
open PySem PySem.Spec PyProof.Rows L2
/-- what a relation between heaps must bear, a new list growing at D -/
structure FrOk (E : Hp → Hp → Prop) (H1 : Hp) (D : Addr) : Prop where
  trans : ∀ {a b c : Hp}, E a b → E b c → E a c
  new : ∀ o, E H1 (upd H1 D o)
  keep : ∀ {H H' : Hp} {acc : List V}, E H H' → H D = some (.lst acc) → H' D = some (.lst acc)
  mutD : ∀ {H : Hp} {o : HO}, E H1 H → E H1 (upd H D o)
theorem fr_same {H1 : Hp} {D : Addr} (h : H1 D = none) : FrOk Same H1 D := ⟨fun a b => a.trans b, fun _ => same_new h, fun s e => s _ _ e, fun s => same_mut s h⟩
section
variable {σ : L2.St}
theorem lc_gen {α : Type} {J : It} {its : List α} {G : Hp → Prop} {Yl : α → Hp → V → Hp → Prop} (wk : Walk J its.length G (fun i H x H' => ∃ e, its[i]? = some e ∧ Yl e H x H')) {g : TG} {tt : TT} {te : TE} {vs : List Nat} {H1 : Hp} {D : Addr} {Qd : Hp → Prop}
    {E : Hp → Hp → Prop} (p : α → Bool) (F : Hp → α → V → Prop) (fr : FrOk E H1 D) (monoE : ∀ {H H' : Hp} {e : α} {y : V}, E H H' → F H e y → F H' e y) (monoD : ∀ {H : Hp} {e : α} {y : V} {acc acc' : List V}, H D = some (.lst acc) → F H e y → F (upd H D (.lst acc')) e y)
    (hn : its.length ≤ 100000) (hG : ∀ H, E H1 H → G H) (hY : ∀ e H x H', Yl e H x H' → E H H')
    (he : ∀ e H2 x H3, e ∈ its → E H1 H2 → Yl e H2 x H3 → ∀ (R : VK) (S : Hp → Prop), (∀ y H4, p e = true → E H3 H4 → F H4 e y → R y H4) → (∀ H4, p e = false → E H3 H4 → S H4) → g x (wipe σ vs) H3 fun σ2 H4 => wipe σ2 vs = wipe σ vs ∧ tt σ2 H4 fun b H5 => if b = true then te σ2 H5 R else S H5)
    (hd : ∀ H2 ys, E H1 H2 → H2 D = some (.lst ys) → Paired (F H2) (its.filter p) ys → Qd H2) :
    ∃ W : Nat → Nat → Hp → Prop, (∃ m, W 0 m (upd H1 D (.lst []))) ∧ ∀ i m H, W i m H →
      (J.stop i H ∧ Qd H) ∨ (J.go i H ∧ ∃ Nx : Hp → Prop, (∀ H', Nx H' → ∃ m', m' < m ∧ W (i + 1) m' H') ∧ ∀ x H', J.yld i H x H' → g x (wipe σ vs) H' fun σ2 H2 => wipe σ2 vs = wipe σ vs ∧ tt σ2 H2 fun b H3 =>
        if b = true then te σ2 H3 fun y H4 => ∃ acc, H4 D = some (.lst acc) ∧ acc.length < sizeLine ∧ Nx (upd H4 D (.lst (acc ++ [y]))) else Nx H3) := by
  refine lc_it wk (fun i H => E H1 H ∧ ∃ ys, H D = some (.lst ys) ∧ Paired (F H) ((its.take i).filter p) ys) ⟨fr.new _, [], upd_same, .nil⟩ (fun i H _ h => hG H h.1) ?_ ?_
  · rintro i x H H' hi ⟨s2, ys, e2, p2⟩ ⟨e, hx, hy⟩
    have hm : e ∈ its := List.mem_of_getElem? hx
    have s3 := hY e H x H' hy
    have e3 := fr.keep s3 e2
    have p3 : Paired (F H') ((its.take i).filter p) ys := L2.Paired.mapP p2 fun _ _ h => monoE s3 h
    have hl := Paired.length p2
    have hlen : ys.length ≤ i := by
      rw [← hl]
      exact Nat.le_trans (List.length_filter_le _ _) (by rw [List.length_take]; omega)
    refine he e H x H' hm s2 hy _ _ (fun y H4 pe s4 f4 => ?_) (fun H4 pe s4 => ?_)
    · have e4 := fr.keep s4 e3
      refine ⟨ys, e4, Evl.sz_lt (by omega), fr.mutD (fr.trans (fr.trans s2 s3) s4), _, upd_same, ?_⟩
      rw [List.take_add_one, hx, List.filter_append]
      show Paired _ (_ ++ List.filter p [e]) _
      rw [List.filter_cons, pe, if_pos rfl, List.filter_nil]
      exact Paired.snoc (L2.Paired.mapP p3 fun _ _ h => monoD e4 (monoE s4 h)) (monoD e4 f4)
    · refine ⟨fr.trans (fr.trans s2 s3) s4, ys, fr.keep s4 e3, ?_⟩
      rw [List.take_add_one, hx, List.filter_append]
      show Paired _ (_ ++ List.filter p [e]) _
      rw [List.filter_cons, pe, if_neg Bool.false_ne_true, List.filter_nil, List.append_nil]
      exact L2.Paired.mapP p3 fun _ _ h => monoE s4 h
  · rintro H2 ⟨s2, ys, e2, p2⟩
    rw [List.take_length] at p2
    exact hd H2 ys s2 e2 p2
theorem walk_itl {K : PySem.W.Frag} {α : Type} {its : List α} {a : Addr} (val : α → V) : Walk (Itl K a) its.length (fun H => SqL K H a (its.map val)) (fun i H x H' => ∃ e, its[i]? = some e ∧ (H' = H ∧ x = val e)) := by
  have w := walk_list (K := K) (a := a) (xs := its.map val)
  rw [List.length_map] at w
  refine w.mono (fun _ h => h) fun i H x H' hi _ y => ?_
  obtain ⟨y1, y2⟩ := y
  rw [List.getElem?_map] at y2
  obtain ⟨e, h1, h2⟩ := Option.map_eq_some_iff.mp y2
  exact ⟨e, h1, y1, h2.symm⟩
end
end Sk
namespace Sk
open PySem PySem.Spec PyProof.Rows L2
open LamX (Tabs CodeO)
def prPut (L : List (Rf × V)) (r : Rf) (v : V) : List (Rf × V) := if r ∈ L.map (·.1) then L.map (fun x => if x.1 = r then (r, v) else x) else L ++ [(r, v)]
theorem map_pr_fst (es : List Ent) : (es.map pr).map (·.1) = es.map (·.1) := by rw [List.map_map]; rfl
theorem put_pr (es : List Ent) (r : Rf) (b : Addr) (v : V) : (ndPut es r b v).map pr = prPut (es.map pr) r v := by
  unfold ndPut prPut
  rw [map_pr_fst]
  by_cases h : r ∈ es.map (·.1)
  · have hs : (ndGet es r).isSome = true := by
      cases e : (ndGet es r).isSome with
      | true => rfl
      | false => exact absurd h (get_none.mp e)
    rw [if_pos hs, if_pos h, List.map_map, List.map_map]
    refine List.map_congr_left fun e _ => ?_
    show pr (if e.1 = r then (e.1, e.2.1, v) else e) = if e.1 = r then (r, v) else pr e
    split
    · rename_i z; rw [← z]; rfl
    · rfl
  · have hs : (ndGet es r).isSome = false := get_none.mpr h
    rw [hs, if_neg Bool.false_ne_true, if_neg h, List.map_append]
    rfl
theorem rd_tup {H : Hp} {v : V} {ds : List PyData} (h : Rd H v (.tuple ds)) : ∃ a xs, v = .ref a ∧ H a = some (.tup xs) ∧ RdAll H xs ds := by
  cases h with
  | tup e r => exact ⟨_, _, rfl, e, r⟩
theorem rdAll_strs_inv {H : Hp} : ∀ {ks : List Str} {xs : List V}, RdAll H xs (ks.map PyData.str) → xs = ks.map V.str
  | [], _, .nil => rfl
  | k :: ks, _, .cons h t => by
    cases h
    rw [rdAll_strs_inv t]
    rfl
theorem rd_ref_inv {H : Hp} {v : V} {r : Rf} (h : Rd H v (rfD r)) : RefAt H v r.1 r.2 := by
  obtain ⟨a, xs, rfl, e, t⟩ := rd_tup h
  cases t with
  | cons h1 t =>
    cases h1
    cases t with
    | cons h2 t =>
      cases t
      obtain ⟨b, ys, rfl, e2, t2⟩ := rd_tup h2
      rw [rdAll_strs_inv t2] at e2
      exact ⟨a, b, rfl, e, e2⟩
/-- a told row: a tuple of a reference and a worth -/
theorem rd_row_inv {H : Hp} {v : V} {e : Ent} (h : Rd H v (rowD e)) (hw : ∃ x : Str, e.2.2 = .str x) : ∃ t a, v = .ref t ∧ H t = some (.tup [.ref a, e.2.2]) ∧ RefAt H (.ref a) e.1.1 e.1.2 := by
  obtain ⟨t, xs, rfl, et, r⟩ := rd_tup h
  obtain ⟨x, ex⟩ := hw
  rw [ex] at r
  cases r with
  | cons h1 r =>
    cases r with
    | cons h2 r =>
      cases r
      cases h2
      have ra := rd_ref_inv h1
      obtain ⟨a, k, rfl, _⟩ := id ra
      rw [ex]
      exact ⟨t, a, rfl, et, ra⟩
end Sk
namespace Sk
open PySem PySem.Spec PyProof.Rows L2
open LamX (Tabs CodeO)
section
variable {α : Type} {R : α → V → Prop}
theorem paired_len : ∀ {L : List α} {ys : List V}, Paired R L ys → L.length = ys.length
  | _, _, .nil => rfl
  | _, _, .cons _ t => congrArg (· + 1) (paired_len t)
end
end Sk
namespace Sk
open PySem PySem.Spec PyProof.Rows L2
open LamX (Tabs CodeO)
section
variable {w : World} {C D : Addr} {H H' : Hp} {p d p2 d2 b q q2 : Addr} {es fs gs : List Ent} {N : Nat} {S : List Addr} {o o' : Option Rf}
theorem KpX.chg (k : Chg b H H') (B : BagAt N b H') (hb : b ∈ S) : KpX S H H' := ⟨fun a u n e _ => k a u (fun z => n (by rw [z]; exact hb)) e, fun a e => by
  obtain ⟨x, y, z, eb, _⟩ := B
  have ne : a ≠ b := fun z => by rw [z, eb] at e; cases e
  cases h : H a with
  | none => rfl
  | some u => rw [k a u ne h] at e; cases e⟩
theorem BagAt.nd {m : Addr} {o : HO} (h : BagAt N b H) (e : H m = some (ndO w m es)) : BagAt N b (upd H m o) := by
  obtain ⟨x, y, z, eb, r⟩ := id h
  exact h.mut (ne_of eb e (fun z => nomatch z))
end
end Sk
namespace Sk
open PySem PySem.Spec PyProof.Rows L2
open LamX (Tabs CodeO)
section
variable {w : World} {C D : Addr} {H H' : Hp} {p d p2 d2 b q q2 : Addr} {es fs gs es' fs' : List Ent} {N : Nat} {S : List Addr} {o o' o2 : Option Rf}
/-- things whose parts are tuples stay through a desk's deed -/
theorem KpX.rd (k : KpX S H H') (f : Off S H) : ∀ {v : V} {r : Rf}, Rd H v (rfD r) → Rd H' v (rfD r) := fun {v r} h => rd_rf (k.ref f (rd_ref_inv h))
end
section
variable {w : World} {C D : Addr} {H H' : Hp} {p d p2 d2 b q q2 f : Addr} {es fs : List Ent} {N : Nat} {S : List Addr} {o o2 : Option Rf} {u : HO} {xs : List V}
theorem KpX.fresh (k : KpX S H H') (hf : H f = none) : KpX S H (L2.upd H' f u) := ⟨fun c x n e t => by
    rw [upd_ne (ne_of_none e hf)]
    exact k.keep c x n e t, fun c e => by
    by_cases z : c = f
    · rw [z]; exact hf
    · rw [upd_ne z] at e; exact k.back c e⟩
end
end Sk
namespace Sk
open PySem PySem.Spec PyProof.Rows L2
open LamX (Tabs CodeO)
abbrev Mem := List (Addr × HO)
/-- an object that may change -/
inductive Mob : Addr → HO → Prop where
  | lst {a : Addr} (xs : List V) : Mob a (.lst xs)
  | dK {a : Addr} (xs : List (Key × V)) : Mob a (.dK xs)
  | ins {a : Addr} (C dx : Addr) (fs : List (Str × V)) : Mob a (.ins C dx fs)
  | nd {a : Addr} (w : World) (es : List Ent) : Mob a (ndO w a es)
structure Holds (M : Mem) (H : Hp) : Prop where
  nd : (M.map (·.1)).Nodup
  has : ∀ x ∈ M, H x.1 = some x.2
  mob : ∀ x ∈ M, Mob x.1 x.2
/-- what stays for good -/
structure Pers (T : List (Addr × Str)) (H H' : Hp) : Prop where
  tup : ∀ a xs, H a = some (.tup xs) → H' a = some (.tup xs)
  tabs : Tabs T H → Tabs T H'
  frz : ∀ a o u, H a = some (.frz o u) → H' a = some (.frz o u)
theorem Pers.refl {T : List (Addr × Str)} (H : Hp) : Pers T H H := ⟨fun _ _ h => h, fun h => h, fun _ _ _ h => h⟩
theorem Pers.trans {T : List (Addr × Str)} {H H1 H2 : Hp} (a : Pers T H H1) (b : Pers T H1 H2) : Pers T H H2 := ⟨fun c xs h => b.tup c xs (a.tup c xs h), fun h => b.tabs (a.tabs h), fun c o u h => b.frz c o u (a.frz c o u h)⟩
theorem Pers.same {T : List (Addr × Str)} {H H' : Hp} (s : Same H H') : Pers T H H' := ⟨fun a xs h => s _ _ h, fun h => Tabs.same h s, fun a o u h => s _ _ h⟩
theorem Pers.ext {T : List (Addr × Str)} {H H' : Hp} (s : Ext2 H H') (t : Tabs T H') : Pers T H H' := ⟨fun a xs h => s.get h (fun _ z => nomatch z), fun _ => t, fun a o u h => s.get h (fun _ z => nomatch z)⟩
theorem Pers.chg {T : List (Addr × Str)} {N : Nat} {b : Addr} {H H' : Hp} (c : Chg b H H') (B : BagAt N b H) : Pers T H H' := ⟨fun a xs h => c _ _ (B.neT h) h, fun h => tabs_chg h c B, fun a o u h => c _ _ (by obtain ⟨x, y, z, eb, _⟩ := B; exact ne_of h eb (fun z => nomatch z)) h⟩
theorem mob_tup {a : Addr} {o : HO} (m : Mob a o) (xs : List V) : o ≠ .tup xs := by
  cases m <;> exact fun z => nomatch z
theorem mob_tbl {a : Addr} {o : HO} (m : Mob a o) (ps : Array Value) : o ≠ .tbl ps := by
  cases m <;> exact fun z => nomatch z
theorem mob_frz {a : Addr} {o : HO} (m : Mob a o) (ob : Obj) (u : HO) : o ≠ .frz ob u := by
  cases m <;> exact fun z => nomatch z
theorem mob_code {H : Hp} {a c : Addr} {o : HO} {q : Str} (m : Mob a o) (h : H a = some o) (hc : H c = some (CodeO c q)) : c ≠ a := by
  cases m with
  | nd w es => exact code_ne_nd hc h
  | lst xs => exact ne_of hc h (fun z => nomatch z)
  | dK xs => exact ne_of hc h (fun z => nomatch z)
  | ins C dx fs => exact ne_of hc h (fun z => nomatch z)
theorem Pers.updM {T : List (Addr × Str)} {H : Hp} {a : Addr} {o o' : HO} (m : Mob a o) (h : H a = some o) : Pers T H (upd H a o') :=
  ⟨fun c xs e => by rw [upd_ne (ne_of e h fun z => mob_tup m _ z.symm)]; exact e, fun hT => tabs_updO hT h (mob_tbl m) fun k q e => mob_code m h e, fun c ob u e => by rw [upd_ne (ne_of e h fun z => mob_frz m _ _ z.symm)]; exact e⟩
section
variable {M M1 M2 R : Mem} {H H' : Hp} {a b p : Addr} {o o' : HO} {N : Nat}
theorem Holds.get (h : Holds M H) (m : (a, o) ∈ M) : H a = some o := h.has _ m
theorem Holds.same (h : Holds M H) (s : Same H H') : Holds M H' := ⟨h.nd, fun x hx => s _ _ (h.has x hx), h.mob⟩
theorem Holds.ext (h : Holds M H) (s : Ext2 H H') : Holds M H' := ⟨h.nd, fun x hx => s.ext _ _ (h.has x hx) (mob_tbl (h.mob x hx)), h.mob⟩
theorem Holds.chg (h : Holds M H) (c : Chg b H H') (n : b ∉ M.map (·.1)) : Holds M H' := ⟨h.nd, fun x hx => c _ _ (fun z => n (by rw [← z]; exact List.mem_map.mpr ⟨x, hx, rfl⟩)) (h.has x hx), h.mob⟩
theorem Holds.kp {S : List Addr} (h : Holds M H) (k : KpX S H H') (n : ∀ x ∈ M, x.1 ∉ S) : Holds M H' := ⟨h.nd, fun x hx => k.keep _ _ (n x hx) (h.has x hx) (mob_tbl (h.mob x hx)), h.mob⟩
theorem Holds.perm (h : Holds M H) {M' : Mem} (q : M.Perm M') : Holds M' H := ⟨(q.map _).nodup_iff.mp h.nd, fun x hx => h.has x (q.mem_iff.mpr hx), fun x hx => h.mob x (q.mem_iff.mpr hx)⟩
theorem Holds.sub (h : Holds M H) {M' : Mem} (q : M'.Sublist M) : Holds M' H := ⟨h.nd.sublist (q.map _), fun x hx => h.has x (q.subset hx), fun x hx => h.mob x (q.subset hx)⟩
theorem Holds.ne (h : Holds (M1 ++ (a, o) :: M2) H) : (∀ x ∈ M1, x.1 ≠ a) ∧ ∀ x ∈ M2, x.1 ≠ a := by
  have n := h.nd
  rw [List.map_append, List.map_cons, List.nodup_append] at n
  obtain ⟨_, n2, n3⟩ := n
  rw [List.nodup_cons] at n2
  exact ⟨fun x hx => n3 _ (List.mem_map.mpr ⟨x, hx, rfl⟩) _ List.mem_cons_self, fun x hx z => n2.1 (List.mem_map.mpr ⟨x, hx, z⟩)⟩
theorem Holds.updA (h : Holds (M1 ++ (a, o) :: M2) H) (m : Mob a o') : Holds (M1 ++ (a, o') :: M2) (L2.upd H a o') := by
  obtain ⟨n1, n2⟩ := h.ne
  refine ⟨by rw [List.map_append, List.map_cons]; have := h.nd; rwa [List.map_append, List.map_cons] at this, fun x hx => ?_, fun x hx => ?_⟩
  · rcases List.mem_append.mp hx with hx | hx
    · rw [upd_ne (n1 x hx)]; exact h.has x (List.mem_append_left _ hx)
    · rcases List.mem_cons.mp hx with rfl | hx
      · exact upd_same
      · rw [upd_ne (n2 x hx)]; exact h.has x (List.mem_append_right _ (List.mem_cons_of_mem _ hx))
  · rcases List.mem_append.mp hx with hx | hx
    · exact h.mob x (List.mem_append_left _ hx)
    · rcases List.mem_cons.mp hx with rfl | hx
      · exact m
      · exact h.mob x (List.mem_append_right _ (List.mem_cons_of_mem _ hx))
theorem Holds.new (h : Holds M H) (hp : H p = none) (m : Mob p o) : Holds ((p, o) :: M) (L2.upd H p o) := by
  have n : ∀ x ∈ M, x.1 ≠ p := fun x hx => ne_of_none (h.has x hx) hp
  refine ⟨by rw [List.map_cons, List.nodup_cons]; exact ⟨fun hm => (by obtain ⟨x, hx, e⟩ := List.mem_map.mp hm; exact n x hx e), h.nd⟩, fun x hx => ?_, fun x hx => ?_⟩
  · rcases List.mem_cons.mp hx with rfl | hx
    · exact upd_same
    · rw [upd_ne (n x hx)]; exact h.has x hx
  · rcases List.mem_cons.mp hx with rfl | hx
    · exact m
    · exact h.mob x hx
/-- a new cell, laid in the midst -/
theorem Holds.newA (h : Holds (M1 ++ M2) H) (hp : H p = none) (m : Mob p o) : Holds (M1 ++ (p, o) :: M2) (L2.upd H p o) := (h.new hp m).perm List.perm_middle.symm
theorem Holds.mid (h : Holds (M1 ++ (a, o) :: M2) H) : H a = some o ∧ Mob a o := ⟨h.has (a, o) (List.mem_append_right _ List.mem_cons_self), h.mob (a, o) (List.mem_append_right _ List.mem_cons_self)⟩
/-- a bag's cell -/
def IsBag (N : Nat) (o : HO) : Prop := ∃ x y z : Int, o = .lst [.int x, .int y, .int z] ∧ 0 ≤ y ∧ y < 2 ^ 139 ∧ 0 ≤ z ∧ z ≤ (N : Int)
theorem IsBag.at (h : IsBag N o) (e : H b = some o) : BagAt N b H := by
  obtain ⟨x, y, z, rfl, r⟩ := h
  exact ⟨x, y, z, e, r⟩
theorem BagAt.is (h : BagAt N b H) (e : H b = some o) : IsBag N o := by
  obtain ⟨x, y, z, eb, r⟩ := h
  rw [eb] at e
  cases e
  exact ⟨x, y, z, rfl, r⟩
theorem IsBag.mob (h : IsBag N o) : Mob b o := by
  obtain ⟨x, y, z, rfl, r⟩ := h
  exact .lst _
theorem IsBag.mono {K : Nat} (h : IsBag N o) (l : N ≤ K) : IsBag K o := by
  obtain ⟨x, y, z, e, a, c, d, f⟩ := h
  exact ⟨x, y, z, e, a, c, d, by omega⟩
/-- a draw: the bag's cell alone is another one -/
theorem Holds.draw (h : Holds (M1 ++ (b, o) :: M2) H) (c : Chg b H H') (B : BagAt N b H') : ∃ o', Holds (M1 ++ (b, o') :: M2) H' ∧ IsBag N o' := by
  obtain ⟨x, y, z, eb, r⟩ := B
  obtain ⟨n1, n2⟩ := h.ne
  refine ⟨.lst [.int x, .int y, .int z], ⟨by rw [List.map_append, List.map_cons]; have := h.nd; rwa [List.map_append, List.map_cons] at this, fun u hu => ?_, fun u hu => ?_⟩, ⟨x, y, z, rfl, r⟩⟩
  · rcases List.mem_append.mp hu with hu | hu
    · exact c _ _ (n1 u hu) (h.has u (List.mem_append_left _ hu))
    · rcases List.mem_cons.mp hu with rfl | hu
      · exact eb
      · exact c _ _ (n2 u hu) (h.has u (List.mem_append_right _ (List.mem_cons_of_mem _ hu)))
  · rcases List.mem_append.mp hu with hu | hu
    · exact h.mob u (List.mem_append_left _ hu)
    · rcases List.mem_cons.mp hu with rfl | hu
      · exact .lst _
      · exact h.mob u (List.mem_append_right _ (List.mem_cons_of_mem _ hu))
end
theorem RefAt.pers {T : List (Addr × Str)} {H H' : Hp} {v : V} {n : Str} {ks : List Str} (h : RefAt H v n ks) (k : Pers T H H') : RefAt H' v n ks := by
  obtain ⟨a, c, e, h1, h2⟩ := h
  exact ⟨a, c, e, k.tup _ _ h1, k.tup _ _ h2⟩
theorem Refs.pers {T : List (Addr × Str)} {H H' : Hp} {es : List Ent} (h : Refs H es) (k : Pers T H H') : Refs H' es := fun e he => (h e he).pers k
end Sk
namespace Sk
open PySem PySem.Spec PyProof.Rows L2
open LamX (Tabs CodeO)
section
variable {α : Type}
def asg (l : List (Int × Addr × α)) (j : Int) : Option (Int × Addr × α) := l.find? fun x => decide (x.1 = j)
def kvJ (x : Int × Addr × α) : Key × V := (.inl x.1, .ref x.2.1)
theorem asg_split : ∀ {l : List (Int × Addr × α)} {j : Int} {x : Int × Addr × α}, asg l j = some x → ∃ B1 B2, l = B1 ++ x :: B2 ∧ x.1 = j ∧ ∀ y ∈ B1, y.1 ≠ j
  | y :: l, j, x, h => by
    unfold asg at h
    rw [List.find?_cons] at h
    by_cases e : y.1 = j
    · rw [decide_eq_true e] at h
      cases h
      exact ⟨[], l, rfl, e, fun _ z => nomatch z⟩
    · rw [decide_eq_false e] at h
      obtain ⟨B1, B2, h1, h2, h3⟩ := asg_split (l := l) h
      refine ⟨y :: B1, B2, by rw [h1]; rfl, h2, fun z hz => ?_⟩
      rcases List.mem_cons.mp hz with rfl | hz
      · exact e
      · exact h3 z hz
theorem asg_none {l : List (Int × Addr × α)} {j : Int} : asg l j = none ↔ ∀ x ∈ l, x.1 ≠ j := by
  unfold asg
  rw [List.find?_eq_none]
  exact ⟨fun h x hx e => h x hx (decide_eq_true e), fun h x hx e => h x hx (of_decide_eq_true e)⟩
theorem asg_app (B1 B2 : List (Int × Addr × α)) (j : Int) : asg (B1 ++ B2) j = (asg B1 j).or (asg B2 j) := List.find?_append
theorem asg_cons (x : Int × Addr × α) (B : List (Int × Addr × α)) (j : Int) : asg (x :: B) j = if x.1 = j then some x else asg B j := by
  unfold asg
  rw [List.find?_cons]
  by_cases e : x.1 = j
  · rw [decide_eq_true e, if_pos e]
  · rw [decide_eq_false e, if_neg e]
theorem asg_mem {l : List (Int × Addr × α)} {j : Int} {x : Int × Addr × α} (h : asg l j = some x) : x ∈ l ∧ x.1 = j := ⟨List.mem_of_find?_eq_some h, of_decide_eq_true (List.find?_some (p := fun x : Int × Addr × α => decide (x.1 = j)) h)⟩
/-- another one in the place of x -/
theorem asg_mid {B1 B2 : List (Int × Addr × α)} {x x' : Int × Addr × α} (e : x'.1 = x.1) (n : ∀ y ∈ B1, y.1 ≠ x.1) (i : Int) : asg (B1 ++ x' :: B2) i = if i = x.1 then some x' else asg (B1 ++ x :: B2) i := by
  rw [asg_app, asg_app, asg_cons, asg_cons, e]
  by_cases c : i = x.1
  · subst c
    rw [if_pos rfl, if_pos rfl, asg_none.mpr n]
    rfl
  · rw [if_neg c, if_neg (Ne.symm c), if_neg (Ne.symm c)]
theorem asg_last {l : List (Int × Addr × α)} {x : Int × Addr × α} (n : ∀ y ∈ l, y.1 ≠ x.1) (i : Int) : asg (l ++ [x]) i = if i = x.1 then some x else asg l i := by
  rw [asg_app, asg_cons]
  by_cases c : i = x.1
  · subst c
    rw [if_pos rfl, if_pos rfl, asg_none.mpr n]
    rfl
  · rw [if_neg c, if_neg (Ne.symm c)]
    cases asg l i <;> rfl
theorem val_kvJ (l : List (Int × Addr × α)) (j : Int) : valV (l.map kvJ) (.inl j) = (asg l j).map fun x => .ref x.2.1 := by
  unfold valV asg
  rw [List.find?_map, Option.map_map]
  have : ((fun kv : Key × V => decide (kv.1 = .inl j)) ∘ kvJ) = fun x : Int × Addr × α => decide (x.1 = j) := by
    funext x
    show decide ((Sum.inl x.1 : Key) = .inl j) = _
    exact decide_eq_decide.mpr ⟨fun z => Sum.inl.inj z, fun z => congrArg _ z⟩
  rw [this]
  rfl
theorem put_kvJ {l : List (Int × Addr × α)} {x : Int × Addr × α} (h : asg l x.1 = none) : putK (l.map kvJ) (.inl x.1) (.ref x.2.1) = (l ++ [x]).map kvJ := by
  have : ((l.map kvJ).any fun kv => decide (kv.1 = .inl x.1)) = false := by
    rw [List.any_eq_false]
    intro kv hk
    obtain ⟨y, hy, rfl⟩ := List.mem_map.mp hk
    intro e
    exact asg_none.mp h y hy (Sum.inl.inj (of_decide_eq_true e))
  unfold putK
  rw [if_neg (by rw [this]; exact Bool.false_ne_true), List.map_append]
  rfl
theorem keys_le {l : List (Int × Addr × α)} {J : List Int} (n : (l.map (·.1)).Nodup) (h : ∀ x ∈ l, x.1 ∈ J) : l.length ≤ J.length := by
  have := List.Nodup.length_le_of_subset n (l₂ := J) fun y hy => by
    obtain ⟨x, hx, rfl⟩ := List.mem_map.mp hy
    exact h x hx
  rwa [List.length_map] at this
end
abbrev Rows := List (Rf × V)
abbrev StE := Addr × List V × Rows
abbrev BgE := Int × Addr × List StE
abbrev TcE := Int × Addr × List Ent
structure DlS where
  g : Addr
  dg : Addr
  p : Addr
  dp : Addr
  d : Addr
  bd : Addr
  td : Addr
  es : List Ent
  bg : List BgE
  tc : List TcE
def stMem (y : StE) : Addr × HO := (y.1, .lst y.2.1)
def stkL (st : List StE) : HO := .lst (st.map fun y => .ref y.1)
def bgMem (x : BgE) : Mem := (x.2.1, stkL x.2.2) :: x.2.2.map stMem
def tcMem (w : World) (x : TcE) : Addr × HO := (x.2.1, ndO w x.2.1 x.2.2)
def insG (D : Addr) (s : DlS) : HO := .ins D s.dg [(Str.ofString "shelf", .ref s.p), (Str.ofString "begun", .ref s.bd), (Str.ofString "touches", .ref s.td)]
def insP (C : Addr) (s : DlS) : HO := .ins C s.dp [(Str.ofString "nodes", .ref s.d)]
def memOf (w : World) (C D : Addr) (s : DlS) : Mem := (s.g, insG D s) :: (s.p, insP C s) :: (s.d, ndO w s.d s.es) :: (s.bd, .dK (s.bg.map kvJ)) :: (s.td, .dK (s.tc.map kvJ)) :: (s.bg.flatMap bgMem ++ s.tc.map (tcMem w))
/-- a row's value: a tuple of a reference and what was there -/
def ChF (H : Hp) (c : Rf × V) (y : V) : Prop := ∃ t a, y = .ref t ∧ H t = some (.tup [.ref a, c.2]) ∧ RefAt H (.ref a) c.1.1 c.1.2
theorem ChF.pers {T : List (Addr × Str)} {H H' : Hp} {c : Rf × V} {y : V} (h : ChF H c y) (k : Pers T H H') : ChF H' c y := by
  obtain ⟨t, a, e, h1, h2⟩ := h
  exact ⟨t, a, e, k.tup _ _ h1, h2.pers k⟩
def WorV (v : V) : Prop := ∃ x : Str, v = .str x ∧ WorthS x ∧ x.length ≤ 1000
structure GoodC (U : List Rf) (c : Rf × V) : Prop where
  ref : RefS c.1.1 c.1.2
  uni : c.1 ∈ U
  wor : c.2 = .non ∨ WorV c.2
structure DlIn (w : World) (C D : Addr) (U : List Rf) (J : List Int) (Bd : Nat) (H : Hp) (s : DlS) (R : Mem) : Prop where
  hold : Holds (memOf w C D s ++ R) H
  refs : Refs H s.es
  good : GoodEs s.es
  wor : ∀ e ∈ s.es, WorV e.2.2
  bk : (s.bg.map (·.1)).Nodup
  tk : (s.tc.map (·.1)).Nodup
  bj : ∀ x ∈ s.bg, x.1 ∈ J
  tj : ∀ x ∈ s.tc, x.1 ∈ J
  rws : ∀ x ∈ s.bg, ∀ y ∈ x.2.2, Paired (ChF H) y.2.2 y.2.1 ∧ ∀ c ∈ y.2.2, GoodC U c
  trf : ∀ x ∈ s.tc, Refs H x.2.2 ∧ (x.2.2.map (·.1)).Nodup ∧ ∀ e ∈ x.2.2, RefS e.1.1 e.1.2 ∧ e.1 ∈ U
  uni : ∀ e ∈ s.es, e.1 ∈ U
  ul : U.length ≤ 1000
  jl : J.length ≤ 50
  rl : ∀ x ∈ s.bg, x.2.2.length ≤ Bd ∧ (x.2.2.map fun y => y.2.2.length).sum ≤ Bd
  bl : Bd ≤ 1000000
def stkV : Option BgE → List Rows
  | some x => x.2.2.map (·.2.2)
  | none => []
def tchV : Option TcE → List Rf
  | some x => x.2.2.map (·.1)
  | none => []
def stk (s : DlS) (j : Int) : List Rows := stkV (asg s.bg j)
def tch (s : DlS) (j : Int) : List Rf := tchV (asg s.tc j)
/-- the same cells, but what they hold -/
structure Fix (s s' : DlS) : Prop where
  g : s'.g = s.g
  p : s'.p = s.p
  d : s'.d = s.d
theorem Fix.refl (s : DlS) : Fix s s := ⟨rfl, rfl, rfl⟩
theorem Fix.trans {a b c : DlS} (h : Fix a b) (k : Fix b c) : Fix a c := ⟨k.g.trans h.g, k.p.trans h.p, k.d.trans h.d⟩
section
variable {w : World} {C D : Addr} {U : List Rf} {J : List Int} {Bd : Nat} {H H' : Hp} {s : DlS} {R : Mem}
theorem DlIn.elen (h : DlIn w C D U J Bd H s R) : s.es.length ≤ 1000 := by
  have := List.Nodup.length_le_of_subset h.good.nd (l₂ := U) fun y hy => by
    obtain ⟨x, hx, rfl⟩ := List.mem_map.mp hy
    exact h.uni x hx
  rw [List.length_map] at this
  exact Nat.le_trans this h.ul
theorem DlIn.cg (h : DlIn w C D U J Bd H s R) : H s.g = some (insG D s) := h.hold.get List.mem_cons_self
theorem DlIn.cp (h : DlIn w C D U J Bd H s R) : H s.p = some (insP C s) := h.hold.get (.tail _ List.mem_cons_self)
theorem DlIn.cd (h : DlIn w C D U J Bd H s R) : H s.d = some (ndO w s.d s.es) := h.hold.get (.tail _ (.tail _ List.mem_cons_self))
theorem DlIn.cb (h : DlIn w C D U J Bd H s R) : H s.bd = some (.dK (s.bg.map kvJ)) := h.hold.get (.tail _ (.tail _ (.tail _ List.mem_cons_self)))
theorem DlIn.ct (h : DlIn w C D U J Bd H s R) : H s.td = some (.dK (s.tc.map kvJ)) := h.hold.get (.tail _ (.tail _ (.tail _ (.tail _ List.mem_cons_self))))
theorem DlIn.ar (h : DlIn w C D U J Bd H s R) : ArAt w C H s.p s.d s.es := ⟨⟨s.dp, h.cp⟩, h.cd, h.refs⟩
theorem DlIn.cs (h : DlIn w C D U J Bd H s R) {x : BgE} (hx : x ∈ s.bg) : H x.2.1 = some (stkL x.2.2) :=
  h.hold.get (List.mem_append_left _ (.tail _ (.tail _ (.tail _ (.tail _ (.tail _ (List.mem_append_left _ (List.mem_flatMap.mpr ⟨x, hx, List.mem_cons_self⟩))))))))
theorem DlIn.cr (h : DlIn w C D U J Bd H s R) {x : BgE} (hx : x ∈ s.bg) {y : StE} (hy : y ∈ x.2.2) : H y.1 = some (.lst y.2.1) :=
  h.hold.get (List.mem_append_left _ (.tail _ (.tail _ (.tail _ (.tail _ (.tail _ (List.mem_append_left _ (List.mem_flatMap.mpr ⟨x, hx, .tail _ (List.mem_map.mpr ⟨y, hy, rfl⟩)⟩))))))))
theorem DlIn.cn (h : DlIn w C D U J Bd H s R) {x : TcE} (hx : x ∈ s.tc) : NdAt w H x.2.1 x.2.2 :=
  ⟨h.hold.get (List.mem_append_left _ (.tail _ (.tail _ (.tail _ (.tail _ (.tail _ (List.mem_append_right _ (List.mem_map.mpr ⟨x, hx, rfl⟩)))))))), (h.trf x hx).1⟩
/-- a heap in which the cells stand as they were -/
theorem DlIn.of {T : List (Addr × Str)} (h : DlIn w C D U J Bd H s R) {R' : Mem} (k : Pers T H H') (q : Holds (memOf w C D s ++ R') H') : DlIn w C D U J Bd H' s R' :=
  ⟨q, h.refs.pers k, h.good, h.wor, h.bk, h.tk, h.bj, h.tj, fun x hx y hy => ⟨L2.Paired.mapP (h.rws x hx y hy).1 fun _ _ z => z.pers k, (h.rws x hx y hy).2⟩, fun x hx => ⟨(h.trf x hx).1.pers k, (h.trf x hx).2⟩, h.uni, h.ul, h.jl, h.rl, h.bl⟩
theorem DlIn.same (h : DlIn w C D U J Bd H s R) (k : Same H H') : DlIn w C D U J Bd H' s R := h.of (T := []) (.same k) (h.hold.same k)
theorem DlIn.ext (h : DlIn w C D U J Bd H s R) (k : Ext2 H H') : DlIn w C D U J Bd H' s R := h.of (T := []) ⟨fun a xs e => k.get e (fun _ z => nomatch z), (fun _ _ z => nomatch z), fun a o u e => k.get e (fun _ z => nomatch z)⟩ (h.hold.ext k)
end
end Sk
namespace Sk
open PySem PySem.Spec PyProof.Rows L2
open LamX (Tabs CodeO)
def pRest (P : Rows) (r : Rf) : Rows := P.filter fun x => !stemB r.1 r.2 x.1.1 x.1.2
def pBelow (P : Rows) (r : Rf) : Rows := P.filter fun x => stemB r.1 r.2 x.1.1 x.1.2
def pSrt (P : Rows) : Rows := P.mergeSort fun a b => !ltP b a
def pGet (P : Rows) (r : Rf) : Option V := (P.find? fun x => decide (x.1 = r)).map (·.2)
theorem rest_pr (es : List Ent) (r : Rf) : (ndRest es r.1 r.2).map pr = pRest (es.map pr) r := by unfold pRest ndRest; rw [List.filter_map]; rfl
theorem below_pr (es : List Ent) (r : Rf) : (ndBelow es r.1 r.2).map pr = pBelow (es.map pr) r := by unfold pBelow ndBelow; rw [List.filter_map]; rfl
theorem srt_pr (es : List Ent) : (srtE es).map pr = pSrt (es.map pr) := List.map_mergeSort fun a _ b _ => rfl
theorem get_pr (es : List Ent) (r : Rf) : ndGet es r = pGet (es.map pr) r := by
  unfold ndGet pGet
  rw [List.find?_map, Option.map_map]
  rfl
def spNeedJob : Sp := fun vs H Q _ => ∃ j : Int, vs = [.int j] ∧ 0 ≤ j ∧ ∀ H', Same H H' → Q .non H'
def spDlInit (D : Addr) : Sp := fun vs H Q _ => ∃ (g p dg : Addr), vs = [.ref g, .ref p] ∧ H g = some (.ins D dg []) ∧ ∀ H' bd td, H bd = none → H td = none → bd ≠ td → (∀ b u, H b = some u → b ≠ g → H' b = some u) →
  H' g = some (.ins D dg [(Str.ofString "shelf", .ref p), (Str.ofString "begun", .ref bd), (Str.ofString "touches", .ref td)]) → H' bd = some (.dK []) → H' td = some (.dK []) → Q .non H'
section
variable (w : World) (C D : Addr) (T : List (Addr × Str))
def spDlLevel : Sp := fun vs H Q _ => ∃ (s : DlS) (R : Mem) (U : List Rf) (J : List Int) (Bd : Nat) (j : Int), vs = [.ref s.g, .int j] ∧ 0 ≤ j ∧ DlIn w C D U J Bd H s R ∧ ∀ H', Same H H' → Q (.int ((stk s j).length : Nat)) H'
/-- no other job's touched ones meet it -/
def FreeOf (s : DlS) (j : Int) (r : Rf) : Prop := ∀ i, i ≠ j → ∀ x ∈ tch s i, meetB x.1 x.2 r.1 r.2 = false
def spNeedFree : Sp := fun vs H Q _ => ∃ (s : DlS) (R : Mem) (U : List Rf) (J : List Int) (Bd : Nat) (j : Int) (a : Addr) (r : Rf), vs = [.ref s.g, .int j, .ref a] ∧ DlIn w C D U J Bd H s R ∧ RefAt H (.ref a) r.1 r.2 ∧ r.2.length ≤ 1000 ∧ FreeOf s j r ∧ ∀ H', Same H H' → Q .non H'
def noteS (L : List Rows) (m : Rows) : List Rows := match L.getLast? with
  | none => []
  | some q => L.dropLast ++ [q ++ m]
def noteT (L : List Rows) (t : List Rf) (r : Rf) : List Rf := if L = [] then t else if r ∈ t then t else t ++ [r]
def spNote : Sp := fun vs H Q _ => ∃ (s : DlS) (R : Mem) (U : List Rf) (J : List Int) (Bd : Nat) (j : Int) (a l : Addr) (r : Rf) (ys : List V) (m : Rows), vs = [.ref s.g, .int j, .ref a, .ref l] ∧ 0 ≤ j ∧ j ∈ J ∧ DlIn w C D U J Bd H s R ∧ RefAt H (.ref a) r.1 r.2 ∧ RefS r.1 r.2 ∧ r ∈ U ∧
  H l = some (.lst ys) ∧ l ∉ (memOf w C D s).map (·.1) ∧ Paired (ChF H) m ys ∧ (∀ c ∈ m, GoodC U c) ∧ Bd + m.length ≤ 1000000 ∧
  ∀ H' s', Pers T H H' → Fix s s' → DlIn w C D U J (Bd + m.length) H' s' R → s'.es = s.es → (∀ i, stk s' i = if i = j then noteS (stk s j) m else stk s i) → (∀ i, tch s' i = if i = j then noteT (stk s j) (tch s j) r else tch s i) → Q .non H'
def spDlPut : Sp := fun vs H Q _ => ∃ (s : DlS) (R : Mem) (U : List Rf) (J : List Int) (Bd : Nat) (j : Int) (a : Addr) (r : Rf) (x : Str), vs = [.ref s.g, .int j, .ref a, .str x] ∧ 0 ≤ j ∧ j ∈ J ∧ DlIn w C D U J Bd H s R ∧ RefAt H (.ref a) r.1 r.2 ∧ RefS r.1 r.2 ∧ r ∈ U ∧ FreeOf s j r ∧ WorthS x ∧ x.length ≤ 1000 ∧ Bd + 1 ≤ 1000000 ∧
  ∀ H' s', Pers T H H' → Fix s s' → DlIn w C D U J (Bd + 1) H' s' R → s'.es.map pr = prPut (s.es.map pr) r (.str x) → (∀ i, stk s' i = if i = j then noteS (stk s j) [(r, (pGet (s.es.map pr) r).getD .non)] else stk s i) → (∀ i, tch s' i = if i = j then noteT (stk s j) (tch s j) r else tch s i) → Q .non H'
def spDlKill : Sp := fun vs H Q _ => ∃ (s : DlS) (R : Mem) (U : List Rf) (J : List Int) (Bd : Nat) (j : Int) (a : Addr) (r : Rf), vs = [.ref s.g, .int j, .ref a] ∧ 0 ≤ j ∧ j ∈ J ∧ DlIn w C D U J Bd H s R ∧ RefAt H (.ref a) r.1 r.2 ∧ RefS r.1 r.2 ∧ r ∈ U ∧ FreeOf s j r ∧ Bd + 1000 ≤ 1000000 ∧ Tabs T H ∧
  ∀ H' s', Pers T H H' → Fix s s' → DlIn w C D U J (Bd + 1000) H' s' R → s'.es.map pr = pRest (s.es.map pr) r → (∀ i, stk s' i = if i = j then noteS (stk s j) (pSrt (pBelow (s.es.map pr) r)) else stk s i) → (∀ i, tch s' i = if i = j then noteT (stk s j) (tch s j) r else tch s i) → Q (.int ((pBelow (s.es.map pr) r).length : Nat)) H'
def spDlRead : Sp := fun vs H Q _ => ∃ (s : DlS) (R : Mem) (U : List Rf) (J : List Int) (Bd : Nat) (j : Int) (a : Addr) (r : Rf) (o : V), vs = [.ref s.g, .int j, .ref a, o] ∧ 0 ≤ j ∧ DlIn w C D U J Bd H s R ∧ RefAt H (.ref a) r.1 r.2 ∧ RefS r.1 r.2 ∧ FreeOf s j r ∧ ∀ H', Same H H' → Q ((ndGet s.es r).getD o) H'
def spDlData : Sp := fun vs H Q _ => ∃ (s : DlS) (R : Mem) (U : List Rf) (J : List Int) (Bd : Nat) (j : Int) (a : Addr) (r : Rf), vs = [.ref s.g, .int j, .ref a] ∧ 0 ≤ j ∧ DlIn w C D U J Bd H s R ∧ RefAt H (.ref a) r.1 r.2 ∧ RefS r.1 r.2 ∧ FreeOf s j r ∧ ∀ H', Same H H' → Q (.int (dataN s.es r)) H'
def spDlOrder : Sp := fun vs H Q _ => ∃ (s : DlS) (R : Mem) (U : List Rf) (J : List Int) (Bd : Nat) (j : Int) (a : Addr) (n : Str) (ks : List Str) (last : Str) (t : Bool), vs = [.ref s.g, .int j, .ref a, .bl t] ∧ 0 ≤ j ∧ DlIn w C D U J Bd H s R ∧ RefAt H (.ref a) n (ks ++ [last]) ∧ OrdS n ks last ∧ FreeOf s j (n, ks) ∧ ∀ H' z, Same H H' → IsNext (behOf s.es n ks) last t z → Q (.str z) H'
end
theorem stk_of {s : DlS} {j : Int} {x : BgE} (h : asg s.bg j = some x) : stk s j = x.2.2.map (·.2.2) := by unfold stk; rw [h]; rfl
theorem stk_no {s : DlS} {j : Int} (h : asg s.bg j = none) : stk s j = [] := by unfold stk; rw [h]; rfl
theorem tch_of {s : DlS} {j : Int} {x : TcE} (h : asg s.tc j = some x) : tch s j = x.2.2.map (·.1) := by unfold tch; rw [h]; rfl
theorem tch_no {s : DlS} {j : Int} (h : asg s.tc j = none) : tch s j = [] := by unfold tch; rw [h]; rfl
theorem stk_ne {s : DlS} {j : Int} (h : stk s j ≠ []) : ∃ x, asg s.bg j = some x := by
  cases e : asg s.bg j with
  | none => exact absurd (stk_no e) h
  | some x => exact ⟨x, rfl⟩
end Sk
namespace Sk
open PySem PySem.Spec PyProof.Rows L2
open LamX (Tabs CodeO)
section
variable {w : World} {C D : Addr} {U : List Rf} {J : List Int} {Bd Bd' : Nat} {T : List (Addr × Str)} {H H' : Hp} {s : DlS} {R : Mem} {B1 B2 : List BgE} {x : BgE} {T1 T2 : List TcE} {t : TcE}
def hdOf (w : World) (C D : Addr) (s : DlS) : Mem := [(s.g, insG D s), (s.p, insP C s), (s.d, ndO w s.d s.es), (s.bd, .dK (s.bg.map kvJ)), (s.td, .dK (s.tc.map kvJ))]
theorem memOf_eq (s : DlS) (R : Mem) : memOf w C D s ++ R = hdOf w C D s ++ (s.bg.flatMap bgMem ++ (s.tc.map (tcMem w) ++ R)) := by
  show _ :: _ :: _ :: _ :: _ :: ((s.bg.flatMap bgMem ++ s.tc.map (tcMem w)) ++ R) = _
  rw [List.append_assoc]
  rfl
/-- a stack in sight -/
theorem memOf_st (hb : s.bg = B1 ++ x :: B2) : memOf w C D s ++ R = (hdOf w C D s ++ B1.flatMap bgMem) ++ (x.2.1, stkL x.2.2) :: (x.2.2.map stMem ++ (B2.flatMap bgMem ++ (s.tc.map (tcMem w) ++ R))) := by
  rw [memOf_eq, hb, List.flatMap_append, List.flatMap_cons]
  simp only [bgMem, List.append_assoc, List.cons_append]
/-- a job's touched ones in sight -/
theorem memOf_tc (ht : s.tc = T1 ++ t :: T2) : memOf w C D s ++ R = (hdOf w C D s ++ (s.bg.flatMap bgMem ++ T1.map (tcMem w))) ++ (t.2.1, ndO w t.2.1 t.2.2) :: (T2.map (tcMem w) ++ R) := by
  rw [memOf_eq, ht, List.map_append, List.map_cons]
  simp only [tcMem, List.append_assoc, List.cons_append]
theorem kv_same {α : Type} {B1 B2 : List (Int × Addr × α)} {x x' : Int × Addr × α} (e1 : x'.1 = x.1) (e2 : x'.2.1 = x.2.1) : (B1 ++ x' :: B2).map kvJ = (B1 ++ x :: B2).map kvJ := by
  simp only [List.map_append, List.map_cons, kvJ, e1, e2]
theorem mem_mid {α : Type} {B1 B2 : List α} {x y : α} (h : y ∈ B1 ++ x :: B2) : y = x ∨ y ∈ B1 ++ B2 := by
  rcases List.mem_append.mp h with h | h
  · exact .inr (List.mem_append_left _ h)
  · rcases List.mem_cons.mp h with h | h
    · exact .inl h
    · exact .inr (List.mem_append_right _ h)
theorem mem_mid' {α : Type} {B1 B2 : List α} {x y : α} (h : y ∈ B1 ++ B2) : y ∈ B1 ++ x :: B2 := by
  rcases List.mem_append.mp h with h | h
  · exact List.mem_append_left _ h
  · exact List.mem_append_right _ (List.mem_cons_of_mem _ h)
/-- another stack of the same job, in the same cell -/
theorem DlIn.bgSet (h : DlIn w C D U J Bd H s R) (hb : s.bg = B1 ++ x :: B2) (st' : List StE) (le : Bd ≤ Bd') (hB : Bd' ≤ 1000000)
    (q : Holds ((hdOf w C D s ++ B1.flatMap bgMem) ++ (x.2.1, stkL st') :: (st'.map stMem ++ (B2.flatMap bgMem ++ (s.tc.map (tcMem w) ++ R)))) H') (k : Pers T H H')
    (hr : ∀ y ∈ st', Paired (ChF H') y.2.2 y.2.1 ∧ ∀ c ∈ y.2.2, GoodC U c) (hl : st'.length ≤ Bd' ∧ (st'.map fun y => y.2.2.length).sum ≤ Bd') : DlIn w C D U J Bd' H' { s with bg := B1 ++ (x.1, x.2.1, st') :: B2 } R := by
  have hx : x ∈ s.bg := by rw [hb]; exact List.mem_append_right _ List.mem_cons_self
  have ho : ∀ y ∈ B1 ++ B2, y ∈ s.bg := fun y hy => by rw [hb]; exact mem_mid' hy
  have e1 : (B1 ++ (x.1, x.2.1, st') :: B2).map kvJ = s.bg.map kvJ := by rw [hb]; exact kv_same rfl rfl
  have e2 : (B1 ++ (x.1, x.2.1, st') :: B2).map (·.1) = s.bg.map (·.1) := by rw [hb]; simp only [List.map_append, List.map_cons]
  refine ⟨?_, h.refs.pers k, h.good, h.wor, by rw [e2]; exact h.bk, h.tk, fun y hy => ?_, h.tj, fun y hy => ?_, fun y hy => ⟨(h.trf y hy).1.pers k, (h.trf y hy).2⟩, h.uni, h.ul, h.jl, fun y hy => ?_, hB⟩
  · rw [memOf_st (s := { s with bg := B1 ++ (x.1, x.2.1, st') :: B2 }) (B1 := B1) (x := (x.1, x.2.1, st')) (B2 := B2) rfl]
    have : hdOf w C D { s with bg := B1 ++ (x.1, x.2.1, st') :: B2 } = hdOf w C D s := by unfold hdOf; rw [e1]; rfl
    rw [this]
    exact q
  · rcases mem_mid hy with rfl | hy
    · exact h.bj x hx
    · exact h.bj y (ho y hy)
  · rcases mem_mid hy with rfl | hy
    · exact hr
    · exact fun z hz => ⟨L2.Paired.mapP (h.rws y (ho y hy) z hz).1 fun _ _ c => c.pers k, (h.rws y (ho y hy) z hz).2⟩
  · rcases mem_mid hy with rfl | hy
    · exact hl
    · exact ⟨Nat.le_trans (h.rl y (ho y hy)).1 le, Nat.le_trans (h.rl y (ho y hy)).2 le⟩
theorem stk_set (hb : s.bg = B1 ++ x :: B2) (n : ∀ y ∈ B1, y.1 ≠ x.1) (st' : List StE) (i : Int) : stk { s with bg := B1 ++ (x.1, x.2.1, st') :: B2 } i = if i = x.1 then st'.map (·.2.2) else stk s i := by
  have := asg_mid (B1 := B1) (B2 := B2) (x := x) (x' := (x.1, x.2.1, st')) rfl n i
  unfold stk
  show stkV (asg (B1 ++ (x.1, x.2.1, st') :: B2) i) = _
  rw [this, hb]
  by_cases c : i = x.1
  · rw [if_pos c, if_pos c]; try rfl
  · rw [if_neg c, if_neg c]
theorem sz_bigE {n : Nat} (h : n ≤ 2000000) : n ≤ sizeLine := by rw [sizeLine_eq]; omega
theorem stkL_snoc (st : List StE) (y : StE) : HO.lst ((st.map fun y => V.ref y.1) ++ [V.ref y.1]) = stkL (st ++ [y]) := by unfold stkL; rw [List.map_append]; rfl
theorem paired_app {α : Type} {F : α → V → Prop} : ∀ {a b : List α} {x y : List V}, Paired F a x → Paired F b y → Paired F (a ++ b) (x ++ y)
  | _, _, _, _, .nil, h => h
  | _, _, _, _, .cons f t, h => .cons f (paired_app t h)
theorem stMem_snoc (st : List StE) (y : StE) (X : Mem) : (st ++ [y]).map stMem ++ X = st.map stMem ++ (y.1, .lst y.2.1) :: X := by rw [List.map_append, List.append_assoc]; rfl
theorem stkL_like (st : List StE) {y y' : StE} (h : y'.1 = y.1) : stkL (st ++ [y']) = stkL (st ++ [y]) := by unfold stkL; rw [List.map_append, List.map_append, List.map_singleton, List.map_singleton, h]
/-- other nodes -/
theorem DlIn.esSet (h : DlIn w C D U J Bd H s R) {gs : List Ent} (q : Holds ([(s.g, insG D s), (s.p, insP C s)] ++ (s.d, ndO w s.d gs) :: ((s.bd, .dK (s.bg.map kvJ)) :: (s.td, .dK (s.tc.map kvJ)) :: (s.bg.flatMap bgMem ++ (s.tc.map (tcMem w) ++ R)))) H') (k : Pers T H H')
    (hr : Refs H' gs) (hg : GoodEs gs) (hw : ∀ e ∈ gs, WorV e.2.2) (hu : ∀ e ∈ gs, e.1 ∈ U) : DlIn w C D U J Bd H' { s with es := gs } R :=
  ⟨by rw [memOf_eq]; exact q, hr, hg, hw, h.bk, h.tk, h.bj, h.tj, fun y hy z hz => ⟨L2.Paired.mapP (h.rws y hy z hz).1 fun _ _ c => c.pers k, (h.rws y hy z hz).2⟩, fun y hy => ⟨(h.trf y hy).1.pers k, (h.trf y hy).2⟩, hu, h.ul, h.jl, h.rl, h.bl⟩
theorem DlIn.esHold (h : DlIn w C D U J Bd H s R) (gs : List Ent) : Holds ([(s.g, insG D s), (s.p, insP C s)] ++ (s.d, ndO w s.d gs) :: ((s.bd, .dK (s.bg.map kvJ)) :: (s.td, .dK (s.tc.map kvJ)) :: (s.bg.flatMap bgMem ++ (s.tc.map (tcMem w) ++ R)))) (upd H s.d (ndO w s.d gs)) := by
  have := h.hold
  rw [memOf_eq] at this
  exact Holds.updA (M1 := [(s.g, insG D s), (s.p, insP C s)]) this (.nd w gs)
/-- a job's touched ones, others -/
theorem DlIn.tcSet (h : DlIn w C D U J Bd H s R) (ht : s.tc = T1 ++ t :: T2) (gs : List Ent) (q : Holds ((hdOf w C D s ++ (s.bg.flatMap bgMem ++ T1.map (tcMem w))) ++ (t.2.1, ndO w t.2.1 gs) :: (T2.map (tcMem w) ++ R)) H') (k : Pers T H H')
    (hr : Refs H' gs ∧ (gs.map (·.1)).Nodup ∧ ∀ e ∈ gs, RefS e.1.1 e.1.2 ∧ e.1 ∈ U) : DlIn w C D U J Bd H' { s with tc := T1 ++ (t.1, t.2.1, gs) :: T2 } R := by
  have hx : t ∈ s.tc := by rw [ht]; exact List.mem_append_right _ List.mem_cons_self
  have ho : ∀ y ∈ T1 ++ T2, y ∈ s.tc := fun y hy => by rw [ht]; exact mem_mid' hy
  have e1 : (T1 ++ (t.1, t.2.1, gs) :: T2).map kvJ = s.tc.map kvJ := by rw [ht]; exact kv_same rfl rfl
  have e2 : (T1 ++ (t.1, t.2.1, gs) :: T2).map (·.1) = s.tc.map (·.1) := by rw [ht]; simp only [List.map_append, List.map_cons]
  refine ⟨?_, h.refs.pers k, h.good, h.wor, h.bk, by rw [e2]; exact h.tk, h.bj, fun y hy => ?_, fun y hy z hz => ⟨L2.Paired.mapP (h.rws y hy z hz).1 fun _ _ c => c.pers k, (h.rws y hy z hz).2⟩, fun y hy => ?_, h.uni, h.ul, h.jl, h.rl, h.bl⟩
  · rw [memOf_tc (s := { s with tc := T1 ++ (t.1, t.2.1, gs) :: T2 }) (T1 := T1) (t := (t.1, t.2.1, gs)) (T2 := T2) rfl]
    have : hdOf w C D { s with tc := T1 ++ (t.1, t.2.1, gs) :: T2 } = hdOf w C D s := by unfold hdOf; rw [e1]; rfl
    rw [this]
    exact q
  · rcases mem_mid hy with rfl | hy
    · exact h.tj t hx
    · exact h.tj y (ho y hy)
  · rcases mem_mid hy with rfl | hy
    · exact hr
    · exact ⟨(h.trf y (ho y hy)).1.pers k, (h.trf y (ho y hy)).2⟩
theorem tch_set (ht : s.tc = T1 ++ t :: T2) (n : ∀ y ∈ T1, y.1 ≠ t.1) (gs : List Ent) (i : Int) : tch { s with tc := T1 ++ (t.1, t.2.1, gs) :: T2 } i = if i = t.1 then gs.map (·.1) else tch s i := by
  have := asg_mid (B1 := T1) (B2 := T2) (x := t) (x' := (t.1, t.2.1, gs)) rfl n i
  unfold tch
  show tchV (asg (T1 ++ (t.1, t.2.1, gs) :: T2) i) = _
  rw [this, ht]
  by_cases c : i = t.1
  · rw [if_pos c, if_pos c]; try rfl
  · rw [if_neg c, if_neg c]
/-- a first touched one -/
theorem DlIn.tcNew (h : DlIn w C D U J Bd H s R) {j : Int} {ta : Addr} {gs : List Ent} (hj : j ∈ J) (hn : asg s.tc j = none)
    (q : Holds ([(s.g, insG D s), (s.p, insP C s), (s.d, ndO w s.d s.es), (s.bd, .dK (s.bg.map kvJ)), (s.td, .dK ((s.tc ++ [(j, ta, gs)]).map kvJ))] ++ (s.bg.flatMap bgMem ++ (s.tc.map (tcMem w) ++ (ta, ndO w ta gs) :: R))) H') (k : Pers T H H')
    (hr : Refs H' gs ∧ (gs.map (·.1)).Nodup ∧ ∀ e ∈ gs, RefS e.1.1 e.1.2 ∧ e.1 ∈ U) : DlIn w C D U J Bd H' { s with tc := s.tc ++ [(j, ta, gs)] } R := by
  refine ⟨?_, h.refs.pers k, h.good, h.wor, h.bk, ?_, h.bj, fun y hy => ?_, fun y hy z hz => ⟨L2.Paired.mapP (h.rws y hy z hz).1 fun _ _ c => c.pers k, (h.rws y hy z hz).2⟩, fun y hy => ?_, h.uni, h.ul, h.jl, h.rl, h.bl⟩
  · rw [memOf_eq]
    show Holds (_ ++ (s.bg.flatMap bgMem ++ ((s.tc ++ [(j, ta, gs)]).map (tcMem w) ++ R))) H'
    rw [List.map_append, List.append_assoc (s.tc.map (tcMem w))]
    exact q
  · show ((s.tc ++ [(j, ta, gs)]).map (·.1)).Nodup
    rw [List.map_append, List.nodup_append]
    refine ⟨h.tk, by simp, fun a ha b hb => ?_⟩
    obtain ⟨y, hy, rfl⟩ := List.mem_map.mp ha
    rw [List.map_singleton, List.mem_singleton] at hb
    rw [hb]
    exact asg_none.mp hn y hy
  · rcases List.mem_append.mp hy with hy | hy
    · exact h.tj y hy
    · rw [List.mem_singleton.mp hy]; exact hj
  · rcases List.mem_append.mp hy with hy | hy
    · exact ⟨(h.trf y hy).1.pers k, (h.trf y hy).2⟩
    · rw [List.mem_singleton.mp hy]; exact hr
theorem tch_new {j : Int} {ta : Addr} {gs : List Ent} (hn : asg s.tc j = none) (i : Int) : tch { s with tc := s.tc ++ [(j, ta, gs)] } i = if i = j then gs.map (·.1) else tch s i := by
  have := asg_last (l := s.tc) (x := (j, ta, gs)) (fun y hy => asg_none.mp hn y hy) i
  unfold tch
  show tchV (asg (s.tc ++ [(j, ta, gs)]) i) = _
  rw [this]
  by_cases c : i = j
  · rw [if_pos c, if_pos c]; try rfl
  · rw [if_neg c, if_neg c]
end
end Sk
namespace Sk
open PySem PySem.Spec PyProof.Rows L2
open LamX (Tabs CodeO)
section
variable {w : World} {C D : Addr} {U : List Rf} {J : List Int} {Bd : Nat} {T : List (Addr × Str)} {H H' : Hp} {s : DlS} {R : Mem}
theorem ndPut_mem {es : List Ent} {r : Rf} {b : Addr} {v : V} {e : Ent} (h : e ∈ ndPut es r b v) : (e.1 = r ∧ e.2.2 = v) ∨ e ∈ es := by
  unfold ndPut at h
  split at h
  · obtain ⟨x, hx, rfl⟩ := List.mem_map.mp h
    by_cases z : x.1 = r
    · rw [if_pos z]; exact .inl ⟨z, rfl⟩
    · rw [if_neg z]; exact .inr hx
  · rcases List.mem_append.mp h with h | h
    · exact .inr h
    · rw [List.mem_singleton.mp h]; exact .inl ⟨rfl, rfl⟩
theorem DlIn.putEs (h : DlIn w C D U J Bd H s R) {r : Rf} {a : Addr} {x : Str} (hr : RefAt H (.ref a) r.1 r.2) (hS : RefS r.1 r.2) (hu : r ∈ U) (hw : WorthS x) (hx : x.length ≤ 1000) :
    DlIn w C D U J Bd (upd H s.d (ndO w s.d (ndPut s.es r a (.str x)))) { s with es := ndPut s.es r a (.str x) } R ∧ Pers T H (upd H s.d (ndO w s.d (ndPut s.es r a (.str x)))) := by
  have k : Pers T H (upd H s.d (ndO w s.d (ndPut s.es r a (.str x)))) := .updM (.nd w s.es) h.cd
  refine ⟨h.esSet (h.esHold _) k (Refs.pers (put_refs h.refs hr _) k) (h.good.put hS a hx) (fun e he => ?_) (fun e he => ?_), k⟩
  · rcases ndPut_mem he with z | z
    · rw [z.2]; exact ⟨x, rfl, hw, hx⟩
    · exact h.wor e z
  · rcases ndPut_mem he with z | z
    · rw [z.1]; exact hu
    · exact h.uni e z
theorem DlIn.restEs (h : DlIn w C D U J Bd H s R) (n : Str) (ks : List Str) :
    DlIn w C D U J Bd (upd H s.d (ndO w s.d (ndRest s.es n ks))) { s with es := ndRest s.es n ks } R ∧ Pers T H (upd H s.d (ndO w s.d (ndRest s.es n ks))) := by
  have k : Pers T H (upd H s.d (ndO w s.d (ndRest s.es n ks))) := .updM (.nd w s.es) h.cd
  exact ⟨h.esSet (h.esHold _) k (fun e he => (h.refs e (List.mem_filter.mp he).1).pers k) (h.good.rest n ks) (fun e he => h.wor e (List.mem_filter.mp he).1) (fun e he => h.uni e (List.mem_filter.mp he).1), k⟩
end
/-- told rows, part by part -/
theorem rows_ch {H : Hp} {L : List Ent} {xs : List V} (h : RdAll H xs (L.map rowD)) (hw : ∀ e ∈ L, ∃ x : Str, e.2.2 = .str x) : Paired (fun e y => ChF H (pr e) y) L xs := by
  induction L generalizing xs with
  | nil => cases h; exact .nil
  | cons e L ih =>
    cases h with
    | cons h t =>
      refine .cons ?_ (ih t fun x hx => hw x (List.mem_cons_of_mem _ hx))
      exact rd_row_inv h (hw e List.mem_cons_self)
theorem paired_map {α β : Type} {f : α → β} {F : β → V → Prop} : ∀ {L : List α} {xs : List V}, Paired (fun a y => F (f a) y) L xs → Paired F (L.map f) xs
  | _, _, .nil => .nil
  | _, _, .cons h t => .cons h (paired_map t)
end Sk
namespace Sk
open PySem PySem.Spec PyProof.Rows L2
open LamX (Tabs CodeO)
section
variable {w : World} {C D : Addr} {U : List Rf} {J : List Int} {Bd : Nat} {T : List (Addr × Str)} {H H' : Hp} {s : DlS} {R : Mem}
/-- the last dealing's rows, more of them -/
theorem DlIn.extend (h : DlIn w C D U J Bd H s R) {j : Int} {x : BgE} (hx : asg s.bg j = some x) {st0 : List StE} {y0 : StE} (est : x.2.2 = st0 ++ [y0]) {m : Rows} {ys : List V} (hm : Paired (ChF H) m ys) (hg : ∀ c ∈ m, GoodC U c) (hB : Bd + m.length ≤ 1000000) :
    ∃ s', DlIn w C D U J (Bd + m.length) (upd H y0.1 (.lst (y0.2.1 ++ ys))) s' R ∧ Pers T H (upd H y0.1 (.lst (y0.2.1 ++ ys))) ∧ Fix s s' ∧ s'.es = s.es ∧ s'.tc = s.tc ∧ (∀ i, stk s' i = if i = j then st0.map (·.2.2) ++ [y0.2.2 ++ m] else stk s i) ∧ H y0.1 = some (.lst y0.2.1) ∧ y0.2.1.length ≤ Bd := by
  obtain ⟨B1, B2, eb, ej, nb⟩ := asg_split hx
  have hmx := (asg_mem hx).1
  have nb' : ∀ y ∈ B1, y.1 ≠ x.1 := fun y hy => by rw [ej]; exact nb y hy
  have hy0 : y0 ∈ x.2.2 := by rw [est]; exact List.mem_append_right _ List.mem_cons_self
  have ey0 := h.cr hmx hy0
  have row0 := h.rws x hmx y0 hy0
  have rl := h.rl x hmx
  have l0 := paired_len row0.1
  have q0 := h.hold
  rw [memOf_st eb, est, stMem_snoc] at q0
  have q5 : Holds (((hdOf w C D s ++ B1.flatMap bgMem) ++ (x.2.1, stkL (st0 ++ [y0])) :: st0.map stMem) ++ (y0.1, .lst y0.2.1) :: (B2.flatMap bgMem ++ (s.tc.map (tcMem w) ++ R))) H := by
    simpa only [List.append_assoc, List.cons_append] using q0
  have q6 := q5.updA (o' := .lst (y0.2.1 ++ ys)) (.lst _)
  have k6 : Pers T H (upd H y0.1 (.lst (y0.2.1 ++ ys))) := .updM (.lst _) ey0
  have q7 : Holds ((hdOf w C D s ++ B1.flatMap bgMem) ++ (x.2.1, stkL (st0 ++ [(y0.1, y0.2.1 ++ ys, y0.2.2 ++ m)])) :: ((st0 ++ [(y0.1, y0.2.1 ++ ys, y0.2.2 ++ m)]).map stMem ++ (B2.flatMap bgMem ++ (s.tc.map (tcMem w) ++ R)))) (upd H y0.1 (.lst (y0.2.1 ++ ys))) := by
    rw [stMem_snoc, stkL_like st0 (y := y0) (y' := (y0.1, y0.2.1 ++ ys, y0.2.2 ++ m)) rfl]
    simpa only [List.append_assoc, List.cons_append] using q6
  have sum3 : ((st0 ++ [y0]).map fun y => y.2.2.length).sum ≤ Bd := by have := rl.2; rwa [est] at this
  rw [List.map_append, List.sum_append, List.map_singleton, List.sum_singleton] at sum3
  have fin := h.bgSet eb (st0 ++ [(y0.1, y0.2.1 ++ ys, y0.2.2 ++ m)]) (Nat.le_add_right Bd m.length) hB q7 k6 (fun y hy => ?_) ?_
  · refine ⟨_, fin, k6, ⟨rfl, rfl, rfl⟩, rfl, rfl, fun i => ?_, ey0, by omega⟩
    refine (stk_set (s := s) eb nb' _ i).trans ?_
    rw [ej, List.map_append]
    rfl
  · rcases List.mem_append.mp hy with hy | hy
    · have := h.rws x hmx y (by rw [est]; exact List.mem_append_left _ hy)
      exact ⟨L2.Paired.mapP this.1 fun _ _ c => c.pers k6, this.2⟩
    · rw [List.mem_singleton.mp hy]
      refine ⟨paired_app (L2.Paired.mapP row0.1 fun _ _ c => c.pers k6) (L2.Paired.mapP hm fun _ _ c => c.pers k6), fun c hc => ?_⟩
      rcases List.mem_append.mp hc with hc | hc
      · exact row0.2 c hc
      · exact hg c hc
  · have := rl.1
    rw [est, List.length_append, List.length_singleton] at this
    rw [List.map_append, List.sum_append, List.map_singleton, List.sum_singleton, List.length_append, List.length_singleton]
    refine ⟨by omega, ?_⟩
    show _ + (y0.2.2 ++ m).length ≤ Bd + m.length
    rw [List.length_append]
    omega
theorem put_keysT (es : List Ent) (r : Rf) (b : Addr) (v : V) : (ndPut es r b v).map (·.1) = if r ∈ es.map (·.1) then es.map (·.1) else es.map (·.1) ++ [r] := by
  by_cases h : r ∈ es.map (·.1)
  · rw [if_pos h]
    refine put_keys es r b v ?_
    cases e : (ndGet es r).isSome with
    | true => rfl
    | false => exact absurd h (get_none.mp e)
  · rw [if_neg h]
    unfold ndPut
    rw [get_none.mpr h, if_neg Bool.false_ne_true, List.map_append]
    rfl
theorem lst_mob {H : Hp} {l a : Addr} {ys : List V} {o u : HO} (e : H l = some (.lst ys)) (h : H a = some o) (n : ∀ xs, o ≠ .lst xs) : upd H a u l = some (.lst ys) := by
  rw [upd_ne (fun z => n ys (by rw [z, h] at e; exact Option.some.inj e))]
  exact e
/-- touched: a first one of the job -/
theorem DlIn.touchNew (h : DlIn w C D U J Bd H s R) {j : Int} (hj : j ∈ J) (hn : asg s.tc j = none) {r : Rf} {a p1 : Addr} {H1 : Hp} (hp : H p1 = none) (hr : RefAt H (.ref a) r.1 r.2) (hS : RefS r.1 r.2) (hu : r ∈ U)
    (e1 : H1 = upd (upd H p1 (ndO w p1 [])) s.td (.dK (putK (s.tc.map kvJ) (.inl j) (.ref p1)))) :
    NdAt w H1 p1 [] ∧ DlIn w C D U J Bd (upd H1 p1 (ndO w p1 (ndPut [] r a (.bl true)))) { s with tc := s.tc ++ [(j, p1, ndPut [] r a (.bl true))] } R ∧ Pers T H (upd H1 p1 (ndO w p1 (ndPut [] r a (.bl true)))) ∧ RefAt H1 (.ref a) r.1 r.2 := by
  have s1 : Same H (upd H p1 (ndO w p1 [])) := same_new hp
  have q0 := h.hold
  rw [memOf_eq] at q0
  have q1 : Holds ((hdOf w C D s ++ (s.bg.flatMap bgMem ++ s.tc.map (tcMem w))) ++ R) H := by simpa only [List.append_assoc] using q0
  have q2 := q1.newA (o := ndO w p1 []) hp (.nd w _)
  have q3 : Holds ([(s.g, insG D s), (s.p, insP C s), (s.d, ndO w s.d s.es), (s.bd, .dK (s.bg.map kvJ))] ++ (s.td, .dK (s.tc.map kvJ)) :: (s.bg.flatMap bgMem ++ (s.tc.map (tcMem w) ++ (p1, ndO w p1 []) :: R))) (upd H p1 (ndO w p1 [])) := by
    simpa only [List.append_assoc, List.cons_append, hdOf, List.nil_append] using q2
  have et := q3.mid.1
  have q4 := q3.updA (o' := .dK ((s.tc ++ [(j, p1, ndPut [] r a (.bl true))]).map kvJ)) (.dK _)
  have ep : putK (s.tc.map kvJ) (.inl j) (.ref p1) = (s.tc ++ [(j, p1, ndPut [] r a (.bl true))]).map kvJ := put_kvJ (x := (j, p1, ndPut [] r a (.bl true))) hn
  rw [← ep, ← e1] at q4
  have k2 : Pers T (upd H p1 (ndO w p1 [])) H1 := by rw [e1]; exact .updM (.dK _) et
  have k12 : Pers T H H1 := (Pers.same s1).trans k2
  have q5 : Holds (([(s.g, insG D s), (s.p, insP C s), (s.d, ndO w s.d s.es), (s.bd, .dK (s.bg.map kvJ)), (s.td, .dK (putK (s.tc.map kvJ) (.inl j) (.ref p1)))] ++ (s.bg.flatMap bgMem ++ s.tc.map (tcMem w))) ++ (p1, ndO w p1 []) :: R) H1 := by
    simpa only [List.append_assoc, List.cons_append, List.nil_append] using q4
  have en := q5.mid.1
  have q6 := q5.updA (o' := ndO w p1 (ndPut [] r a (.bl true))) (.nd w _)
  have k3 : Pers T H1 (upd H1 p1 (ndO w p1 (ndPut [] r a (.bl true)))) := .updM (.nd w _) en
  have k := k12.trans k3
  have pe : ndPut [] r a (.bl true) = [(r, a, .bl true)] := rfl
  refine ⟨⟨en, fun _ z => nomatch z⟩, h.tcNew hj hn ?_ k ⟨fun e he => ?_, ?_, fun e he => ?_⟩, k, hr.pers k12⟩
  · rw [← ep]
    simpa only [List.append_assoc, List.cons_append, List.nil_append] using q6
  · rw [pe, List.mem_singleton] at he
    rw [he]
    exact hr.pers k
  · rw [pe]; simp
  · rw [pe, List.mem_singleton] at he
    rw [he]
    exact ⟨hS, hu⟩
/-- touched: one more -/
theorem DlIn.touchSet (h : DlIn w C D U J Bd H s R) {j : Int} {x : TcE} (hx : asg s.tc j = some x) {r : Rf} {a : Addr} (hr : RefAt H (.ref a) r.1 r.2) (hS : RefS r.1 r.2) (hu : r ∈ U) :
    ∃ s', DlIn w C D U J Bd (upd H x.2.1 (ndO w x.2.1 (ndPut x.2.2 r a (.bl true)))) s' R ∧ Pers T H (upd H x.2.1 (ndO w x.2.1 (ndPut x.2.2 r a (.bl true)))) ∧ Fix s s' ∧ s'.es = s.es ∧ s'.bg = s.bg ∧ (∀ i, tch s' i = if i = j then (ndPut x.2.2 r a (.bl true)).map (·.1) else tch s i) := by
  obtain ⟨T1, T2, et, ej, nt⟩ := asg_split hx
  have hm := (asg_mem hx).1
  have hn := h.cn hm
  have tr := h.trf x hm
  have q0 := h.hold
  rw [memOf_tc et] at q0
  have q1 := q0.updA (o' := ndO w x.2.1 (ndPut x.2.2 r a (.bl true))) (.nd w _)
  have k : Pers T H (upd H x.2.1 (ndO w x.2.1 (ndPut x.2.2 r a (.bl true)))) := .updM (.nd w _) hn.1
  refine ⟨_, h.tcSet et _ q1 k ⟨Refs.pers (put_refs tr.1 hr _) k, put_nodup tr.2.1 r a _, fun e he => ?_⟩, k, ⟨rfl, rfl, rfl⟩, rfl, rfl, fun i => ?_⟩
  · rcases ndPut_mem he with z | z
    · rw [z.1]; exact ⟨hS, hu⟩
    · exact tr.2.2 e z
  · have := tch_set (s := s) et (fun y hy => by rw [ej]; exact nt y hy) (ndPut x.2.2 r a (.bl true)) i
    rw [this, ej]
end
end Sk
namespace Sk
open PySem PySem.Spec PyProof.Rows L2
open LamX (Tabs CodeO)
section
variable {w : World} {C D : Addr} {U U' : List Rf} {J : List Int} {Bd Bd' : Nat} {T : List (Addr × Str)} {H H' : Hp} {s s1 s2 s1' s2' : DlS} {R : Mem} {b : Addr} {ob : HO} {N : Nat}
theorem DlIn.monoU (h : DlIn w C D U J Bd H s R) (le : ∀ r ∈ U, r ∈ U') (hu : U'.length ≤ 1000) : DlIn w C D U' J Bd H s R :=
  ⟨h.hold, h.refs, h.good, h.wor, h.bk, h.tk, h.bj, h.tj, fun x hx y hy => ⟨(h.rws x hx y hy).1, fun c hc => ⟨((h.rws x hx y hy).2 c hc).ref, le _ ((h.rws x hx y hy).2 c hc).uni, ((h.rws x hx y hy).2 c hc).wor⟩⟩, fun x hx => ⟨(h.trf x hx).1, (h.trf x hx).2.1, fun e he => ⟨((h.trf x hx).2.2 e he).1, le _ ((h.trf x hx).2.2 e he).2⟩⟩, fun e he => le _ (h.uni e he), hu, h.jl, h.rl, h.bl⟩
end
end Sk
namespace Sk
open PySem PySem.Spec PyProof.Rows L2
open LamX (Tabs CodeO)
theorem Holds.cons {M : Mem} {H : Hp} {a : Addr} {o : HO} (h : Holds M H) (n : ∀ x ∈ M, x.1 ≠ a) (e : H a = some o) (m : Mob a o) : Holds ((a, o) :: M) H := by
  refine ⟨by rw [List.map_cons, List.nodup_cons]; exact ⟨fun hm => (by obtain ⟨x, hx, e⟩ := List.mem_map.mp hm; exact n x hx e), h.nd⟩, fun x hx => ?_, fun x hx => ?_⟩
  · rcases List.mem_cons.mp hx with rfl | hx
    · exact e
    · exact h.has x hx
  · rcases List.mem_cons.mp hx with rfl | hx
    · exact m
    · exact h.mob x hx
theorem Holds.fresh {M : Mem} {H : Hp} {a : Addr} (h : Holds M H) (n : H a = none) : ∀ x ∈ M, x.1 ≠ a := fun x hx => ne_of_none (h.has x hx) n
theorem Holds.nil (H : Hp) : Holds [] H := ⟨List.nodup_nil, (fun _ z => nomatch z), fun _ z => nomatch z⟩
/-- a script's list: a cell, or for good -/
theorem sql_cells {K : PySem.W.Frag} {H : Hp} {a : Addr} {xs : List V} (h : SqL K H a xs) : ∃ Ra : Mem, Holds Ra H ∧ (∀ x ∈ Ra, x = (a, .lst xs)) ∧ ∀ T H', Pers T H H' → (∀ x ∈ Ra, H' x.1 = some x.2) → SqL K H' a xs := by
  rcases h with (h | ⟨o, h⟩) | h
  · exact ⟨[(a, .lst xs)], (Holds.nil H).cons (fun _ z => nomatch z) h (.lst _), fun x hx => List.mem_singleton.mp hx, fun T H' _ k => .inl (.inl (k _ List.mem_cons_self))⟩
  · exact ⟨[], .nil H, (fun _ z => nomatch z), fun T H' k _ => .inl (.inr ⟨o, k.frz _ _ _ h⟩)⟩
  · exact ⟨[], .nil H, (fun _ z => nomatch z), fun T H' _ _ => .inr h⟩
end Sk
namespace Sk
open PySem PySem.Spec PyProof.Rows L2
open LamX (Tabs CodeO)
open PySem.W (DatumOrd)
mutual
/-- no list, no dict within -/
def noL : PyData → Bool
  | .none => true
  | .bool _ => true
  | .int _ => true
  | .str _ => true
  | .tuple ds => noLs ds
  | _ => false
def noLs : List PyData → Bool
  | [] => true
  | d :: ds => noL d && noLs ds
end
mutual
theorem Rd.pers {T : List (Addr × Str)} {H H' : Hp} (k : Pers T H H') : ∀ {v : V} {d : PyData}, Rd H v d → noL d = true → Rd H' v d
  | _, _, .non, _ => .non
  | _, _, .bl b, _ => .bl b
  | _, _, .int i, _ => .int i
  | _, _, .str x, _ => .str x
  | _, _, .lst h g, n => by unfold noL at n; cases n
  | _, _, .tup h g, n => .tup (k.tup _ _ h) (RdAll.pers k g (by unfold noL at n; exact n))
  | _, _, .dct h, n => by unfold noL at n; cases n
theorem RdAll.pers {T : List (Addr × Str)} {H H' : Hp} (k : Pers T H H') : ∀ {vs : List V} {ds : List PyData}, RdAll H vs ds → noLs ds = true → RdAll H' vs ds
  | _, _, .nil, _ => .nil
  | _, _, .cons h g, n => by
    unfold noLs at n
    rw [Bool.and_eq_true] at n
    exact .cons (Rd.pers k h n.1) (RdAll.pers k g n.2)
end
section
variable {es fs : List Ent}
theorem beh_mem {n : Str} {ks : List Str} {x : Str} : x ∈ behOf es n ks ↔ ∃ e ∈ es, stemB n ks e.1.1 e.1.2 = true ∧ ks.length < e.1.2.length ∧ e.1.2.getD ks.length (Str.ofString "") = x := by
  unfold behOf ndBelow
  rw [List.mem_map]
  constructor
  · rintro ⟨e, he, rfl⟩
    obtain ⟨h1, h2⟩ := List.mem_filter.mp he
    obtain ⟨h3, h4⟩ := List.mem_filter.mp h1
    exact ⟨e, h3, h4, of_decide_eq_true h2, rfl⟩
  · rintro ⟨e, h3, h4, h2, rfl⟩
    exact ⟨e, List.mem_filter.mpr ⟨List.mem_filter.mpr ⟨h3, h4⟩, decide_eq_true h2⟩, rfl⟩
end
end Sk
namespace Sk
open PySem PySem.Spec PyProof.Rows L2
def spBag1 : Sp := fun vs H Q _ => ∃ (c : Int), vs = [.int c] ∧ ∀ H' b, H b = none → Same H H' → BagAt 0 b H' → Q (.ref b) H'
/-- the row at which a job stands: [names, keys] -/
structure PoolL (H : Hp) (p l1 l2 : Addr) (ns ks : List Str) : Prop where
  ep : H p = some (.lst [.ref l1, .ref l2])
  e1 : H l1 = some (.lst (ns.map V.str))
  e2 : H l2 = some (.lst (ks.map V.str))
  n0 : 0 < ns.length
  n1 : ns.length ≤ 6
  k0 : 0 < ks.length
  k1 : ks.length ≤ 6
  nm : ∀ n ∈ ns, NameS n
  ky : ∀ k ∈ ks, KeyS k
  nn : ns.Nodup
  kn : ks.Nodup
def plMem (p l1 l2 : Addr) (ns ks : List Str) : Mem := [(p, .lst [.ref l1, .ref l2]), (l1, .lst (ns.map V.str)), (l2, .lst (ks.map V.str))]
theorem PoolL.of {H H' : Hp} {p l1 l2 : Addr} {ns ks : List Str} (h : PoolL H p l1 l2 ns ks) (q : Holds (plMem p l1 l2 ns ks) H') : PoolL H' p l1 l2 ns ks :=
  ⟨q.get List.mem_cons_self, q.get (.tail _ List.mem_cons_self), q.get (.tail _ (.tail _ List.mem_cons_self)), h.n0, h.n1, h.k0, h.k1, h.nm, h.ky, h.nn, h.kn⟩
theorem PoolL.chg {H H' : Hp} {p l1 l2 : Addr} {ns ks : List Str} {b : Addr} {N : Nat} (h : PoolL H p l1 l2 ns ks) (c : Chg b H H') (B : BagAt N b H) : PoolL H' p l1 l2 ns ks :=
  ⟨c _ _ (by
    obtain ⟨x, y, u, eb, _⟩ := B
    exact ne_of h.ep eb fun z => by injection z with z; injection z with z _; cases z) h.ep, c _ _ (B.neS h.e1) h.e1, c _ _ (B.neS h.e2) h.e2, h.n0, h.n1, h.k0, h.k1, h.nm, h.ky, h.nn, h.kn⟩
def spUnlike : Sp := fun vs H Q _ => ∃ (l : Addr) (x : Str) (xs : List Str), vs = [.ref l, .str x] ∧ H l = some (.lst (xs.map V.str)) ∧ xs.length ≤ 1000 ∧ xs.Nodup ∧
  ∀ D H' (ys : List Str), H D = none → Same H H' → H' D = some (.lst (ys.map V.str)) → ys.Nodup → (∀ y, y ∈ ys ↔ y ∈ xs ∨ y = x) → ys.length ≤ xs.length + 1 → (∀ z, xs[0]? = some z → ys[0]? = some z) → Q (.ref D) H'
def spPoolL : Sp := fun vs H Q _ => ∃ (b : Addr) (N : Nat), vs = [.ref b] ∧ N < 2 ^ 48 ∧ BagAt N b H ∧
  ∀ H' p l1 l2 ns ks, Chg b H H' → BagAt (N + 20000) b H' → PoolL H' p l1 l2 ns ks → H p = none → H l1 = none → H l2 = none → l1 ≠ l2 → Q (.ref p) H'
def spSpot : Sp := fun vs H Q _ => ∃ (b p l1 l2 : Addr) (ns ks : List Str) (m : Int) (N : Nat), vs = [.ref b, .ref p, .int m] ∧ 0 ≤ m ∧ m ≤ 6 ∧ N < 2 ^ 48 ∧ BagAt N b H ∧ PoolL H p l1 l2 ns ks ∧
  ∀ H' (c : Addr) n js, Chg b H H' → BagAt (N + 20) b H' → RefAt H' (.ref c) n js → RefS n js → n ∈ ns → (∀ j ∈ js, j ∈ ks) → js.length ≤ m.toNat → Q (.ref c) H'
theorem inV_str (x : Str) (xs : List Str) : inV (.str x) (xs.map V.str) = decide (x ∈ xs) := by
  have e : ∀ y : Str, eqV (.str y) (.str x) = decide (x = y) := fun y => by
    show decide _ = _
    exact decide_eq_decide.mpr ⟨fun z => (by cases z; rfl), fun z => by rw [z]⟩
  induction xs with
  | nil => rfl
  | cons y xs ih =>
    show (eqV (.str y) (.str x) || inV (.str x) (xs.map V.str)) = _
    rw [e, ih, ← Bool.decide_or]
    exact decide_eq_decide.mpr List.mem_cons.symm
theorem paired_fn {α : Type} {f : α → V} : ∀ {L : List α} {ys : List V}, Paired (fun e y => y = f e) L ys → ys = L.map f
  | _, _, .nil => rfl
  | _, _, .cons h t => by rw [h, paired_fn t]; rfl
end Sk
namespace Sk
open PySem PySem.Spec PyProof.Rows L2
open PySem.W (Datum DatumOrd Tup T3 dataLe dataLt alike AllAlike Sortable)
theorem strs_inj : ∀ {a b : List Str}, a.map V.str = b.map V.str → a = b
  | [], [], _ => rfl
  | [], _ :: _, e => by cases e
  | _ :: _, [], e => by cases e
  | x :: xs, y :: ys, e => by
    rw [List.map_cons, List.map_cons] at e
    injection e with e1 e2
    cases e1
    rw [strs_inj e2]
theorem RefAt.fn {H : Hp} {v : V} {n m : Str} {ks js : List Str} (h : RefAt H v n ks) (g : RefAt H v m js) : n = m ∧ ks = js := by
  obtain ⟨a, k, rfl, h1, h2⟩ := h
  obtain ⟨b, l, e, g1, g2⟩ := g
  cases e
  rw [h1] at g1
  cases g1
  rw [h2] at g2
  injection g2 with g2
  injection g2 with g2
  exact ⟨rfl, strs_inj g2⟩
end Sk
namespace Sk
open PySem PySem.Spec PyProof.Rows L2
theorem rd_sameNe {K : PySem.W.Frag} {H : Hp} {v1 v2 : V} {d : PyData} {Q : VK} (h1 : Dp K H v1 d) (h2 : Dp K H v2 d) (p : d.plain = true) (l : d.depth ≤ 64) (q : Q (.bl false) H) : rNeP K v1 v2 H Q := by
  refine ⟨d, d, h1, h2, p, p, l, ?_⟩
  rw [PySem.SeqAt.eqv_refl_plain d p]
  exact q
theorem rd_sameEq {K : PySem.W.Frag} {H : Hp} {v1 v2 : V} {d : PyData} {Q : VK} (h1 : Dp K H v1 d) (h2 : Dp K H v2 d) (p : d.plain = true) (l : d.depth ≤ 64) (q : Q (.bl true) H) : rEqP K v1 v2 H Q := by
  refine ⟨d, d, h1, h2, p, p, l, ?_⟩
  rw [PySem.SeqAt.eqv_refl_plain d p]
  exact q
end Sk
namespace Sk
open PySem PySem.Spec PyProof.Rows L2
section
variable {prog : Program} {w : World} {A : Around} {E : Value → Shared → Prop} {s : Shared}
/-- a tuple parted: the first one, and a new list of those behind it -/
theorem part_first {l : Addr} {v0 : Value} {vs : List Value} {Q : List Value → Shared → Prop} (hl : IsTup s.heap l (v0 :: vs).toArray) (hh : A.handled = none) (hz : vs.length + 1 ≤ sizeLine)
    (h : ∀ (h' : Heap) (tk : Nat), (∀ b o, s.heap.get? b = some o → h'.get? b = some o) → Q [v0, .ref h'.objs.size] { s with heap := h'.push { cls := .type "list", data := .seq vs.toArray }, toks := tk }) :
    wpAny (model prog w) A (unpackItems (.ref l) 2 (some 1)) Q E s := by
  have below : l < s.heap.objs.size := by
    obtain ⟨o, ho, _⟩ := hl
    exact Heap.lt_size ho
  have apart : l ≠ s.heap.objs.size := Nat.ne_of_lt below
  have sz : (v0 :: vs).toArray.size = vs.length + 1 := by rw [List.size_toArray, List.length_cons]
  unfold unpackItems notIterableAtAll
  refine wpAny_bind (wpAny_bind (wpAny_specialOf hl.typeIs slot_tuple_iter.lookup (wpAny_pure ?_)))
  simp only [if_false, Bool.false_eq_true]
  refine wpAny_bind (wpAny_holding (iter_tuple (items := (v0 :: vs).toArray) hl ?_))
  refine wpAny_bind (wpAny_holding (draw_tuple apart 1 0 _ _ ⟨_, Heap.get?_push_size _ rfl, rfl, rfl⟩ (hl.push _) (by rw [sz]; omega) fun h1 it1 same1 => ?_))
  have hl1 : IsTup h1 l (v0 :: vs).toArray := (hl.push _).extBut same1.extBut apart
  have up1 : ∀ b o, s.heap.get? b = some o → h1.get? b = some o := fun b o e => same1.extBut b o (Nat.ne_of_lt (Heap.lt_size e)) (Heap.get?_push_of_some _ e)
  obtain ⟨oi, hoi, _⟩ := id it1
  obtain ⟨ol, hol, _⟩ := id hl1
  have e1 : ((v0 :: vs).toArray.toList.drop 0).take 1 = [v0] := rfl
  rw [e1, if_neg (show ¬ [v0].length < 1 from Nat.lt_irrefl 1)]
  refine wpAny_bind (wpAny_holding (PySem.W.kun_collect (s := { s with heap := h1 }) (items := (v0 :: vs).toArray) (k := 1) (T := "tuple_iterator") (.inr (.inr (.inr rfl))) (Walks.tuple (A := A.in1) hh s.heap.objs.size l apart _) (fun j u st => st.1.typeIs) (by rw [sz]; omega) ⟨it1, hl1⟩ (Heap.lt_size hoi) (Heap.lt_size hol) (fun h2 tk up2 => ?_) (by rw [sz]; exact hz)))
  have e2 : (v0 :: vs).toArray.toList.drop 1 = vs := rfl
  rw [e2]
  show wpAny _ _ (if vs.length < 0 then _ else _) _ _ _
  rw [if_neg (Nat.not_lt_zero _)]
  show wpAny _ _ (newList (vs.take vs.length) >>= fun d => pure ([v0] ++ [d] ++ vs.drop vs.length)) _ _ _
  rw [List.take_length, List.drop_length]
  refine wpAny_bind (wpAny_newList (wpAny_pure ?_) (by omega))
  exact h h2 tk fun b o e => up2 b o (Nat.ne_of_lt (Heap.lt_size e)) (up1 b o e)
end
/-- word, *rest = a tuple -/
def gStar1 (K : PySem.W.Frag) (t : TGs) : TG := fun v σ H Q => ∃ a x0 xs, v = .ref a ∧ SqT K H a (x0 :: xs) ∧ ∀ D, H D = none → t [x0, .ref D] σ (upd H D (.lst xs)) Q
theorem k_star1 {X : Cx} {a b : Expr} {k : Nat} {p pos : Pos} {t : TGs} (K : PySem.W.Frag) (hc : X.calm = true) (h : PGs X [a, b] t) (e : X.K = K := by rfl)
    (hn : (assignEach [a, .Starred b p] X.env).length = 2 := by rfl) (hst : (assignEach [a, .Starred b p] X.env).findIdx? (·.1) = some 1 := by rfl) (hm : (assignEach [a, .Starred b p] X.env).map (·.2) = (assignEach [a, b] X.env).map (·.2) := by rfl) :
    PG X (.Tuple [a, .Starred b p] k pos) (gStar1 K t) := by
  subst e
  refine ⟨fun pins s σ H v u Q I r hw => ?_⟩
  obtain ⟨l, x0, xs, e1, hq, hw⟩ := hw
  subst e1
  cases r
  obtain ⟨its, rv, ht, hz⟩ := I.tuple hq
  cases rv with
  | @cons _ v0 _ vs r0 rs =>
    rw [assign_Tuple]
    refine wpAny_bind (wpAny_standAt ?_)
    unfold unpack
    rw [hn, hst, hm]
    have lz : vs.length + 1 ≤ sizeLine := by
      have := rs.length
      rw [List.length_cons] at hz
      omega
    refine wpAny_bind (wpAny_holding (part_first ht (I.ok.hd hc) lz fun h' tk up => ?_))
    have I1 : Inv X pins σ H { s with heap := h', toks := tk } := I.kept up
    have lx : xs.length ≤ sizeLine := by
      have := rs.length
      omega
    have r1 : Vals [x0, .ref h'.objs.size] [v0, .ref h'.objs.size] := .cons r0 (.cons (show RelV (.ref h'.objs.size) (.ref h'.objs.size) from rfl) .nil)
    exact h.run pins _ σ _ _ _ Q (I1.lnew (t' := tk) rs lx) r1 (hw _ I1.fresh)
structure FunP (K : PySem.W.Frag) (x qual : Str) (st : Stmt) (f : Addr) (fd : FuncData) : Prop where
  ex : ∃ (oc dV kV doc pm cdv ct : Value) (od an : Option Addr) (osl : Array (Option Value)), fd = PySem.W.fnOf x qual (defArgs st) (defBody st) (defScope st) dV kV doc pm an cdv ct ∧ K.lookup f = some ⟨oc, od, .func fd, osl⟩ ∧ PySem.W.codeIn K cdv qual = true
  kp : PySem.W.keepIn K (.ref f) = true
section
variable {P : Program} {w : World} {K : PySem.W.Frag} {mg : Str → Option Value} {base : Heap} {x qual : Str} {st : Stmt} {f : Addr} {fd : FuncData}
theorem FunP.ok {N ps : List Str} {k : Nat} {sp : Sp} (F : FunP K x qual st f fd) (S : FnScope N ps (defScope st)) (len : ∀ vs H Q E, sp vs H Q E → vs.length = ps.length)
    (hbody : ∀ (cdv : Value) (A : Around) (outer : List Env) (s : Shared) (H : Hp) (vs : List V) (Q : VK) (E : XK), Room k (A.deeper (envOfC qual (defScope st) s.heap.objs.size f cdv)) → sp vs H Q E →
      ∃ t, PSs (cxOf CX0 P w K mg base N qual (defScope st) f cdv A outer s H E).nox (defBody st) t ∧ t { nx := fun _ H' => Q .non H', rt := Q } (start N vs) H) : FnOk P w K mg base CX0 (k + 1) f fd ps sp := by
  obtain ⟨oc, dV, kV, doc, pm, cdv, ct, od, an, osl, rfl, lk, hcd⟩ := F.ex
  exact fn_of lk hcd S len fun A outer s H vs Q E hr hsp => (hbody cdv A outer s H vs Q E hr hsp).imp fun t h => ⟨h.1.nox, h.2⟩
theorem funp_mk {oc dV kV doc pm cdv ct : Value} {od an : Option Addr} {osl : Array (Option Value)} (l : K.lookup f = some ⟨oc, od, .func (PySem.W.fnOf x qual (defArgs st) (defBody st) (defScope st) dV kV doc pm an cdv ct), osl⟩)
    (c : PySem.W.codeIn K cdv qual = true) (k : PySem.W.keepIn K (.ref f) = true) : FunP K x qual st f (PySem.W.fnOf x qual (defArgs st) (defBody st) (defScope st) dV kV doc pm an cdv ct) := ⟨⟨oc, dV, kV, doc, pm, cdv, ct, od, an, osl, rfl, l, c⟩, k⟩
theorem pos_binds {T : Addr} {oc cD kV doc pm cdv ct : Value} {od oD an : Option Addr} {osl sD : Array (Option Value)} {its : Array Value} {nD : Nat} (_l : K.lookup f = some ⟨oc, od, .func (PySem.W.fnOf x qual (defArgs st) (defBody st) (defScope st) (.ref T) kV doc pm an cdv ct), osl⟩)
    (lT : K.lookup T = some ⟨cD, oD, .seq its nD, sD⟩) (ps : List Str) (n : Nat) (hn : n + its.toList.length = ps.length)
    (h : ∀ us : List Value, us.length = n → ∃ k, bindArgs (PySem.W.fnOf x qual (defArgs st) (defBody st) (defScope st) (.ref T) kV doc pm an cdv ct) ⟨us, []⟩ = seqItems? (.ref T) >>= k ∧ k (some its) = pure (ps.zip (us ++ its.toList))) :
    Binds K (PySem.W.fnOf x qual (defArgs st) (defBody st) (defScope st) (.ref T) kV doc pm an cdv ct) ps its.toList := fun s us X hlen => by
  rw [List.length_append] at hlen
  obtain ⟨k, e1, e2⟩ := h us (by omega)
  refine BindsTo.of_looks fun M => ?_
  rw [e1]
  exact looks_items X lT rfl (.of_pure e2)
end
end Sk
namespace Sk
open PySem PySem.Spec PyProof.Rows L2
open PySem.StrLaws (partsFrom)
open PySem.Builtin.Str (strSub occurrences partsBetween subAt)
def hit (x y : Str) (i : Nat) : Bool := decide (i + y.length ≤ x.length) && subAt x y i
def occG (x y : Str) : List Nat → Nat → List Nat
  | [], _ => []
  | i :: l, free => if free ≤ i ∧ hit x y i = true then i :: occG x y l (i + y.length) else occG x y l free
/-- where it stands from the k-th sign on -/
def occS (x y : Str) (k : Nat) : List Nat := occG x y (List.range' k (x.length + 1 - k)) k
/-- the pieces of a text, parted at another one -/
def pieceL (x y : Str) : List Str := if y.length = 0 then [x] else partsFrom x y.length 0 (occS x y 0)
end Sk
namespace Sk
open PySem PySem.Spec PyProof.Rows L2
open PySem.StrLaws (partsFrom)
open PySem.Builtin.Str (strSub occurrences partsBetween subAt)
def pieceAt (x y : Str) (n : Int) : Str := if 1 ≤ n ∧ n ≤ ((pieceL x y).length : Int) then (pieceL x y).getD (n - 1).toNat (Str.ofString "") else Str.ofString ""
def partS (x : Str) (a b : Int) : Str := if max 1 a ≤ b then cutS x (some (max 1 a - 1)) (some b) else Str.ofString ""
def scF (o d : Addr) : List (Str × V) := [(Str.ofString "own", .ref o), (Str.ofString "dealings", .ref d), (Str.ofString "job", .int 0), (Str.ofString "latest", .non)]
def IsAt (H : Hp) (t : Addr) (x : Str) : Prop := H t = some (.tup [.str (Str.ofString "is"), .str x])
section
variable (C : Addr)
def spScInit : Sp := fun vs H Q _ => ∃ (p dx o d : Addr), vs = [.ref p, .ref o, .ref d, .int 0] ∧ H p = some (.ins C dx []) ∧ Q .non (upd H p (.ins C dx (scF o d)))
end
theorem IsAt.same {H H' : Hp} {t : Addr} {x : Str} (h : IsAt H t x) (s : Same H H') : IsAt H' t x := s _ _ h
end Sk
namespace Sk
open PySem PySem.Spec PyProof.Rows L2
/-- try: body, finally: suite, where the body may raise -/
def tFinX (tb : WX → TS) (tf tfs : TS) (Wo : WX) : TS := fun D σ H => tb (wFin tfs Wo) { nx := fun σ1 H1 => tf D σ1 H1, rt := fun _ _ => False } σ H
section
variable {X : Cx} {body : List Stmt} {f0 : Stmt} {fs : List Stmt} {pos : Pos} {tb : WX → TS} {tf tfs : TS} {Wo : WX}
theorem ps_finX (hs : X.stack = X.env :: X.outer) (hf : X.env.frame = some X.env.locals) (hex : X.ex = []) (tk : Takes X Wo) (hb : ∀ (W : WX) (pn : List (Addr × Obj)) (xe : Value → Shared → Prop), Takes (X.tr pn xe) W → PSs (X.tr pn xe) body (tb W)) (hfin : PSs X.nox (f0 :: fs) tf) (hsu : ∀ (a : Addr) (pn : List (Addr × Obj)), PSs (X.suite a pn) (f0 :: fs) tfs) :
    PS X (.Try body [] [] (f0 :: fs) pos) (tFinX tb tf tfs Wo) := by
  refine ⟨fun pins s σ H D I h => ?_⟩
  have k1 : ∀ (s1 : Shared) (E₁ : Value → Shared → Prop) (σ1 : L2.St) (H1 : Hp), Inv X pins σ1 H1 s1 → tf D σ1 H1 → wpAny (model X.prog X.w) X.A (execs (f0 :: fs) X.env) (fun g2 s2 => match g2 with | .next => SP X pins D .next s2 | g3 => SP X pins D g3 s2) E₁ s1 := fun s1 E₁ σ1 H1 J1 q1 => by
    refine wpAny_mono (hfin.run pins s1 σ1 H1 D (J1.wish _) q1) (fun g2 s2 q2 => ?_) fun _ _ e => e.elim
    have q3 : SP X pins D g2 s2 := q2.unwish
    cases g2 <;> exact q3
  refine wpAny_Try_finally (wpAny_mono ((hb (wFin tfs Wo) (X.pn ++ pins) _ (fun u s' xx => fin_exc hs hf hex I.ok tk hsu xx)).run [] s σ H { nx := fun σ1 H1 => tf D σ1 H1, rt := fun _ _ => False } (I.toTry _) h) (fun g s1 z => ?_) (fun x s1 hx => hx))
  cases g with
  | next =>
    obtain ⟨σ1, H1, J1, q1⟩ := z
    exact wpAny_execs_nil (k1 s1 _ σ1 H1 (J1.ofTry I.ok) q1)
  | ret u => obtain ⟨_, _, _, _, _, q⟩ := z; exact q.elim
  | brk => obtain ⟨_, _, _, q⟩ := z; exact q.elim
  | cont => obtain ⟨_, _, _, q⟩ := z; exact q.elim
end
/-- o.m(e, ..) where what is raised is wished for at the slots as they stand -/
def tMethX (C : Addr) (m : Str) (sp : Sp) (dvs : List V) (E : L2.St → XK) (ta : TE) (t : TA) : TE := fun σ H Q => ta σ H fun x H1 => ∃ a dx fs, x = .ref a ∧ H1 a = some (.ins C dx fs) ∧ fs.lookup m = none ∧ t σ H1 fun vs H2 => sp (x :: (vs ++ dvs)) H2 Q (E σ)
section
variable {X : Cx} {CX : CXT} {k : Nat} {f C : Addr} {fd : FuncData} {ps : List Str} {sp : Sp} {dvs : List V} {ds : List Value} {E : L2.St → XK} {m : Str} {pos apos : Pos} {e o : Expr} {es : List Expr} {ta : TE} {t : TA}
theorem pe_methX {pl : Sem Bool} (he : PE X o ta) (c : Cls X.K C) (hm : Meth X.K C m f) (F : FnOk X.prog X.w X.K X.mg X.base CX k f fd ps sp) (hr : Room k X.A) (hb : Binds X.K fd ps ds) (hd : Vals dvs ds) (hx : ∀ σ, PassesAt CX X σ (E σ)) (ha : PA X (e :: es) t)
    (hst : starEach (e :: es) X.env = (false, eval e X.env) :: starEach es X.env := by rfl) (hpl : (backTo pos (starEach es X.env)).any (·.1) = false := by rfl)
    (ht : eval (.Call (.Attribute o m apos) (e :: es) [] pos) X.env = (do let ov ← eval o X.env; standAt apos.atName; let (f, first) ← holding [ov] (getMethod ov m pl); callWith pos f first (backTo pos (starEach (e :: es) X.env)) (backToKw pos (keywordEach [] X.env))) := by rfl) :
    PE X (.Call (.Attribute o m apos) (e :: es) [] pos) (tMethX C m sp dvs E ta t) := by
  refine ⟨fun pins s σ H Q I h => PySem.W.methodCall_KW (pl := pl) (thn (he.run pins s σ H _ I h) fun u s1 ⟨x, H1, I1, rx, a, dx, fs, ex, ea, l, q⟩ => ?_) ht⟩
  subst ex
  obtain rfl : u = Value.ref a := rx
  exact getmeth_ok I1 ea c hm l (PySem.W.callWith_K (first := [.ref a]) (h₀ := X.base) I.ok.mod.kin hm.kp (thn (ha.run pos pins s1 σ H1 _ I1 q) fun us s2 ⟨vs, H2, I2, r, q2⟩ => ⟨I2.kIn, run_fnSD (us := .ref a :: us) (vs := .ref a :: vs) F hr hb hd (hx σ) I2 (.cons rfl r) q2⟩) hst hpl)
end
/-- an error of a class is what the clause of that class names -/
theorem exm_own {K : PySem.W.Frag} {S : Addr} (h1 : PySem.W.subIn K (.ref S) (.type "BaseException") = some true) (h2 : PySem.W.isClsIn K S = true) (h3 : PySem.W.typeIn K (.ref S) = some (.type "type")) (h4 : PySem.W.subIn K (.ref S) (.ref S) = some true) : PySem.W.exmOne K (.ref S) (.ref S) = some true := by
  have g2 : ((PySem.W.clsIn K S).isSome && PySem.W.typeIn K (.ref S) == some (.type "type")) = true := by
    rw [show (PySem.W.clsIn K S).isSome = true from h2, h3]
    rfl
  have g1 : (PySem.W.subIn K (.ref S) (.type "BaseException") == some true) = true := by
    rw [h1]
    rfl
  unfold PySem.W.exmOne
  rw [if_pos g1]
  exact (if_pos g2).trans h4
inductive EntOk (P : Program) (w : World) : List DictEntry → List (Str × V) → Prop where
  | nil : EntOk P w [] []
  | cons {e : DictEntry} {k : Str} {v : V} {es : List DictEntry} {kvs : List (Str × V)} : e.hash = (PySem.strKind P w).hash k → (PySem.strKind P w).is k e.key = true → RelV v e.val → EntOk P w es kvs → EntOk P w (e :: es) ((k, v) :: kvs)
structure DctK (P : Program) (w : World) (K : PySem.W.Frag) (D : Addr) (kvs : List (Str × V)) : Prop where
  low : (D == sysModules) = false
  ex : ∃ vs : List (Str × Value), (∀ h : Heap, K.In h → h.DictOf (PySem.strKind P w) D vs) ∧ ∀ k, RelO (kvs.lookup k) (valueAt vs k)
theorem EntOk.pairs {P : Program} {w : World} : ∀ {es : List DictEntry} {kvs : List (Str × V)}, EntOk P w es kvs → ∃ vs : List (Str × Value), Pairs (PySem.strKind P w) es vs ∧ vs.map (·.1) = kvs.map (·.1) ∧ (∀ e ∈ es, ∃ k, (PySem.strKind P w).is k e.key = true ∧ e.hash = (PySem.strKind P w).hash k) ∧ ∀ k, RelO (kvs.lookup k) (valueAt vs k)
  | _, _, .nil => ⟨[], .nil, rfl, fun _ h => (nomatch h), fun _ => True.intro⟩
  | _, _, .cons (e := e) (k := k) (v := v) h1 h2 h3 t => by
    obtain ⟨vs, p, m, g, r⟩ := t.pairs
    refine ⟨(k, e.val) :: vs, .cons h2 rfl p, by rw [List.map_cons, List.map_cons, m], fun x hx => ?_, fun y => ?_⟩
    · rcases List.mem_cons.mp hx with rfl | hx
      · exact ⟨k, h2, h1⟩
      · exact g x hx
    · unfold valueAt
      rw [List.find?_cons]
      by_cases hy : y = k
      · subst hy
        simp only [List.lookup, beq_self_eq_true, decide_true]
        exact h3
      · have e1 : (y == k) = false := by simpa using hy
        have e2 : ¬ k = y := fun z => hy z.symm
        simp only [List.lookup, e1, decide_eq_false e2]
        exact r y
theorem dctk_of {P : Program} {w : World} {K : PySem.W.Frag} {D : Addr} {es : List DictEntry} {n : Nat} {kvs : List (Str × V)} (low : (D == sysModules) = false) (l : K.lookup D = some ⟨.type "dict", none, .dict es.toArray n, #[]⟩) (g : EntOk P w es kvs) (nd : (kvs.map (·.1)).Nodup) : DctK P w K D kvs := by
  obtain ⟨vs, p, m, hk, r⟩ := g.pairs
  refine ⟨low, vs, fun h X => ⟨_, es.toArray, n, X _ _ l, ⟨rfl, rfl, rfl⟩, rfl, fun e he => hk e (by simpa using he), p, by rw [m]; exact nd⟩, r⟩
theorem k_psfld {X : Cx} {o value : Expr} {ta tv : TE} {f : Str} {pos pos' : Pos} (K : PySem.W.Frag) (ha : PE X o ta) (hv : PE X value tv) (hs : swapsWith value (some (.Attribute o f pos')) pos.line X.env = pure false) (e : X.K = K := by rfl) : PS X (.Assign [.Attribute o f pos'] value pos) (sFld K ta tv f) := by subst e; exact ps_fld ha hv hs
/-- its __init__: self.f = what is handed -/
def spErrI (C : Addr) (f : Str) : Sp := fun vs H Q _ => ∃ (a : Addr) (v : V), vs = [.ref a, v] ∧ H a = some (exo a C none) ∧ ∀ dx, H dx = none → dx ≠ a → Q .non (upd (upd H dx (exd dx [(f, v)])) a (exo a C (some dx)))
/-- what is wished of an error with this field -/
def ErrV (C : Addr) (f : Str) (v : V) (H : Hp) (E : XK) : Prop := ∀ (H' : Hp) (d : Addr), Same H H' → H d = none → H' d = some (.xd [(f, v)]) → E (.ref C) (some d) H'
theorem err_k {C : Addr} {f : Str} {x : V} {H : Hp} {E : XK} (hE : ErrV C f x H E) : [x].length ≤ 1000 ∧ ∀ a, H a = none → spErrI C f (.ref a :: ([x] ++ [])) (upd H a (exo a C none)) (fun v H2 => v = .non ∧ ∃ (d : Addr) (fs : List (Str × V)), H2 a = some (exo a C (some d)) ∧ H2 d = some (exd d fs) ∧ H d = none ∧ E (.ref C) (some d) (upd (del H2 a) d (.xd fs))) (fun _ _ _ => False) := by
  refine ⟨by show 1 ≤ 1000; decide, fun a ha => ⟨a, x, rfl, upd_same, fun dx hdx hne => ⟨rfl, dx, [(f, x)], upd_same, by rw [upd_ne hne, upd_same], by rw [upd_ne hne] at hdx; exact hdx, ?_⟩⟩⟩
  rw [upd_ne hne] at hdx
  refine hE _ dx (fun b o hb => ?_) hdx upd_same
  have n1 : b ≠ dx := fun z => by rw [z, hdx] at hb; cases hb
  have n2 : b ≠ a := fun z => by rw [z, ha] at hb; cases hb
  rw [upd_ne n1, del_ne n2, upd_ne n2, upd_ne n1, upd_ne n2]
  exact hb
end Sk
namespace Sk
open PySem PySem.Spec PyProof.Rows L2
def absI (i : Int) : Int := if i < 0 then -i else i
def quotI (i j : Int) : Int := if decide (i < 0) = decide (j < 0) then (absI i).fdiv (absI j) else 0 - (absI i).fdiv (absI j)
inductive Sg | add | sub | mul | div | rem | lt | gt | eq | cat | has | aft | and | or
  deriving DecidableEq
def Sg.t : Sg → Str
  | .add => Str.ofString "+" | .sub => Str.ofString "-" | .mul => Str.ofString "*" | .div => Str.ofString "/" | .rem => Str.ofString "#" | .lt => Str.ofString "<" | .gt => Str.ofString ">"
  | .eq => Str.ofString "=" | .cat => Str.ofString "_" | .has => Str.ofString "[" | .aft => Str.ofString "]" | .and => Str.ofString "&" | .or => Str.ofString "!"
def truthS (b : Bool) : Str := intS (if b then 1 else 0)
/-- what a sign makes of two numbers -/
def numV : Sg → Int → Int → Option Str
  | .add, i, j => some (intS (i + j))
  | .sub, i, j => some (intS (i - j))
  | .mul, i, j => some (intS (i * j))
  | .div, i, j => if j = 0 then none else some (intS (quotI i j))
  | .rem, i, j => if j = 0 then none else some (intS (i - i.fdiv j * j))
  | .lt, i, j => some (truthS (decide (i < j)))
  | .gt, i, j => some (truthS (decide (j < i)))
  | .and, i, j => some (truthS (!decide (i = 0) && !decide (j = 0)))
  | .or, i, j => some (truthS (!decide (i = 0) || !decide (j = 0)))
  | _, _, _ => none
def hasS (x y : Str) : Bool := !(Builtin.Str.occurrences x y 0 x.length 1).isEmpty
/-- .. of two worths -/
def twoV (g : Sg) (x y : Str) : Option Str := match g with
  | .eq => some (truthS (decide (x = y)))
  | .cat => some (x ++ y)
  | .has => some (truthS (hasS x y))
  | .aft => some (truthS (decide (y.cps.toList < x.cps.toList)))
  | g => numV g (numS x) (numS y)
abbrev wordF : Str := Str.ofString "word"
abbrev eNought : Str := Str.ofString "nought"
abbrev eLong : Str := Str.ofString "long"
/-- joined, or too long -/
def longE (z : Str) : Except Str Str := if z.length > 2000 then .error eLong else .ok z
def twoE (g : Sg) (x y : Str) : Except Str Str := match twoV g x y with
  | some z => longE z
  | none => .error eNought
/-- not, minus -/
def oneV : Bool → Str → Str
  | true, x => truthS (decide (numS x = 0))
  | false, x => intS (0 - numS x)
def oneT : Bool → Str
  | true => Str.ofString "not"
  | false => Str.ofString "minus"
theorem ErrV.same {C : Addr} {f : Str} {v : V} {H H' : Hp} {E : XK} (h : ErrV C f v H E) (s : Same H H') : ErrV C f v H' E := fun H2 d s2 hd e => h H2 d (s.trans s2) (by
  cases z : H d with
  | none => rfl
  | some o => rw [s _ _ z] at hd; cases hd) e
end Sk
namespace Sk
open PySem PySem.Spec PyProof.Rows L2
theorem note_frame {e : Value} {c v : Env} (h : c.frame = v.frame) : noteFrame e c = noteFrame e v := by
  unfold noteFrame PySem.frameOf
  rw [h]
theorem funFrames_but {base h h' : Heap} : ∀ {l : List Env}, h.FunFrames base l → (∀ b ∈ frs l, h'.get? b = h.get? b) → h'.FunFrames base l
  | [], _, _ => trivial
  | env :: l, h, k => by
    obtain ⟨hk, ⟨L, o, hf, hn, ho, hd⟩, hr⟩ := h
    exact ⟨hk, ⟨L, o, hf, hn, by rw [k L (List.mem_filterMap.mpr ⟨env, List.mem_cons_self, hf⟩)]; exact ho, hd⟩, funFrames_but hr fun b hb => by
      obtain ⟨e, he, q⟩ := List.mem_filterMap.mp hb
      exact k b (List.mem_filterMap.mpr ⟨e, List.mem_cons_of_mem _ he, q⟩)⟩
def compPostX (M : Model) (A : Around) (E : Value → Shared → Prop) (use : Option (Value → Sem Unit)) (Q : Value → Shared → Prop) (acc : Value) (C : Addr) (fr : Option Addr) (r : Result) (s' : Shared) : Prop :=
  match r, use with
  | .ok _, none => ∃ m, s'.heap.Ns C m ∧ ∀ h', Heap.SameBut C s'.heap h' → Q acc { s' with heap := h' }
  | .ok _, some u => wpAny M A (u acc) (fun _ s'' => ∃ m, s''.heap.Ns C m ∧ ∀ h', Heap.SameBut C s''.heap h' → Q .none { s'' with heap := h' }) E s'
  | .error x, _ => ∃ m, s'.heap.Ns C m ∧ ∀ h', Heap.SameBut C s'.heap h' → ∀ cenv : Env, cenv.locals = C → cenv.frame = fr → wpAny M A (passOn "comprehension.variables-let-go" x cenv : Sem Value) (fun _ _ => False) E { s' with heap := h' }
section
variable {M : Model} {A : Around} {E : Value → Shared → Prop} {s : Shared} {env : Env}
theorem wpAny_comp_freeX {e : Expr} {scope : Scope} {pos : Pos} {newAcc first : Sem Value} {g : Comprehension} {gs : List Comprehension} {cl : List (Str × Addr)} {use : Option (Value → Sem Unit)}
    {Q : Value → Shared → Prop}
    (hcl : clausesOf e = g :: gs) (hs : ∀ x, foldedSetIterable g.iter env x = pure x) (hclos : closureFor scope env = pure cl)
    (hkind : scope.kind = .function) (hnames : ∀ x ∈ scope.names, x.2 = .local → scope.names.lookup x.1 = some .local)
    (h : wpAny M A first (fun x s₁ => wpAny M A (pyIter x) (fun it s₂ => wpAny M A newAcc (fun acc s₃ =>
      wpAny M A (newFunctionEnv scope env.globals cl [] env.qual none .none (some env)) (fun cenv s₄ =>
        codeAny M A (.compStart e 0 it acc { cenv with scope := relabel scope env }) (compPostX M A E use Q acc cenv.locals cenv.frame) s₄) E s₃) E s₂) E s₁) E s) :
    wpAny M A (comprehension e scope env pos newAcc false first use) Q E s := by
  unfold comprehension
  rw [hclos, hcl]
  refine wpAny_bind (wpAny_mono h (fun x s₁ h₁ => wpAny_bind (wpAny_standAt (wpAny_bind (wpAny_of_eq (hs x) (wpAny_bind (wpAny_holding (wpAny_mono h₁ (fun it s₂ h₂ =>
    wpAny_standIf (wpAny_bind (wpAny_mono h₂ (fun acc s₃ h₃ => wpAny_bind (wpAny_pure (wpAny_bind (wpAny_mono h₃ (fun cenv s₄ h₄ => ?_) fun _ _ h' => h')))) fun _ _ h' => h')))
      fun _ _ h' => h'))))))) fun _ _ h' => h')
  dsimp only
  have hv : ∀ x ∈ (scope.names.filter fun x => (x.2 == .local || x.2 == .cell) && x.1 != (".0" : Str)).reverse, x.2 = .local →
      Env.kindOf { cenv with scope := relabel scope env } x.1 = some .local := fun x hx hl => lookup_relabel_local (hnames x (List.mem_filter.mp (List.mem_reverse.mp hx)).1 hl)
  have hv' : ∀ x ∈ (scope.names.filter fun x => (x.2 == .local || x.2 == .cell) && x.1 != (".0" : Str)).reverse.drop 1 ++ (scope.names.filter fun x => (x.2 == .local || x.2 == .cell) && x.1 != (".0" : Str)).reverse.take 1,
      x.2 = .local → Env.kindOf { cenv with scope := relabel scope env } x.1 = some .local := fun x hx hl => by
    rcases List.mem_append.mp hx with h1 | h1
    · exact hv x (List.mem_of_mem_drop h1) hl
    · exact hv x (List.mem_of_mem_take h1) hl
  refine wpAny_holding (wpAny_bind (wpAny_attempt (wpAny_holding (wpAny_run (codeAny_mono h₄ fun r s' hr => ?_)))))
  cases r with
  | ok f =>
    cases use with
    | none =>
      obtain ⟨m, hn, hr⟩ := hr
      exact wpAny_bind (wpAny_holding (wpAny_comp_letGo (cenv := { cenv with scope := relabel scope env }) hkind _ s' m hv hn fun h' m' _ hs' => wpAny_pure (hr h' hs')))
    | some u =>
      refine wpAny_bind (wpAny_rule (wpAny_bind (wpAny_holding (wpAny_mono hr (fun _ s'' hr' => ?_) fun _ _ h' => h'))))
      obtain ⟨m, hn, hr'⟩ := hr'
      exact wpAny_bind (wpAny_comp_letGo (cenv := { cenv with scope := relabel scope env }) hkind _ s'' m hv' hn fun h' m' _ hs' => wpAny_pure (hr' h' hs'))
  | error x =>
    have hr' : ∃ m, s'.heap.Ns cenv.locals m ∧ ∀ h', Heap.SameBut cenv.locals s'.heap h' → ∀ cenv' : Env, cenv'.locals = cenv.locals → cenv'.frame = cenv.frame → wpAny M A (passOn "comprehension.variables-let-go" x cenv' : Sem Value) (fun _ _ => False) E { s' with heap := h' } := by cases use <;> exact hr
    obtain ⟨m, hn, hr⟩ := hr'
    exact wpAny_bind (wpAny_holding (wpAny_comp_letGo (cenv := { cenv with scope := relabel scope env }) hkind _ s' m hv hn fun h' m' _ hs' => wpAny_mono (hr h' hs' _ rfl rfl) (fun _ _ f => f.elim) fun _ _ y => y))
end
section
variable {X : Cx} {pins0 : List (Addr × Obj)} {σ0 : L2.St} {H3 : Hp} {s3 : Shared} {scope : Scope} {ce : Env} {fp : List Addr} {E : XK} {use : Option (Value → Sem Unit)} {Qf : Value → Shared → Prop} {acc : Value}
/-- an error that a call lets out within the block is the def's own -/
theorem blk_air (hs : X.stack = X.env :: X.outer) (hf : X.env.frame = some X.env.locals) (tk : L2.Takes X (fun cls d _ H => E cls d H))
    (I3 : Inv X pins0 σ0 H3 s3) (cL : ce.locals = s3.heap.objs.size) (cF : ce.frame = X.env.frame) (f3 : ∀ b ∈ fp, FpOk X pins0 H3 b)
    {pins : List (Addr × Obj)} {σ : L2.St} {H : Hp} {s : Shared} (I : Inv (X.blk s3 H3 scope ce fp) pins σ H s) {e : Value} {s' : Shared} (c : L2.CX X.prog X.w X.stack H s E e s') :
    notedBy (model X.prog X.w) X.A ce (fun e s' => compPostX (model X.prog X.w) X.A X.xe use Qf acc s3.heap.objs.size ce.frame (.error e) s') e s' := by
  obtain ⟨a, B, H', cls, d, rfl, fl, hok, ub, na, os, ag, hE⟩ := c
  have hfr : X.A.frames = some (X.env :: X.outer) := by rw [I3.ok.frames, hs]
  have kbs : B.StaysIn s'.heap := fl.1
  obtain ⟨m0, ⟨oC, es, ep, hC, rC⟩, _⟩ := id I.loc
  have hC : s.heap.get? ce.locals = some oC := hC
  have nCH : H ce.locals = none := I.free
  have nCs : ce.locals ∉ frs X.stack := fun hm => by
    obtain ⟨_, o, ho, _⟩ := I3.stack.mem hm
    have := Heap.lt_size ho
    rw [cL] at this
    exact Nat.lt_irrefl _ this
  have bC : B.get? ce.locals = some oC := ub.keep _ _ hC nCH nCs
  have nCH' : H' ce.locals = none := ub.free _ _ hC nCH
  have fl2 : HandSPX.FlyingZ B (X.env :: X.outer) a (Zc cls d) s'.heap := by rw [← hs]; exact fl
  unfold notedBy
  rw [note_frame cF]
  refine HandSPX.looks_onZ Zc.steady hfr hf fl2 fun h1 hh1 up1 => ?_
  obtain ⟨kb1, na1, ff1, oe, vs, T, oT, ts, he, hz, hd, h1T, nT, hTe, hT, hdT, h3T⟩ := hh1
  have neC : a ≠ ce.locals := fun z => by rw [← z, na1] at bC; cases bC
  have nTC : T ≠ ce.locals := fun z => by rw [← z, nT] at bC; cases bC
  have key : ∃ m, h1.Ns s3.heap.objs.size m ∧ ∀ h', Heap.SameBut s3.heap.objs.size h1 h' → ∀ cenv : Env, cenv.locals = s3.heap.objs.size → cenv.frame = ce.frame → wpAny (model X.prog X.w) X.A (passOn "comprehension.variables-let-go" (.ref a) cenv : Sem Value) (fun _ _ => False) X.xe { s' with heap := h' } := by
    rw [← cL]
    refine ⟨m0, ⟨oC, es, ep, kb1 _ _ bC, rC⟩, fun h2 sb cenv hl hfr2 => ?_⟩
    obtain ⟨B3, b1, b2⟩ := restrict B (fun b => decide (b ≠ ce.locals))
    have g2 : ∀ b, b ≠ ce.locals → h2.get? b = h1.get? b := sb.2
    have b3 : ∀ b o, B3.get? b = some o → b ≠ ce.locals ∧ B.get? b = some o := fun b o e => by
      by_cases hb : b = ce.locals
      · rw [b2 b (by simp [hb])] at e; cases e
      · rw [b1 b (by simp [hb])] at e; exact ⟨hb, e⟩
    have kb2 : B3.StaysIn h2 := fun b o e => by
      obtain ⟨hb, e⟩ := b3 b o e
      rw [g2 b hb]; exact kb1 b o e
    have nB3 : ∀ b, B.get? b = none → B3.get? b = none := fun b hb => by
      cases q : B3.get? b with
      | none => rfl
      | some o => rw [(b3 b o q).2] at hb; cases hb
    have nfs : ∀ b ∈ frs (X.env :: X.outer), b ≠ ce.locals := fun b hb z => nCs (by rw [hs, ← z]; exact hb)
    have ff2 : h2.FunFrames B3 (X.env :: X.outer) := funFrames_but (funFrames_none ff1 fun L hL => nB3 L (ff1.mem hL).1) fun b hb => g2 b (nfs b hb)
    have ht2 : HandSPX.TracedZ h2 B3 a (Zc cls d) (rawInt X.env.locals) := ⟨oe, vs, T, oT, ts, (g2 a neC).trans he, hz, hd, h1T, nB3 T nT, hTe, (g2 T nTC).trans hT, hdT, h3T⟩
    have fin : wpAny (model X.prog X.w) X.A (setFlight (.ref a) cenv.frame) (fun _ s4 => wpAny (model X.prog X.w) X.A (throw (.ref a) : Sem Value) (fun _ _ => False) X.xe s4) X.xe { s' with heap := h2 } := by
      rw [hfr2, cF, hf]
      refine HandSPX.setFlight_anyZ (s := { s' with heap := h2 }) kb2 ff2 ht2 fun h3 kb3 ff3 ht3 up3 => wpAny_throw (tk _ _ ?_)
      obtain ⟨G, gg1, gg2⟩ := restrict s'.heap (fun b => (B3.get? b).isSome || decide (b ∈ frs X.stack))
      have gB : ∀ b o, B.get? b = some o → b ≠ ce.locals → G.get? b = some o := fun b o e hb => by
        rw [gg1 b (by rw [b1 b (by simp [hb]), e]; rfl)]
        exact kbs b o e
      have gF : ∀ b, b ∈ frs X.stack → G.get? b = s'.heap.get? b := fun b hb => gg1 b (by simp [hb])
      have og : ∀ b o, G.get? b = some o → s'.heap.get? b = some o ∧ ((B3.get? b).isSome = true ∨ b ∈ frs X.stack) := fun b o e => by
        cases q : ((B3.get? b).isSome || decide (b ∈ frs X.stack)) with
        | false => rw [gg2 b q] at e; cases e
        | true =>
          rw [gg1 b q] at e
          exact ⟨e, by simpa [Bool.or_eq_true] using q⟩
      have ogC : ∀ b o, G.get? b = some o → b ≠ ce.locals := fun b o e => by
        rcases (og b o e).2 with h | h
        · obtain ⟨o', q⟩ := Option.isSome_iff_exists.mp h
          exact (b3 b o' q).1
        · exact fun z => nCs (by rw [← z]; exact h)
      refine ⟨a, B3, { s3 with heap := G, gens := s'.gens, drawn := s'.drawn, toks := s'.toks }, pins0, σ0, H', cls, d, rfl, ?_, fun b o e hb => ?_, fun b o e hnf => ?_, .inr (.inr (by rw [hs]; exact ⟨kb3, nB3 a na1, ff3, ht3⟩)), na, os.trans I.os, ag, hE⟩
      · have ib : Un (frs X.stack) fp H3 H s3.heap s.heap := I.base
        have nin : ∀ {b}, b ∉ ce.locals :: fp → b ≠ ce.locals ∧ b ∉ fp := fun hb => ⟨fun z => hb (by rw [z]; exact List.mem_cons_self), fun z => hb (List.mem_cons_of_mem _ z)⟩
        refine I3.call (ch := ce.locals :: fp) ⟨fun b o e n hb hc => ?_, fun b o e n hb hc => ?_, fun b o e n hc => ?_, fun b o e hc => ?_, fun b xs e => ub.tups _ _ (ib.tups _ _ e), fun b o xs e => ub.frzs _ _ _ (ib.frzs _ _ _ e), fun b ps e => ?_⟩ (fun b o q => (hok b o q).stay (fun c u hc r => gB c u r ?_) (fun _ r => r) fun _ _ r => r) ag (fun b hb => ?_)
        · obtain ⟨h1, h2⟩ := nin hc
          exact gB b o (ub.keep b o (ib.keep b o e n hb h2) (ib.free b o e n h2) hb) h1
        · obtain ⟨h1, h2⟩ := nin hc
          obtain ⟨sl, e1⟩ := ib.slot b o e n hb h2
          obtain ⟨sl2, e2⟩ := ub.slot b _ e1 hb
          exact ⟨sl2, by rw [gF b hb]; exact e2⟩
        · obtain ⟨h1, h2⟩ := nin hc
          obtain ⟨sl, e1⟩ := ib.any e n h2
          exact ub.free b _ e1 (ib.free b o e n h2)
        · obtain ⟨h1, h2⟩ := nin hc
          obtain ⟨o', e1⟩ := ib.there b o e h2
          by_cases hb : b ∈ frs X.stack
          · obtain ⟨sl, q⟩ := ub.slot b o' e1 hb
            exact ⟨_, by rw [gF b hb]; exact q⟩
          · obtain ⟨o2, q⟩ := ub.there b o' e1 hb
            exact ⟨o2, gB b o2 q h1⟩
        · obtain ⟨more, e1⟩ := ib.tbls b ps e
          obtain ⟨more2, e2⟩ := ub.tbls b _ e1
          exact ⟨more ++ more2, by rw [e2, Array.append_assoc]⟩
        · rintro rfl
          rcases hc with hc | hc
          · rw [← hc, nCH'] at q; cases q
          · rw [nCH'] at hc; cases hc
        · rcases List.mem_cons.mp hb with rfl | hb
          · obtain ⟨_, f2, _, f4, f5, f6⟩ := I3.fpOk (b := ce.locals) (Nat.le_of_eq cL.symm) nCH'
            exact ⟨f4, f2, f5, f6⟩
          · obtain ⟨_, f2, _, f4, f5, f6⟩ := f3 b hb
            exact ⟨f4, f2, f5, f6⟩
      · obtain ⟨e', h⟩ := og b o e
        rcases h with h | h
        · obtain ⟨o', q⟩ := Option.isSome_iff_exists.mp h
          have z := kbs b o' (b3 b o' q).2
          rw [e'] at z; cases z
          exact q
        · exact absurd h hb
      · obtain ⟨e', _⟩ := og b o e
        obtain ⟨sl1, e1⟩ := up1 b o e' hnf
        have e2 : h2.get? b = some { o with slots := sl1 } := (g2 b (ogC b o e)).trans e1
        exact up3 b { o with slots := sl1 } e2 hnf
    unfold PySem.passOn
    refine wpAny_bind (wpAny_field ((g2 a neC).trans he) hd h1T ?_)
    rw [if_neg (show ¬ ((Value.ref T == Value.none) = true) from by simp)]
    first
      | exact wpAny_bind (wpAny_pure (wpAny_bind fin))
      | exact wpAny_bind fin
  cases use <;> exact key
end
section
variable {X : Cx} {E : XK}
theorem lc_coreX {pins : List (Addr × Obj)} {s : Shared} {σ : L2.St} {H : Hp} {Q : VK} {elt tg iter : Expr} {ifs : List Expr} {scope : Scope} {own : List (Str × Nat)} {pos pos' : Pos} {wi : TI} {g : TG} {tt : TT} {te : TE} {use : Option (Value → Sem Unit)} {Qf : Value → Shared → Prop}
    (hst : X.stack = X.env :: X.outer) (hfr : X.env.frame = some X.env.locals) (tk : L2.Takes X (fun cls d _ H => E cls d H)) (hc : X.calm = true) (hN : X.N.Nodup) (I : Inv X pins σ H s) (hi : PI X tg iter wi) (ok : BlkOk X.N X.env.scope scope own)
    (hg : ∀ (s : Shared) (H : Hp) (C : Addr) (cl : List (Str × Addr)) (fp : List Addr), PG (X.blk s H scope (compEnvC scope cl C X.env) fp) tg g) (ht : ∀ (s : Shared) (H : Hp) (C : Addr) (cl : List (Str × Addr)) (fp : List Addr), PTs (X.blk s H scope (compEnvC scope cl C X.env) fp) ifs tt)
    (he : ∀ (s : Shared) (H : Hp) (C : Addr) (cl : List (Str × Addr)) (fp : List Addr) (xe : Value → Shared → Prop), L2.Passes (L2.CX X.prog X.w) ((X.blk s H scope (compEnvC scope cl C X.env) fp).wish xe) E → PE ((X.blk s H scope (compEnvC scope cl C X.env) fp).wish xe) elt te) (hs : ∀ x, foldedSetIterable iter X.env x = pure x)
    (h : tLc wi g tt te (own.map (·.2)) σ H Q)
    (hRR : ∀ D C s' m H' fr, Inv X pins σ H' s' → Q (.ref D) H' → s'.heap.Ns C m → FpOk X pins H' C → compPostX (model X.prog X.w) X.A X.xe use Qf (.ref D) C fr (.ok .next) s') :
    wpAny (model X.prog X.w) X.A (comprehension (.ListComp elt [⟨tg, iter, ifs, 0⟩] scope pos) scope X.env pos' (newList []) false (eval iter X.env) use) Qf X.xe s := by
  have hfree : ∀ y ∈ scope.names, y.2 = .free → ∃ c, X.env.cells.lookup y.1 = some c := fun y hy e => by
    rcases ok.free y hy e with k | k
    · exact I.ok.has _ (.inl k)
    · exact I.ok.has _ (.inr k)
  refine wpAny_comp_freeX (use := use) rfl hs (closure_ok hfree) ok.kind (fun y hy e => by rw [ok.uniq y hy, e])
    (thn (hi.run pins s σ H _ I h) fun xv s1 hx => thn hx fun itv s2 h2 => ?_)
  obtain ⟨it, fp, tn, J, H2, e, I2, T, st2, f2, q⟩ := h2
  subst e
  refine wpAny_newObj_type (newEnv_comp ?_) (by show 0 ≤ sizeLine; decide)
  generalize hD : s2.heap.objs.size = D
  have hDn : H2 D = none := I2.hok.fresh (Nat.le_of_eq hD)
  obtain ⟨W, ⟨m0, w0⟩, turn⟩ := q D hDn
  generalize hs3 : ({ s2 with heap := s2.heap.push { cls := .type "list", data := .seq ([] : List Value).toArray } } : Shared) = s3
  have I3 : Inv X pins σ (upd H2 D (.lst [])) s3 := by
    rw [← hs3]
    refine I2.laid (t' := s2.toks) (fun b o e => Heap.get?_push_of_some _ e) (Nat.le_of_eq hD) ⟨Nat.zero_le _, [], 0, .nil, ?_⟩
    rw [← hD]
    exact Heap.get?_push_size _ rfl
  have h3 : s3.heap = s2.heap.push { cls := .type "list", data := .seq ([] : List Value).toArray } := by rw [← hs3]
  have sz : ∀ b ∈ fp, b < s2.heap.objs.size := fun b hb => by
    obtain ⟨o, e, _⟩ := T.obj _ _ st2 b hb
    exact Heap.lt_size e
  have f3 : ∀ b ∈ fp, FpOk X pins (upd H2 D (.lst [])) b ∧ b < s3.heap.objs.size := fun b hb => by
    have hlt := sz b hb
    refine ⟨⟨?_, (f2 b hb).2⟩, by rw [h3, Heap.size_push]; exact Nat.lt_succ_of_lt hlt⟩
    rw [upd_ne (by rw [← hD]; exact Nat.ne_of_lt hlt)]
    exact (f2 b hb).1
  have st3 : tn 0 s3.heap := T.keep _ _ _ st2 fun b _ o e => by rw [h3]; exact Heap.get?_push_of_some _ e
  have I4 := block_start I3 ok hN f3
  have pg := hg s3 (upd H2 D (.lst [])) s3.heap.objs.size (cellsFrom (s3.heap.objs.size + 1) scope.names (cloFrom X.env.cells scope.names [])) fp
  have pt := ht s3 (upd H2 D (.lst [])) s3.heap.objs.size (cellsFrom (s3.heap.objs.size + 1) scope.names (cloFrom X.env.cells scope.names [])) fp
  have pe := he s3 (upd H2 D (.lst [])) s3.heap.objs.size (cellsFrom (s3.heap.objs.size + 1) scope.names (cloFrom X.env.cells scope.names [])) fp
  have cF : (compEnvC scope (cellsFrom (s3.heap.objs.size + 1) scope.names (cloFrom X.env.cells scope.names [])) s3.heap.objs.size X.env).frame = X.env.frame := rfl
  show codeAny _ _ (.compStart (.ListComp elt [⟨tg, iter, ifs, 0⟩] scope pos) 0 (.ref it) (.ref D) (compEnvC scope (cellsFrom (s3.heap.objs.size + 1) scope.names (cloFrom X.env.cells scope.names [])) s3.heap.objs.size X.env)) (compPostX (model X.prog X.w) X.A X.xe use Qf (.ref D) s3.heap.objs.size (compEnvC scope (cellsFrom (s3.heap.objs.size + 1) scope.names (cloFrom X.env.cells scope.names [])) s3.heap.objs.size X.env).frame) { s3 with heap := pushCells (s3.heap.push { cls := .type "dict", data := .dict #[] }) scope.names }
  have nfp : ∀ b ∈ fp, (upd H2 D (.lst [])) b = none := fun b hb => (f3 b hb).1.1
  generalize hce : compEnvC scope (cellsFrom (s3.heap.objs.size + 1) scope.names (cloFrom X.env.cells scope.names [])) s3.heap.objs.size X.env = ce at I4 pg pt pe cF ⊢
  have cL : ce.locals = s3.heap.objs.size := by subst hce; rfl
  generalize hH3 : upd H2 D (.lst []) = H3 at I3 I4 pg pt pe w0 nfp f3
  have air := fun {pins' : List (Addr × Obj)} {σ' : L2.St} {H' : Hp} {s' : Shared} (J : Inv (X.blk s3 H3 scope ce fp) pins' σ' H' s') {e : Value} {s'' : Shared} (c : L2.CX X.prog X.w X.stack H' s' E e s'') => blk_air (use := use) (Qf := Qf) (acc := .ref D) hst hfr tk I3 cL cF (fun b hb => (f3 b hb).1) J c
  have pe := pe (notedBy (model X.prog X.w) X.A ce (fun e s' => compPostX (model X.prog X.w) X.A X.xe use Qf (.ref D) s3.heap.objs.size ce.frame (.error e) s')) (fun pins' σ' H' s' e s'' J c => air J.unwish c)
  generalize hs4 : ({ s3 with heap := pushCells (s3.heap.push { cls := .type "dict", data := .dict #[] }) scope.names } : Shared) = s4 at I4 ⊢
  have st4 : tn 0 s4.heap := T.keep _ _ _ st3 fun b _ o e => by rw [← hs4]; exact pushCells_keeps _ _ _ _ (Heap.get?_push_of_some _ e)
  have stat : ∀ {σ' : L2.St} {H' : Hp} {s' : Shared}, Inv (X.blk s3 H3 scope ce fp) [] σ' H' s' → (∀ b ∈ fp, H' b = none) → ∀ b ∈ fp, FpOk (X.blk s3 H3 scope ce fp) [] H' b := fun {σ' H' s'} I' hn b hb =>
    ⟨hn b hb, (I'.ok.exf b hb).1, I'.ok.exfs b hb, .inl hb, fun x c e => (I'.ok.exf b hb).2 x c e, fun p hp => absurd (show p ∈ ([] : List (Addr × Obj)) ++ [] from hp) (by simp)⟩
  have loop : codeAny (model X.prog X.w) X.A (.compLoop (.ListComp elt [⟨tg, iter, ifs, 0⟩] scope pos) 0 (.ref it) (.ref D) ce) (compPostX (model X.prog X.w) X.A X.xe use Qf (.ref D) s3.heap.objs.size ce.frame) s4 := by
    refine compLoop_any (fun n s' => ∃ i H', Inv (X.blk s3 H3 scope ce fp) [] (wipe σ (own.map (·.2))) H' s' ∧ tn i s'.heap ∧ (∀ b ∈ fp, H' b = none) ∧ W i n H') ?_ m0 ⟨0, H3, I4, st4, nfp, w0⟩
    rintro n s5 ⟨i, H5, I5, st5, n5, w5⟩
    rcases turn i n H5 w5 with ⟨stop, qq⟩ | ⟨go, Nx, hNx, step⟩
    · have td := T.done (X.blk s3 H3 scope ce fp) rfl rfl rfl hc i [] s5 _ H5 (fun _ _ => False) I5 (stat I5 n5) st5 stop
      refine thnF td fun r s6 ⟨hr, I6⟩ => ?_
      subst hr
      have I7 : Inv X pins σ H5 s6 := I3.call' (ch := fp) I6.os I6.base I6.hok I6.bare fun b hb => ⟨(f3 b hb).1.2.2.2.1, (f3 b hb).1.2.1, (f3 b hb).1.2.2.2.2.1, (f3 b hb).1.2.2.2.2.2⟩
      have nC : H5 s3.heap.objs.size = none := by
        have z : H5 ce.locals = none := I6.free
        rw [cL] at z
        exact z
      obtain ⟨m, hn, _⟩ := I6.loc
      have hn : s6.heap.Ns ce.locals m := hn
      rw [cL] at hn
      exact hRR D s3.heap.objs.size s6 m H5 _ I7 qq hn (I3.fpOk (Nat.le_refl _) nC)
    · have ti := T.item (X.blk s3 H3 scope ce fp) rfl rfl rfl hc i [] s5 _ H5 (fun _ _ => False) I5 (stat I5 n5) st5 go
      refine thnF ti fun r s6 ⟨u, hr, h6⟩ => ?_
      subst hr
      refine thnF h6 fun _ s7 ⟨x, H7, I7, r7, y7, st7, n7⟩ => ?_
      have I7' := I7.pinned (stat I7 n7) (T.obj _ _ st7)
      refine thnF (pg.run _ s7 _ H7 x u _ I7' r7 (step x H7 y7)) fun _ s8 ⟨σ8, H8, I8, hw8, q8⟩ => ?_
      refine thnF (pt.run _ s8 σ8 H8 _ I8 q8) fun b s9 ⟨H9, I9, q9⟩ => ?_
      have fin : ∀ {s' : Shared} {H' : Hp}, Inv (X.blk s3 H3 scope ce fp) ([] ++ pinsAt fp s7.heap) σ8 H' s' → Nx H' → ∃ m, m < n ∧ ∃ i H', Inv (X.blk s3 H3 scope ce fp) [] (wipe σ (own.map (·.2))) H' s' ∧ tn i s'.heap ∧ (∀ b ∈ fp, H' b = none) ∧ W i m H' := fun {s' H'} I' nx => by
        obtain ⟨m', hm, w'⟩ := hNx H' nx
        have pin' : ∀ b ∈ fp, ∀ o, s7.heap.get? b = some o → s'.heap.get? b = some o ∧ H' b = none := fun b hb o e =>
          let z := I'.pin (b, o) (List.mem_append_right _ (List.mem_append_right _ (mem_pinsAt hb e)))
          ⟨z.1, z.2.1⟩
        have hl : (wipe σ (own.map (·.2))).length = σ8.length := by rw [← hw8, wipe_length]
        refine ⟨m', hm, i + 1, H', (I'.unpinned (pins := [])).weak hl (fun j v e => ?_), T.keep _ _ _ st7 fun b hb o e => (pin' b hb o e).1, fun b hb => ?_, w'⟩
        · rw [← hw8] at e
          exact (wipe_some e).1
        · obtain ⟨o, e, _⟩ := T.obj _ _ st7 b hb
          exact (pin' b hb o e).2
      cases b with
      | false =>
        simp only [Bool.false_eq_true, if_false] at q9 ⊢
        exact fin I9 q9
      | true =>
        simp only [if_true] at q9 ⊢
        refine thn (pe.run _ s9 σ8 H9 _ (I9.wish _) q9) fun z s10 ⟨yv, H10, I10, r10, acc, hD10, hz10, nx⟩ => ?_
        exact app_ok (X := X.blk s3 H3 scope ce fp) I10.unwish hD10 hz10 r10 fun s11 I11 => fin I11 nx
  exact codeAny_compStart_list loop (T.self X.A 0 _ _ _ st4 loop)
/-- as a value -/
theorem pe_lcX {elt tg iter : Expr} {ifs : List Expr} {scope : Scope} {own : List (Str × Nat)} {pos : Pos} {wi : TI} {g : TG} {tt : TT} {te : TE} (hst : X.stack = X.env :: X.outer) (hfr : X.env.frame = some X.env.locals) (tk : L2.Takes X (fun cls d _ H => E cls d H)) (hc : X.calm = true) (hN : X.N.Nodup) (hi : PI X tg iter wi) (ok : BlkOk X.N X.env.scope scope own)
    (hg : ∀ (s : Shared) (H : Hp) (C : Addr) (cl : List (Str × Addr)) (fp : List Addr), PG (X.blk s H scope (compEnvC scope cl C X.env) fp) tg g) (ht : ∀ (s : Shared) (H : Hp) (C : Addr) (cl : List (Str × Addr)) (fp : List Addr), PTs (X.blk s H scope (compEnvC scope cl C X.env) fp) ifs tt)
    (he : ∀ (s : Shared) (H : Hp) (C : Addr) (cl : List (Str × Addr)) (fp : List Addr) (xe : Value → Shared → Prop), L2.Passes (L2.CX X.prog X.w) ((X.blk s H scope (compEnvC scope cl C X.env) fp).wish xe) E → PE ((X.blk s H scope (compEnvC scope cl C X.env) fp).wish xe) elt te) (hs : ∀ x, foldedSetIterable iter X.env x = pure x := by intro _; rfl) :
    PE X (.ListComp elt [⟨tg, iter, ifs, 0⟩] scope pos) (tLc wi g tt te (own.map (·.2))) := by
  refine ⟨fun pins s σ H Q I h => ?_⟩
  rw [eval_ListComp]
  refine lc_coreX hst hfr tk hc hN I hi ok hg ht he hs h fun D C s' m H' fr I' q hn f => ⟨m, hn, fun h'' sb => ?_⟩
  obtain ⟨f0, f1, f2, f3, f4, f5⟩ := f
  exact ⟨.ref D, H', I'.turned (t' := s'.toks) (fun b o hb e => (sb.2 b hb).trans e) f0 f1 f3 f4 f5, rfl, q⟩
/-- name = [..] on one line, the name a local -/
theorem ps_setLcX {i : Nat} {y : Str} {py : Pos} {elt tg iter : Expr} {ifs : List Expr} {scope : Scope} {own : List (Str × Nat)} {pos spos : Pos} {wi : TI} {g : TG} {tt : TT} {te : TE} (hst : X.stack = X.env :: X.outer) (hfr : X.env.frame = some X.env.locals) (tk : L2.Takes X (fun cls d _ H => E cls d H)) (hc : X.calm = true) (hN : X.N.Nodup) (hy : X.N[i]? = some y) (hyl : X.env.scope.names.lookup y = some .local)
    (hsw : swapsWith (.ListComp elt [⟨tg, iter, ifs, 0⟩] scope pos) (some (.Name y py)) spos.line X.env = pure true) (hi : PI X tg iter wi) (ok : BlkOk X.N X.env.scope scope own)
    (hg : ∀ (s : Shared) (H : Hp) (C : Addr) (cl : List (Str × Addr)) (fp : List Addr), PG (X.blk s H scope (compEnvC scope cl C X.env) fp) tg g) (ht : ∀ (s : Shared) (H : Hp) (C : Addr) (cl : List (Str × Addr)) (fp : List Addr), PTs (X.blk s H scope (compEnvC scope cl C X.env) fp) ifs tt)
    (he : ∀ (s : Shared) (H : Hp) (C : Addr) (cl : List (Str × Addr)) (fp : List Addr) (xe : Value → Shared → Prop), L2.Passes (L2.CX X.prog X.w) ((X.blk s H scope (compEnvC scope cl C X.env) fp).wish xe) E → PE ((X.blk s H scope (compEnvC scope cl C X.env) fp).wish xe) elt te) (hs : ∀ x, foldedSetIterable iter X.env x = pure x := by intro _; rfl) :
    PS X (.Assign [.Name y py] (.ListComp elt [⟨tg, iter, ifs, 0⟩] scope pos) spos) (tAsg (tLc wi g tt te (own.map (·.2))) (gName i)) := by
  refine ⟨fun pins s σ H D I h => ?_⟩
  rw [exec_Assign_Name_used _ _ _ _ hsw]
  refine wpAny_bind (wpAny_standAt (wpAny_bind ?_))
  show wpAny _ X.A (do let _ ← comprehension (.ListComp elt [⟨tg, iter, ifs, 0⟩] scope pos) scope X.env (firstIterPos [⟨tg, iter, ifs, 0⟩] pos) (newList []) false (eval iter X.env) (some (assign (.Name y py) X.env))) _ _ s
  have h : tLc wi g tt te (own.map (·.2)) σ H (fun x H1 => gName i x σ H1 D.nx) := h
  refine wpAny_bind (thn (lc_coreX (Qf := fun _ s' => SP X pins D .next s') hst hfr tk hc hN I hi ok hg ht he hs h fun L C s' m H' fr I' q hn f => ?_) fun _ s' hq => wpAny_pure (wpAny_pure hq))
  show wpAny _ _ (assign (.Name y py) X.env (.ref L)) _ _ _
  refine wpAny_assign_Name (store_ok2 (v := V.ref L) I' hN hy (.inl hyl) rfl (fun s2 I2 ⟨a, sb, ha⟩ => ?_) (.inr hyl))
  obtain ⟨f0, f1, f2, f3, f4, f5⟩ := f
  have haC : C ≠ a := by
    rcases ha with z | z
    · rw [z]; exact f1
    · exact fun e => f4 y a z e.symm
  refine ⟨m, hn.sameBut sb haC, fun h3 sb3 => ?_⟩
  exact ⟨_, H', I2.turned (t' := s2.toks) (fun b o hb e => (sb3.2 b hb).trans e) f0 f1 f3 f4 f5, q⟩
end
end Sk
namespace Sk
open PySem PySem.Spec PyProof.Rows L2
inductive PK | var | «at» | short
  deriving DecidableEq
def PK.t : PK → Str
  | .var => Str.ofString "var" | .at => Str.ofString "at" | .short => Str.ofString "short"
inductive Fw | nt | minus | len | piece | part
  deriving DecidableEq
def Fw.t : Fw → Str
  | .nt => oneT true | .minus => oneT false | .len => Str.ofString "length" | .piece => Str.ofString "piece" | .part => Str.ofString "part"
inductive Ex
  | is (x : Str)
  | pl (k : PK) (nm : Str) (ps : List Ex)
  | nxt (b : Bool) (k : PK) (nm : Str) (ps : List Ex)
  | data (k : PK) (nm : Str) (ps : List Ex)
  | oth (k : PK) (nm : Str) (ps : List Ex) (e : Ex)
  | op (g : Sg) (a b : Ex)
  | fn (f : Fw) (as : List Ex)
abbrev eMissing : Str := Str.ofString "missing"
abbrev eKey : Str := Str.ofString "key"
abbrev eHead : Str := Str.ofString "head"
abbrev eDeep : Str := Str.ofString "deep"
abbrev Ov (α : Type) := Option (Except Str α × Option Rf)
def bindX {α β : Type} (m : Ov α) (f : α → Option Rf → Ov β) : Ov β := match m with
  | none => none
  | some (.error w, l) => some (.error w, l)
  | some (.ok x, l) => f x l
theorem bindX_some {α β : Type} {m : Ov α} {f : α → Option Rf → Ov β} {r : Except Str β} {l : Option Rf} (h : bindX m f = some (r, l)) : (∃ w, m = some (.error w, l) ∧ r = .error w) ∨ ∃ x l1, m = some (.ok x, l1) ∧ f x l1 = some (r, l) := by
  match m, h with
  | some (.error w, l1), h =>
    have h2 : some ((.error w : Except Str β), l1) = some (r, l) := h
    cases h2
    exact .inl ⟨w, rfl, rfl⟩
  | some (.ok x, l1), h => exact .inr ⟨x, l1, rfl, h⟩
def evAll (f : Ex → Option Rf → Ov Str) : List Ex → Option Rf → Ov (List Str)
  | [], l => some (.ok [], l)
  | e :: es, l => bindX (f e l) fun x l1 => bindX (evAll f es l1) fun xs l2 => some (.ok (x :: xs), l2)
theorem evAll_cons {f : Ex → Option Rf → Ov Str} {e : Ex} {es : List Ex} {l l' : Option Rf} {r : Except Str (List Str)} (h : evAll f (e :: es) l = some (r, l')) :
    (∃ w, f e l = some (.error w, l') ∧ r = .error w) ∨ ∃ x l1, f e l = some (.ok x, l1) ∧ ((∃ w, evAll f es l1 = some (.error w, l') ∧ r = .error w) ∨ ∃ xs, evAll f es l1 = some (.ok xs, l') ∧ r = .ok (x :: xs)) := by
  rcases bindX_some h with h | ⟨x, l1, e1, h⟩
  · exact .inl h
  · refine .inr ⟨x, l1, e1, ?_⟩
    rcases bindX_some h with h | ⟨xs, l2, e2, h⟩
    · exact .inl h
    · cases h
      exact .inr ⟨xs, e2, rfl⟩
def plHead (k : PK) (nm : Str) (l : Option Rf) : Option (Str × List Str) := match k, l with
  | .short, none => none
  | .short, some r => some (r.1, r.2.dropLast)
  | _, _ => some (nm, [])
/-- a key at a place: its length tells -/
def keyL (em : Bool) (n i : Nat) (k : Str) : Bool := (decide (1 ≤ k.length) && decide (k.length ≤ 40)) || (em && (decide (k = Str.ofString "") && decide (i + 1 = n)))
def keysL (em : Bool) (n : Nat) : Nat → List Str → Bool
  | _, [] => true
  | i, k :: ks => keyL em n i k && keysL em n (i + 1) ks
def keysOk (em : Bool) (ks : List Str) : Bool := keysL em ks.length 0 ks
def plK (em : Bool) (k : PK) (nm : Str) (ks : List Str) (l : Option Rf) : Except Str Rf × Option Rf := match plHead k nm l with
  | none => (.error eHead, l)
  | some (n, hd) => if hd.length + ks.length > 6 then (.error eDeep, l) else if keysOk em ks = true then (.ok (n, hd ++ ks), if k = .var then l else lastOf (n, hd ++ ks)) else (.error eKey, l)
def evP (f : Ex → Option Rf → Ov Str) (em : Bool) (k : PK) (nm : Str) (ps : List Ex) (l : Option Rf) : Ov Rf := bindX (evAll f ps l) fun ks l1 => some (plK em k nm ks l1)
def worthE (E : List Ent) (r : Rf) : Except Str Str := match ndGet E r with
  | some (.str x) => .ok x
  | _ => .error eMissing
open Classical in
noncomputable def nextV (E : List Ent) (n : Str) (ks : List Str) (last : Str) (b : Bool) : Str := if h : ∃ z, IsNext (behOf E n ks) last b z then Classical.choose h else Str.ofString ""
theorem nextV_eq {E : List Ent} {n : Str} {ks : List Str} {last z : Str} {b : Bool} (h : IsNext (behOf E n ks) last b z) : nextV E n ks last b = z := by
  unfold nextV
  rw [dif_pos ⟨z, h⟩]
  exact (Classical.choose_spec (⟨z, h⟩ : ∃ z, IsNext (behOf E n ks) last b z)).uniq h
def handsB (g : Sg) (x y : Str) : Bool := (decide (g = .cat) && decide (x.length ≤ 2000 ∧ y.length ≤ 2000)) || decide (x.length ≤ 100 ∧ y.length ≤ 100)
def fnV : Fw → List Str → Option Str
  | .nt, [x] => if x.length ≤ 100 then some (oneV true x) else none
  | .minus, [x] => if x.length ≤ 100 then some (oneV false x) else none
  | .len, [x] => if x.length ≤ 600 then some (intS (x.length : Int)) else none
  | .piece, [x, y, z] => if x.length ≤ 600 ∧ y.length ≤ 600 ∧ z.length ≤ 600 then some (pieceAt x y (numS z)) else none
  | .part, [x, y, z] => if x.length ≤ 600 ∧ y.length ≤ 600 ∧ z.length ≤ 600 then some (partS x (numS y) (numS z)) else none
  | _, _ => none
section
variable (eo es : List Ent)
def sideE (k : PK) : List Ent := if k = .var then eo else es
noncomputable def evE : Nat → Ex → Option Rf → Ov Str
  | 0, _, _ => none
  | n + 1, e, l => match e with
    | .is x => some (.ok x, l)
    | .pl k nm ps => bindX (evP (evE n) false k nm ps l) fun r l1 => some (worthE (sideE eo es k) r, l1)
    | .nxt b k nm ps => bindX (evP (evE n) true k nm ps l) fun r l1 => if r.2 = [] then some (.error eKey, l1) else some (.ok (nextV (sideE eo es k) r.1 r.2.dropLast (r.2.getLastD (Str.ofString "")) b), l1)
    | .data k nm ps => bindX (evP (evE n) false k nm ps l) fun r l1 => some (.ok (intS (dataN (sideE eo es k) r)), l1)
    | .oth k nm ps e => bindX (evP (evE n) false k nm ps l) fun r l1 => match worthE (sideE eo es k) r with
      | .ok x => some (.ok x, l1)
      | .error _ => evE n e l1
    | .op g a b => bindX (evE n a l) fun x l1 => bindX (evE n b l1) fun y l2 => if handsB g x y = true then some (twoE g x y, l2) else none
    | .fn f as => bindX (evAll (evE n) as l) fun xs l1 => match fnV f xs with
      | some y => some (longE y, l1)
      | none => none
end
def ExG : Nat → Ex → Prop
  | 0, _ => False
  | n + 1, e => match e with
    | .is x => WorthS x ∧ x.length ≤ 2000
    | .pl k nm ps => (k ≠ .short → NameS nm) ∧ ps.length ≤ 100 ∧ ∀ p ∈ ps, ExG n p
    | .nxt _ k nm ps => (k ≠ .short → NameS nm) ∧ ps.length ≤ 100 ∧ ∀ p ∈ ps, ExG n p
    | .data k nm ps => (k ≠ .short → NameS nm) ∧ ps.length ≤ 100 ∧ ∀ p ∈ ps, ExG n p
    | .oth k nm ps e => ((k ≠ .short → NameS nm) ∧ ps.length ≤ 100 ∧ ∀ p ∈ ps, ExG n p) ∧ ExG n e
    | .op _ _ _ => False
    | .fn _ _ => False
def LOk (l : Option Rf) : Prop := ∀ r, l = some r → RefL r
def TxtOk (x : Str) : Prop := WorthS x ∧ x.length ≤ 2000
/-- a place's reference: its last key may be empty -/
structure PlR (em : Bool) (r : Rf) : Prop where
  nm : NameS r.1
  len : r.2.length ≤ 6
  keys : ∀ k ∈ r.2.dropLast, KeyS k
  last : ∀ k, r.2.getLast? = some k → KeyS k ∨ (em = true ∧ k = Str.ofString "")
theorem PlR.ref {r : Rf} (h : PlR false r) : RefS r.1 r.2 := ⟨h.nm, h.len, fun k hk => by
  rcases List.eq_nil_or_concat r.2 with e | ⟨xs, x, e⟩
  · rw [e] at hk; cases hk
  · rw [List.concat_eq_append] at e
    have h1 := h.keys
    have h2 := h.last x (by rw [e, List.getLast?_append]; rfl)
    rw [e, List.dropLast_concat] at h1
    rw [e] at hk
    rcases List.mem_append.mp hk with hk | hk
    · exact h1 k hk
    · rw [List.mem_singleton.mp hk]
      rcases h2 with z | ⟨z, _⟩
      · exact z
      · cases z⟩
theorem PlR.ord {em : Bool} {r : Rf} {ks : List Str} {last : Str} (h : PlR em r) (e : r.2 = ks ++ [last]) : OrdS r.1 ks last := by
  have h1 := h.keys
  have h2 := h.last last (by rw [e, List.getLast?_append]; rfl)
  have h3 := h.len
  rw [e, List.dropLast_concat] at h1
  rw [e, List.length_append, List.length_singleton] at h3
  exact ⟨h.nm, by omega, h1, h2.elim .inr fun z => .inl z.2⟩
theorem PlR.lst {em : Bool} {r : Rf} (h : PlR em r) : LOk (lastOf r) := fun q e => by
  unfold lastOf at e
  split at e
  · cases e
  · next hne =>
    cases e
    exact ⟨h.nm, h.len, hne, h.keys⟩
theorem keysL_get {em : Bool} {n : Nat} : ∀ {ks : List Str} {i : Nat}, keysL em n i ks = true → ∀ j k, ks[j]? = some k → keyL em n (i + j) k = true
  | [], _, _, _, _, h => by simp at h
  | x :: ks, i, h, 0, k, e => by
    cases e
    exact (Bool.and_eq_true_iff.mp h).1
  | x :: ks, i, h, j + 1, k, e => by
    have := keysL_get (Bool.and_eq_true_iff.mp h).2 j k e
    rwa [show i + 1 + j = i + (j + 1) by omega] at this
theorem keysL_of {em : Bool} {n : Nat} : ∀ {ks : List Str} {i : Nat}, (∀ j k, ks[j]? = some k → keyL em n (i + j) k = true) → keysL em n i ks = true
  | [], _, _ => rfl
  | x :: ks, i, h => Bool.and_eq_true_iff.mpr ⟨h 0 x rfl, keysL_of fun j k e => by
      have := h (j + 1) k e
      rwa [show i + (j + 1) = i + 1 + j by omega] at this⟩
theorem keyL_key {em : Bool} {n i : Nat} {k : Str} (h : keyL em n i k = true) (hw : WorthS k) : KeyS k ∨ (em = true ∧ k = Str.ofString "" ∧ i + 1 = n) := by
  unfold keyL at h
  simp only [Bool.or_eq_true, Bool.and_eq_true, decide_eq_true_eq] at h
  rcases h with ⟨h1, h2⟩ | ⟨h1, h2, h3⟩
  · exact .inl ⟨h1, h2, hw⟩
  · exact .inr ⟨h1, h2, h3⟩
theorem plK_ok {em : Bool} {k : PK} {nm : Str} {ks : List Str} {l l' : Option Rf} {r : Rf} (h : plK em k nm ks l = (.ok r, l')) (hn : k ≠ .short → NameS nm) (hk : ∀ x ∈ ks, WorthS x) (hl : LOk l) :
    PlR em r ∧ LOk l' ∧ ∃ n hd, plHead k nm l = some (n, hd) ∧ r = (n, hd ++ ks) ∧ hd.length + ks.length ≤ 6 ∧ keysOk em ks = true ∧ l' = (if k = .var then l else lastOf r) := by
  unfold plK at h
  cases e : plHead k nm l with
  | none => rw [e] at h; cases h
  | some p =>
    obtain ⟨n, hd⟩ := p
    rw [e] at h
    dsimp only at h
    have nh : NameS n ∧ ∀ x ∈ hd, KeyS x := by
      cases k with
      | short =>
        cases l with
        | none => cases e
        | some rr =>
          cases e
          have z := hl _ rfl
          exact ⟨z.name, z.keys⟩
      | var => cases e; exact ⟨hn (fun z => nomatch z), (fun _ z => nomatch z)⟩
      | «at» => cases e; exact ⟨hn (fun z => nomatch z), (fun _ z => nomatch z)⟩
    split at h
    · cases h
    · next h6 =>
      split at h
      · next hko =>
        cases h
        have pr : PlR em (n, hd ++ ks) := by
          have g := fun j k e => keyL_key (keysL_get hko j k e) (hk k (List.mem_of_getElem? e))
          refine ⟨nh.1, by rw [List.length_append]; omega, fun x hx => ?_, fun x hx => ?_⟩
          · have hx : x ∈ (hd ++ ks).dropLast := hx
            rcases List.eq_nil_or_concat ks with e | ⟨ys, y, e⟩
            · rw [e, List.append_nil] at hx
              exact nh.2 x ((List.dropLast_sublist _).subset hx)
            · rw [List.concat_eq_append] at e
              rw [e, ← List.append_assoc, List.dropLast_concat] at hx
              rcases List.mem_append.mp hx with hx | hx
              · exact nh.2 x hx
              · obtain ⟨j, hj, rfl⟩ := List.getElem_of_mem hx
                rcases g j _ (by rw [e, List.getElem?_append_left hj]; exact List.getElem?_eq_getElem hj) with z | ⟨_, _, z⟩
                · exact z
                · rw [e, List.length_append, List.length_singleton] at z
                  omega
          · have hx : (hd ++ ks).getLast? = some x := hx
            rcases List.eq_nil_or_concat ks with e | ⟨ys, y, e⟩
            · rw [e, List.append_nil] at hx
              exact .inl (nh.2 x (List.mem_of_getLast? hx))
            · rw [List.concat_eq_append] at e
              rw [e, ← List.append_assoc, List.getLast?_append] at hx
              cases hx
              rcases g ys.length _ (by rw [e, List.getElem?_append_right (Nat.le_refl _), Nat.sub_self]; rfl) with z | ⟨z1, z2, _⟩
              · exact .inl z
              · exact .inr ⟨z1, z2⟩
        refine ⟨pr, ?_, n, hd, rfl, rfl, by omega, hko, rfl⟩
        split
        · exact hl
        · exact pr.lst
      · cases h
theorem plK_last {em : Bool} {k : PK} {nm : Str} {ks : List Str} {l l' : Option Rf} {w : Str} (h : plK em k nm ks l = (.error w, l')) : l' = l := by
  unfold plK at h
  split at h
  · cases h; rfl
  · split at h
    · cases h; rfl
    · split at h
      · cases h
      · cases h; rfl
theorem worth_cat {x y : Str} (hx : WorthS x) (hy : WorthS y) : WorthS (x ++ y) := fun c hc => by
  rw [tl_cat] at hc
  rcases List.mem_append.mp hc with h | h
  · exact hx c h
  · exact hy c h
theorem worthE_ok {E : List Ent} {r : Rf} {x : Str} (h : worthE E r = .ok x) : ndGet E r = some (.str x) := by
  unfold worthE at h
  split at h
  · next e => cases h; exact e
  · cases h
theorem ndGet_in {E : List Ent} {r : Rf} {v : V} (h : ndGet E r = some v) : ∃ e ∈ E, e.1 = r ∧ e.2.2 = v := by
  unfold ndGet at h
  obtain ⟨e, he, hv⟩ := Option.map_eq_some_iff.mp h
  exact ⟨e, List.mem_of_find?_eq_some he, by simpa using List.find?_some he, hv⟩
theorem worthE_err {E : List Ent} {r : Rf} {w : Str} (g : ∀ e ∈ E, WorV e.2.2) (h : worthE E r = .error w) : ndGet E r = none ∧ w = eMissing := by
  unfold worthE at h
  cases e : ndGet E r with
  | none => rw [e] at h; cases h; exact ⟨rfl, rfl⟩
  | some v =>
    obtain ⟨x, hx, _, rfl⟩ := ndGet_in e
    obtain ⟨y, hy, _⟩ := g x hx
    rw [e, hy] at h
    cases h
theorem worthE_txt {E : List Ent} {r : Rf} {x : Str} (g : ∀ e ∈ E, WorV e.2.2) (h : worthE E r = .ok x) : TxtOk x := by
  obtain ⟨e, he, _, hv⟩ := ndGet_in (worthE_ok h)
  obtain ⟨y, hy, h1, h2⟩ := g e he
  rw [hv] at hy
  cases hy
  exact ⟨h1, by omega⟩
theorem next_key {E : List Ent} (g : GoodEs E) {n : Str} {ks : List Str} {last z : Str} {b : Bool} (h : IsNext (behOf E n ks) last b z) : z = Str.ofString "" ∨ KeyS z := by
  rcases h with ⟨_, h⟩ | ⟨h, _⟩
  · exact .inl h
  · refine .inr ?_
    have hm : z ∈ behOf E n ks := (List.mem_filter.mp h).1
    obtain ⟨e, he, _, hl, hz⟩ := beh_mem.mp hm
    rw [← hz, List.getD_eq_getElem?_getD, List.getElem?_eq_getElem hl]
    exact (g.refs e he).keys _ (List.getElem_mem _)
theorem data_len (es : List Ent) (r : Rf) : (intS (dataN es r)).length ≤ 2 := by
  have h := ownN_le es r
  have key : ∀ i : Int, 0 ≤ i → i ≤ 1 → ∀ b : Bool, (intS (i + 10 * (if b = true then 1 else 0))).length ≤ 2 := by
    intro i h0 h1 b
    have : i = 0 ∨ i = 1 := by omega
    rcases this with rfl | rfl <;> cases b <;> decide +kernel
  exact key _ h.1 h.2 _
theorem nextV_txt {E : List Ent} (g : GoodEs E) (n : Str) (ks : List Str) (last : Str) (b : Bool) : TxtOk (nextV E n ks last b) := by
  unfold nextV
  split
  · next h =>
    rcases next_key g (Classical.choose_spec h) with z | z
    · rw [z]; exact ⟨(fun c hc => by cases hc), by decide⟩
    · exact ⟨z.2.2, Nat.le_trans z.2.1 (by decide)⟩
  · exact ⟨(fun c hc => by cases hc), by decide⟩
section
variable {eo es : List Ent}
theorem evAll_ok {f : Ex → Option Rf → Ov Str} {G : Ex → Prop} (hf : ∀ e l r l', f e l = some (r, l') → G e → LOk l → LOk l' ∧ ∀ x, r = .ok x → TxtOk x) : ∀ {ps : List Ex} {l l' : Option Rf} {r : Except Str (List Str)}, evAll f ps l = some (r, l') → (∀ p ∈ ps, G p) → LOk l → LOk l' ∧ ∀ xs, r = .ok xs → xs.length = ps.length ∧ ∀ x ∈ xs, TxtOk x
  | [], l, l', r, h, _, hl => by
    cases h
    exact ⟨hl, fun xs e => by cases e; exact ⟨rfl, fun _ z => nomatch z⟩⟩
  | p :: ps, l, l', r, h, hg, hl => by
    rcases evAll_cons h with ⟨w, e1, rfl⟩ | ⟨x, l1, e1, h⟩
    · exact ⟨(hf _ _ _ _ e1 (hg p List.mem_cons_self) hl).1, fun _ z => nomatch z⟩
    · obtain ⟨hl1, hx⟩ := hf _ _ _ _ e1 (hg p List.mem_cons_self) hl
      rcases h with ⟨w, e2, rfl⟩ | ⟨xs, e2, rfl⟩
      · exact ⟨(evAll_ok hf e2 (fun p hp => hg p (List.mem_cons_of_mem _ hp)) hl1).1, fun _ z => nomatch z⟩
      · obtain ⟨hl2, h2⟩ := evAll_ok hf e2 (fun p hp => hg p (List.mem_cons_of_mem _ hp)) hl1
        refine ⟨hl2, fun ys e => ?_⟩
        cases e
        obtain ⟨h3, h4⟩ := h2 xs rfl
        refine ⟨by rw [List.length_cons, List.length_cons, h3], fun y hy => ?_⟩
        rcases List.mem_cons.mp hy with rfl | hy
        · exact hx _ rfl
        · exact h4 y hy
theorem evP_ok {f : Ex → Option Rf → Ov Str} {G : Ex → Prop} (hf : ∀ e l r l', f e l = some (r, l') → G e → LOk l → LOk l' ∧ ∀ x, r = .ok x → TxtOk x) {em : Bool} {k : PK} {nm : Str} {ps : List Ex} {l l' : Option Rf} {r : Except Str Rf} (h : evP f em k nm ps l = some (r, l'))
    (hn : k ≠ .short → NameS nm) (hg : ∀ p ∈ ps, G p) (hl : LOk l) : LOk l' ∧ ∀ x, r = .ok x → PlR em x := by
  rcases bindX_some h with ⟨w, e1, rfl⟩ | ⟨ks, l1, e1, h⟩
  · exact ⟨(evAll_ok hf e1 hg hl).1, fun _ z => nomatch z⟩
  · obtain ⟨hl1, hk⟩ := evAll_ok hf e1 hg hl
    obtain ⟨_, hk⟩ := hk ks rfl
    cases r with
    | error w =>
      have e2 : plK em k nm ks l1 = (.error w, l') := by injection h
      rw [plK_last e2]
      exact ⟨hl1, fun _ z => nomatch z⟩
    | ok x =>
      have e2 : plK em k nm ks l1 = (.ok x, l') := by injection h
      obtain ⟨h1, h2, _⟩ := plK_ok e2 hn (fun y hy => (hk y hy).1) hl1
      exact ⟨h2, fun y e => by cases e; exact h1⟩
theorem evE_ok (go : GoodEs eo) (gs : GoodEs es) (wo : ∀ e ∈ eo, WorV e.2.2) (ws : ∀ e ∈ es, WorV e.2.2) : ∀ (n : Nat) (e : Ex) (l : Option Rf) (r : Except Str Str) (l' : Option Rf), evE eo es n e l = some (r, l') → ExG n e → LOk l → LOk l' ∧ ∀ x, r = .ok x → TxtOk x
  | 0, e, l, r, l', h, _, _ => by cases h
  | n + 1, e, l, r, l', h, hg, hl => by
    have ih := evE_ok go gs wo ws n
    have gk : ∀ k, GoodEs (sideE eo es k) := fun k => by unfold sideE; split <;> assumption
    have wk : ∀ k, ∀ e ∈ sideE eo es k, WorV e.2.2 := fun k => by unfold sideE; split <;> assumption
    cases e with
    | is x => cases h; exact ⟨hl, fun y e => by cases e; exact hg⟩
    | pl k nm ps =>
      rcases bindX_some h with ⟨w, e1, rfl⟩ | ⟨rf, l1, e1, h⟩
      · exact ⟨(evP_ok ih e1 hg.1 hg.2.2 hl).1, fun _ z => nomatch z⟩
      · have h1 := evP_ok ih e1 hg.1 hg.2.2 hl
        cases h
        exact ⟨h1.1, fun x e => worthE_txt (wk k) e⟩
    | nxt b k nm ps =>
      rcases bindX_some h with ⟨w, e1, rfl⟩ | ⟨rf, l1, e1, h⟩
      · exact ⟨(evP_ok ih e1 hg.1 hg.2.2 hl).1, fun _ z => nomatch z⟩
      · have h1 := evP_ok ih e1 hg.1 hg.2.2 hl
        split at h
        · cases h; exact ⟨h1.1, fun _ z => nomatch z⟩
        · cases h
          exact ⟨h1.1, fun x e => by cases e; exact nextV_txt (gk k) _ _ _ _⟩
    | data k nm ps =>
      rcases bindX_some h with ⟨w, e1, rfl⟩ | ⟨rf, l1, e1, h⟩
      · exact ⟨(evP_ok ih e1 hg.1 hg.2.2 hl).1, fun _ z => nomatch z⟩
      · have h1 := evP_ok ih e1 hg.1 hg.2.2 hl
        cases h
        refine ⟨h1.1, fun x e => ?_⟩
        cases e
        exact ⟨worth_int _, Nat.le_trans (data_len _ _) (by decide)⟩
    | oth k nm ps e =>
      rcases bindX_some h with ⟨w, e1, rfl⟩ | ⟨rf, l1, e1, h⟩
      · exact ⟨(evP_ok ih e1 hg.1.1 hg.1.2.2 hl).1, fun _ z => nomatch z⟩
      · have h1 := evP_ok ih e1 hg.1.1 hg.1.2.2 hl
        split at h
        · next x ex => cases h; exact ⟨h1.1, fun y e => by cases e; exact worthE_txt (wk k) ex⟩
        · exact ih e l1 r l' h hg.2 h1.1
    | op g a b => exact hg.elim
    | fn f as => exact hg.elim
end
end Sk
namespace Sk
open PySem PySem.Spec PyProof.Rows L2
def rdGetN1 (w : World) : V → List V → Hp → VK → Prop := fun x vs H Q => ∃ a b es r, x = .ref a ∧ vs = [.ref b] ∧ RefAt H (.ref b) (Prod.fst r) (Prod.snd r) ∧ NdRd w H a es ∧ Q ((ndGet es r).getD .non) H
theorem k_getN1 {X : Cx} (w : World) (hu : X.A.units + 64 < cLine) (ew : X.w = w := by rfl) : MtR X "dict.get" (rdGetN1 w) := by
  subst ew
  intro pins s σ H x vs v us Q I rx rv h
  obtain ⟨a, b, es, r, rfl, rfl, hr, hn, q⟩ := h
  cases rx
  obtain ⟨u1, rfl, r1⟩ := vals1 rv
  cases r1
  obtain ⟨z, l, n, xs, t, hx⟩ := nd_rd I.hok hn
  refine get_keyed (knd := nestedKind X.prog X.w) (kvs := pairsH xs) (show _ + 1 + 8 < _ by omega) (ref_key I.hok hr) z ⟨xs, hx, rfl⟩ ?_
  rw [valueAt_pairsH]
  have e := nt_get t r
  cases hg : ndGet es r with
  | some v =>
    rw [hg] at e q
    obtain ⟨u, hu2, ru⟩ := RelO.some_of e
    rw [hu2]
    exact ⟨v, H, I.tok _, ru, q⟩
  | none =>
    rw [hg] at e q
    rw [RelO.none_of e]
    exact ⟨.non, H, I.tok _, rfl, q⟩
theorem pairedAt {α β : Type} {F : α → β → Prop} : ∀ {xs : List α} {ys : List β}, Paired F xs ys → ∀ {i : Nat} {x : α}, xs[i]? = some x → ∃ y, ys[i]? = some y ∧ F x y
  | _, _, .nil, _, _, e => by simp at e
  | _, _, .cons h _, 0, _, e => by cases e; exact ⟨_, rfl, h⟩
  | _, _, .cons _ t, i + 1, x, e => pairedAt t (i := i) (x := x) (by simpa using e)
def hdP (k : PK) (nm : Str) (ls : Addr) : List V := match k with
  | .short => [.str (Str.ofString "short"), .ref ls]
  | k => [.str k.t, .str nm, .ref ls]
def PlG (F : Addr → Ex → Prop) (H : Hp) (t : Addr) (k : PK) (nm : Str) (ps : List Ex) : Prop := ∃ (ls : Addr) (us : List Addr), H t = some (.tup (hdP k nm ls)) ∧ H ls = some (.lst (us.map V.ref)) ∧ Paired F us ps
abbrev nxtW (b : Bool) : Str := if b then Str.ofString "back" else Str.ofString "order"
def ExAt (H : Hp) : Nat → Addr → Ex → Prop
  | 0, _, _ => False
  | n + 1, t, e => match e with
    | .is x => IsAt H t x
    | .pl k nm ps => PlG (ExAt H n) H t k nm ps
    | .nxt b k nm ps => ∃ p, H t = some (.tup [.str (nxtW b), .ref p]) ∧ PlG (ExAt H n) H p k nm ps
    | .data k nm ps => ∃ p, H t = some (.tup [.str (Str.ofString "data"), .ref p]) ∧ PlG (ExAt H n) H p k nm ps
    | .oth k nm ps e => ∃ p u, H t = some (.tup [.str (Str.ofString "other"), .ref p, .ref u]) ∧ PlG (ExAt H n) H p k nm ps ∧ ExAt H n u e
    | .op g a b => ∃ u v, H t = some (.tup [.str (Str.ofString "op"), .str g.t, .ref u, .ref v]) ∧ ExAt H n u a ∧ ExAt H n v b
    | .fn f as => ∃ us : List Addr, H t = some (.tup (.str f.t :: us.map V.ref)) ∧ Paired (ExAt H n) us as
/-- tuples and lists of references stay -/
def KeepE (H H' : Hp) : Prop := ∀ a o, H a = some o → ((∃ xs, o = .tup xs) ∨ ∃ us : List Addr, o = .lst (us.map V.ref)) → H' a = some o
theorem KeepE.refl (H : Hp) : KeepE H H := fun _ _ h _ => h
theorem KeepE.trans {H H1 H2 : Hp} (a : KeepE H H1) (b : KeepE H1 H2) : KeepE H H2 := fun c o h k => b c o (a c o h k) k
theorem KeepE.same {H H' : Hp} (s : Same H H') : KeepE H H' := fun _ _ h _ => s _ _ h
theorem KeepE.chg {H H' : Hp} {b : Addr} {o : HO} (c : Chg b H H') (e : H b = some o) (nt : ∀ xs, o ≠ .tup xs) (nl : ∀ us : List Addr, o ≠ .lst (us.map V.ref)) : KeepE H H' := fun a u h k => c _ _ (fun z => by
  subst z
  rw [h] at e
  cases e
  rcases k with ⟨xs, k⟩ | ⟨us, k⟩
  · exact nt xs k
  · exact nl us k) h
theorem KeepE.bag {H H' : Hp} {b : Addr} {N : Nat} (B : BagAt N b H) (c : Chg b H H') : KeepE H H' := by
  obtain ⟨x, y, z, e, _⟩ := B
  refine .chg c e (fun _ z => nomatch z) fun us z => ?_
  injection z with z
  cases us with
  | nil => cases z
  | cons u us => injection z with z _; cases z
theorem PlG.imp {F G : Addr → Ex → Prop} {H H' : Hp} {t : Addr} {k : PK} {nm : Str} {ps : List Ex} (h : PlG F H t k nm ps) (kp : KeepE H H') (i : ∀ a e, F a e → G a e) : PlG G H' t k nm ps := by
  obtain ⟨ls, us, h1, h2, h3⟩ := h
  exact ⟨ls, us, kp _ _ h1 (.inl ⟨_, rfl⟩), kp _ _ h2 (.inr ⟨_, rfl⟩), L2.Paired.mapP h3 fun _ _ => i _ _⟩
theorem ExAt.keep {H H' : Hp} (kp : KeepE H H') : ∀ {n : Nat} {t : Addr} {e : Ex}, ExAt H n t e → ExAt H' n t e
  | 0, _, _, h => h
  | n + 1, t, e, h => by
    have ih : ∀ a e, ExAt H n a e → ExAt H' n a e := fun a e h => ExAt.keep kp h
    have tp : ∀ {a : Addr} {xs : List V}, H a = some (.tup xs) → H' a = some (.tup xs) := fun h => kp _ _ h (.inl ⟨_, rfl⟩)
    cases e with
    | is x => exact tp h
    | pl k nm ps => exact PlG.imp h kp ih
    | nxt b k nm ps => obtain ⟨p, h1, h2⟩ := h; exact ⟨p, tp h1, PlG.imp h2 kp ih⟩
    | data k nm ps => obtain ⟨p, h1, h2⟩ := h; exact ⟨p, tp h1, PlG.imp h2 kp ih⟩
    | oth k nm ps e => obtain ⟨p, u, h1, h2, h3⟩ := h; exact ⟨p, u, tp h1, PlG.imp h2 kp ih, ih _ _ h3⟩
    | op g a b => obtain ⟨u, v, h1, h2, h3⟩ := h; exact ⟨u, v, tp h1, ih _ _ h2, ih _ _ h3⟩
    | fn f as => obtain ⟨us, h1, h2⟩ := h; exact ⟨us, tp h1, L2.Paired.mapP h2 fun _ _ => ih _ _⟩
theorem PlG.keep {H H' : Hp} {n : Nat} {t : Addr} {k : PK} {nm : Str} {ps : List Ex} (h : PlG (ExAt H n) H t k nm ps) (kp : KeepE H H') : PlG (ExAt H' n) H' t k nm ps := h.imp kp fun _ _ => ExAt.keep kp
theorem pers_chg {a : Addr} {o : HO} {H H' : Hp} (e : H a = some o) (m : Mob a o) (c : Chg a H H') : Pers [] H H' := ⟨fun x xs h => c _ _ (ne_of h e fun z => mob_tup m _ z.symm) h, (fun _ _ z => nomatch z), fun x o2 u h => c _ _ (ne_of h e fun z => mob_frz m _ _ z.symm) h⟩
theorem DlIn.setR {w : World} {C D : Addr} {U : List Rf} {J : List Int} {Bd : Nat} {H H' : Hp} {s : DlS} {R1 R2 : Mem} {a : Addr} {o o' : HO} (h : DlIn w C D U J Bd H s (R1 ++ (a, o) :: R2)) (c : Chg a H H') (e : H' a = some o') (m : Mob a o') : DlIn w C D U J Bd H' s (R1 ++ (a, o') :: R2) := by
  have q : Holds ((memOf w C D s ++ R1) ++ (a, o) :: R2) H := by simpa only [List.append_assoc] using h.hold
  obtain ⟨n1, n2⟩ := q.ne
  have q2 : Holds ((memOf w C D s ++ R1) ++ (a, o') :: R2) H' := ⟨by rw [List.map_append, List.map_cons]; have := q.nd; rwa [List.map_append, List.map_cons] at this, fun x hx => by
      rcases List.mem_append.mp hx with hx | hx
      · exact c _ _ (n1 x hx) (q.has x (List.mem_append_left _ hx))
      · rcases List.mem_cons.mp hx with rfl | hx
        · exact e
        · exact c _ _ (n2 x hx) (q.has x (List.mem_append_right _ (List.mem_cons_of_mem _ hx))), fun x hx => by
      rcases List.mem_append.mp hx with hx | hx
      · exact q.mob x (List.mem_append_left _ hx)
      · rcases List.mem_cons.mp hx with rfl | hx
        · exact m
        · exact q.mob x (List.mem_append_right _ (List.mem_cons_of_mem _ hx))⟩
  exact h.of (T := []) (pers_chg q.mid.1 q.mid.2 c) (by simpa only [List.append_assoc] using q2)
def scL (po g : Addr) (j : Int) (lv : V) : List (Str × V) := [(Str.ofString "own", .ref po), (Str.ofString "dealings", .ref g), (Str.ofString "job", .int j), (Str.ofString "latest", lv)]
structure V35 where
  sc : Addr
  dx : Addr
  po : Addr
  d0 : Addr
  j : Int
  s : DlS
  U : List Rf
  J : List Int
  Bd : Nat
  R : Mem
  eo : List Ent
section
variable (w : World) (cS cA cD : Addr)
def scO (v : V35) (lv : V) : HO := .ins cS v.dx (scL v.po v.s.g v.j lv)
/-- what a scene sees: its own nodes, the shared ones, the last reference; R: what stands beside -/
structure VwS (H : Hp) (v : V35) (lv : V) (l : Option Rf) : Prop where
  dl : DlIn w cA cD v.U v.J v.Bd H v.s ((v.sc, scO cS v lv) :: v.R)
  j0 : 0 ≤ v.j
  tc : ∀ i, tch v.s i = []
  ar : ArAt w cA H v.po v.d0 v.eo
  ge : GoodEs v.eo
  le : v.eo.length ≤ 1000
  wo : ∀ e ∈ v.eo, WorV e.2.2
  la : LastAt H lv l
end
def V35.side (v : V35) (k : PK) : List Ent := sideE v.eo v.s.es k
section
variable {w : World} {cS cA cD : Addr} {H H' : Hp} {v : V35} {lv : V} {l : Option Rf}
theorem VwS.at (h : VwS w cS cA cD H v lv l) : H v.sc = some (scO cS v lv) := h.dl.hold.get (List.mem_append_right _ List.mem_cons_self)
theorem VwS.lok (h : VwS w cS cA cD H v lv l) : LOk l := fun r e => by
  have := h.la
  subst e
  exact this.2
theorem VwS.same (h : VwS w cS cA cD H v lv l) (k : Same H H') : VwS w cS cA cD H' v lv l := ⟨h.dl.same k, h.j0, h.tc, h.ar.same k, h.ge, h.le, h.wo, h.la.same k⟩
theorem RefAt.chgT {H H' : Hp} {a b : Addr} {o : HO} {n : Str} {ks : List Str} (h : RefAt H (.ref b) n ks) (c : Chg a H H') (e : H a = some o) (no : ∀ xs, o ≠ .tup xs) : RefAt H' (.ref b) n ks := by
  obtain ⟨x, k, e1, h1, h2⟩ := h
  exact ⟨x, k, e1, c _ _ (ne_of h1 e fun z => no _ z.symm) h1, c _ _ (ne_of h2 e fun z => no _ z.symm) h2⟩
theorem LastAt.chgT {H H' : Hp} {a : Addr} {o : HO} {lv : V} {l : Option Rf} (h : LastAt H lv l) (c : Chg a H H') (e : H a = some o) (no : ∀ xs, o ≠ .tup xs) : LastAt H' lv l := by
  cases l with
  | none => exact h
  | some r =>
    obtain ⟨⟨x, k, e1, h1, h2⟩, h3⟩ := h
    exact ⟨⟨x, k, e1, c _ _ (ne_of h1 e fun z => no _ z.symm) h1, c _ _ (ne_of h2 e fun z => no _ z.symm) h2⟩, h3⟩
theorem ArAt.chgT {C : Addr} {a p d : Addr} {o : HO} {es : List Ent} (h : ArAt w C H p d es) (c : Chg a H H') (e : H a = some o) (no : ∀ xs, o ≠ .tup xs) (n1 : p ≠ a) (n2 : d ≠ a) : ArAt w C H' p d es := by
  obtain ⟨⟨dxp, ep⟩, en, rn⟩ := h
  exact ⟨⟨dxp, c _ _ n1 ep⟩, c _ _ n2 en, fun x hx => (rn x hx).chgT c e no⟩
/-- another last reference -/
theorem VwS.set (h : VwS w cS cA cD H v lv l) {lv' : V} {l' : Option Rf} (hl : LastAt H lv' l') : VwS w cS cA cD (upd H v.sc (scO cS v lv')) v lv' l' ∧ Chg v.sc H (upd H v.sc (scO cS v lv')) := by
  have e := h.at
  have c : Chg v.sc H (upd H v.sc (scO cS v lv')) := .upd
  have nt : ∀ xs, scO cS v lv ≠ .tup xs := fun xs z => nomatch z
  obtain ⟨⟨dxp, ep⟩, en, rn⟩ := h.ar
  refine ⟨⟨h.dl.setR (R1 := []) (R2 := v.R) c upd_same (.ins _ _ _), h.j0, h.tc, ⟨⟨dxp, c _ _ (ne_of ep e fun z => ?_) ep⟩, c _ _ (ne_of en e fun z => ?_) en, fun x hx => (rn x hx).chgT c e nt⟩, h.ge, h.le, h.wo, hl.chgT c e nt⟩, c⟩
  · injection z with _ _ z
    cases z
  · have z' : HO.ext _ = HO.ins cS v.dx (scL v.po v.s.g v.j lv) := z
    cases z'
theorem keep_sc (h : VwS w cS cA cD H v lv l) (c : Chg v.sc H H') : KeepE H H' := .chg c h.at (fun _ z => nomatch z) (fun _ z => nomatch z)
/-- a list beside the cells grows -/
theorem VwS.grow (h : VwS w cS cA cD H v lv l) {D : Addr} {xs ys : List V} (e : H D = some (.lst xs)) (n : ∀ x ∈ memOf w cA cD v.s ++ (v.sc, scO cS v lv) :: v.R, x.1 ≠ D) : VwS w cS cA cD (upd H D (.lst ys)) v lv l := by
  have c : Chg D H (upd H D (.lst ys)) := .upd
  have nt : ∀ zs, HO.lst xs ≠ .tup zs := fun _ z => nomatch z
  obtain ⟨⟨dxp, ep⟩, en, rn⟩ := h.ar
  refine ⟨h.dl.of (T := []) (pers_chg e (.lst _) c) (h.dl.hold.chg c fun hm => ?_), h.j0, h.tc, ⟨⟨dxp, c _ _ (ne_of ep e fun z => nomatch z) ep⟩, c _ _ (ne_of en e fun z => ?_) en, fun x hx => (rn x hx).chgT c e nt⟩, h.ge, h.le, h.wo, h.la.chgT c e nt⟩
  · obtain ⟨x, hx, z⟩ := List.mem_map.mp hm
    exact n x hx z
  · have z' : HO.ext _ = HO.lst xs := z
    cases z'
/-- the cells' addresses stay when the last reference changes -/
theorem cells_eq {lv lv' : V} : (memOf w cA cD v.s ++ (v.sc, scO cS v lv') :: v.R).map (·.1) = (memOf w cA cD v.s ++ (v.sc, scO cS v lv) :: v.R).map (·.1) := by
  rw [List.map_append, List.map_append]
  rfl
theorem cells_ne {lv lv' : V} {D : Addr} (n : ∀ x ∈ memOf w cA cD v.s ++ (v.sc, scO cS v lv) :: v.R, x.1 ≠ D) : ∀ x ∈ memOf w cA cD v.s ++ (v.sc, scO cS v lv') :: v.R, x.1 ≠ D := fun x hx z => by
  have hm : D ∈ (memOf w cA cD v.s ++ (v.sc, scO cS v lv') :: v.R).map (·.1) := List.mem_map.mpr ⟨x, hx, z⟩
  rw [cells_eq (lv := lv) (cS := cS)] at hm
  obtain ⟨y, hy, z⟩ := List.mem_map.mp hm
  exact n y hy z
end
section
variable (w : World) (cS cA cD CE : Addr)
/-- told, or an error with its word; the last reference is l' -/
def TellV (v : V35) (l' : Option Rf) (r : Except Str Str) (H : Hp) (Q : VK) (E : XK) : Prop := (∀ x, r = .ok x → ∀ H' lv', Chg v.sc H H' → VwS w cS cA cD H' v lv' l' → Q (.str x) H') ∧
  ∀ wd, r = .error wd → ∀ H' lv' d, Chg v.sc H H' → VwS w cS cA cD H' v lv' l' → H' d = some (.xd [(wordF, .str wd)]) → E (.ref CE) (some d) H'
def spRkE (n : Nat) : Sp := fun vs H Q E => ∃ (v : V35) (lv : V) (l l' : Option Rf) (t : Addr) (e : Ex) (r : Except Str Str), vs = [.ref v.sc, .ref t] ∧ VwS w cS cA cD H v lv l ∧ ExAt H n t e ∧ ExG n e ∧ evE v.eo v.s.es n e l = some (r, l') ∧ TellV w cS cA cD CE v l' r H Q E
/-- reckon: where it errs the last reference is as it was -/
def spReckE (n : Nat) : Sp := fun vs H Q E => ∃ (v : V35) (lv : V) (l l' : Option Rf) (t : Addr) (e : Ex) (r : Except Str Str), vs = [.ref v.sc, .ref t] ∧ VwS w cS cA cD H v lv l ∧ ExAt H n t e ∧ ExG n e ∧ evE v.eo v.s.es n e l = some (r, l') ∧
  (∀ x, r = .ok x → ∀ H' lv', Chg v.sc H H' → VwS w cS cA cD H' v lv' l' → Q (.str x) H') ∧ ∀ wd, r = .error wd → ∀ H' lv' d, Chg v.sc H H' → VwS w cS cA cD H' v lv' l → H' d = some (.xd [(wordF, .str wd)]) → E (.ref CE) (some d) H'
def PlTold (v : V35) (k : PK) (H : Hp) (l' : Option Rf) (rf : Rf) (Q : VK) : Prop := ∀ H' lv' p a, Chg v.sc H H' → VwS w cS cA cD H' v lv' l' → H' p = some (.tup [.bl (decide (k = .var)), .ref a]) → RefAt H' (.ref a) rf.1 rf.2 → Q (.ref p) H'
def spPlE (n : Nat) : Sp := fun vs H Q E => ∃ (v : V35) (lv : V) (l l' : Option Rf) (t : Addr) (em : Bool) (k : PK) (nm : Str) (ps : List Ex) (r : Except Str Rf), vs = [.ref v.sc, .ref t, .bl em] ∧ VwS w cS cA cD H v lv l ∧ PlG (ExAt H n) H t k nm ps ∧ (k ≠ .short → NameS nm) ∧ ps.length ≤ 100 ∧ (∀ p ∈ ps, ExG n p) ∧
  evP (evE v.eo v.s.es n) em k nm ps l = some (r, l') ∧ (∀ rf, r = .ok rf → PlTold w cS cA cD v k H l' rf Q) ∧ ∀ wd, r = .error wd → ∀ H' lv' d, Chg v.sc H H' → VwS w cS cA cD H' v lv' l' → H' d = some (.xd [(wordF, .str wd)]) → E (.ref CE) (some d) H'
/-- place: where it errs the last reference is as it was -/
def spPlaceE (n : Nat) : Sp := fun vs H Q E => ∃ (v : V35) (lv : V) (l l' : Option Rf) (t : Addr) (em : Bool) (k : PK) (nm : Str) (ps : List Ex) (r : Except Str Rf), vs = [.ref v.sc, .ref t, .bl em] ∧ VwS w cS cA cD H v lv l ∧ PlG (ExAt H n) H t k nm ps ∧ (k ≠ .short → NameS nm) ∧ ps.length ≤ 100 ∧ (∀ p ∈ ps, ExG n p) ∧
  evP (evE v.eo v.s.es n) em k nm ps l = some (r, l') ∧ (∀ rf, r = .ok rf → PlTold w cS cA cD v k H l' rf Q) ∧ ∀ wd, r = .error wd → ∀ H' lv' d, Chg v.sc H H' → VwS w cS cA cD H' v lv' l → H' d = some (.xd [(wordF, .str wd)]) → E (.ref CE) (some d) H'
def spNextE (n : Nat) : Sp := fun vs H Q E => ∃ (v : V35) (lv : V) (l l' : Option Rf) (t : Addr) (b : Bool) (k : PK) (nm : Str) (ps : List Ex) (r : Except Str Str), vs = [.ref v.sc, .ref t, .bl b] ∧ VwS w cS cA cD H v lv l ∧ PlG (ExAt H n) H t k nm ps ∧ (k ≠ .short → NameS nm) ∧ ps.length ≤ 100 ∧ (∀ p ∈ ps, ExG n p) ∧
  evE v.eo v.s.es (n + 1) (.nxt b k nm ps) l = some (r, l') ∧ TellV w cS cA cD CE v l' r H Q E
def spWorthAt : Sp := fun vs H Q _ => ∃ (v : V35) (lv : V) (l : Option Rf) (p a : Addr) (k : PK) (r : Rf), vs = [.ref v.sc, .ref p] ∧ VwS w cS cA cD H v lv l ∧ H p = some (.tup [.bl (decide (k = .var)), .ref a]) ∧ RefAt H (.ref a) r.1 r.2 ∧ RefS r.1 r.2 ∧ ∀ H', Same H H' → Q ((ndGet (v.side k) r).getD .non) H'
def spScLast : Sp := fun vs H Q _ => ∃ (v : V35) (lv : V) (l : Option Rf), vs = [.ref v.sc] ∧ VwS w cS cA cD H v lv l ∧ Q lv H
end
section
variable {w : World} {cS cA cD CE : Addr} {K : PySem.W.Frag} {σ : L2.St}
theorem lc_ev {te : TE} {k n : Nat} {H1 : Hp} {D a : Addr} {us : List Addr} {ps : List Ex} {v : V35} {lv : V} {l l' : Option Rf} {R : Except Str (List Str)} {E : XK} {Qd : Hp → Prop} (hD : H1 D = none) (hn : us.length ≤ 100000) (hv : VwS w cS cA cD H1 v lv l) (ha : H1 a = some (.lst (us.map V.ref)))
    (hx : Paired (ExAt H1 n) us ps) (hg : ∀ p ∈ ps, ExG n p) (hR : evAll (evE v.eo v.s.es n) ps l = some (R, l'))
    (he : ∀ (u : Addr) (e : Ex) (H2 : Hp) (lv2 : V) (l2 l3 : Option Rf) (r : Except Str Str) (Q : VK), VwS w cS cA cD H2 v lv2 l2 → ExAt H2 n u e → ExG n e → evE v.eo v.s.es n e l2 = some (r, l3) → TellV w cS cA cD CE v l3 r H2 Q E → te ((wipe σ [k]).set k (some (.ref u))) H2 Q)
    (hok : ∀ ks, R = .ok ks → ∀ H2 lv2, Chg v.sc H1 H2 → VwS w cS cA cD H2 v lv2 l' → H2 D = some (.lst (ks.map V.str)) → Qd H2)
    (herr : ∀ wd, R = .error wd → ∀ H2 lv2 d, Chg v.sc H1 H2 → VwS w cS cA cD H2 v lv2 l' → H2 d = some (.xd [(wordF, .str wd)]) → E (.ref CE) (some d) H2) :
    ∃ W : Nat → Nat → Hp → Prop, (∃ m, W 0 m (upd H1 D (.lst []))) ∧ ∀ i m H, W i m H →
      ((Itl K a).stop i H ∧ Qd H) ∨ ((Itl K a).go i H ∧ ∃ Nx : Hp → Prop, (∀ H', Nx H' → ∃ m', m' < m ∧ W (i + 1) m' H') ∧ ∀ x H', (Itl K a).yld i H x H' → gName k x (wipe σ [k]) H' fun σ2 H2 => wipe σ2 [k] = wipe σ [k] ∧ tYes σ2 H2 fun b H3 =>
        if b = true then te σ2 H3 fun y H4 => ∃ acc, H4 D = some (.lst acc) ∧ acc.length < sizeLine ∧ Nx (upd H4 D (.lst (acc ++ [y]))) else Nx H3) := by
  have nD : ∀ x ∈ memOf w cA cD v.s ++ (v.sc, scO cS v lv) :: v.R, x.1 ≠ D := hv.dl.hold.fresh hD
  have nsD : v.sc ≠ D := nD _ (List.mem_append_right _ List.mem_cons_self)
  have wk := walk_itl (K := K) (its := us) (a := a) fun e => V.ref e
  have lup : us.length = ps.length := Paired.length hx
  refine lc_it wk (fun i H => Chg v.sc H1 H ∧ ∃ (ks : List Str) (lv2 : V) (l2 : Option Rf), ks.length = i ∧ H D = some (.lst (ks.map V.str)) ∧ VwS w cS cA cD H v lv2 l2 ∧ (bindX (evAll (evE v.eo v.s.es n) (ps.drop i) l2) fun xs l3 => some (.ok (ks ++ xs), l3)) = some (R, l')) ?_ (fun i H _ h => .inl (.inl (h.1 _ _ (ne_of ha hv.at fun z => nomatch z) ha))) ?_ ?_
  · refine ⟨.same (same_new hD), [], lv, l, rfl, upd_same, hv.same (same_new hD), ?_⟩
    rw [List.drop_zero, hR]
    cases R <;> rfl
  · rintro i x H0 Ha hi ⟨ca, ks, lv2, l2, hl, eD, hva, hev⟩ ⟨u, hu, rfl, rfl⟩
    refine ⟨wipe1, ?_⟩
    dsimp only [tYes]
    rw [if_pos rfl]
    obtain ⟨p, hp, hup⟩ : ∃ p, ps[i]? = some p ∧ ExAt H1 n u p := pairedAt hx hu
    have hip : i < ps.length := by omega
    have epd : ps.drop i = p :: ps.drop (i + 1) := by
      rw [List.drop_eq_getElem_cons hip]
      rw [List.getElem?_eq_getElem hip] at hp
      injection hp with hp
      rw [hp]
    rw [epd] at hev
    have mp : p ∈ ps := List.mem_of_getElem? hp
    have kp : KeepE H1 Ha := keep_sc hv ca
    have tot : ∃ r l3, evE v.eo v.s.es n p l2 = some (r, l3) ∧ (∀ wd, r = .error wd → R = .error wd ∧ l3 = l') ∧ ∀ y, r = .ok y → (bindX (evAll (evE v.eo v.s.es n) (ps.drop (i + 1)) l3) fun xs l4 => some (.ok (ks ++ [y] ++ xs), l4)) = some (R, l') := by
      rcases bindX_some hev with ⟨wd, h1, rfl⟩ | ⟨xs, l4, h1, h2⟩
      · rcases evAll_cons h1 with ⟨w2, h3, h4⟩ | ⟨y, l3, h3, h4⟩
        · cases h4
          exact ⟨_, _, h3, fun wd e => by cases e; exact ⟨rfl, rfl⟩, fun y e => nomatch e⟩
        · refine ⟨_, _, h3, (fun wd e => nomatch e), fun y2 e => ?_⟩
          cases e
          rcases h4 with ⟨w2, h5, h6⟩ | ⟨xs, h5, h6⟩
          · cases h6
            rw [h5]; rfl
          · cases h6
      · cases h2
        rcases evAll_cons h1 with ⟨w2, h3, h4⟩ | ⟨y, l3, h3, h4⟩
        · cases h4
        · refine ⟨_, _, h3, (fun wd e => nomatch e), fun y2 e => ?_⟩
          cases e
          rcases h4 with ⟨w2, h5, h6⟩ | ⟨xs2, h5, h6⟩
          · cases h6
          · cases h6
            rw [h5]
            show some (Except.ok (ks ++ [y] ++ xs2), l') = _
            rw [List.append_assoc]; rfl
    obtain ⟨r, l3, hr, hre, hro⟩ := tot
    refine he u p Ha lv2 l2 l3 r _ hva (hup.keep kp) (hg p mp) hr ⟨fun y e Hc lvc cc hvc => ?_, fun wd e Hc lvc d cc hvc hd => ?_⟩
    · have eDc := cc _ _ nsD.symm eD
      have gr := hvc.grow (ys := ks.map V.str ++ [.str y]) eDc (cells_ne nD)
      have lks : ks.length ≤ 100000 := by omega
      refine ⟨ks.map V.str, eDc, by rw [List.length_map]; exact Evl.sz_lt (by omega), fun c o nc e => ?_, ks ++ [y], lvc, l3, by rw [List.length_append, List.length_singleton]; omega, by rw [upd_same, List.map_append]; rfl, gr, hro y e⟩
      rw [upd_ne (fun z => by rw [z, hD] at e; cases e)]
      exact cc _ _ nc (ca _ _ nc e)
    · obtain ⟨e1, e2⟩ := hre wd e
      subst e2
      exact herr wd e1 Hc lvc d (ca.trans cc) hvc hd
  · rintro H2 ⟨c2, ks, lv2, l2, hl, eD, hv2, hev⟩
    rw [List.drop_of_length_le (by omega)] at hev
    have hev2 : some ((Except.ok (ks ++ []) : Except Str (List Str)), l2) = some (R, l') := hev
    rw [List.append_nil] at hev2
    cases hev2
    exact hok ks rfl H2 lv2 c2 hv2 eD
end
end Sk
namespace Sk
open PySem PySem.Spec PyProof.Rows L2
/-- len of a text, a list or a tuple -/
def rLenX (K : PySem.W.Frag) : List V → Hp → VK → Prop := fun xs H Q => Evl.rLenS K xs H Q ∨ ∃ z : Str, xs = [.str z] ∧ z.length ≤ sizeLine ∧ Q (.int z.length) H
theorem k_lenX {X : Cx} (K : PySem.W.Frag) (e : X.K = K := by rfl) : CallR X (.builtin "len") (rLenX K) := (k_len K e).or call_len_str
/-- how many may stand within one another -/
abbrev fuelN : Nat := 12
section
variable {K : PySem.W.Frag} {H : Hp} {Q : VK}
theorem tup_no_str {x : Str} (q : Q (.bl false) H) : rIsi K [.str x, .ty "tuple"] H Q := ⟨.str x, .ty "tuple", _, _, _, rfl, .ty "tuple", (Rd.str x).ty, kit_inst (d := .str x) (T := "tuple") (by decide), q⟩
theorem tup_no_lst {a : Addr} {xs : List V} (e : H a = some (.lst xs)) (q : Q (.bl false) H) : rIsi K [.ref a, .ty "tuple"] H Q := ⟨.ref a, .ty "tuple", _, _, _, rfl, .ty "tuple", .base (.lst e), kit_inst (d := .list []) (T := "tuple") (by decide), q⟩
theorem tup_yes {a : Addr} {xs : List V} (e : H a = some (.tup xs)) (q : Q (.bl true) H) : rIsi K [.ref a, .ty "tuple"] H Q := ⟨.ref a, .ty "tuple", _, _, _, rfl, .ty "tuple", .base (.tup e), kit_inst (d := .tuple []) (T := "tuple") (by decide), q⟩
end
abbrev KX (x : String) : L2.Key := .inr (Str.ofString x)
abbrev recM (x1 x2 x3 : V) : List (L2.Key × V) := [(KX "own", x1), (KX "shared", x2), (KX "last", x3)]
theorem kx12 : decide (KX "own" = KX "shared") = false := by decide +kernel
theorem kx13 : decide (KX "own" = KX "last") = false := by decide +kernel
theorem kx23 : decide (KX "shared" = KX "last") = false := by decide +kernel
theorem gx_own {x y z : V} : valV (recM x y z) (KX "own") = some x := by
  unfold valV
  rw [List.find?_cons_of_pos (by exact decide_eq_true rfl)]
  rfl
theorem gx_shared {x y z : V} : valV (recM x y z) (KX "shared") = some y := by
  unfold valV
  rw [List.find?_cons_of_neg (by rw [kx12]; exact Bool.false_ne_true), List.find?_cons_of_pos (by exact decide_eq_true rfl)]
  rfl
theorem gx_last {x y z : V} : valV (recM x y z) (KX "last") = some z := by
  unfold valV
  rw [List.find?_cons_of_neg (by rw [kx13]; exact Bool.false_ne_true), List.find?_cons_of_neg (by rw [kx23]; exact Bool.false_ne_true), List.find?_cons_of_pos (by exact decide_eq_true rfl)]
  rfl
theorem px_last {x y z v : V} : putK (recM x y z) (KX "last") v = recM x y v := by
  unfold putK
  rw [if_pos (by
    rw [List.any_cons, List.any_cons, List.any_cons]
    show (_ || (_ || (decide (KX "last" = KX "last") || _))) = true
    rw [decide_eq_true rfl, Bool.true_or, Bool.or_true, Bool.or_true])]
  simp only [List.map_cons, List.map_nil]
  rw [if_neg (of_decide_eq_false kx13), if_neg (of_decide_eq_false kx23), if_pos True.intro]
structure UW where
  m : Addr
  mo : Addr
  ms : Addr
  eo : List Ent
  es : List Ent
def UW.side (u : UW) (k : PK) : List Ent := sideE u.eo u.es k
structure LwS (w : World) (H : Hp) (u : UW) (lv : V) (l : Option Rf) : Prop where
  em : H u.m = some (.dK (recM (.ref u.mo) (.ref u.ms) lv))
  no : NdAt w H u.mo u.eo
  ns : NdAt w H u.ms u.es
  go : GoodEs u.eo
  gs : GoodEs u.es
  lo : u.eo.length ≤ 1000
  ls : u.es.length ≤ 1000
  wo : ∀ e ∈ u.eo, WorV e.2.2
  ws : ∀ e ∈ u.es, WorV e.2.2
  la : LastAt H lv l
section
variable {w : World} {H H' : Hp} {u : UW} {lv : V} {l : Option Rf}
theorem LwS.lok (h : LwS w H u lv l) : LOk l := fun r e => by
  have := h.la
  subst e
  exact this.2
theorem NdAt.chgT {a d : Addr} {o : HO} {es : List Ent} (h : NdAt w H d es) (c : Chg a H H') (e : H a = some o) (no : ∀ xs, o ≠ .tup xs) (n : d ≠ a) : NdAt w H' d es := ⟨c _ _ n h.1, fun x hx => (h.2 x hx).chgT c e no⟩
theorem NdAt.sameN {d : Addr} {es : List Ent} (h : NdAt w H d es) (s : Same H H') : NdAt w H' d es := ⟨s _ _ h.1, fun x hx => (h.2 x hx).same s⟩
theorem LwS.same (h : LwS w H u lv l) (s : Same H H') : LwS w H' u lv l := ⟨s _ _ h.em, h.no.sameN s, h.ns.sameN s, h.go, h.gs, h.lo, h.ls, h.wo, h.ws, h.la.same s⟩
/-- another cell, of another kind -/
theorem LwS.chg (h : LwS w H u lv l) {a : Addr} {o : HO} (c : Chg a H H') (e : H a = some o) (nt : ∀ xs, o ≠ .tup xs) (nd : ∀ xs, o ≠ .dK xs) (nn : ∀ b es, o ≠ ndO w b es) : LwS w H' u lv l :=
  ⟨c _ _ (ne_of h.em e fun z => nd _ z.symm) h.em, h.no.chgT c e nt (ne_of h.no.1 e fun z => nn _ _ z.symm), h.ns.chgT c e nt (ne_of h.ns.1 e fun z => nn _ _ z.symm), h.go, h.gs, h.lo, h.ls, h.wo, h.ws, h.la.chgT c e nt⟩
theorem LwS.set (h : LwS w H u lv l) {lv' : V} {l' : Option Rf} (hl : LastAt H lv' l') : LwS w (upd H u.m (.dK (recM (.ref u.mo) (.ref u.ms) lv'))) u lv' l' := by
  have e := h.em
  have c : Chg u.m H (upd H u.m (.dK (recM (.ref u.mo) (.ref u.ms) lv'))) := .upd
  have nt : ∀ xs, HO.dK (recM (.ref u.mo) (.ref u.ms) lv) ≠ .tup xs := fun _ z => nomatch z
  exact ⟨upd_same, h.no.chgT c e nt (ne_of h.no.1 e fun z => nomatch z), h.ns.chgT c e nt (ne_of h.ns.1 e fun z => nomatch z), h.go, h.gs, h.lo, h.ls, h.wo, h.ws, hl.chgT c e nt⟩
theorem keep_m (h : LwS w H u lv l) (c : Chg u.m H H') : KeepE H H' := .chg c h.em (fun _ z => nomatch z) (fun _ z => nomatch z)
theorem LwS.nd (h : LwS w H u lv l) (k : PK) : ∃ d, d = (if k = .var then u.mo else u.ms) ∧ NdAt w H d (u.side k) ∧ GoodEs (u.side k) ∧ (u.side k).length ≤ 1000 ∧ ∀ e ∈ u.side k, WorV e.2.2 := by
  unfold UW.side sideE
  split
  · exact ⟨_, rfl, h.no, h.go, h.lo, h.wo⟩
  · exact ⟨_, rfl, h.ns, h.gs, h.ls, h.ws⟩
end
section
variable (w : World)
/-- a text, or a tuple with the error's word -/
def SaidV (u : UW) (l' : Option Rf) (r : Except Str Str) (H : Hp) (Q : VK) : Prop := (∀ x, r = .ok x → ∀ H' lv', Chg u.m H H' → LwS w H' u lv' l' → Q (.str x) H') ∧
  ∀ wd, r = .error wd → ∀ H' lv' p, Chg u.m H H' → LwS w H' u lv' l' → H' p = some (.tup [.str wd]) → Q (.ref p) H'
def spLTold (n : Nat) : Sp := fun vs H Q _ => ∃ (u : UW) (lv : V) (l l' : Option Rf) (t : Addr) (e : Ex) (r : Except Str Str), vs = [.ref u.m, .ref t] ∧ LwS w H u lv l ∧ ExAt H n t e ∧ ExG n e ∧ evE u.eo u.es n e l = some (r, l') ∧ SaidV w u l' r H Q
def spLPlace (n : Nat) : Sp := fun vs H Q _ => ∃ (u : UW) (lv : V) (l l' : Option Rf) (t : Addr) (em : Bool) (k : PK) (nm : Str) (ps : List Ex) (r : Except Str Rf), vs = [.ref u.m, .ref t, .bl em] ∧ LwS w H u lv l ∧ PlG (ExAt H n) H t k nm ps ∧ (k ≠ .short → NameS nm) ∧ ps.length ≤ 100 ∧ (∀ p ∈ ps, ExG n p) ∧
  evP (evE u.eo u.es n) em k nm ps l = some (r, l') ∧ (∀ rf, r = .ok rf → ∀ H' lv' p a, Chg u.m H H' → LwS w H' u lv' l' → H' p = some (.lst [.bl (decide (k = .var)), .ref a]) → RefAt H' (.ref a) rf.1 rf.2 → Q (.ref p) H') ∧
  ∀ wd, r = .error wd → ∀ H' lv' p, Chg u.m H H' → LwS w H' u lv' l' → H' p = some (.tup [.str wd]) → Q (.ref p) H'
/-- order, back, data, other of a place -/
def isOfP : Ex → Bool
  | .nxt .. => true
  | .data .. => true
  | .oth .. => true
  | _ => false
def spLOfP (n : Nat) : Sp := fun vs H Q _ => ∃ (u : UW) (lv : V) (l l' : Option Rf) (t : Addr) (e : Ex) (r : Except Str Str), vs = [.ref u.m, .ref t] ∧ isOfP e = true ∧ LwS w H u lv l ∧ ExAt H (n + 1) t e ∧ ExG (n + 1) e ∧ evE u.eo u.es (n + 1) e l = some (r, l') ∧ SaidV w u l' r H Q
/-- the law's due: where it errs the last reference is as it was -/
def spLDue (n : Nat) : Sp := fun vs H Q _ => ∃ (u : UW) (lv : V) (l l' : Option Rf) (t : Addr) (e : Ex) (r : Except Str Str), vs = [.ref u.m, .ref t] ∧ LwS w H u lv l ∧ ExAt H n t e ∧ ExG n e ∧ evE u.eo u.es n e l = some (r, l') ∧
  (∀ x, r = .ok x → ∀ H' lv', Chg u.m H H' → LwS w H' u lv' l' → Q (.str x) H') ∧ ∀ wd, r = .error wd → ∀ H' lv' p, Chg u.m H H' → LwS w H' u lv' l → H' p = some (.tup [.str wd]) → Q (.ref p) H'
def spLNext : Sp := fun vs H Q _ => ∃ (m a : Addr) (es : List Ent) (n : Str) (ks : List Str) (last : Str) (b : Bool), vs = [.ref m, .ref a, .bl b] ∧ NdAt w H m es ∧ GoodEs es ∧ es.length ≤ 1000 ∧ RefAt H (.ref a) n (ks ++ [last]) ∧ OrdS n ks last ∧ ∀ H' z, Same H H' → IsNext (behOf es n ks) last b z → Q (.str z) H'
def spLData : Sp := fun vs H Q _ => ∃ (m a : Addr) (es : List Ent) (r : Rf), vs = [.ref m, .ref a] ∧ NdAt w H m es ∧ GoodEs es ∧ es.length ≤ 1000 ∧ RefAt H (.ref a) r.1 r.2 ∧ RefS r.1 r.2 ∧ ∀ H', Same H H' → Q (.str (intS (dataN es r))) H'
end
theorem walk_ndY {w : World} {d : Addr} {o : Obj} {es : List Ent} : Walk (Itn w d o es) es.length (fun H => H d = some (.frz o (ndO w d es))) (fun i H x H' => ∃ e, es[i]? = some e ∧ (H' = H ∧ x = .ref e.2.1)) :=
  walk_nd.mono (fun _ h => h) fun i H x H' _ _ ⟨h1, en, h2, h3⟩ => ⟨en, h2, h1, h3⟩
end Sk
namespace Sk
open PySem PySem.Spec PyProof.Rows L2
def spNo : Sp := fun _ _ _ _ => False
theorem fn_no {P : Program} {w : World} {K : PySem.W.Frag} {mg : Str → Option Value} {base : Heap} {CX : CXT} {k : Nat} {f : Addr} {fd : FuncData} {ps : List Str} : FnOk P w K mg base CX k f fd ps spNo := ⟨fun _ _ _ _ h => h.elim, fun _ _ _ _ _ _ _ _ _ _ _ _ _ h => h.elim⟩
def spWorW : Sp := fun vs H Q _ => ∃ (b : Addr) (N : Nat), vs = [.ref b] ∧ N < 2 ^ 48 ∧ BagAt N b H ∧ ∀ H' x, Chg b H H' → BagAt (N + 4010) b H' → x.length ≤ 80 → WorthS x → Q (.str x) H'
section
variable (w : World) (C : Addr)
def spFilledE : Sp := fun vs H Q _ => ∃ (b p l1 l2 po d : Addr) (ns ks : List Str) (N : Nat), vs = [.ref b, .ref p, .ref po] ∧ N < 2 ^ 47 ∧ BagAt N b H ∧ PoolL H p l1 l2 ns ks ∧ ArAt w C H po d [] ∧
  ∀ H' D es, (∀ a o, H a = some o → a ≠ b → a ≠ d → H' a = some o) → BagAt (N + 100000) b H' → ArAt w C H' po d es → NdAt w H' D es → H D = none → GoodEs es → (∀ e ∈ es, WorV e.2.2) → es.length ≤ 12 → Q (.ref D) H'
end
section
variable (w : World) (cS cA cD : Addr)
def spSaidE (n : Nat) : Sp := fun vs H Q _ => ∃ (v : V35) (lv : V) (l l' : Option Rf) (t : Addr) (e : Ex) (r : Except Str Str), vs = [.ref v.sc, .ref t] ∧ VwS w cS cA cD H v lv l ∧ ExAt H n t e ∧ ExG n e ∧ evE v.eo v.s.es n e l = some (r, l') ∧
  (∀ x, r = .ok x → ∀ H' lv', Chg v.sc H H' → VwS w cS cA cD H' v lv' l' → Q (.str x) H') ∧ ∀ wd, r = .error wd → ∀ H' lv' p, Chg v.sc H H' → VwS w cS cA cD H' v lv' l → H' p = some (.tup [.str wd]) → Q (.ref p) H'
end
end Sk
namespace Sk
open PySem PySem.Spec PyProof.Rows L2
open LamX (Tabs CodeO)
section
variable {es es' eo eo' : List Ent}
theorem map_pr_below (h : es.map pr = es'.map pr) (r : Rf) : (ndBelow es r.1 r.2).map pr = (ndBelow es' r.1 r.2).map pr := by rw [below_pr, below_pr, h]
theorem beh_same (h : es.map pr = es'.map pr) (n : Str) (ks : List Str) : behOf es n ks = behOf es' n ks := by
  have key : ∀ E : List Ent, behOf E n ks = (((pBelow (E.map pr) (n, ks)).filter fun x => decide (ks.length < x.1.2.length)).map fun x => x.1.2.getD ks.length (Str.ofString "")) := fun E => by
    unfold behOf
    rw [← below_pr E (n, ks), List.filter_map, List.map_map]
    rfl
  rw [key, key, h]
theorem get_same (h : es.map pr = es'.map pr) (r : Rf) : ndGet es r = ndGet es' r := by rw [get_pr, get_pr, h]
theorem data_same (h : es.map pr = es'.map pr) (r : Rf) : dataN es r = dataN es' r := by
  have l := congrArg List.length (map_pr_below h r)
  rw [List.length_map, List.length_map] at l
  unfold dataN ownN
  rw [get_same h]
  simp only [List.length_map, l]
theorem worth_same (h : es.map pr = es'.map pr) (r : Rf) : worthE es r = worthE es' r := by unfold worthE; rw [get_same h]
theorem next_same (h : es.map pr = es'.map pr) (n : Str) (ks : List Str) (x : Str) (b : Bool) : nextV es n ks x b = nextV es' n ks x b := by unfold nextV; rw [beh_same h]
theorem side_same (ho : eo.map pr = eo'.map pr) (hs : es.map pr = es'.map pr) (k : PK) : (sideE eo es k).map pr = (sideE eo' es' k).map pr := by
  unfold sideE
  split
  · exact ho
  · exact hs
theorem evE_same (ho : eo.map pr = eo'.map pr) (hs : es.map pr = es'.map pr) : ∀ n, evE eo es n = evE eo' es' n
  | 0 => rfl
  | n + 1 => by
    have ih := evE_same ho hs n
    funext e l
    have sd := side_same ho hs
    cases e with
    | is x => rfl
    | pl k nm ps => unfold evE; simp only [ih, worth_same (sd k)]
    | nxt b k nm ps => unfold evE; simp only [ih, next_same (sd k)]
    | data k nm ps => unfold evE; simp only [ih, data_same (sd k)]
    | oth k nm ps e => unfold evE; simp only [ih, worth_same (sd k)]
    | op g a b => unfold evE; simp only [ih]
    | fn f as => unfold evE; simp only [ih]
end
def recS (sc m g : Addr) : List (Key × V) := [(KX "scene", .ref sc), (KX "m", .ref m), (KX "dealings", .ref g)]
structure Xt where
  dpo : Addr
  ss : Addr
  M : Mem
section
variable (w : World) (cS cA cD : Addr)
def rest35 (v : V35) (u : UW) (lu : V) (X : Xt) : Mem := (v.po, .ins cA X.dpo [(Str.ofString "nodes", .ref v.d0)]) :: (v.d0, ndO w v.d0 v.eo) :: (u.m, .dK (recM (.ref u.mo) (.ref u.ms) lu)) :: (u.mo, ndO w u.mo u.eo) :: (u.ms, ndO w u.ms u.es) :: (X.ss, .dK (recS v.sc u.m v.s.g)) :: X.M
structure S35 (H : Hp) (v : V35) (u : UW) (lv lu : V) (l1 l2 : Option Rf) (X : Xt) : Prop where
  vw : VwS w cS cA cD H v lv l1
  lw : LwS w H u lu l2
  rs : v.R = rest35 w cA v u lu X
  eo : v.eo.map pr = u.eo.map pr
  es : v.s.es.map pr = u.es.map pr
  jj : v.J = [0]
  j0 : v.j = 0
end
section
variable {w : World} {cS cA cD : Addr} {H H' : Hp} {v : V35} {u : UW} {lv lu lv' lu' : V} {l1 l2 l' : Option Rf} {X : Xt}
theorem S35.hold (h : S35 w cS cA cD H v u lv lu l1 l2 X) : Holds (memOf w cA cD v.s ++ (v.sc, scO cS v lv) :: rest35 w cA v u lu X) H := by
  have := h.vw.dl.hold
  rw [h.rs] at this
  exact this
theorem S35.ess (h : S35 w cS cA cD H v u lv lu l1 l2 X) : H X.ss = some (.dK (recS v.sc u.m v.s.g)) := h.hold.get (List.mem_append_right _ (.tail _ (.tail _ (.tail _ (.tail _ (.tail _ (.tail _ List.mem_cons_self)))))))
theorem S35.has (h : S35 w cS cA cD H v u lv lu l1 l2 X) {a : Addr} {o : HO} (m : (a, o) ∈ X.M) : H a = some o := h.hold.get (List.mem_append_right _ (.tail _ (.tail _ (.tail _ (.tail _ (.tail _ (.tail _ (.tail _ m))))))))
theorem S35.ev (h : S35 w cS cA cD H v u lv lu l1 l2 X) (n : Nat) : evE v.eo v.s.es n = evE u.eo u.es n := evE_same h.eo h.es n
theorem S35.same (h : S35 w cS cA cD H v u lv lu l1 l2 X) (s : Same H H') : S35 w cS cA cD H' v u lv lu l1 l2 X := ⟨h.vw.same s, h.lw.same s, h.rs, h.eo, h.es, h.jj, h.j0⟩
/-- the scene's last reference changed -/
theorem S35.scene (h : S35 w cS cA cD H v u lv lu l1 l2 X) (c : Chg v.sc H H') (hv : VwS w cS cA cD H' v lv' l') : S35 w cS cA cD H' v u lv' lu l' l2 X :=
  ⟨hv, h.lw.chg c h.vw.at (fun _ z => nomatch z) (fun _ z => nomatch z) (fun b es z => nomatch z), h.rs, h.eo, h.es, h.jj, h.j0⟩
/-- the law's last reference changed -/
theorem S35.law (h : S35 w cS cA cD H v u lv lu l1 l2 X) (c : Chg u.m H H') (hl : LwS w H' u lu' l') : S35 w cS cA cD H' { v with R := rest35 w cA v u lu' X } u lv lu' l1 l' X := by
  have e := h.lw.em
  have nt : ∀ xs, HO.dK (recM (.ref u.mo) (.ref u.ms) lu) ≠ .tup xs := fun _ z => nomatch z
  have dl := h.vw.dl
  rw [h.rs] at dl
  obtain ⟨⟨dxp, ep⟩, en, rn⟩ := id h.vw.ar
  exact ⟨⟨dl.setR (R1 := [(v.sc, scO cS v lv), (v.po, .ins cA X.dpo [(Str.ofString "nodes", .ref v.d0)]), (v.d0, ndO w v.d0 v.eo)]) c hl.em (.dK _), h.vw.j0, h.vw.tc, h.vw.ar.chgT c e nt (ne_of ep e fun z => nomatch z) (ne_of en e fun z => nomatch z), h.vw.ge, h.vw.le, h.vw.wo, h.vw.la.chgT c e nt⟩, hl, rfl, h.eo, h.es, h.jj, h.j0⟩
/-- the shared nodes changed, in both -/
theorem S35.deal (h : S35 w cS cA cD H v u lv lu l1 l2 X) {T : List (Addr × Str)} {H1 : Hp} {U' : List Rf} {Bd' : Nat} {s' : DlS} {es2 : List Ent} (kt : Pers T H H1) (F : Fix v.s s') (D : DlIn w cA cD U' v.J Bd' H1 s' ((v.sc, scO cS v lv) :: v.R)) (tc : ∀ i, tch s' i = []) (c : Chg u.ms H1 H') (e : H' u.ms = some (ndO w u.ms es2)) (g : GoodEs es2) (le : es2.length ≤ 1000) (wo : ∀ e ∈ es2, WorV e.2.2) (refs : ∀ e ∈ es2, RefAt H' (.ref e.2.1) e.1.1 e.1.2) (eq : s'.es.map pr = es2.map pr) :
    S35 w cS cA cD H' { v with s := s', U := U', Bd := Bd', R := rest35 w cA { v with s := s' } { u with es := es2 } lu X } { u with es := es2 } lv lu l1 l2 X := by
  have eg := F.g
  rw [h.rs] at D
  have e1 : H1 u.ms = some (ndO w u.ms u.es) := D.hold.get (List.mem_append_right _ (.tail _ (.tail _ (.tail _ (.tail _ (.tail _ List.mem_cons_self))))))
  have nt : ∀ xs, ndO w u.ms u.es ≠ .tup xs := fun _ z => nomatch z
  have kr : ∀ {a : Addr} {n : Str} {ks : List Str}, RefAt H (.ref a) n ks → RefAt H' (.ref a) n ks := fun r => (r.pers kt).chgT c e1 nt
  have kl : ∀ {x : V} {l : Option Rf}, LastAt H x l → LastAt H' x l := fun {x l} hl => by
    cases l with
    | none => exact hl
    | some r =>
      obtain ⟨⟨a, k, ea, h1, h2⟩, h3⟩ := hl
      exact ⟨⟨a, k, ea, c _ _ (ne_of (kt.tup _ _ h1) e1 fun z => nomatch z) (kt.tup _ _ h1), c _ _ (ne_of (kt.tup _ _ h2) e1 fun z => nomatch z) (kt.tup _ _ h2)⟩, h3⟩
  have D2 : DlIn w cA cD U' v.J Bd' H' s' ((v.sc, scO cS { v with s := s' } lv) :: rest35 w cA { v with s := s' } { u with es := es2 } lu X) := by
    unfold rest35 scO
    dsimp only
    rw [eg]
    exact D.setR (R1 := [(v.sc, scO cS v lv), (v.po, .ins cA X.dpo [(Str.ofString "nodes", .ref v.d0)]), (v.d0, ndO w v.d0 v.eo), (u.m, .dK (recM (.ref u.mo) (.ref u.ms) lu)), (u.mo, ndO w u.mo u.eo)]) c e (.nd w es2)
  have hh := D2.hold
  refine ⟨⟨D2, h.vw.j0, tc, ⟨⟨X.dpo, ?_⟩, ?_, fun x hx => kr (h.vw.ar.2.2 x hx)⟩, h.vw.ge, h.vw.le, h.vw.wo, kl h.vw.la⟩, ⟨?_, ⟨?_, fun x hx => kr (h.lw.no.2 x hx)⟩, ⟨e, refs⟩, h.lw.go, g, h.lw.lo, le, h.lw.wo, wo, kl h.lw.la⟩, rfl, h.eo, eq, h.jj, h.j0⟩
  · exact hh.get (List.mem_append_right _ (.tail _ List.mem_cons_self))
  · exact hh.get (List.mem_append_right _ (.tail _ (.tail _ List.mem_cons_self)))
  · exact hh.get (List.mem_append_right _ (.tail _ (.tail _ (.tail _ List.mem_cons_self))))
  · exact hh.get (List.mem_append_right _ (.tail _ (.tail _ (.tail _ (.tail _ List.mem_cons_self)))))
/-- a list beside changed -/
theorem S35.mem (h : S35 w cS cA cD H v u lv lu l1 l2 X) {M1 M2 : Mem} {a : Addr} {xs ys : List V} (eM : X.M = M1 ++ (a, .lst xs) :: M2) (c : Chg a H H') (e' : H' a = some (.lst ys)) : S35 w cS cA cD H' { v with R := rest35 w cA v u lu { X with M := M1 ++ (a, .lst ys) :: M2 } } u lv lu l1 l2 { X with M := M1 ++ (a, .lst ys) :: M2 } := by
  have e : H a = some (.lst xs) := h.has (by rw [eM]; exact List.mem_append_right _ List.mem_cons_self)
  have nt : ∀ zs, HO.lst xs ≠ .tup zs := fun _ z => nomatch z
  have dl := h.vw.dl
  rw [h.rs] at dl
  obtain ⟨⟨dxp, ep⟩, en, rn⟩ := id h.vw.ar
  have dl2 : DlIn w cA cD v.U v.J v.Bd H v.s (((v.sc, scO cS v lv) :: (v.po, .ins cA X.dpo [(Str.ofString "nodes", .ref v.d0)]) :: (v.d0, ndO w v.d0 v.eo) :: (u.m, .dK (recM (.ref u.mo) (.ref u.ms) lu)) :: (u.mo, ndO w u.mo u.eo) :: (u.ms, ndO w u.ms u.es) :: (X.ss, .dK (recS v.sc u.m v.s.g)) :: M1) ++ (a, .lst xs) :: M2) := by
    unfold rest35 at dl
    rw [eM] at dl
    exact dl
  exact ⟨⟨dl2.setR c e' (.lst _), h.vw.j0, h.vw.tc, h.vw.ar.chgT c e nt (ne_of ep e fun z => nomatch z) (ne_of en e fun z => nomatch z), h.vw.ge, h.vw.le, h.vw.wo, h.vw.la.chgT c e nt⟩, h.lw.chg c e nt (fun _ z => nomatch z) (fun _ _ z => nomatch z), rfl, h.eo, h.es, h.jj, h.j0⟩
end
theorem tabs_mob {T : List (Addr × Str)} {a : Addr} {o : HO} {H H' : Hp} (e : H a = some o) (m : Mob a o) (c : Chg a H H') (t : Tabs T H) : Tabs T H' := fun p hp => by
  obtain ⟨ps, a1, a2, a3⟩ := t p hp
  refine ⟨ps, c _ _ (ne_of a1 e fun z => mob_tbl m _ z.symm) a1, a2, fun q cv hcv => ?_⟩
  obtain ⟨k, ec, eo⟩ := a3 q cv hcv
  exact ⟨k, ec, c _ _ (mob_code m e eo) eo⟩
theorem pers_mob {T : List (Addr × Str)} {a : Addr} {o : HO} {H H' : Hp} (e : H a = some o) (m : Mob a o) (c : Chg a H H') : Pers T H H' := ⟨(pers_chg e m c).tup, tabs_mob e m c, (pers_chg e m c).frz⟩
/-- a stage, a bag and a pool; beside: M0 -/
structure Inv35 (w : World) (cS cA cD : Addr) (T : List (Addr × Str)) (b ss p k1 k2 : Addr) (ns ks : List Str) (M0 : Mem) (H0 : Hp) (N k : Nat) (H : Hp) (v : V35) (u : UW) (lv lu : V) (l1 l2 : Option Rf) (X : Xt) : Prop where
  st : S35 w cS cA cD H v u lv lu l1 l2 X
  ss : X.ss = ss
  mm : ∃ ob, X.M = (b, ob) :: (plMem p k1 k2 ns ks ++ M0) ∧ IsBag N ob
  pl : PoolL H p k1 k2 ns ks
  tb : Tabs T H
  ul : v.U.length ≤ 20 + k
  bd : v.Bd ≤ 1000 * k
  ln : u.es.length ≤ 20 + k
  sk : stk v.s 0 = []
  ps : Pers T H0 H
def InvE (w : World) (cS cA cD : Addr) (T : List (Addr × Str)) (b ss p k1 k2 : Addr) (ns ks : List Str) (M0 : Mem) (H0 : Hp) (N k : Nat) (H : Hp) : Prop := ∃ v u lv lu l X, Inv35 w cS cA cD T b ss p k1 k2 ns ks M0 H0 N k H v u lv lu l l X
section
variable {w : World} {cS cA cD : Addr} {T : List (Addr × Str)} {b ss p k1 k2 : Addr} {ns ks : List Str} {M0 : Mem} {H0 : Hp} {N N' k : Nat} {H H' : Hp} {v : V35} {u : UW} {lv lu lv' lu' : V} {l1 l2 l' : Option Rf} {X : Xt}
theorem PoolL.hold {H : Hp} {M : Mem} {p k1 k2 : Addr} {ns ks : List Str} (h : PoolL H' p k1 k2 ns ks) (q : Holds M H) (s : ∀ x ∈ plMem p k1 k2 ns ks, x ∈ M) : PoolL H p k1 k2 ns ks :=
  ⟨q.has _ (s _ List.mem_cons_self), q.has _ (s _ (.tail _ List.mem_cons_self)), q.has _ (s _ (.tail _ (.tail _ List.mem_cons_self))), h.n0, h.n1, h.k0, h.k1, h.nm, h.ky, h.nn, h.kn⟩
theorem S35.pool (h : S35 w cS cA cD H v u lv lu l1 l2 X) {ob : HO} (eM : X.M = (b, ob) :: (plMem p k1 k2 ns ks ++ M0)) (q : PoolL H' p k1 k2 ns ks) : PoolL H p k1 k2 ns ks :=
  q.hold h.hold fun x hx => List.mem_append_right _ (.tail _ (.tail _ (.tail _ (.tail _ (.tail _ (.tail _ (.tail _ (by rw [eM]; exact .tail _ (List.mem_append_left _ hx)))))))))
theorem Inv35.bag (h : Inv35 w cS cA cD T b ss p k1 k2 ns ks M0 H0 N k H v u lv lu l1 l2 X) : BagAt N b H := by
  obtain ⟨ob, eM, x, y, z, rfl, r⟩ := h.mm
  exact ⟨x, y, z, h.st.has (by rw [eM]; exact List.mem_cons_self), r⟩
theorem Inv35.same (h : Inv35 w cS cA cD T b ss p k1 k2 ns ks M0 H0 N k H v u lv lu l1 l2 X) (s : Same H H') : Inv35 w cS cA cD T b ss p k1 k2 ns ks M0 H0 N k H' v u lv lu l1 l2 X := by
  obtain ⟨ob, eM, hb⟩ := h.mm
  exact ⟨h.st.same s, h.ss, ⟨ob, eM, hb⟩, (h.st.same s).pool eM h.pl, Tabs.same h.tb s, h.ul, h.bd, h.ln, h.sk, h.ps.trans (.same s)⟩
theorem Inv35.scene (h : Inv35 w cS cA cD T b ss p k1 k2 ns ks M0 H0 N k H v u lv lu l1 l2 X) (c : Chg v.sc H H') (hv : VwS w cS cA cD H' v lv' l') : Inv35 w cS cA cD T b ss p k1 k2 ns ks M0 H0 N k H' v u lv' lu l' l2 X := by
  obtain ⟨ob, eM, hb⟩ := h.mm
  exact ⟨h.st.scene c hv, h.ss, ⟨ob, eM, hb⟩, (h.st.scene c hv).pool eM h.pl, tabs_mob h.st.vw.at (.ins _ _ _) c h.tb, h.ul, h.bd, h.ln, h.sk, h.ps.trans (pers_mob h.st.vw.at (.ins _ _ _) c)⟩
theorem Inv35.law (h : Inv35 w cS cA cD T b ss p k1 k2 ns ks M0 H0 N k H v u lv lu l1 l2 X) (c : Chg u.m H H') (hl : LwS w H' u lu' l') : Inv35 w cS cA cD T b ss p k1 k2 ns ks M0 H0 N k H' { v with R := rest35 w cA v u lu' X } u lv lu' l1 l' X := by
  obtain ⟨ob, eM, hb⟩ := h.mm
  exact ⟨h.st.law c hl, h.ss, ⟨ob, eM, hb⟩, (h.st.law c hl).pool eM h.pl, tabs_mob h.st.lw.em (.dK _) c h.tb, h.ul, h.bd, h.ln, h.sk, h.ps.trans (pers_mob h.st.lw.em (.dK _) c)⟩
theorem Inv35.draw (h : Inv35 w cS cA cD T b ss p k1 k2 ns ks M0 H0 N k H v u lv lu l1 l2 X) (c : Chg b H H') (B : BagAt N' b H') : ∃ v' X', Inv35 w cS cA cD T b ss p k1 k2 ns ks M0 H0 N' k H' v' u lv lu l1 l2 X' ∧ v'.sc = v.sc ∧ v'.eo = v.eo ∧ v'.s = v.s := by
  obtain ⟨ob, eM, x, y, z, rfl, r⟩ := h.mm
  obtain ⟨x', y', z', e', r'⟩ := B
  have st := h.st.mem (M1 := []) eM c e'
  exact ⟨_, _, ⟨st, h.ss, ⟨_, rfl, x', y', z', rfl, r'⟩, st.pool rfl h.pl, tabs_mob (h.st.has (by rw [eM]; exact List.mem_cons_self)) (.lst _) c h.tb, h.ul, h.bd, h.ln, h.sk, h.ps.trans (pers_mob (h.st.has (by rw [eM]; exact List.mem_cons_self)) (.lst _) c)⟩, rfl, rfl, rfl⟩
end
section
variable (w : World) (cS cA cD : Addr) (T : List (Addr × Str))
def spStageE : Sp := fun vs H Q _ => ∃ (b p k1 k2 : Addr) (ns ks : List Str) (M0 : Mem) (H0 : Hp) (N : Nat) (ob : HO), vs = [.ref b, .ref p] ∧ N < 2 ^ 46 ∧ IsBag N ob ∧ Holds ((b, ob) :: (plMem p k1 k2 ns ks ++ M0)) H ∧ PoolL H p k1 k2 ns ks ∧ Tabs T H ∧ Pers T H0 H ∧
  ∀ H' ss, InvE w cS cA cD T b ss p k1 k2 ns ks M0 H0 (N + 200000) 0 H' → Q (.ref ss) H'
def spRightE : Sp := fun vs H Q _ => ∃ (b ss p k1 k2 : Addr) (ns ks : List Str) (M0 : Mem) (H0 : Hp) (N k : Nat), vs = [.ref b, .ref ss, .ref p] ∧ N < 2 ^ 46 ∧ InvE w cS cA cD T b ss p k1 k2 ns ks M0 H0 N k H ∧
  ∀ H', InvE w cS cA cD T b ss p k1 k2 ns ks M0 H0 (N + 10000) k H' → Q (.bl true) H'
def spChangedE : Sp := fun vs H Q _ => ∃ (b ss p k1 k2 : Addr) (ns ks : List Str) (M0 : Mem) (H0 : Hp) (N k : Nat), vs = [.ref b, .ref ss, .ref p] ∧ N < 2 ^ 46 ∧ k ≤ 100 ∧ InvE w cS cA cD T b ss p k1 k2 ns ks M0 H0 N k H ∧
  ∀ H', InvE w cS cA cD T b ss p k1 k2 ns ks M0 H0 (N + 10000) (k + 1) H' → Q .non H'
end
def IsK (ks : List Str) : List Ex := ks.map Ex.is
def spShownE : Sp := fun vs H Q _ => ∃ (b p k1 k2 : Addr) (ns ks : List Str) (N : Nat), vs = [.ref b, .ref p] ∧ N < 2 ^ 47 ∧ BagAt N b H ∧ PoolL H p k1 k2 ns ks ∧
  ∀ H' t k nm js, Chg b H H' → BagAt (N + 100) b H' → k ≠ PK.short → NameS nm → (∀ j ∈ js, KeyS j) → js.length ≤ 3 → PlG (fun a e => ∃ x, e = Ex.is x ∧ IsAt H' a x) H' t k nm (IsK js) → Q (.ref t) H'
end Sk
namespace Sk
open PySem PySem.Spec PyProof.Rows L2
open LamX (Tabs CodeO)
def ResW (H : Hp) (v : V) (r : Except Str Str) : Prop := (∃ x, r = .ok x ∧ v = .str x) ∨ ∃ (wd : Str) (p : Addr), r = .error wd ∧ v = .ref p ∧ H p = some (.tup [.str wd])
def resW : Except Str Str → PyData
  | .ok x => .str x
  | .error wd => .tuple [.str wd]
theorem ResW.keep {H H' : Hp} {v : V} {r : Except Str Str} (h : ResW H v r) (k : KeepE H H') : ResW H' v r := by
  rcases h with h | ⟨wd, p, e1, e2, e3⟩
  · exact .inl h
  · exact .inr ⟨wd, p, e1, e2, k _ _ e3 (.inl ⟨_, rfl⟩)⟩
theorem ResW.dp {K : PySem.W.Frag} {H : Hp} {v : V} {r : Except Str Str} (h : ResW H v r) : Dp K H v (resW r) := by
  rcases h with ⟨x, rfl, rfl⟩ | ⟨wd, p, rfl, rfl, e⟩
  · exact .str x
  · exact .tup (.inl (.inl e)) (.cons (.str wd) .nil)
theorem resW_ok (r : Except Str Str) : (resW r).plain = true ∧ (resW r).depth ≤ 64 := by
  cases r with
  | ok x => exact ⟨rfl, by show 0 ≤ 64; decide⟩
  | error wd => exact ⟨rfl, by show 1 ≤ 64; decide⟩
theorem dpa_strs {K : PySem.W.Frag} {H : Hp} : ∀ ks : List Str, DpAll K H (ks.map V.str) (ks.map PyData.str)
  | [] => .nil
  | k :: ks => .cons (.str k) (dpa_strs ks)
theorem dp_ref {K : PySem.W.Frag} {H : Hp} {v : V} {n : Str} {ks : List Str} (h : RefAt H v n ks) : Dp K H v (refD n ks) := by
  obtain ⟨a, t, rfl, h1, h2⟩ := h
  exact .tup (.inl (.inl h1)) (.cons (.str n) (.cons (.tup (.inl (.inl h2)) (dpa_strs ks)) .nil))
def lastP : Option Rf → PyData
  | none => .none
  | some r => refD r.1 r.2
theorem dp_last {K : PySem.W.Frag} {H : Hp} {v : V} {l : Option Rf} (h : LastAt H v l) : Dp K H v (lastP l) := by
  cases l with
  | none => cases h; exact .non
  | some r => exact dp_ref h.1
theorem refD_ok (n : Str) (ks : List Str) : (refD n ks).plain = true ∧ (refD n ks).depth ≤ 64 :=
  ⟨PySem.W.Datum.plain ((n, PySem.W.Tup.mk ks) : Str × PySem.W.Tup Str), Nat.le_trans (PySem.W.Datum.depth_le ((n, PySem.W.Tup.mk ks) : Str × PySem.W.Tup Str)) (by decide)⟩
theorem lastP_ok (l : Option Rf) : (lastP l).plain = true ∧ (lastP l).depth ≤ 64 := by
  cases l with
  | none => exact ⟨rfl, by show 0 ≤ 64; decide⟩
  | some r => exact refD_ok r.1 r.2
def exs35 (kd : PK) (nm : Str) (js : List Str) (x : Str) : List Ex := [.pl kd nm (IsK js), .data kd nm (IsK js), .oth kd nm (IsK js) (.is x), .nxt false kd nm (IsK js), .nxt true kd nm (IsK js), .nxt false kd nm (IsK (js ++ [Str.ofString ""])), .nxt true kd nm (IsK (js ++ [Str.ofString ""]))]
section
variable {eo es : List Ent} {n : Nat}
theorem evAll_is (l : Option Rf) : ∀ ks : List Str, evAll (evE eo es (n + 1)) (IsK ks) l = some (.ok ks, l)
  | [] => rfl
  | k :: ks => by
    show bindX (some ((.ok k : Except Str Str), l)) (fun x l1 => bindX (evAll (evE eo es (n + 1)) (IsK ks) l1) fun xs l2 => some (.ok (x :: xs), l2)) = _
    show bindX (evAll (evE eo es (n + 1)) (IsK ks) l) (fun xs l2 => some (.ok (k :: xs), l2)) = _
    rw [evAll_is l ks]
    rfl
theorem evP_is (em : Bool) (k : PK) (nm : Str) (ks : List Str) (l : Option Rf) : evP (evE eo es (n + 1)) em k nm (IsK ks) l = some (plK em k nm ks l) := by
  unfold evP
  rw [evAll_is]
  rfl
theorem ev_some {kd : PK} {nm x : Str} {js : List Str} {e : Ex} (he : e ∈ exs35 kd nm js x) (l : Option Rf) : ∃ r l', evE eo es (n + 2) e l = some (r, l') := by
  have pl : ∀ (em : Bool) (ks : List Str), ∃ r l', evP (evE eo es (n + 1)) em kd nm (IsK ks) l = some (r, l') := fun em ks => by
    rw [evP_is]
    exact ⟨_, _, rfl⟩
  have nx : ∀ (b : Bool) (ks : List Str), ∃ r l', evE eo es (n + 2) (.nxt b kd nm (IsK ks)) l = some (r, l') := fun b ks => by
    obtain ⟨r, l', e⟩ := pl true ks
    unfold evE
    dsimp only
    rw [e]
    cases r with
    | error w => exact ⟨_, _, rfl⟩
    | ok r =>
      show ∃ q l'', (if r.2 = [] then _ else _) = some (q, l'')
      split <;> exact ⟨_, _, rfl⟩
  unfold exs35 at he
  simp only [List.mem_cons, List.not_mem_nil, or_false] at he
  rcases he with rfl | rfl | rfl | rfl | rfl | rfl | rfl
  · obtain ⟨r, l', e⟩ := pl false js
    unfold evE
    dsimp only
    rw [e]
    cases r <;> exact ⟨_, _, rfl⟩
  · obtain ⟨r, l', e⟩ := pl false js
    unfold evE
    dsimp only
    rw [e]
    cases r <;> exact ⟨_, _, rfl⟩
  · obtain ⟨r, l', e⟩ := pl false js
    unfold evE
    dsimp only
    rw [e]
    cases r with
    | error w => exact ⟨_, _, rfl⟩
    | ok r =>
      show ∃ q l'', (match worthE (sideE eo es kd) r with
        | .ok x => some ((.ok x : Except Str Str), l')
        | .error _ => evE eo es (n + 1) (.is x) l') = some (q, l'')
      cases worthE (sideE eo es kd) r <;> exact ⟨_, _, rfl⟩
  all_goals exact nx _ _
end
theorem exg_isk {n : Nat} {ks : List Str} (h : ∀ k ∈ ks, WorthS k ∧ k.length ≤ 2000) : ∀ p ∈ IsK ks, ExG (n + 1) p := fun p hp => by
  obtain ⟨k, hk, rfl⟩ := List.mem_map.mp hp
  exact h k hk
theorem key_txt {k : Str} (h : KeyS k) : WorthS k ∧ k.length ≤ 2000 := ⟨h.2.2, by have := h.2.1; omega⟩
theorem exg35 {n : Nat} {kd : PK} {nm x : Str} {js : List Str} (hn : NameS nm) (hj : ∀ j ∈ js, KeyS j) (lj : js.length ≤ 3) (hx : WorthS x) (lx : x.length ≤ 2000) : ∀ e ∈ exs35 kd nm js x, ExG (n + 2) e := fun e he => by
  have g1 : (kd ≠ .short → NameS nm) ∧ (IsK js).length ≤ 100 ∧ ∀ p ∈ IsK js, ExG (n + 1) p := ⟨fun _ => hn, by unfold IsK; rw [List.length_map]; omega, exg_isk fun k hk => key_txt (hj k hk)⟩
  have g2 : (kd ≠ .short → NameS nm) ∧ (IsK (js ++ [Str.ofString ""])).length ≤ 100 ∧ ∀ p ∈ IsK (js ++ [Str.ofString ""]), ExG (n + 1) p := ⟨fun _ => hn, by unfold IsK; rw [List.length_map, List.length_append, List.length_singleton]; omega, exg_isk fun k hk => by
    rcases List.mem_append.mp hk with hk | hk
    · exact key_txt (hj k hk)
    · rw [List.mem_singleton.mp hk]; exact ⟨by decide +kernel, by decide +kernel⟩⟩
  unfold exs35 at he
  simp only [List.mem_cons, List.not_mem_nil, or_false] at he
  rcases he with rfl | rfl | rfl | rfl | rfl | rfl | rfl
  · exact g1
  · exact g1
  · exact ⟨g1, hx, lx⟩
  · exact g1
  · exact g1
  · exact g2
  · exact g2
/-- a place by texts tells its reference -/
theorem pl_shown {em : Bool} {kd : PK} {nm : Str} {js : List Str} {l : Option Rf} (hk : kd ≠ .short) (hj : ∀ j ∈ js, KeyS j) (lj : js.length ≤ 3) :
    plK false kd nm js l = (.ok (nm, js), if kd = .var then l else lastOf (nm, js)) ∧ plK true kd nm (js ++ [Str.ofString ""]) l = (.ok (nm, js ++ [Str.ofString ""]), if kd = .var then l else lastOf (nm, js ++ [Str.ofString ""])) := by
  have hh : plHead kd nm l = some (nm, []) := by
    cases kd with
    | short => exact absurd rfl hk
    | var => rfl
    | «at» => rfl
  have key : ∀ (em : Bool) (n i : Nat) (k : Str), KeyS k → keyL em n i k = true := fun em n i k h => by
    unfold keyL
    rw [decide_eq_true h.1, decide_eq_true h.2.1]
    rfl
  constructor
  · unfold plK
    rw [hh]
    show (if ([] : List Str).length + js.length > 6 then _ else _) = _
    rw [if_neg (by show ¬ 0 + js.length > 6; omega), if_pos (show keysOk false js = true from keysL_of fun j k e => key _ _ _ _ (hj k (List.mem_of_getElem? e)))]
    rfl
  · unfold plK
    rw [hh]
    show (if ([] : List Str).length + (js ++ [Str.ofString ""]).length > 6 then _ else _) = _
    rw [if_neg (by rw [List.length_append, List.length_singleton]; show ¬ 0 + (js.length + 1) > 6; omega), if_pos (show keysOk true (js ++ [Str.ofString ""]) = true from keysL_of fun j k e => ?_)]
    · rfl
    · by_cases h : j < js.length
      · rw [List.getElem?_append_left h] at e
        exact key _ _ _ _ (hj k (List.mem_of_getElem? e))
      · rw [List.getElem?_append_right (by omega)] at e
        have hj0 : j - js.length = 0 := by
          have := (List.getElem?_eq_some_iff.mp e).1
          rw [List.length_singleton] at this
          omega
        rw [hj0] at e
        cases e
        unfold keyL
        rw [List.length_append, List.length_singleton, decide_eq_true (show 0 + j + 1 = js.length + 1 by omega), decide_eq_true (rfl : Str.ofString "" = Str.ofString "")]
        simp
def lr : Except Str Str → Option Rf → Option Rf → Option Rf
  | .ok _, _, l' => l'
  | .error _, l, _ => l
end Sk
namespace Sk
open PySem PySem.Spec PyProof.Rows L2
def topS (i : Nat) : Stmt := PySem.Challenge.pw_stemkeep_k35_places_told.main.body.getD i (.Pass ⟨0, 0, 0, 0⟩)
abbrev s_is_worth : Stmt := topS 15
abbrev N_is_worth : List Str := ["thing", "sign"]
theorem sc_is_worth : FnScope N_is_worth ["thing"] (defScope s_is_worth) := ⟨rfl, rfl, rfl, by decide +kernel, rfl, by decide +kernel, by decide +kernel⟩
abbrev s_is_name : Stmt := topS 16
abbrev N_is_name : List Str := ["thing", "sign"]
theorem sc_is_name : FnScope N_is_name ["thing"] (defScope s_is_name) := ⟨rfl, rfl, rfl, by decide +kernel, rfl, by decide +kernel, by decide +kernel⟩
abbrev s_is_key : Stmt := topS 17
abbrev N_is_key : List Str := ["thing"]
theorem sc_is_key : FnScope N_is_key ["thing"] (defScope s_is_key) := ⟨rfl, rfl, rfl, by decide +kernel, rfl, by decide +kernel, by decide +kernel⟩
abbrev s_is_reference : Stmt := topS 18
abbrev N_is_reference : List Str := ["thing", "name", "keys", "key"]
theorem sc_is_reference : FnScope N_is_reference ["thing"] (defScope s_is_reference) := ⟨rfl, rfl, rfl, by decide +kernel, rfl, by decide +kernel, by decide +kernel⟩
abbrev s_signs_ahead : Stmt := topS 19
abbrev N_signs_ahead : List Str := ["worth", "some", "many"]
theorem sc_signs_ahead : FnScope N_signs_ahead ["worth", "some"] (defScope s_signs_ahead) := ⟨rfl, rfl, rfl, by decide +kernel, rfl, by decide +kernel, by decide +kernel⟩
abbrev s_number_of : Stmt := topS 20
abbrev N_number_of : List Str := ["worth", "marks", "figures", "number"]
theorem sc_number_of : FnScope N_number_of ["worth"] (defScope s_number_of) := ⟨rfl, rfl, rfl, by decide +kernel, rfl, by decide +kernel, by decide +kernel⟩
abbrev s_number_text : Stmt := topS 21
abbrev N_number_text : List Str := ["number"]
theorem sc_number_text : FnScope N_number_text ["number"] (defScope s_number_text) := ⟨rfl, rfl, rfl, by decide +kernel, rfl, by decide +kernel, by decide +kernel⟩
abbrev s_is_number_text : Stmt := topS 22
abbrev N_is_number_text : List Str := ["worth", "figures"]
theorem sc_is_number_text : FnScope N_is_number_text ["worth"] (defScope s_is_number_text) := ⟨rfl, rfl, rfl, by decide +kernel, rfl, by decide +kernel, by decide +kernel⟩
abbrev s_rank : Stmt := topS 23
abbrev N_rank : List Str := ["key"]
theorem sc_rank : FnScope N_rank ["key"] (defScope s_rank) := ⟨rfl, rfl, rfl, by decide +kernel, rfl, by decide +kernel, by decide +kernel⟩
abbrev s_is_stem : Stmt := topS 24
abbrev N_is_stem : List Str := ["one", "other"]
theorem sc_is_stem : FnScope N_is_stem ["one", "other"] (defScope s_is_stem) := ⟨rfl, rfl, rfl, by decide +kernel, rfl, by decide +kernel, by decide +kernel⟩
abbrev s_meet : Stmt := topS 25
abbrev N_meet : List Str := ["one", "other"]
theorem sc_meet : FnScope N_meet ["one", "other"] (defScope s_meet) := ⟨rfl, rfl, rfl, by decide +kernel, rfl, by decide +kernel, by decide +kernel⟩
abbrev s_truth_text : Stmt := topS 29
abbrev s_quotient : Stmt := topS 30
abbrev s_by_numbers : Stmt := topS 31
abbrev s_are_one_text : Stmt := topS 32
abbrev s_put_behind : Stmt := topS 33
abbrev s_holds_other : Stmt := topS 34
abbrev s_stands_behind : Stmt := topS 35
abbrev s_of_two : Stmt := topS 37
abbrev s_piece_of : Stmt := topS 38
abbrev s_part_of : Stmt := topS 39
abbrev s_of_worths : Stmt := topS 40
abbrev s_not_too_long : Stmt := topS 41
abbrev s_need_reference : Stmt := topS 44
abbrev N_need_reference : List Str := ["thing"]
theorem sc_need_reference : FnScope N_need_reference ["thing"] (defScope s_need_reference) := ⟨rfl, rfl, rfl, by decide +kernel, rfl, by decide +kernel, by decide +kernel⟩
abbrev s_need_worth : Stmt := topS 45
abbrev N_need_worth : List Str := ["thing"]
theorem sc_need_worth : FnScope N_need_worth ["thing"] (defScope s_need_worth) := ⟨rfl, rfl, rfl, by decide +kernel, rfl, by decide +kernel, by decide +kernel⟩
abbrev s_need_ordered : Stmt := topS 46
abbrev N_need_ordered : List Str := ["thing", "name", "keys"]
theorem sc_need_ordered : FnScope N_need_ordered ["thing"] (defScope s_need_ordered) := ⟨rfl, rfl, rfl, by decide +kernel, rfl, by decide +kernel, by decide +kernel⟩
abbrev s_ranks : Stmt := topS 47
abbrev N_ranks : List Str := ["ref", "key"]
theorem sc_ranks : FnScope N_ranks ["ref"] (defScope s_ranks) := ⟨rfl, rfl, rfl, by decide +kernel, rfl, by decide +kernel, by decide +kernel⟩
abbrev s_walked : Stmt := topS 48
abbrev N_walked : List Str := ["refs"]
theorem sc_walked : FnScope N_walked ["refs"] (defScope s_walked) := ⟨rfl, rfl, rfl, by decide +kernel, rfl, by decide +kernel, by decide +kernel⟩
abbrev s_need_job : Stmt := topS 51
abbrev N_need_job : List Str := ["thing"]
theorem sc_need_job : FnScope N_need_job ["thing"] (defScope s_need_job) := ⟨rfl, rfl, rfl, by decide +kernel, rfl, by decide +kernel, by decide +kernel⟩
abbrev s_law_cell_at : Stmt := topS 54
abbrev N_law_cell_at : List Str := ["script", "k"]
theorem sc_law_cell_at : FnScope N_law_cell_at ["script", "k"] (defScope s_law_cell_at) := ⟨rfl, rfl, rfl, by decide +kernel, rfl, by decide +kernel, by decide +kernel⟩
abbrev s_law_bag : Stmt := topS 55
abbrev N_law_bag : List Str := ["cell"]
theorem sc_law_bag : FnScope N_law_bag ["cell"] (defScope s_law_bag) := ⟨rfl, rfl, rfl, by decide +kernel, rfl, by decide +kernel, by decide +kernel⟩
abbrev s_law_draw : Stmt := topS 56
abbrev N_law_draw : List Str := ["bag", "many", "one"]
theorem sc_law_draw : FnScope N_law_draw ["bag", "many"] (defScope s_law_draw) := ⟨rfl, rfl, rfl, by decide +kernel, rfl, by decide +kernel, by decide +kernel⟩
abbrev s_law_key : Stmt := topS 57
abbrev N_law_key : List Str := ["bag", "some", "signs", "k"]
theorem sc_law_key : FnScope N_law_key ["bag"] (defScope s_law_key) := ⟨rfl, rfl, rfl, by decide +kernel, rfl, by decide +kernel, by decide +kernel⟩
abbrev s_law_word : Stmt := topS 58
abbrev N_law_word : List Str := ["bag", "letters", "many", "k"]
theorem sc_law_word : FnScope N_law_word ["bag"] (defScope s_law_word) := ⟨rfl, rfl, rfl, by decide +kernel, rfl, by decide +kernel, by decide +kernel⟩
abbrev s_law_unlike : Stmt := topS 59
abbrev N_law_unlike : List Str := ["found", "one"]
theorem sc_law_unlike : FnScope N_law_unlike ["found", "one"] (defScope s_law_unlike) := ⟨rfl, rfl, rfl, by decide +kernel, rfl, by decide +kernel, by decide +kernel⟩
abbrev s_law_pool : Stmt := topS 60
abbrev N_law_pool : List Str := ["bag", "names", "k", "keys"]
theorem sc_law_pool : FnScope N_law_pool ["bag"] (defScope s_law_pool) := ⟨rfl, rfl, rfl, by decide +kernel, rfl, by decide +kernel, by decide +kernel⟩
abbrev s_law_spot : Stmt := topS 61
abbrev N_law_spot : List Str := ["bag", "pool", "most", "keys", "k"]
theorem sc_law_spot : FnScope N_law_spot ["bag", "pool", "most"] (defScope s_law_spot) := ⟨rfl, rfl, rfl, by decide +kernel, rfl, by decide +kernel, by decide +kernel⟩
abbrev s_law_rank : Stmt := topS 62
abbrev N_law_rank : List Str := ["text", "body", "figures", "sign"]
theorem sc_law_rank : FnScope N_law_rank ["text"] (defScope s_law_rank) := ⟨rfl, rfl, rfl, by decide +kernel, rfl, by decide +kernel, by decide +kernel⟩
abbrev s_law_worth : Stmt := topS 63
abbrev N_law_worth : List Str := ["bag", "some", "lot"]
theorem sc_law_worth : FnScope N_law_worth ["bag"] (defScope s_law_worth) := ⟨rfl, rfl, rfl, by decide +kernel, rfl, by decide +kernel, by decide +kernel⟩
abbrev s_law_number : Stmt := topS 64
abbrev s_law_of_numbers : Stmt := topS 65
abbrev s_law_of_two : Stmt := topS 66
abbrev s_law_piece : Stmt := topS 67
abbrev s_law_of_worths : Stmt := topS 68
abbrev s_law_place : Stmt := topS 69
abbrev N_law_place : List Str := ["m", "one", "is_open", "row", "part", "found", "name", "head", "k", "ref"]
theorem sc_law_place : FnScope N_law_place ["m", "one", "is_open"] (defScope s_law_place) := ⟨rfl, rfl, rfl, by decide +kernel, rfl, by decide +kernel, by decide +kernel⟩
abbrev s_law_next : Stmt := topS 70
abbrev N_law_next : List Str := ["nodes", "ref", "is_back", "many", "some", "name", "row", "here", "left", "rank_here", "text"]
theorem sc_law_next : FnScope N_law_next ["nodes", "ref", "is_back"] (defScope s_law_next) := ⟨rfl, rfl, rfl, by decide +kernel, rfl, by decide +kernel, by decide +kernel⟩
abbrev s_law_data : Stmt := topS 71
abbrev N_law_data : List Str := ["nodes", "ref", "many", "more", "name", "row"]
theorem sc_law_data : FnScope N_law_data ["nodes", "ref"] (defScope s_law_data) := ⟨rfl, rfl, rfl, by decide +kernel, rfl, by decide +kernel, by decide +kernel⟩
abbrev s_law_of_place : Stmt := topS 72
abbrev N_law_of_place : List Str := ["m", "one", "spot", "nodes", "found"]
theorem sc_law_of_place : FnScope N_law_of_place ["m", "one"] (defScope s_law_of_place) := ⟨rfl, rfl, rfl, by decide +kernel, rfl, by decide +kernel, by decide +kernel⟩
abbrev s_law_told : Stmt := topS 73
abbrev N_law_told : List Str := ["m", "one", "spot", "worths", "part", "found"]
theorem sc_law_told : FnScope N_law_told ["m", "one"] (defScope s_law_told) := ⟨rfl, rfl, rfl, by decide +kernel, rfl, by decide +kernel, by decide +kernel⟩
abbrev s_law_due : Stmt := topS 74
abbrev N_law_due : List Str := ["m", "one", "ahead", "found"]
theorem sc_law_due : FnScope N_law_due ["m", "one"] (defScope s_law_due) := ⟨rfl, rfl, rfl, by decide +kernel, rfl, by decide +kernel, by decide +kernel⟩
abbrev s_law_said : Stmt := topS 75
abbrev N_law_said : List Str := ["scene", "one", "found", "e"]
theorem sc_law_said : FnScope N_law_said ["scene", "one"] (defScope s_law_said) := ⟨rfl, rfl, rfl, by decide +kernel, rfl, by decide +kernel, by decide +kernel⟩
abbrev s_law_filled : Stmt := topS 76
abbrev N_law_filled : List Str := ["bag", "pool", "arrays", "nodes", "k", "spot", "worth"]
theorem sc_law_filled : FnScope N_law_filled ["bag", "pool", "arrays"] (defScope s_law_filled) := ⟨rfl, rfl, rfl, by decide +kernel, rfl, by decide +kernel, by decide +kernel⟩
abbrev s_law_stage : Stmt := topS 77
abbrev N_law_stage : List Str := ["bag", "pool", "shared", "own", "m", "dealings"]
theorem sc_law_stage : FnScope N_law_stage ["bag", "pool"] (defScope s_law_stage) := ⟨rfl, rfl, rfl, by decide +kernel, rfl, by decide +kernel, by decide +kernel⟩
abbrev s_law_shown : Stmt := topS 78
abbrev N_law_shown : List Str := ["bag", "pool", "row", "k"]
theorem sc_law_shown : FnScope N_law_shown ["bag", "pool"] (defScope s_law_shown) := ⟨rfl, rfl, rfl, by decide +kernel, rfl, by decide +kernel, by decide +kernel⟩
abbrev s_law_place_right : Stmt := topS 79
abbrev N_law_place_right : List Str := ["bag", "s", "pool", "one", "other", "ends", "some", "k", "due", "found", "row", "part"]
theorem sc_law_place_right : FnScope N_law_place_right ["bag", "s", "pool"] (defScope s_law_place_right) := ⟨rfl, rfl, rfl, by decide +kernel, rfl, by decide +kernel, by decide +kernel⟩
abbrev s_law_changed : Stmt := topS 80
abbrev N_law_changed : List Str := ["bag", "s", "pool", "spot", "worth", "name", "row"]
theorem sc_law_changed : FnScope N_law_changed ["bag", "s", "pool"] (defScope s_law_changed) := ⟨rfl, rfl, rfl, by decide +kernel, rfl, by decide +kernel, by decide +kernel⟩
abbrev s_law : Stmt := topS 81
abbrev N_law : List Str := ["script", "k", "bag", "pool", "s", "turn"]
theorem sc_law : FnScope N_law ["script"] (defScope s_law) := ⟨rfl, rfl, rfl, by decide +kernel, rfl, by decide +kernel, by decide +kernel⟩
abbrev s_Erring___init : Stmt := inClass (topS 7) 0
abbrev N_Erring___init : List Str := ["self", "word"]
theorem sc_Erring___init : FnScope N_Erring___init ["self", "word"] (defScope s_Erring___init) := ⟨rfl, rfl, rfl, by decide +kernel, rfl, by decide +kernel, by decide +kernel⟩
abbrev s_Scene___init : Stmt := inClass (topS 42) 0
abbrev N_Scene___init : List Str := ["self", "own", "dealings", "job"]
theorem sc_Scene___init : FnScope N_Scene___init ["self", "own", "dealings", "job"] (defScope s_Scene___init) := ⟨rfl, rfl, rfl, by decide +kernel, rfl, by decide +kernel, by decide +kernel⟩
abbrev s_Scene_last : Stmt := inClass (topS 42) 1
abbrev N_Scene_last : List Str := ["self"]
theorem sc_Scene_last : FnScope N_Scene_last ["self"] (defScope s_Scene_last) := ⟨rfl, rfl, rfl, by decide +kernel, rfl, by decide +kernel, by decide +kernel⟩
abbrev s_Scene_reckon : Stmt := inClass (topS 42) 3
abbrev N_Scene_reckon : List Str := ["self", "expression", "ahead", "found"]
theorem sc_Scene_reckon : FnScope N_Scene_reckon ["self", "expression"] (defScope s_Scene_reckon) := ⟨rfl, rfl, rfl, by decide +kernel, rfl, by decide +kernel, by decide +kernel⟩
abbrev s_Scene_place : Stmt := inClass (topS 42) 4
abbrev N_Scene_place : List Str := ["self", "expression", "empty", "ahead", "found"]
theorem sc_Scene_place : FnScope N_Scene_place ["self", "expression", "empty"] (defScope s_Scene_place) := ⟨rfl, rfl, rfl, by decide +kernel, rfl, by decide +kernel, by decide +kernel⟩
abbrev s_Scene_reckoned : Stmt := inClass (topS 42) 5
abbrev N_Scene_reckoned : List Str := ["self", "expression", "word", "rest", "found", "mine", "ref", "sign", "first", "second", "one"]
theorem sc_Scene_reckoned : FnScope N_Scene_reckoned ["self", "expression"] (defScope s_Scene_reckoned) := ⟨rfl, rfl, rfl, by decide +kernel, rfl, by decide +kernel, by decide +kernel⟩
abbrev s_Scene_worth_at : Stmt := inClass (topS 42) 6
abbrev N_Scene_worth_at : List Str := ["self", "spot", "mine", "ref"]
theorem sc_Scene_worth_at : FnScope N_Scene_worth_at ["self", "spot"] (defScope s_Scene_worth_at) := ⟨rfl, rfl, rfl, by decide +kernel, rfl, by decide +kernel, by decide +kernel⟩
abbrev s_Scene_next_key : Stmt := inClass (topS 42) 7
abbrev N_Scene_next_key : List Str := ["self", "expression", "back", "mine", "ref"]
theorem sc_Scene_next_key : FnScope N_Scene_next_key ["self", "expression", "back"] (defScope s_Scene_next_key) := ⟨rfl, rfl, rfl, by decide +kernel, rfl, by decide +kernel, by decide +kernel⟩
abbrev s_Scene_place_of : Stmt := inClass (topS 42) 8
abbrev N_Scene_place_of : List Str := ["self", "expression", "empty", "word", "rest", "keys", "head", "name", "last", "place", "key", "ref", "part"]
theorem sc_Scene_place_of : FnScope N_Scene_place_of ["self", "expression", "empty"] (defScope s_Scene_place_of) := ⟨rfl, rfl, rfl, by decide +kernel, rfl, by decide +kernel, by decide +kernel⟩
abbrev s_Arrays___init : Stmt := inClass (topS 49) 0
abbrev N_Arrays___init : List Str := ["self"]
theorem sc_Arrays___init : FnScope N_Arrays___init ["self"] (defScope s_Arrays___init) := ⟨rfl, rfl, rfl, by decide +kernel, rfl, by decide +kernel, by decide +kernel⟩
abbrev s_Arrays_put : Stmt := inClass (topS 49) 1
abbrev N_Arrays_put : List Str := ["self", "ref", "worth"]
theorem sc_Arrays_put : FnScope N_Arrays_put ["self", "ref", "worth"] (defScope s_Arrays_put) := ⟨rfl, rfl, rfl, by decide +kernel, rfl, by decide +kernel, by decide +kernel⟩
abbrev s_Arrays_read : Stmt := inClass (topS 49) 2
abbrev N_Arrays_read : List Str := ["self", "ref", "otherwise"]
theorem sc_Arrays_read : FnScope N_Arrays_read ["self", "ref", "otherwise"] (defScope s_Arrays_read) := ⟨rfl, rfl, rfl, by decide +kernel, rfl, by decide +kernel, by decide +kernel⟩
abbrev s_Arrays_beneath : Stmt := inClass (topS 49) 3
abbrev N_Arrays_beneath : List Str := ["self", "ref", "one"]
theorem sc_Arrays_beneath : FnScope N_Arrays_beneath ["self", "ref"] (defScope s_Arrays_beneath) := ⟨rfl, rfl, rfl, by decide +kernel, rfl, by decide +kernel, by decide +kernel⟩
abbrev s_Arrays_data : Stmt := inClass (topS 49) 4
abbrev N_Arrays_data : List Str := ["self", "ref", "own"]
theorem sc_Arrays_data : FnScope N_Arrays_data ["self", "ref"] (defScope s_Arrays_data) := ⟨rfl, rfl, rfl, by decide +kernel, rfl, by decide +kernel, by decide +kernel⟩
abbrev s_Arrays_kill : Stmt := inClass (topS 49) 5
abbrev N_Arrays_kill : List Str := ["self", "ref", "gone", "one"]
theorem sc_Arrays_kill : FnScope N_Arrays_kill ["self", "ref"] (defScope s_Arrays_kill) := ⟨rfl, rfl, rfl, by decide +kernel, rfl, by decide +kernel, by decide +kernel⟩
abbrev s_Arrays_names : Stmt := inClass (topS 49) 6
abbrev s_Arrays_count : Stmt := inClass (topS 49) 7
abbrev s_Arrays_order : Stmt := inClass (topS 49) 8
abbrev N_Arrays_order : List Str := ["self", "ref", "back", "name", "keys", "head", "some", "row", "one", "key"]
theorem sc_Arrays_order : FnScope N_Arrays_order ["self", "ref", "back"] (defScope s_Arrays_order) := ⟨rfl, rfl, rfl, by decide +kernel, rfl, by decide +kernel, by decide +kernel⟩
abbrev s_Arrays_rows : Stmt := inClass (topS 49) 10
abbrev N_Arrays_rows : List Str := ["self", "ref", "one"]
theorem sc_Arrays_rows : FnScope N_Arrays_rows ["self", "ref"] (defScope s_Arrays_rows) := ⟨rfl, rfl, rfl, by decide +kernel, rfl, by decide +kernel, by decide +kernel⟩
abbrev s_Dealings___init : Stmt := inClass (topS 52) 0
abbrev N_Dealings___init : List Str := ["self", "arrays"]
theorem sc_Dealings___init : FnScope N_Dealings___init ["self", "arrays"] (defScope s_Dealings___init) := ⟨rfl, rfl, rfl, by decide +kernel, rfl, by decide +kernel, by decide +kernel⟩
abbrev s_Dealings_level : Stmt := inClass (topS 52) 1
abbrev N_Dealings_level : List Str := ["self", "job"]
theorem sc_Dealings_level : FnScope N_Dealings_level ["self", "job"] (defScope s_Dealings_level) := ⟨rfl, rfl, rfl, by decide +kernel, rfl, by decide +kernel, by decide +kernel⟩
abbrev s_Dealings_touched : Stmt := inClass (topS 52) 2
abbrev s_Dealings_need_free : Stmt := inClass (topS 52) 9
abbrev N_Dealings_need_free : List Str := ["self", "job", "ref", "other", "one"]
theorem sc_Dealings_need_free : FnScope N_Dealings_need_free ["self", "job", "ref"] (defScope s_Dealings_need_free) := ⟨rfl, rfl, rfl, by decide +kernel, rfl, by decide +kernel, by decide +kernel⟩
abbrev s_Dealings_note : Stmt := inClass (topS 52) 10
abbrev N_Dealings_note : List Str := ["self", "job", "ref", "rows"]
theorem sc_Dealings_note : FnScope N_Dealings_note ["self", "job", "ref", "rows"] (defScope s_Dealings_note) := ⟨rfl, rfl, rfl, by decide +kernel, rfl, by decide +kernel, by decide +kernel⟩
abbrev s_Dealings_put : Stmt := inClass (topS 52) 11
abbrev N_Dealings_put : List Str := ["self", "job", "ref", "worth"]
theorem sc_Dealings_put : FnScope N_Dealings_put ["self", "job", "ref", "worth"] (defScope s_Dealings_put) := ⟨rfl, rfl, rfl, by decide +kernel, rfl, by decide +kernel, by decide +kernel⟩
abbrev s_Dealings_kill : Stmt := inClass (topS 52) 12
abbrev N_Dealings_kill : List Str := ["self", "job", "ref"]
theorem sc_Dealings_kill : FnScope N_Dealings_kill ["self", "job", "ref"] (defScope s_Dealings_kill) := ⟨rfl, rfl, rfl, by decide +kernel, rfl, by decide +kernel, by decide +kernel⟩
abbrev s_Dealings_read : Stmt := inClass (topS 52) 13
abbrev N_Dealings_read : List Str := ["self", "job", "ref", "otherwise"]
theorem sc_Dealings_read : FnScope N_Dealings_read ["self", "job", "ref", "otherwise"] (defScope s_Dealings_read) := ⟨rfl, rfl, rfl, by decide +kernel, rfl, by decide +kernel, by decide +kernel⟩
abbrev s_Dealings_data : Stmt := inClass (topS 52) 14
abbrev N_Dealings_data : List Str := ["self", "job", "ref"]
theorem sc_Dealings_data : FnScope N_Dealings_data ["self", "job", "ref"] (defScope s_Dealings_data) := ⟨rfl, rfl, rfl, by decide +kernel, rfl, by decide +kernel, by decide +kernel⟩
abbrev s_Dealings_order : Stmt := inClass (topS 52) 15
abbrev N_Dealings_order : List Str := ["self", "job", "ref", "back"]
theorem sc_Dealings_order : FnScope N_Dealings_order ["self", "job", "ref", "back"] (defScope s_Dealings_order) := ⟨rfl, rfl, rfl, by decide +kernel, rfl, by decide +kernel, by decide +kernel⟩
structure Ad where
  a_is_worth : Addr
  d_is_worth : FuncData
  a_is_name : Addr
  d_is_name : FuncData
  a_is_key : Addr
  d_is_key : FuncData
  a_is_reference : Addr
  d_is_reference : FuncData
  a_signs_ahead : Addr
  d_signs_ahead : FuncData
  a_number_of : Addr
  d_number_of : FuncData
  a_number_text : Addr
  d_number_text : FuncData
  a_is_number_text : Addr
  d_is_number_text : FuncData
  a_rank : Addr
  d_rank : FuncData
  a_is_stem : Addr
  d_is_stem : FuncData
  a_meet : Addr
  d_meet : FuncData
  a_truth_text : Addr
  d_truth_text : FuncData
  a_quotient : Addr
  d_quotient : FuncData
  a_by_numbers : Addr
  d_by_numbers : FuncData
  a_are_one_text : Addr
  d_are_one_text : FuncData
  a_put_behind : Addr
  d_put_behind : FuncData
  a_holds_other : Addr
  d_holds_other : FuncData
  a_stands_behind : Addr
  d_stands_behind : FuncData
  a_of_two : Addr
  d_of_two : FuncData
  a_piece_of : Addr
  d_piece_of : FuncData
  a_part_of : Addr
  d_part_of : FuncData
  a_of_worths : Addr
  d_of_worths : FuncData
  a_not_too_long : Addr
  d_not_too_long : FuncData
  a_need_reference : Addr
  d_need_reference : FuncData
  a_need_worth : Addr
  d_need_worth : FuncData
  a_need_ordered : Addr
  d_need_ordered : FuncData
  a_ranks : Addr
  d_ranks : FuncData
  a_walked : Addr
  d_walked : FuncData
  k_walked : Addr
  p_walked : Addr
  a_need_job : Addr
  d_need_job : FuncData
  a_law_cell_at : Addr
  d_law_cell_at : FuncData
  a_law_bag : Addr
  d_law_bag : FuncData
  a_law_draw : Addr
  d_law_draw : FuncData
  a_law_key : Addr
  d_law_key : FuncData
  a_law_word : Addr
  d_law_word : FuncData
  a_law_unlike : Addr
  d_law_unlike : FuncData
  a_law_pool : Addr
  d_law_pool : FuncData
  a_law_spot : Addr
  d_law_spot : FuncData
  a_law_rank : Addr
  d_law_rank : FuncData
  a_law_worth : Addr
  d_law_worth : FuncData
  a_law_number : Addr
  d_law_number : FuncData
  a_law_of_numbers : Addr
  d_law_of_numbers : FuncData
  a_law_of_two : Addr
  d_law_of_two : FuncData
  a_law_piece : Addr
  d_law_piece : FuncData
  a_law_of_worths : Addr
  d_law_of_worths : FuncData
  a_law_place : Addr
  d_law_place : FuncData
  a_law_next : Addr
  d_law_next : FuncData
  a_law_data : Addr
  d_law_data : FuncData
  a_law_of_place : Addr
  d_law_of_place : FuncData
  a_law_told : Addr
  d_law_told : FuncData
  a_law_due : Addr
  d_law_due : FuncData
  a_law_said : Addr
  d_law_said : FuncData
  a_law_filled : Addr
  d_law_filled : FuncData
  a_law_stage : Addr
  d_law_stage : FuncData
  a_law_shown : Addr
  d_law_shown : FuncData
  a_law_place_right : Addr
  d_law_place_right : FuncData
  a_law_changed : Addr
  d_law_changed : FuncData
  a_law : Addr
  d_law : FuncData
  a_Erring___init : Addr
  d_Erring___init : FuncData
  a_Scene___init : Addr
  d_Scene___init : FuncData
  ds_Scene___init : List Value
  a_Scene_last : Addr
  d_Scene_last : FuncData
  a_Scene_reckon : Addr
  d_Scene_reckon : FuncData
  a_Scene_place : Addr
  d_Scene_place : FuncData
  ds_Scene_place : List Value
  a_Scene_reckoned : Addr
  d_Scene_reckoned : FuncData
  a_Scene_worth_at : Addr
  d_Scene_worth_at : FuncData
  a_Scene_next_key : Addr
  d_Scene_next_key : FuncData
  a_Scene_place_of : Addr
  d_Scene_place_of : FuncData
  a_Arrays___init : Addr
  d_Arrays___init : FuncData
  a_Arrays_put : Addr
  d_Arrays_put : FuncData
  a_Arrays_read : Addr
  d_Arrays_read : FuncData
  ds_Arrays_read : List Value
  a_Arrays_beneath : Addr
  d_Arrays_beneath : FuncData
  a_Arrays_data : Addr
  d_Arrays_data : FuncData
  a_Arrays_kill : Addr
  d_Arrays_kill : FuncData
  a_Arrays_names : Addr
  d_Arrays_names : FuncData
  a_Arrays_count : Addr
  d_Arrays_count : FuncData
  a_Arrays_order : Addr
  d_Arrays_order : FuncData
  ds_Arrays_order : List Value
  a_Arrays_rows : Addr
  d_Arrays_rows : FuncData
  a_Dealings___init : Addr
  d_Dealings___init : FuncData
  a_Dealings_level : Addr
  d_Dealings_level : FuncData
  a_Dealings_touched : Addr
  d_Dealings_touched : FuncData
  a_Dealings_need_free : Addr
  d_Dealings_need_free : FuncData
  a_Dealings_note : Addr
  d_Dealings_note : FuncData
  a_Dealings_put : Addr
  d_Dealings_put : FuncData
  a_Dealings_kill : Addr
  d_Dealings_kill : FuncData
  a_Dealings_read : Addr
  d_Dealings_read : FuncData
  ds_Dealings_read : List Value
  a_Dealings_data : Addr
  d_Dealings_data : FuncData
  a_Dealings_order : Addr
  d_Dealings_order : FuncData
  ds_Dealings_order : List Value
  c_Scene : Addr
  c_Arrays : Addr
  c_Dealings : Addr
  t_FIGURES : Tok
  t_LETTERS : Tok
  t_MOST_KEYS : Tok
  t_MOST_LETTERS : Tok
  t_MOST_LONG : Tok
  t_MOST_SIGNS : Tok
  t_SIGNS : Tok
  t_PLACES : Addr
  t_BY_TEXTS : Addr
  c_Erring : Addr
abbrev tabsOf (A : Ad) : List (Addr × Str) := [(A.p_walked, lamq "walked")]
structure Tb (base : Heap) (mg : Str → Option Value) (A : Ad) : Prop where
  b_walked : LamX.TabB base mg A.k_walked A.p_walked
structure Txt (K : PySem.W.Frag) (mg : Str → Option Value) (A : Ad) : Prop where
  F_is_worth : Fun K "is_worth" "is_worth" s_is_worth A.a_is_worth A.d_is_worth
  g_is_worth : mg "is_worth" = some (.ref A.a_is_worth)
  b_is_worth : Binds K A.d_is_worth ["thing"] []
  F_is_name : Fun K "is_name" "is_name" s_is_name A.a_is_name A.d_is_name
  g_is_name : mg "is_name" = some (.ref A.a_is_name)
  b_is_name : Binds K A.d_is_name ["thing"] []
  F_is_key : Fun K "is_key" "is_key" s_is_key A.a_is_key A.d_is_key
  g_is_key : mg "is_key" = some (.ref A.a_is_key)
  b_is_key : Binds K A.d_is_key ["thing"] []
  F_is_reference : Fun K "is_reference" "is_reference" s_is_reference A.a_is_reference A.d_is_reference
  g_is_reference : mg "is_reference" = some (.ref A.a_is_reference)
  b_is_reference : Binds K A.d_is_reference ["thing"] []
  F_signs_ahead : Fun K "signs_ahead" "signs_ahead" s_signs_ahead A.a_signs_ahead A.d_signs_ahead
  g_signs_ahead : mg "signs_ahead" = some (.ref A.a_signs_ahead)
  b_signs_ahead : Binds K A.d_signs_ahead ["worth", "some"] []
  F_number_of : Fun K "number_of" "number_of" s_number_of A.a_number_of A.d_number_of
  g_number_of : mg "number_of" = some (.ref A.a_number_of)
  b_number_of : Binds K A.d_number_of ["worth"] []
  F_number_text : Fun K "number_text" "number_text" s_number_text A.a_number_text A.d_number_text
  g_number_text : mg "number_text" = some (.ref A.a_number_text)
  b_number_text : Binds K A.d_number_text ["number"] []
  F_is_number_text : Fun K "is_number_text" "is_number_text" s_is_number_text A.a_is_number_text A.d_is_number_text
  g_is_number_text : mg "is_number_text" = some (.ref A.a_is_number_text)
  b_is_number_text : Binds K A.d_is_number_text ["worth"] []
  F_rank : Fun K "rank" "rank" s_rank A.a_rank A.d_rank
  g_rank : mg "rank" = some (.ref A.a_rank)
  b_rank : Binds K A.d_rank ["key"] []
  F_is_stem : Fun K "is_stem" "is_stem" s_is_stem A.a_is_stem A.d_is_stem
  g_is_stem : mg "is_stem" = some (.ref A.a_is_stem)
  b_is_stem : Binds K A.d_is_stem ["one", "other"] []
  F_meet : Fun K "meet" "meet" s_meet A.a_meet A.d_meet
  g_meet : mg "meet" = some (.ref A.a_meet)
  b_meet : Binds K A.d_meet ["one", "other"] []
  F_truth_text : Fun K "truth_text" "truth_text" s_truth_text A.a_truth_text A.d_truth_text
  g_truth_text : mg "truth_text" = some (.ref A.a_truth_text)
  b_truth_text : Binds K A.d_truth_text ["truth"] []
  F_quotient : Fun K "quotient" "quotient" s_quotient A.a_quotient A.d_quotient
  g_quotient : mg "quotient" = some (.ref A.a_quotient)
  b_quotient : Binds K A.d_quotient ["one", "other"] []
  F_by_numbers : Fun K "by_numbers" "by_numbers" s_by_numbers A.a_by_numbers A.d_by_numbers
  g_by_numbers : mg "by_numbers" = some (.ref A.a_by_numbers)
  b_by_numbers : Binds K A.d_by_numbers ["sign", "one", "other"] []
  F_are_one_text : Fun K "are_one_text" "are_one_text" s_are_one_text A.a_are_one_text A.d_are_one_text
  g_are_one_text : mg "are_one_text" = some (.ref A.a_are_one_text)
  b_are_one_text : Binds K A.d_are_one_text ["one", "other"] []
  F_put_behind : Fun K "put_behind" "put_behind" s_put_behind A.a_put_behind A.d_put_behind
  g_put_behind : mg "put_behind" = some (.ref A.a_put_behind)
  b_put_behind : Binds K A.d_put_behind ["one", "other"] []
  F_holds_other : Fun K "holds_other" "holds_other" s_holds_other A.a_holds_other A.d_holds_other
  g_holds_other : mg "holds_other" = some (.ref A.a_holds_other)
  b_holds_other : Binds K A.d_holds_other ["one", "other"] []
  F_stands_behind : Fun K "stands_behind" "stands_behind" s_stands_behind A.a_stands_behind A.d_stands_behind
  g_stands_behind : mg "stands_behind" = some (.ref A.a_stands_behind)
  b_stands_behind : Binds K A.d_stands_behind ["one", "other"] []
  F_of_two : Fun K "of_two" "of_two" s_of_two A.a_of_two A.d_of_two
  g_of_two : mg "of_two" = some (.ref A.a_of_two)
  b_of_two : Binds K A.d_of_two ["sign", "one", "other"] []
  F_piece_of : Fun K "piece_of" "piece_of" s_piece_of A.a_piece_of A.d_piece_of
  g_piece_of : mg "piece_of" = some (.ref A.a_piece_of)
  b_piece_of : Binds K A.d_piece_of ["one", "other", "nth"] []
  F_part_of : Fun K "part_of" "part_of" s_part_of A.a_part_of A.d_part_of
  g_part_of : mg "part_of" = some (.ref A.a_part_of)
  b_part_of : Binds K A.d_part_of ["one", "first", "last"] []
  F_of_worths : Fun K "of_worths" "of_worths" s_of_worths A.a_of_worths A.d_of_worths
  g_of_worths : mg "of_worths" = some (.ref A.a_of_worths)
  b_of_worths : Binds K A.d_of_worths ["word", "worths"] []
  F_not_too_long : Fun K "not_too_long" "not_too_long" s_not_too_long A.a_not_too_long A.d_not_too_long
  g_not_too_long : mg "not_too_long" = some (.ref A.a_not_too_long)
  b_not_too_long : Binds K A.d_not_too_long ["worth"] []
  F_need_reference : Fun K "need_reference" "need_reference" s_need_reference A.a_need_reference A.d_need_reference
  g_need_reference : mg "need_reference" = some (.ref A.a_need_reference)
  b_need_reference : Binds K A.d_need_reference ["thing"] []
  F_need_worth : Fun K "need_worth" "need_worth" s_need_worth A.a_need_worth A.d_need_worth
  g_need_worth : mg "need_worth" = some (.ref A.a_need_worth)
  b_need_worth : Binds K A.d_need_worth ["thing"] []
  F_need_ordered : Fun K "need_ordered" "need_ordered" s_need_ordered A.a_need_ordered A.d_need_ordered
  g_need_ordered : mg "need_ordered" = some (.ref A.a_need_ordered)
  b_need_ordered : Binds K A.d_need_ordered ["thing"] []
  F_ranks : Fun K "ranks" "ranks" s_ranks A.a_ranks A.d_ranks
  g_ranks : mg "ranks" = some (.ref A.a_ranks)
  b_ranks : Binds K A.d_ranks ["ref"] []
  F_walked : Fun K "walked" "walked" s_walked A.a_walked A.d_walked
  g_walked : mg "walked" = some (.ref A.a_walked)
  b_walked : Binds K A.d_walked ["refs"] []
  kc_walked : A.d_walked.code = .ref A.k_walked
  m_walked : (A.p_walked, lamq "walked") ∈ tabsOf A
  u_walked : ∀ p ∈ tabsOf A, p.1 = A.p_walked → p.2 = lamq "walked"
  F_need_job : Fun K "need_job" "need_job" s_need_job A.a_need_job A.d_need_job
  g_need_job : mg "need_job" = some (.ref A.a_need_job)
  b_need_job : Binds K A.d_need_job ["thing"] []
  F_law_cell_at : Fun K "_law_cell_at" "_law_cell_at" s_law_cell_at A.a_law_cell_at A.d_law_cell_at
  g_law_cell_at : mg "_law_cell_at" = some (.ref A.a_law_cell_at)
  b_law_cell_at : Binds K A.d_law_cell_at ["script", "k"] []
  F_law_bag : Fun K "_law_bag" "_law_bag" s_law_bag A.a_law_bag A.d_law_bag
  g_law_bag : mg "_law_bag" = some (.ref A.a_law_bag)
  b_law_bag : Binds K A.d_law_bag ["cell"] []
  F_law_draw : Fun K "_law_draw" "_law_draw" s_law_draw A.a_law_draw A.d_law_draw
  g_law_draw : mg "_law_draw" = some (.ref A.a_law_draw)
  b_law_draw : Binds K A.d_law_draw ["bag", "many"] []
  F_law_key : Fun K "_law_key" "_law_key" s_law_key A.a_law_key A.d_law_key
  g_law_key : mg "_law_key" = some (.ref A.a_law_key)
  b_law_key : Binds K A.d_law_key ["bag"] []
  F_law_word : Fun K "_law_word" "_law_word" s_law_word A.a_law_word A.d_law_word
  g_law_word : mg "_law_word" = some (.ref A.a_law_word)
  b_law_word : Binds K A.d_law_word ["bag"] []
  F_law_unlike : Fun K "_law_unlike" "_law_unlike" s_law_unlike A.a_law_unlike A.d_law_unlike
  g_law_unlike : mg "_law_unlike" = some (.ref A.a_law_unlike)
  b_law_unlike : Binds K A.d_law_unlike ["found", "one"] []
  F_law_pool : Fun K "_law_pool" "_law_pool" s_law_pool A.a_law_pool A.d_law_pool
  g_law_pool : mg "_law_pool" = some (.ref A.a_law_pool)
  b_law_pool : Binds K A.d_law_pool ["bag"] []
  F_law_spot : Fun K "_law_spot" "_law_spot" s_law_spot A.a_law_spot A.d_law_spot
  g_law_spot : mg "_law_spot" = some (.ref A.a_law_spot)
  b_law_spot : Binds K A.d_law_spot ["bag", "pool", "most"] []
  F_law_rank : Fun K "_law_rank" "_law_rank" s_law_rank A.a_law_rank A.d_law_rank
  g_law_rank : mg "_law_rank" = some (.ref A.a_law_rank)
  b_law_rank : Binds K A.d_law_rank ["text"] []
  F_law_worth : Fun K "_law_worth" "_law_worth" s_law_worth A.a_law_worth A.d_law_worth
  g_law_worth : mg "_law_worth" = some (.ref A.a_law_worth)
  b_law_worth : Binds K A.d_law_worth ["bag"] []
  F_law_number : Fun K "_law_number" "_law_number" s_law_number A.a_law_number A.d_law_number
  g_law_number : mg "_law_number" = some (.ref A.a_law_number)
  b_law_number : Binds K A.d_law_number ["worth"] []
  F_law_of_numbers : Fun K "_law_of_numbers" "_law_of_numbers" s_law_of_numbers A.a_law_of_numbers A.d_law_of_numbers
  g_law_of_numbers : mg "_law_of_numbers" = some (.ref A.a_law_of_numbers)
  b_law_of_numbers : Binds K A.d_law_of_numbers ["sign", "one", "other"] []
  F_law_of_two : Fun K "_law_of_two" "_law_of_two" s_law_of_two A.a_law_of_two A.d_law_of_two
  g_law_of_two : mg "_law_of_two" = some (.ref A.a_law_of_two)
  b_law_of_two : Binds K A.d_law_of_two ["sign", "one", "other"] []
  F_law_piece : Fun K "_law_piece" "_law_piece" s_law_piece A.a_law_piece A.d_law_piece
  g_law_piece : mg "_law_piece" = some (.ref A.a_law_piece)
  b_law_piece : Binds K A.d_law_piece ["one", "other", "nth"] []
  F_law_of_worths : Fun K "_law_of_worths" "_law_of_worths" s_law_of_worths A.a_law_of_worths A.d_law_of_worths
  g_law_of_worths : mg "_law_of_worths" = some (.ref A.a_law_of_worths)
  b_law_of_worths : Binds K A.d_law_of_worths ["word", "worths"] []
  F_law_place : Fun K "_law_place" "_law_place" s_law_place A.a_law_place A.d_law_place
  g_law_place : mg "_law_place" = some (.ref A.a_law_place)
  b_law_place : Binds K A.d_law_place ["m", "one", "is_open"] []
  F_law_next : Fun K "_law_next" "_law_next" s_law_next A.a_law_next A.d_law_next
  g_law_next : mg "_law_next" = some (.ref A.a_law_next)
  b_law_next : Binds K A.d_law_next ["nodes", "ref", "is_back"] []
  F_law_data : Fun K "_law_data" "_law_data" s_law_data A.a_law_data A.d_law_data
  g_law_data : mg "_law_data" = some (.ref A.a_law_data)
  b_law_data : Binds K A.d_law_data ["nodes", "ref"] []
  F_law_of_place : Fun K "_law_of_place" "_law_of_place" s_law_of_place A.a_law_of_place A.d_law_of_place
  g_law_of_place : mg "_law_of_place" = some (.ref A.a_law_of_place)
  b_law_of_place : Binds K A.d_law_of_place ["m", "one"] []
  F_law_told : Fun K "_law_told" "_law_told" s_law_told A.a_law_told A.d_law_told
  g_law_told : mg "_law_told" = some (.ref A.a_law_told)
  b_law_told : Binds K A.d_law_told ["m", "one"] []
  F_law_due : Fun K "_law_due" "_law_due" s_law_due A.a_law_due A.d_law_due
  g_law_due : mg "_law_due" = some (.ref A.a_law_due)
  b_law_due : Binds K A.d_law_due ["m", "one"] []
  F_law_said : Fun K "_law_said" "_law_said" s_law_said A.a_law_said A.d_law_said
  g_law_said : mg "_law_said" = some (.ref A.a_law_said)
  b_law_said : Binds K A.d_law_said ["scene", "one"] []
  F_law_filled : Fun K "_law_filled" "_law_filled" s_law_filled A.a_law_filled A.d_law_filled
  g_law_filled : mg "_law_filled" = some (.ref A.a_law_filled)
  b_law_filled : Binds K A.d_law_filled ["bag", "pool", "arrays"] []
  F_law_stage : Fun K "_law_stage" "_law_stage" s_law_stage A.a_law_stage A.d_law_stage
  g_law_stage : mg "_law_stage" = some (.ref A.a_law_stage)
  b_law_stage : Binds K A.d_law_stage ["bag", "pool"] []
  F_law_shown : Fun K "_law_shown" "_law_shown" s_law_shown A.a_law_shown A.d_law_shown
  g_law_shown : mg "_law_shown" = some (.ref A.a_law_shown)
  b_law_shown : Binds K A.d_law_shown ["bag", "pool"] []
  F_law_place_right : Fun K "_law_place_right" "_law_place_right" s_law_place_right A.a_law_place_right A.d_law_place_right
  g_law_place_right : mg "_law_place_right" = some (.ref A.a_law_place_right)
  b_law_place_right : Binds K A.d_law_place_right ["bag", "s", "pool"] []
  F_law_changed : Fun K "_law_changed" "_law_changed" s_law_changed A.a_law_changed A.d_law_changed
  g_law_changed : mg "_law_changed" = some (.ref A.a_law_changed)
  b_law_changed : Binds K A.d_law_changed ["bag", "s", "pool"] []
  F_law : Fun K "law" "law" s_law A.a_law A.d_law
  g_law : mg "law" = some (.ref A.a_law)
  b_law : Binds K A.d_law ["script"] []
  F_Erring___init : Fun K "__init__" "Erring.__init__" s_Erring___init A.a_Erring___init A.d_Erring___init
  ie_Erring : PySem.W.findIn K (.ref A.c_Erring) "__init__" = some (some (.ref A.a_Erring___init))
  b_Erring___init : Binds K A.d_Erring___init ["self", "word"] []
  F_Scene___init : FunP K "__init__" "Scene.__init__" s_Scene___init A.a_Scene___init A.d_Scene___init
  Mk_Scene : Mk K A.c_Scene A.a_Scene___init
  bd_Scene___init : Binds K A.d_Scene___init ["self", "own", "dealings", "job"] A.ds_Scene___init
  dv_Scene___init : Vals [V.int 0] A.ds_Scene___init
  F_Scene_last : Fun K "last" "Scene.last" s_Scene_last A.a_Scene_last A.d_Scene_last
  M_Scene_last : Meth K A.c_Scene "last" A.a_Scene_last
  b_Scene_last : Binds K A.d_Scene_last ["self"] []
  F_Scene_reckon : Fun K "reckon" "Scene.reckon" s_Scene_reckon A.a_Scene_reckon A.d_Scene_reckon
  M_Scene_reckon : Meth K A.c_Scene "reckon" A.a_Scene_reckon
  b_Scene_reckon : Binds K A.d_Scene_reckon ["self", "expression"] []
  F_Scene_place : Fun K "place" "Scene.place" s_Scene_place A.a_Scene_place A.d_Scene_place
  M_Scene_place : Meth K A.c_Scene "place" A.a_Scene_place
  bd_Scene_place : Binds K A.d_Scene_place ["self", "expression", "empty"] A.ds_Scene_place
  dv_Scene_place : Vals [V.bl false] A.ds_Scene_place
  F_Scene_reckoned : Fun K "reckoned" "Scene.reckoned" s_Scene_reckoned A.a_Scene_reckoned A.d_Scene_reckoned
  M_Scene_reckoned : Meth K A.c_Scene "reckoned" A.a_Scene_reckoned
  b_Scene_reckoned : Binds K A.d_Scene_reckoned ["self", "expression"] []
  F_Scene_worth_at : Fun K "worth_at" "Scene.worth_at" s_Scene_worth_at A.a_Scene_worth_at A.d_Scene_worth_at
  M_Scene_worth_at : Meth K A.c_Scene "worth_at" A.a_Scene_worth_at
  b_Scene_worth_at : Binds K A.d_Scene_worth_at ["self", "spot"] []
  F_Scene_next_key : Fun K "next_key" "Scene.next_key" s_Scene_next_key A.a_Scene_next_key A.d_Scene_next_key
  M_Scene_next_key : Meth K A.c_Scene "next_key" A.a_Scene_next_key
  b_Scene_next_key : Binds K A.d_Scene_next_key ["self", "expression", "back"] []
  F_Scene_place_of : Fun K "place_of" "Scene.place_of" s_Scene_place_of A.a_Scene_place_of A.d_Scene_place_of
  M_Scene_place_of : Meth K A.c_Scene "place_of" A.a_Scene_place_of
  b_Scene_place_of : Binds K A.d_Scene_place_of ["self", "expression", "empty"] []
  F_Arrays___init : Fun K "__init__" "Arrays.__init__" s_Arrays___init A.a_Arrays___init A.d_Arrays___init
  Mk_Arrays : Mk K A.c_Arrays A.a_Arrays___init
  b_Arrays___init : Binds K A.d_Arrays___init ["self"] []
  F_Arrays_put : Fun K "put" "Arrays.put" s_Arrays_put A.a_Arrays_put A.d_Arrays_put
  M_Arrays_put : Meth K A.c_Arrays "put" A.a_Arrays_put
  b_Arrays_put : Binds K A.d_Arrays_put ["self", "ref", "worth"] []
  F_Arrays_read : Fun K "read" "Arrays.read" s_Arrays_read A.a_Arrays_read A.d_Arrays_read
  M_Arrays_read : Meth K A.c_Arrays "read" A.a_Arrays_read
  bd_Arrays_read : Binds K A.d_Arrays_read ["self", "ref", "otherwise"] A.ds_Arrays_read
  dv_Arrays_read : Vals [V.str (Str.ofString "")] A.ds_Arrays_read
  F_Arrays_beneath : Fun K "beneath" "Arrays.beneath" s_Arrays_beneath A.a_Arrays_beneath A.d_Arrays_beneath
  M_Arrays_beneath : Meth K A.c_Arrays "beneath" A.a_Arrays_beneath
  b_Arrays_beneath : Binds K A.d_Arrays_beneath ["self", "ref"] []
  F_Arrays_data : Fun K "data" "Arrays.data" s_Arrays_data A.a_Arrays_data A.d_Arrays_data
  M_Arrays_data : Meth K A.c_Arrays "data" A.a_Arrays_data
  b_Arrays_data : Binds K A.d_Arrays_data ["self", "ref"] []
  F_Arrays_kill : Fun K "kill" "Arrays.kill" s_Arrays_kill A.a_Arrays_kill A.d_Arrays_kill
  M_Arrays_kill : Meth K A.c_Arrays "kill" A.a_Arrays_kill
  b_Arrays_kill : Binds K A.d_Arrays_kill ["self", "ref"] []
  F_Arrays_names : Fun K "names" "Arrays.names" s_Arrays_names A.a_Arrays_names A.d_Arrays_names
  M_Arrays_names : Meth K A.c_Arrays "names" A.a_Arrays_names
  b_Arrays_names : Binds K A.d_Arrays_names ["self"] []
  F_Arrays_count : Fun K "count" "Arrays.count" s_Arrays_count A.a_Arrays_count A.d_Arrays_count
  M_Arrays_count : Meth K A.c_Arrays "count" A.a_Arrays_count
  b_Arrays_count : Binds K A.d_Arrays_count ["self"] []
  F_Arrays_order : Fun K "order" "Arrays.order" s_Arrays_order A.a_Arrays_order A.d_Arrays_order
  M_Arrays_order : Meth K A.c_Arrays "order" A.a_Arrays_order
  bd_Arrays_order : Binds K A.d_Arrays_order ["self", "ref", "back"] A.ds_Arrays_order
  dv_Arrays_order : Vals [V.bl false] A.ds_Arrays_order
  F_Arrays_rows : Fun K "rows" "Arrays.rows" s_Arrays_rows A.a_Arrays_rows A.d_Arrays_rows
  M_Arrays_rows : Meth K A.c_Arrays "rows" A.a_Arrays_rows
  b_Arrays_rows : Binds K A.d_Arrays_rows ["self", "ref"] []
  F_Dealings___init : Fun K "__init__" "Dealings.__init__" s_Dealings___init A.a_Dealings___init A.d_Dealings___init
  Mk_Dealings : Mk K A.c_Dealings A.a_Dealings___init
  b_Dealings___init : Binds K A.d_Dealings___init ["self", "arrays"] []
  F_Dealings_level : Fun K "level" "Dealings.level" s_Dealings_level A.a_Dealings_level A.d_Dealings_level
  M_Dealings_level : Meth K A.c_Dealings "level" A.a_Dealings_level
  b_Dealings_level : Binds K A.d_Dealings_level ["self", "job"] []
  F_Dealings_touched : Fun K "touched" "Dealings.touched" s_Dealings_touched A.a_Dealings_touched A.d_Dealings_touched
  M_Dealings_touched : Meth K A.c_Dealings "touched" A.a_Dealings_touched
  b_Dealings_touched : Binds K A.d_Dealings_touched ["self", "job"] []
  F_Dealings_need_free : Fun K "need_free" "Dealings.need_free" s_Dealings_need_free A.a_Dealings_need_free A.d_Dealings_need_free
  M_Dealings_need_free : Meth K A.c_Dealings "need_free" A.a_Dealings_need_free
  b_Dealings_need_free : Binds K A.d_Dealings_need_free ["self", "job", "ref"] []
  F_Dealings_note : Fun K "note" "Dealings.note" s_Dealings_note A.a_Dealings_note A.d_Dealings_note
  M_Dealings_note : Meth K A.c_Dealings "note" A.a_Dealings_note
  b_Dealings_note : Binds K A.d_Dealings_note ["self", "job", "ref", "rows"] []
  F_Dealings_put : Fun K "put" "Dealings.put" s_Dealings_put A.a_Dealings_put A.d_Dealings_put
  M_Dealings_put : Meth K A.c_Dealings "put" A.a_Dealings_put
  b_Dealings_put : Binds K A.d_Dealings_put ["self", "job", "ref", "worth"] []
  F_Dealings_kill : Fun K "kill" "Dealings.kill" s_Dealings_kill A.a_Dealings_kill A.d_Dealings_kill
  M_Dealings_kill : Meth K A.c_Dealings "kill" A.a_Dealings_kill
  b_Dealings_kill : Binds K A.d_Dealings_kill ["self", "job", "ref"] []
  F_Dealings_read : Fun K "read" "Dealings.read" s_Dealings_read A.a_Dealings_read A.d_Dealings_read
  M_Dealings_read : Meth K A.c_Dealings "read" A.a_Dealings_read
  bd_Dealings_read : Binds K A.d_Dealings_read ["self", "job", "ref", "otherwise"] A.ds_Dealings_read
  dv_Dealings_read : Vals [V.str (Str.ofString "")] A.ds_Dealings_read
  F_Dealings_data : Fun K "data" "Dealings.data" s_Dealings_data A.a_Dealings_data A.d_Dealings_data
  M_Dealings_data : Meth K A.c_Dealings "data" A.a_Dealings_data
  b_Dealings_data : Binds K A.d_Dealings_data ["self", "job", "ref"] []
  F_Dealings_order : Fun K "order" "Dealings.order" s_Dealings_order A.a_Dealings_order A.d_Dealings_order
  M_Dealings_order : Meth K A.c_Dealings "order" A.a_Dealings_order
  bd_Dealings_order : Binds K A.d_Dealings_order ["self", "job", "ref", "back"] A.ds_Dealings_order
  dv_Dealings_order : Vals [V.bl false] A.ds_Dealings_order
  cl_Scene : Cls K A.c_Scene
  g_Scene : mg "Scene" = some (.ref A.c_Scene)
  na_Scene_own : NoAttr K A.c_Scene "own"
  na_Scene_dealings : NoAttr K A.c_Scene "dealings"
  na_Scene_job : NoAttr K A.c_Scene "job"
  na_Scene_latest : NoAttr K A.c_Scene "latest"
  cl_Arrays : Cls K A.c_Arrays
  g_Arrays : mg "Arrays" = some (.ref A.c_Arrays)
  na_Arrays_nodes : NoAttr K A.c_Arrays "nodes"
  cl_Dealings : Cls K A.c_Dealings
  g_Dealings : mg "Dealings" = some (.ref A.c_Dealings)
  na_Dealings_shelf : NoAttr K A.c_Dealings "shelf"
  na_Dealings_begun : NoAttr K A.c_Dealings "begun"
  na_Dealings_touches : NoAttr K A.c_Dealings "touches"
  g_Erring : mg "Erring" = some (.ref A.c_Erring)
  ox_Erring : OexC K A.c_Erring
  xf_Erring : XfC K A.c_Erring
  it_Erring : PySem.W.typeIn K (.ref A.a_Erring___init) = some (.type "function")
  te_Erring : PySem.W.exmOne K (.ref A.c_Erring) (.ref A.c_Erring) = some true
  na_Erring_word : PySem.W.findIn K (.ref A.c_Erring) "word" = some none
  kb_Arrays_order__2_back : KBn K A.d_Arrays_order ["self", "ref", "back"] 2 ["back"] (pick .none [(false, 0), (false, 1), (true, 0)]) (pick .non [(false, 0), (false, 1), (true, 0)])
  kb_Arrays_read__2_otherwise : KBn K A.d_Arrays_read ["self", "ref", "otherwise"] 2 ["otherwise"] (pick .none [(false, 0), (false, 1), (true, 0)]) (pick .non [(false, 0), (false, 1), (true, 0)])
  kb_Dealings_order__3_back : KBn K A.d_Dealings_order ["self", "job", "ref", "back"] 3 ["back"] (pick .none [(false, 0), (false, 1), (false, 2), (true, 0)]) (pick .non [(false, 0), (false, 1), (false, 2), (true, 0)])
  kb_Dealings_read__3_otherwise : KBn K A.d_Dealings_read ["self", "job", "ref", "otherwise"] 3 ["otherwise"] (pick .none [(false, 0), (false, 1), (false, 2), (true, 0)]) (pick .non [(false, 0), (false, 1), (false, 2), (true, 0)])
  kb_Scene_place__2_empty : KBn K A.d_Scene_place ["self", "expression", "empty"] 2 ["empty"] (pick .none [(false, 0), (false, 1), (true, 0)]) (pick .non [(false, 0), (false, 1), (true, 0)])
  n_abs : mg "abs" = none
  n_all : mg "all" = none
  n_bool : mg "bool" = none
  n_enumerate : mg "enumerate" = none
  n_int : mg "int" = none
  n_isinstance : mg "isinstance" = none
  n_len : mg "len" = none
  n_list : mg "list" = none
  n_max : mg "max" = none
  n_min : mg "min" = none
  n_range : mg "range" = none
  n_sorted : mg "sorted" = none
  n_str : mg "str" = none
  n_tuple : mg "tuple" = none
  c_FIGURES : mg "FIGURES" = some (.str (Str.ofString "0123456789") A.t_FIGURES)
  c_LETTERS : mg "LETTERS" = some (.str (Str.ofString "abcdefghijklmnopqrstuvwxyz") A.t_LETTERS)
  c_MOST_KEYS : mg "MOST_KEYS" = some (.int 6 A.t_MOST_KEYS)
  c_MOST_LETTERS : mg "MOST_LETTERS" = some (.int 8 A.t_MOST_LETTERS)
  c_MOST_LONG : mg "MOST_LONG" = some (.int 2000 A.t_MOST_LONG)
  c_MOST_SIGNS : mg "MOST_SIGNS" = some (.int 40 A.t_MOST_SIGNS)
  c_SIGNS : mg "SIGNS" = some (.str (Str.ofString " !\"#$&'()*+,-./0123456789:;<=>?@ABCDEFGHIJKLMNOPQRSTUVWXYZ[\\]^_`abcdefghijklmnopqrstuvwxyz{|}~") A.t_SIGNS)
  c_PLACES : mg "PLACES" = some (.ref A.t_PLACES)
  q_PLACES : ∀ H : Hp, SqT K H A.t_PLACES [V.str (Str.ofString "var"), V.str (Str.ofString "at"), V.str (Str.ofString "short")]
  c_BY_TEXTS : mg "BY_TEXTS" = some (.ref A.t_BY_TEXTS)
structure Md (P : Program) (w : World) (K : PySem.W.Frag) (A : Ad) : Prop where
  m_BY_TEXTS : DctK P w K A.t_BY_TEXTS [(Str.ofString "=", V.ref A.a_are_one_text), (Str.ofString "_", V.ref A.a_put_behind), (Str.ofString "[", V.ref A.a_holds_other), (Str.ofString "]", V.ref A.a_stands_behind)]
theorem txt_mk {K : PySem.W.Frag} {h : Heap} {mg : Str → Option Value} (X : K.In h) (G : h.Ns mainGlobals mg)
    {C_Scene : Addr} (aC_Scene : PySem.W.nsIn K mainGlobals "Scene" = some (some (.ref C_Scene))) (pg_Scene : PySem.W.plainGet K C_Scene Str.empty = true) (hd_Scene : PySem.W.hasDictIn K C_Scene = true) (po_Scene : PySem.W.plainOver K C_Scene = true) (sa_Scene : PySem.W.findIn K (.ref C_Scene) "__setattr__" = some (some (.builtin "object.__setattr__"))) (mk_Scene : PySem.W.makesIn K C_Scene = true) (kp_Scene : PySem.W.keepIn K (.ref C_Scene) = true)
    (na_Scene_own : PySem.W.findIn K (.ref C_Scene) "own" = some none)
    (na_Scene_dealings : PySem.W.findIn K (.ref C_Scene) "dealings" = some none)
    (na_Scene_job : PySem.W.findIn K (.ref C_Scene) "job" = some none)
    (na_Scene_latest : PySem.W.findIn K (.ref C_Scene) "latest" = some none)
    {C_Arrays : Addr} (aC_Arrays : PySem.W.nsIn K mainGlobals "Arrays" = some (some (.ref C_Arrays))) (pg_Arrays : PySem.W.plainGet K C_Arrays Str.empty = true) (hd_Arrays : PySem.W.hasDictIn K C_Arrays = true) (po_Arrays : PySem.W.plainOver K C_Arrays = true) (sa_Arrays : PySem.W.findIn K (.ref C_Arrays) "__setattr__" = some (some (.builtin "object.__setattr__"))) (mk_Arrays : PySem.W.makesIn K C_Arrays = true) (kp_Arrays : PySem.W.keepIn K (.ref C_Arrays) = true)
    (na_Arrays_nodes : PySem.W.findIn K (.ref C_Arrays) "nodes" = some none)
    {C_Dealings : Addr} (aC_Dealings : PySem.W.nsIn K mainGlobals "Dealings" = some (some (.ref C_Dealings))) (pg_Dealings : PySem.W.plainGet K C_Dealings Str.empty = true) (hd_Dealings : PySem.W.hasDictIn K C_Dealings = true) (po_Dealings : PySem.W.plainOver K C_Dealings = true) (sa_Dealings : PySem.W.findIn K (.ref C_Dealings) "__setattr__" = some (some (.builtin "object.__setattr__"))) (mk_Dealings : PySem.W.makesIn K C_Dealings = true) (kp_Dealings : PySem.W.keepIn K (.ref C_Dealings) = true)
    (na_Dealings_shelf : PySem.W.findIn K (.ref C_Dealings) "shelf" = some none)
    (na_Dealings_begun : PySem.W.findIn K (.ref C_Dealings) "begun" = some none)
    (na_Dealings_touches : PySem.W.findIn K (.ref C_Dealings) "touches" = some none)
    {C_Erring N_Erring : Addr} {nm_Erring q_Erring : Str} {bs_Erring bm_Erring sub_Erring : List Value} {sn_Erring : List Str} {ab_Erring : Bool} {col_Erring : Option Bool} {dd_Erring : Option Addr} {m0_Erring m1_Erring m2_Erring m3_Erring m5_Erring : Option Value}
    (aX_Erring : PySem.W.nsIn K mainGlobals "Erring" = some (some (.ref C_Erring))) (xL_Erring : K.lookup C_Erring = some (excClassObj nm_Erring q_Erring C_Erring N_Erring bs_Erring bm_Erring true sn_Erring sub_Erring ab_Erring col_Erring dd_Erring m0_Erring m1_Erring m2_Erring m3_Erring m5_Erring "ValueError.__new__")) (rv_Erring : PySem.HandSPX.refsVE bm_Erring = true) (sa_Erring : PySem.W.findIn K (.ref C_Erring) "__setattr__" = some (some (.builtin "object.__setattr__"))) (ga_Erring : PySem.W.findIn K (.ref C_Erring) "__getattribute__" = some (some (.builtin "BaseException.__getattribute__"))) (gg_Erring : PySem.W.findIn K (.ref C_Erring) "__getattr__" = some none)
    (kC_Erring : PySem.W.keepIn K (.ref C_Erring) = true) (eC_Erring : PySem.W.subIn K (.ref C_Erring) (.type "BaseException") = some true) (tC_Erring : PySem.W.typeIn K (.ref C_Erring) = some (.type "type")) (hC_Erring : PySem.W.hasDictIn K C_Erring = true) (iC_Erring : PySem.W.isClsIn K C_Erring = true) (sC_Erring : PySem.W.subIn K (.ref C_Erring) (.ref C_Erring) = some true)
    (nx_Erring_word : PySem.W.findIn K (.ref C_Erring) "word" = some none)
    {f0 : Addr} {od0 an0 : Option Addr} {sl0 : Array (Option Value)} {oc0 kV0 dc0 pm0 cd0 ct0 : Value}
    (a0 : PySem.W.nsIn K mainGlobals "is_worth" = some (some (.ref f0))) (l0 : K.lookup f0 = some ⟨oc0, od0, .func (PySem.W.fnOf "is_worth" "is_worth" (defArgs s_is_worth) (defBody s_is_worth) (defScope s_is_worth) .none kV0 dc0 pm0 an0 cd0 ct0), sl0⟩) (c0 : PySem.W.codeIn K cd0 "is_worth" = true) (k0 : PySem.W.keepIn K (.ref f0) = true)
    {f1 : Addr} {od1 an1 : Option Addr} {sl1 : Array (Option Value)} {oc1 kV1 dc1 pm1 cd1 ct1 : Value}
    (a1 : PySem.W.nsIn K mainGlobals "is_name" = some (some (.ref f1))) (l1 : K.lookup f1 = some ⟨oc1, od1, .func (PySem.W.fnOf "is_name" "is_name" (defArgs s_is_name) (defBody s_is_name) (defScope s_is_name) .none kV1 dc1 pm1 an1 cd1 ct1), sl1⟩) (c1 : PySem.W.codeIn K cd1 "is_name" = true) (k1 : PySem.W.keepIn K (.ref f1) = true)
    {f2 : Addr} {od2 an2 : Option Addr} {sl2 : Array (Option Value)} {oc2 kV2 dc2 pm2 cd2 ct2 : Value}
    (a2 : PySem.W.nsIn K mainGlobals "is_key" = some (some (.ref f2))) (l2 : K.lookup f2 = some ⟨oc2, od2, .func (PySem.W.fnOf "is_key" "is_key" (defArgs s_is_key) (defBody s_is_key) (defScope s_is_key) .none kV2 dc2 pm2 an2 cd2 ct2), sl2⟩) (c2 : PySem.W.codeIn K cd2 "is_key" = true) (k2 : PySem.W.keepIn K (.ref f2) = true)
    {f3 : Addr} {od3 an3 : Option Addr} {sl3 : Array (Option Value)} {oc3 kV3 dc3 pm3 cd3 ct3 : Value}
    (a3 : PySem.W.nsIn K mainGlobals "is_reference" = some (some (.ref f3))) (l3 : K.lookup f3 = some ⟨oc3, od3, .func (PySem.W.fnOf "is_reference" "is_reference" (defArgs s_is_reference) (defBody s_is_reference) (defScope s_is_reference) .none kV3 dc3 pm3 an3 cd3 ct3), sl3⟩) (c3 : PySem.W.codeIn K cd3 "is_reference" = true) (k3 : PySem.W.keepIn K (.ref f3) = true)
    {f4 : Addr} {od4 an4 : Option Addr} {sl4 : Array (Option Value)} {oc4 kV4 dc4 pm4 cd4 ct4 : Value}
    (a4 : PySem.W.nsIn K mainGlobals "signs_ahead" = some (some (.ref f4))) (l4 : K.lookup f4 = some ⟨oc4, od4, .func (PySem.W.fnOf "signs_ahead" "signs_ahead" (defArgs s_signs_ahead) (defBody s_signs_ahead) (defScope s_signs_ahead) .none kV4 dc4 pm4 an4 cd4 ct4), sl4⟩) (c4 : PySem.W.codeIn K cd4 "signs_ahead" = true) (k4 : PySem.W.keepIn K (.ref f4) = true)
    {f5 : Addr} {od5 an5 : Option Addr} {sl5 : Array (Option Value)} {oc5 kV5 dc5 pm5 cd5 ct5 : Value}
    (a5 : PySem.W.nsIn K mainGlobals "number_of" = some (some (.ref f5))) (l5 : K.lookup f5 = some ⟨oc5, od5, .func (PySem.W.fnOf "number_of" "number_of" (defArgs s_number_of) (defBody s_number_of) (defScope s_number_of) .none kV5 dc5 pm5 an5 cd5 ct5), sl5⟩) (c5 : PySem.W.codeIn K cd5 "number_of" = true) (k5 : PySem.W.keepIn K (.ref f5) = true)
    {f6 : Addr} {od6 an6 : Option Addr} {sl6 : Array (Option Value)} {oc6 kV6 dc6 pm6 cd6 ct6 : Value}
    (a6 : PySem.W.nsIn K mainGlobals "number_text" = some (some (.ref f6))) (l6 : K.lookup f6 = some ⟨oc6, od6, .func (PySem.W.fnOf "number_text" "number_text" (defArgs s_number_text) (defBody s_number_text) (defScope s_number_text) .none kV6 dc6 pm6 an6 cd6 ct6), sl6⟩) (c6 : PySem.W.codeIn K cd6 "number_text" = true) (k6 : PySem.W.keepIn K (.ref f6) = true)
    {f7 : Addr} {od7 an7 : Option Addr} {sl7 : Array (Option Value)} {oc7 kV7 dc7 pm7 cd7 ct7 : Value}
    (a7 : PySem.W.nsIn K mainGlobals "is_number_text" = some (some (.ref f7))) (l7 : K.lookup f7 = some ⟨oc7, od7, .func (PySem.W.fnOf "is_number_text" "is_number_text" (defArgs s_is_number_text) (defBody s_is_number_text) (defScope s_is_number_text) .none kV7 dc7 pm7 an7 cd7 ct7), sl7⟩) (c7 : PySem.W.codeIn K cd7 "is_number_text" = true) (k7 : PySem.W.keepIn K (.ref f7) = true)
    {f8 : Addr} {od8 an8 : Option Addr} {sl8 : Array (Option Value)} {oc8 kV8 dc8 pm8 cd8 ct8 : Value}
    (a8 : PySem.W.nsIn K mainGlobals "rank" = some (some (.ref f8))) (l8 : K.lookup f8 = some ⟨oc8, od8, .func (PySem.W.fnOf "rank" "rank" (defArgs s_rank) (defBody s_rank) (defScope s_rank) .none kV8 dc8 pm8 an8 cd8 ct8), sl8⟩) (c8 : PySem.W.codeIn K cd8 "rank" = true) (k8 : PySem.W.keepIn K (.ref f8) = true)
    {f9 : Addr} {od9 an9 : Option Addr} {sl9 : Array (Option Value)} {oc9 kV9 dc9 pm9 cd9 ct9 : Value}
    (a9 : PySem.W.nsIn K mainGlobals "is_stem" = some (some (.ref f9))) (l9 : K.lookup f9 = some ⟨oc9, od9, .func (PySem.W.fnOf "is_stem" "is_stem" (defArgs s_is_stem) (defBody s_is_stem) (defScope s_is_stem) .none kV9 dc9 pm9 an9 cd9 ct9), sl9⟩) (c9 : PySem.W.codeIn K cd9 "is_stem" = true) (k9 : PySem.W.keepIn K (.ref f9) = true)
    {f10 : Addr} {od10 an10 : Option Addr} {sl10 : Array (Option Value)} {oc10 kV10 dc10 pm10 cd10 ct10 : Value}
    (a10 : PySem.W.nsIn K mainGlobals "meet" = some (some (.ref f10))) (l10 : K.lookup f10 = some ⟨oc10, od10, .func (PySem.W.fnOf "meet" "meet" (defArgs s_meet) (defBody s_meet) (defScope s_meet) .none kV10 dc10 pm10 an10 cd10 ct10), sl10⟩) (c10 : PySem.W.codeIn K cd10 "meet" = true) (k10 : PySem.W.keepIn K (.ref f10) = true)
    {f11 : Addr} {od11 an11 : Option Addr} {sl11 : Array (Option Value)} {oc11 kV11 dc11 pm11 cd11 ct11 : Value}
    (a11 : PySem.W.nsIn K mainGlobals "truth_text" = some (some (.ref f11))) (l11 : K.lookup f11 = some ⟨oc11, od11, .func (PySem.W.fnOf "truth_text" "truth_text" (defArgs s_truth_text) (defBody s_truth_text) (defScope s_truth_text) .none kV11 dc11 pm11 an11 cd11 ct11), sl11⟩) (c11 : PySem.W.codeIn K cd11 "truth_text" = true) (k11 : PySem.W.keepIn K (.ref f11) = true)
    {f12 : Addr} {od12 an12 : Option Addr} {sl12 : Array (Option Value)} {oc12 kV12 dc12 pm12 cd12 ct12 : Value}
    (a12 : PySem.W.nsIn K mainGlobals "quotient" = some (some (.ref f12))) (l12 : K.lookup f12 = some ⟨oc12, od12, .func (PySem.W.fnOf "quotient" "quotient" (defArgs s_quotient) (defBody s_quotient) (defScope s_quotient) .none kV12 dc12 pm12 an12 cd12 ct12), sl12⟩) (c12 : PySem.W.codeIn K cd12 "quotient" = true) (k12 : PySem.W.keepIn K (.ref f12) = true)
    {f13 : Addr} {od13 an13 : Option Addr} {sl13 : Array (Option Value)} {oc13 kV13 dc13 pm13 cd13 ct13 : Value}
    (a13 : PySem.W.nsIn K mainGlobals "by_numbers" = some (some (.ref f13))) (l13 : K.lookup f13 = some ⟨oc13, od13, .func (PySem.W.fnOf "by_numbers" "by_numbers" (defArgs s_by_numbers) (defBody s_by_numbers) (defScope s_by_numbers) .none kV13 dc13 pm13 an13 cd13 ct13), sl13⟩) (c13 : PySem.W.codeIn K cd13 "by_numbers" = true) (k13 : PySem.W.keepIn K (.ref f13) = true)
    {f14 : Addr} {od14 an14 : Option Addr} {sl14 : Array (Option Value)} {oc14 kV14 dc14 pm14 cd14 ct14 : Value}
    (a14 : PySem.W.nsIn K mainGlobals "are_one_text" = some (some (.ref f14))) (l14 : K.lookup f14 = some ⟨oc14, od14, .func (PySem.W.fnOf "are_one_text" "are_one_text" (defArgs s_are_one_text) (defBody s_are_one_text) (defScope s_are_one_text) .none kV14 dc14 pm14 an14 cd14 ct14), sl14⟩) (c14 : PySem.W.codeIn K cd14 "are_one_text" = true) (k14 : PySem.W.keepIn K (.ref f14) = true)
    {f15 : Addr} {od15 an15 : Option Addr} {sl15 : Array (Option Value)} {oc15 kV15 dc15 pm15 cd15 ct15 : Value}
    (a15 : PySem.W.nsIn K mainGlobals "put_behind" = some (some (.ref f15))) (l15 : K.lookup f15 = some ⟨oc15, od15, .func (PySem.W.fnOf "put_behind" "put_behind" (defArgs s_put_behind) (defBody s_put_behind) (defScope s_put_behind) .none kV15 dc15 pm15 an15 cd15 ct15), sl15⟩) (c15 : PySem.W.codeIn K cd15 "put_behind" = true) (k15 : PySem.W.keepIn K (.ref f15) = true)
    {f16 : Addr} {od16 an16 : Option Addr} {sl16 : Array (Option Value)} {oc16 kV16 dc16 pm16 cd16 ct16 : Value}
    (a16 : PySem.W.nsIn K mainGlobals "holds_other" = some (some (.ref f16))) (l16 : K.lookup f16 = some ⟨oc16, od16, .func (PySem.W.fnOf "holds_other" "holds_other" (defArgs s_holds_other) (defBody s_holds_other) (defScope s_holds_other) .none kV16 dc16 pm16 an16 cd16 ct16), sl16⟩) (c16 : PySem.W.codeIn K cd16 "holds_other" = true) (k16 : PySem.W.keepIn K (.ref f16) = true)
    {f17 : Addr} {od17 an17 : Option Addr} {sl17 : Array (Option Value)} {oc17 kV17 dc17 pm17 cd17 ct17 : Value}
    (a17 : PySem.W.nsIn K mainGlobals "stands_behind" = some (some (.ref f17))) (l17 : K.lookup f17 = some ⟨oc17, od17, .func (PySem.W.fnOf "stands_behind" "stands_behind" (defArgs s_stands_behind) (defBody s_stands_behind) (defScope s_stands_behind) .none kV17 dc17 pm17 an17 cd17 ct17), sl17⟩) (c17 : PySem.W.codeIn K cd17 "stands_behind" = true) (k17 : PySem.W.keepIn K (.ref f17) = true)
    {f18 : Addr} {od18 an18 : Option Addr} {sl18 : Array (Option Value)} {oc18 kV18 dc18 pm18 cd18 ct18 : Value}
    (a18 : PySem.W.nsIn K mainGlobals "of_two" = some (some (.ref f18))) (l18 : K.lookup f18 = some ⟨oc18, od18, .func (PySem.W.fnOf "of_two" "of_two" (defArgs s_of_two) (defBody s_of_two) (defScope s_of_two) .none kV18 dc18 pm18 an18 cd18 ct18), sl18⟩) (c18 : PySem.W.codeIn K cd18 "of_two" = true) (k18 : PySem.W.keepIn K (.ref f18) = true)
    {f19 : Addr} {od19 an19 : Option Addr} {sl19 : Array (Option Value)} {oc19 kV19 dc19 pm19 cd19 ct19 : Value}
    (a19 : PySem.W.nsIn K mainGlobals "piece_of" = some (some (.ref f19))) (l19 : K.lookup f19 = some ⟨oc19, od19, .func (PySem.W.fnOf "piece_of" "piece_of" (defArgs s_piece_of) (defBody s_piece_of) (defScope s_piece_of) .none kV19 dc19 pm19 an19 cd19 ct19), sl19⟩) (c19 : PySem.W.codeIn K cd19 "piece_of" = true) (k19 : PySem.W.keepIn K (.ref f19) = true)
    {f20 : Addr} {od20 an20 : Option Addr} {sl20 : Array (Option Value)} {oc20 kV20 dc20 pm20 cd20 ct20 : Value}
    (a20 : PySem.W.nsIn K mainGlobals "part_of" = some (some (.ref f20))) (l20 : K.lookup f20 = some ⟨oc20, od20, .func (PySem.W.fnOf "part_of" "part_of" (defArgs s_part_of) (defBody s_part_of) (defScope s_part_of) .none kV20 dc20 pm20 an20 cd20 ct20), sl20⟩) (c20 : PySem.W.codeIn K cd20 "part_of" = true) (k20 : PySem.W.keepIn K (.ref f20) = true)
    {f21 : Addr} {od21 an21 : Option Addr} {sl21 : Array (Option Value)} {oc21 kV21 dc21 pm21 cd21 ct21 : Value}
    (a21 : PySem.W.nsIn K mainGlobals "of_worths" = some (some (.ref f21))) (l21 : K.lookup f21 = some ⟨oc21, od21, .func (PySem.W.fnOf "of_worths" "of_worths" (defArgs s_of_worths) (defBody s_of_worths) (defScope s_of_worths) .none kV21 dc21 pm21 an21 cd21 ct21), sl21⟩) (c21 : PySem.W.codeIn K cd21 "of_worths" = true) (k21 : PySem.W.keepIn K (.ref f21) = true)
    {f22 : Addr} {od22 an22 : Option Addr} {sl22 : Array (Option Value)} {oc22 kV22 dc22 pm22 cd22 ct22 : Value}
    (a22 : PySem.W.nsIn K mainGlobals "not_too_long" = some (some (.ref f22))) (l22 : K.lookup f22 = some ⟨oc22, od22, .func (PySem.W.fnOf "not_too_long" "not_too_long" (defArgs s_not_too_long) (defBody s_not_too_long) (defScope s_not_too_long) .none kV22 dc22 pm22 an22 cd22 ct22), sl22⟩) (c22 : PySem.W.codeIn K cd22 "not_too_long" = true) (k22 : PySem.W.keepIn K (.ref f22) = true)
    {f23 : Addr} {od23 an23 : Option Addr} {sl23 : Array (Option Value)} {oc23 kV23 dc23 pm23 cd23 ct23 : Value}
    (a23 : PySem.W.nsIn K mainGlobals "need_reference" = some (some (.ref f23))) (l23 : K.lookup f23 = some ⟨oc23, od23, .func (PySem.W.fnOf "need_reference" "need_reference" (defArgs s_need_reference) (defBody s_need_reference) (defScope s_need_reference) .none kV23 dc23 pm23 an23 cd23 ct23), sl23⟩) (c23 : PySem.W.codeIn K cd23 "need_reference" = true) (k23 : PySem.W.keepIn K (.ref f23) = true)
    {f24 : Addr} {od24 an24 : Option Addr} {sl24 : Array (Option Value)} {oc24 kV24 dc24 pm24 cd24 ct24 : Value}
    (a24 : PySem.W.nsIn K mainGlobals "need_worth" = some (some (.ref f24))) (l24 : K.lookup f24 = some ⟨oc24, od24, .func (PySem.W.fnOf "need_worth" "need_worth" (defArgs s_need_worth) (defBody s_need_worth) (defScope s_need_worth) .none kV24 dc24 pm24 an24 cd24 ct24), sl24⟩) (c24 : PySem.W.codeIn K cd24 "need_worth" = true) (k24 : PySem.W.keepIn K (.ref f24) = true)
    {f25 : Addr} {od25 an25 : Option Addr} {sl25 : Array (Option Value)} {oc25 kV25 dc25 pm25 cd25 ct25 : Value}
    (a25 : PySem.W.nsIn K mainGlobals "need_ordered" = some (some (.ref f25))) (l25 : K.lookup f25 = some ⟨oc25, od25, .func (PySem.W.fnOf "need_ordered" "need_ordered" (defArgs s_need_ordered) (defBody s_need_ordered) (defScope s_need_ordered) .none kV25 dc25 pm25 an25 cd25 ct25), sl25⟩) (c25 : PySem.W.codeIn K cd25 "need_ordered" = true) (k25 : PySem.W.keepIn K (.ref f25) = true)
    {f26 : Addr} {od26 an26 : Option Addr} {sl26 : Array (Option Value)} {oc26 kV26 dc26 pm26 cd26 ct26 : Value}
    (a26 : PySem.W.nsIn K mainGlobals "ranks" = some (some (.ref f26))) (l26 : K.lookup f26 = some ⟨oc26, od26, .func (PySem.W.fnOf "ranks" "ranks" (defArgs s_ranks) (defBody s_ranks) (defScope s_ranks) .none kV26 dc26 pm26 an26 cd26 ct26), sl26⟩) (c26 : PySem.W.codeIn K cd26 "ranks" = true) (k26 : PySem.W.keepIn K (.ref f26) = true)
    {f27 kc27 pp27 : Addr} {od27 an27 : Option Addr} {sl27 : Array (Option Value)} {oc27 kV27 dc27 pm27 ct27 : Value} {xo27 : Value} {xd27 : Option Addr} {xv27 : Array Value} {xs27 : Array (Option Value)}
    (a27 : PySem.W.nsIn K mainGlobals "walked" = some (some (.ref f27))) (l27 : K.lookup f27 = some ⟨oc27, od27, .func (PySem.W.fnOf "walked" "walked" (defArgs s_walked) (defBody s_walked) (defScope s_walked) .none kV27 dc27 pm27 an27 (.ref kc27) ct27), sl27⟩) (c27 : PySem.W.codeIn K (.ref kc27) "walked" = true) (k27 : PySem.W.keepIn K (.ref f27) = true) (lc27 : K.lookup kc27 = some ⟨xo27, xd27, .fields xv27, xs27⟩) (lv27 : (xv27[11]? : Option Value) = some (.ref pp27))
    {f28 : Addr} {od28 an28 : Option Addr} {sl28 : Array (Option Value)} {oc28 kV28 dc28 pm28 cd28 ct28 : Value}
    (a28 : PySem.W.nsIn K mainGlobals "need_job" = some (some (.ref f28))) (l28 : K.lookup f28 = some ⟨oc28, od28, .func (PySem.W.fnOf "need_job" "need_job" (defArgs s_need_job) (defBody s_need_job) (defScope s_need_job) .none kV28 dc28 pm28 an28 cd28 ct28), sl28⟩) (c28 : PySem.W.codeIn K cd28 "need_job" = true) (k28 : PySem.W.keepIn K (.ref f28) = true)
    {f29 : Addr} {od29 an29 : Option Addr} {sl29 : Array (Option Value)} {oc29 kV29 dc29 pm29 cd29 ct29 : Value}
    (a29 : PySem.W.nsIn K mainGlobals "_law_cell_at" = some (some (.ref f29))) (l29 : K.lookup f29 = some ⟨oc29, od29, .func (PySem.W.fnOf "_law_cell_at" "_law_cell_at" (defArgs s_law_cell_at) (defBody s_law_cell_at) (defScope s_law_cell_at) .none kV29 dc29 pm29 an29 cd29 ct29), sl29⟩) (c29 : PySem.W.codeIn K cd29 "_law_cell_at" = true) (k29 : PySem.W.keepIn K (.ref f29) = true)
    {f30 : Addr} {od30 an30 : Option Addr} {sl30 : Array (Option Value)} {oc30 kV30 dc30 pm30 cd30 ct30 : Value}
    (a30 : PySem.W.nsIn K mainGlobals "_law_bag" = some (some (.ref f30))) (l30 : K.lookup f30 = some ⟨oc30, od30, .func (PySem.W.fnOf "_law_bag" "_law_bag" (defArgs s_law_bag) (defBody s_law_bag) (defScope s_law_bag) .none kV30 dc30 pm30 an30 cd30 ct30), sl30⟩) (c30 : PySem.W.codeIn K cd30 "_law_bag" = true) (k30 : PySem.W.keepIn K (.ref f30) = true)
    {f31 : Addr} {od31 an31 : Option Addr} {sl31 : Array (Option Value)} {oc31 kV31 dc31 pm31 cd31 ct31 : Value}
    (a31 : PySem.W.nsIn K mainGlobals "_law_draw" = some (some (.ref f31))) (l31 : K.lookup f31 = some ⟨oc31, od31, .func (PySem.W.fnOf "_law_draw" "_law_draw" (defArgs s_law_draw) (defBody s_law_draw) (defScope s_law_draw) .none kV31 dc31 pm31 an31 cd31 ct31), sl31⟩) (c31 : PySem.W.codeIn K cd31 "_law_draw" = true) (k31 : PySem.W.keepIn K (.ref f31) = true)
    {f32 : Addr} {od32 an32 : Option Addr} {sl32 : Array (Option Value)} {oc32 kV32 dc32 pm32 cd32 ct32 : Value}
    (a32 : PySem.W.nsIn K mainGlobals "_law_key" = some (some (.ref f32))) (l32 : K.lookup f32 = some ⟨oc32, od32, .func (PySem.W.fnOf "_law_key" "_law_key" (defArgs s_law_key) (defBody s_law_key) (defScope s_law_key) .none kV32 dc32 pm32 an32 cd32 ct32), sl32⟩) (c32 : PySem.W.codeIn K cd32 "_law_key" = true) (k32 : PySem.W.keepIn K (.ref f32) = true)
    {f33 : Addr} {od33 an33 : Option Addr} {sl33 : Array (Option Value)} {oc33 kV33 dc33 pm33 cd33 ct33 : Value}
    (a33 : PySem.W.nsIn K mainGlobals "_law_word" = some (some (.ref f33))) (l33 : K.lookup f33 = some ⟨oc33, od33, .func (PySem.W.fnOf "_law_word" "_law_word" (defArgs s_law_word) (defBody s_law_word) (defScope s_law_word) .none kV33 dc33 pm33 an33 cd33 ct33), sl33⟩) (c33 : PySem.W.codeIn K cd33 "_law_word" = true) (k33 : PySem.W.keepIn K (.ref f33) = true)
    {f34 : Addr} {od34 an34 : Option Addr} {sl34 : Array (Option Value)} {oc34 kV34 dc34 pm34 cd34 ct34 : Value}
    (a34 : PySem.W.nsIn K mainGlobals "_law_unlike" = some (some (.ref f34))) (l34 : K.lookup f34 = some ⟨oc34, od34, .func (PySem.W.fnOf "_law_unlike" "_law_unlike" (defArgs s_law_unlike) (defBody s_law_unlike) (defScope s_law_unlike) .none kV34 dc34 pm34 an34 cd34 ct34), sl34⟩) (c34 : PySem.W.codeIn K cd34 "_law_unlike" = true) (k34 : PySem.W.keepIn K (.ref f34) = true)
    {f35 : Addr} {od35 an35 : Option Addr} {sl35 : Array (Option Value)} {oc35 kV35 dc35 pm35 cd35 ct35 : Value}
    (a35 : PySem.W.nsIn K mainGlobals "_law_pool" = some (some (.ref f35))) (l35 : K.lookup f35 = some ⟨oc35, od35, .func (PySem.W.fnOf "_law_pool" "_law_pool" (defArgs s_law_pool) (defBody s_law_pool) (defScope s_law_pool) .none kV35 dc35 pm35 an35 cd35 ct35), sl35⟩) (c35 : PySem.W.codeIn K cd35 "_law_pool" = true) (k35 : PySem.W.keepIn K (.ref f35) = true)
    {f36 : Addr} {od36 an36 : Option Addr} {sl36 : Array (Option Value)} {oc36 kV36 dc36 pm36 cd36 ct36 : Value}
    (a36 : PySem.W.nsIn K mainGlobals "_law_spot" = some (some (.ref f36))) (l36 : K.lookup f36 = some ⟨oc36, od36, .func (PySem.W.fnOf "_law_spot" "_law_spot" (defArgs s_law_spot) (defBody s_law_spot) (defScope s_law_spot) .none kV36 dc36 pm36 an36 cd36 ct36), sl36⟩) (c36 : PySem.W.codeIn K cd36 "_law_spot" = true) (k36 : PySem.W.keepIn K (.ref f36) = true)
    {f37 : Addr} {od37 an37 : Option Addr} {sl37 : Array (Option Value)} {oc37 kV37 dc37 pm37 cd37 ct37 : Value}
    (a37 : PySem.W.nsIn K mainGlobals "_law_rank" = some (some (.ref f37))) (l37 : K.lookup f37 = some ⟨oc37, od37, .func (PySem.W.fnOf "_law_rank" "_law_rank" (defArgs s_law_rank) (defBody s_law_rank) (defScope s_law_rank) .none kV37 dc37 pm37 an37 cd37 ct37), sl37⟩) (c37 : PySem.W.codeIn K cd37 "_law_rank" = true) (k37 : PySem.W.keepIn K (.ref f37) = true)
    {f38 : Addr} {od38 an38 : Option Addr} {sl38 : Array (Option Value)} {oc38 kV38 dc38 pm38 cd38 ct38 : Value}
    (a38 : PySem.W.nsIn K mainGlobals "_law_worth" = some (some (.ref f38))) (l38 : K.lookup f38 = some ⟨oc38, od38, .func (PySem.W.fnOf "_law_worth" "_law_worth" (defArgs s_law_worth) (defBody s_law_worth) (defScope s_law_worth) .none kV38 dc38 pm38 an38 cd38 ct38), sl38⟩) (c38 : PySem.W.codeIn K cd38 "_law_worth" = true) (k38 : PySem.W.keepIn K (.ref f38) = true)
    {f39 : Addr} {od39 an39 : Option Addr} {sl39 : Array (Option Value)} {oc39 kV39 dc39 pm39 cd39 ct39 : Value}
    (a39 : PySem.W.nsIn K mainGlobals "_law_number" = some (some (.ref f39))) (l39 : K.lookup f39 = some ⟨oc39, od39, .func (PySem.W.fnOf "_law_number" "_law_number" (defArgs s_law_number) (defBody s_law_number) (defScope s_law_number) .none kV39 dc39 pm39 an39 cd39 ct39), sl39⟩) (c39 : PySem.W.codeIn K cd39 "_law_number" = true) (k39 : PySem.W.keepIn K (.ref f39) = true)
    {f40 : Addr} {od40 an40 : Option Addr} {sl40 : Array (Option Value)} {oc40 kV40 dc40 pm40 cd40 ct40 : Value}
    (a40 : PySem.W.nsIn K mainGlobals "_law_of_numbers" = some (some (.ref f40))) (l40 : K.lookup f40 = some ⟨oc40, od40, .func (PySem.W.fnOf "_law_of_numbers" "_law_of_numbers" (defArgs s_law_of_numbers) (defBody s_law_of_numbers) (defScope s_law_of_numbers) .none kV40 dc40 pm40 an40 cd40 ct40), sl40⟩) (c40 : PySem.W.codeIn K cd40 "_law_of_numbers" = true) (k40 : PySem.W.keepIn K (.ref f40) = true)
    {f41 : Addr} {od41 an41 : Option Addr} {sl41 : Array (Option Value)} {oc41 kV41 dc41 pm41 cd41 ct41 : Value}
    (a41 : PySem.W.nsIn K mainGlobals "_law_of_two" = some (some (.ref f41))) (l41 : K.lookup f41 = some ⟨oc41, od41, .func (PySem.W.fnOf "_law_of_two" "_law_of_two" (defArgs s_law_of_two) (defBody s_law_of_two) (defScope s_law_of_two) .none kV41 dc41 pm41 an41 cd41 ct41), sl41⟩) (c41 : PySem.W.codeIn K cd41 "_law_of_two" = true) (k41 : PySem.W.keepIn K (.ref f41) = true)
    {f42 : Addr} {od42 an42 : Option Addr} {sl42 : Array (Option Value)} {oc42 kV42 dc42 pm42 cd42 ct42 : Value}
    (a42 : PySem.W.nsIn K mainGlobals "_law_piece" = some (some (.ref f42))) (l42 : K.lookup f42 = some ⟨oc42, od42, .func (PySem.W.fnOf "_law_piece" "_law_piece" (defArgs s_law_piece) (defBody s_law_piece) (defScope s_law_piece) .none kV42 dc42 pm42 an42 cd42 ct42), sl42⟩) (c42 : PySem.W.codeIn K cd42 "_law_piece" = true) (k42 : PySem.W.keepIn K (.ref f42) = true)
    {f43 : Addr} {od43 an43 : Option Addr} {sl43 : Array (Option Value)} {oc43 kV43 dc43 pm43 cd43 ct43 : Value}
    (a43 : PySem.W.nsIn K mainGlobals "_law_of_worths" = some (some (.ref f43))) (l43 : K.lookup f43 = some ⟨oc43, od43, .func (PySem.W.fnOf "_law_of_worths" "_law_of_worths" (defArgs s_law_of_worths) (defBody s_law_of_worths) (defScope s_law_of_worths) .none kV43 dc43 pm43 an43 cd43 ct43), sl43⟩) (c43 : PySem.W.codeIn K cd43 "_law_of_worths" = true) (k43 : PySem.W.keepIn K (.ref f43) = true)
    {f44 : Addr} {od44 an44 : Option Addr} {sl44 : Array (Option Value)} {oc44 kV44 dc44 pm44 cd44 ct44 : Value}
    (a44 : PySem.W.nsIn K mainGlobals "_law_place" = some (some (.ref f44))) (l44 : K.lookup f44 = some ⟨oc44, od44, .func (PySem.W.fnOf "_law_place" "_law_place" (defArgs s_law_place) (defBody s_law_place) (defScope s_law_place) .none kV44 dc44 pm44 an44 cd44 ct44), sl44⟩) (c44 : PySem.W.codeIn K cd44 "_law_place" = true) (k44 : PySem.W.keepIn K (.ref f44) = true)
    {f45 : Addr} {od45 an45 : Option Addr} {sl45 : Array (Option Value)} {oc45 kV45 dc45 pm45 cd45 ct45 : Value}
    (a45 : PySem.W.nsIn K mainGlobals "_law_next" = some (some (.ref f45))) (l45 : K.lookup f45 = some ⟨oc45, od45, .func (PySem.W.fnOf "_law_next" "_law_next" (defArgs s_law_next) (defBody s_law_next) (defScope s_law_next) .none kV45 dc45 pm45 an45 cd45 ct45), sl45⟩) (c45 : PySem.W.codeIn K cd45 "_law_next" = true) (k45 : PySem.W.keepIn K (.ref f45) = true)
    {f46 : Addr} {od46 an46 : Option Addr} {sl46 : Array (Option Value)} {oc46 kV46 dc46 pm46 cd46 ct46 : Value}
    (a46 : PySem.W.nsIn K mainGlobals "_law_data" = some (some (.ref f46))) (l46 : K.lookup f46 = some ⟨oc46, od46, .func (PySem.W.fnOf "_law_data" "_law_data" (defArgs s_law_data) (defBody s_law_data) (defScope s_law_data) .none kV46 dc46 pm46 an46 cd46 ct46), sl46⟩) (c46 : PySem.W.codeIn K cd46 "_law_data" = true) (k46 : PySem.W.keepIn K (.ref f46) = true)
    {f47 : Addr} {od47 an47 : Option Addr} {sl47 : Array (Option Value)} {oc47 kV47 dc47 pm47 cd47 ct47 : Value}
    (a47 : PySem.W.nsIn K mainGlobals "_law_of_place" = some (some (.ref f47))) (l47 : K.lookup f47 = some ⟨oc47, od47, .func (PySem.W.fnOf "_law_of_place" "_law_of_place" (defArgs s_law_of_place) (defBody s_law_of_place) (defScope s_law_of_place) .none kV47 dc47 pm47 an47 cd47 ct47), sl47⟩) (c47 : PySem.W.codeIn K cd47 "_law_of_place" = true) (k47 : PySem.W.keepIn K (.ref f47) = true)
    {f48 : Addr} {od48 an48 : Option Addr} {sl48 : Array (Option Value)} {oc48 kV48 dc48 pm48 cd48 ct48 : Value}
    (a48 : PySem.W.nsIn K mainGlobals "_law_told" = some (some (.ref f48))) (l48 : K.lookup f48 = some ⟨oc48, od48, .func (PySem.W.fnOf "_law_told" "_law_told" (defArgs s_law_told) (defBody s_law_told) (defScope s_law_told) .none kV48 dc48 pm48 an48 cd48 ct48), sl48⟩) (c48 : PySem.W.codeIn K cd48 "_law_told" = true) (k48 : PySem.W.keepIn K (.ref f48) = true)
    {f49 : Addr} {od49 an49 : Option Addr} {sl49 : Array (Option Value)} {oc49 kV49 dc49 pm49 cd49 ct49 : Value}
    (a49 : PySem.W.nsIn K mainGlobals "_law_due" = some (some (.ref f49))) (l49 : K.lookup f49 = some ⟨oc49, od49, .func (PySem.W.fnOf "_law_due" "_law_due" (defArgs s_law_due) (defBody s_law_due) (defScope s_law_due) .none kV49 dc49 pm49 an49 cd49 ct49), sl49⟩) (c49 : PySem.W.codeIn K cd49 "_law_due" = true) (k49 : PySem.W.keepIn K (.ref f49) = true)
    {f50 : Addr} {od50 an50 : Option Addr} {sl50 : Array (Option Value)} {oc50 kV50 dc50 pm50 cd50 ct50 : Value}
    (a50 : PySem.W.nsIn K mainGlobals "_law_said" = some (some (.ref f50))) (l50 : K.lookup f50 = some ⟨oc50, od50, .func (PySem.W.fnOf "_law_said" "_law_said" (defArgs s_law_said) (defBody s_law_said) (defScope s_law_said) .none kV50 dc50 pm50 an50 cd50 ct50), sl50⟩) (c50 : PySem.W.codeIn K cd50 "_law_said" = true) (k50 : PySem.W.keepIn K (.ref f50) = true)
    {f51 : Addr} {od51 an51 : Option Addr} {sl51 : Array (Option Value)} {oc51 kV51 dc51 pm51 cd51 ct51 : Value}
    (a51 : PySem.W.nsIn K mainGlobals "_law_filled" = some (some (.ref f51))) (l51 : K.lookup f51 = some ⟨oc51, od51, .func (PySem.W.fnOf "_law_filled" "_law_filled" (defArgs s_law_filled) (defBody s_law_filled) (defScope s_law_filled) .none kV51 dc51 pm51 an51 cd51 ct51), sl51⟩) (c51 : PySem.W.codeIn K cd51 "_law_filled" = true) (k51 : PySem.W.keepIn K (.ref f51) = true)
    {f52 : Addr} {od52 an52 : Option Addr} {sl52 : Array (Option Value)} {oc52 kV52 dc52 pm52 cd52 ct52 : Value}
    (a52 : PySem.W.nsIn K mainGlobals "_law_stage" = some (some (.ref f52))) (l52 : K.lookup f52 = some ⟨oc52, od52, .func (PySem.W.fnOf "_law_stage" "_law_stage" (defArgs s_law_stage) (defBody s_law_stage) (defScope s_law_stage) .none kV52 dc52 pm52 an52 cd52 ct52), sl52⟩) (c52 : PySem.W.codeIn K cd52 "_law_stage" = true) (k52 : PySem.W.keepIn K (.ref f52) = true)
    {f53 : Addr} {od53 an53 : Option Addr} {sl53 : Array (Option Value)} {oc53 kV53 dc53 pm53 cd53 ct53 : Value}
    (a53 : PySem.W.nsIn K mainGlobals "_law_shown" = some (some (.ref f53))) (l53 : K.lookup f53 = some ⟨oc53, od53, .func (PySem.W.fnOf "_law_shown" "_law_shown" (defArgs s_law_shown) (defBody s_law_shown) (defScope s_law_shown) .none kV53 dc53 pm53 an53 cd53 ct53), sl53⟩) (c53 : PySem.W.codeIn K cd53 "_law_shown" = true) (k53 : PySem.W.keepIn K (.ref f53) = true)
    {f54 : Addr} {od54 an54 : Option Addr} {sl54 : Array (Option Value)} {oc54 kV54 dc54 pm54 cd54 ct54 : Value}
    (a54 : PySem.W.nsIn K mainGlobals "_law_place_right" = some (some (.ref f54))) (l54 : K.lookup f54 = some ⟨oc54, od54, .func (PySem.W.fnOf "_law_place_right" "_law_place_right" (defArgs s_law_place_right) (defBody s_law_place_right) (defScope s_law_place_right) .none kV54 dc54 pm54 an54 cd54 ct54), sl54⟩) (c54 : PySem.W.codeIn K cd54 "_law_place_right" = true) (k54 : PySem.W.keepIn K (.ref f54) = true)
    {f55 : Addr} {od55 an55 : Option Addr} {sl55 : Array (Option Value)} {oc55 kV55 dc55 pm55 cd55 ct55 : Value}
    (a55 : PySem.W.nsIn K mainGlobals "_law_changed" = some (some (.ref f55))) (l55 : K.lookup f55 = some ⟨oc55, od55, .func (PySem.W.fnOf "_law_changed" "_law_changed" (defArgs s_law_changed) (defBody s_law_changed) (defScope s_law_changed) .none kV55 dc55 pm55 an55 cd55 ct55), sl55⟩) (c55 : PySem.W.codeIn K cd55 "_law_changed" = true) (k55 : PySem.W.keepIn K (.ref f55) = true)
    {f56 : Addr} {od56 an56 : Option Addr} {sl56 : Array (Option Value)} {oc56 kV56 dc56 pm56 cd56 ct56 : Value}
    (a56 : PySem.W.nsIn K mainGlobals "law" = some (some (.ref f56))) (l56 : K.lookup f56 = some ⟨oc56, od56, .func (PySem.W.fnOf "law" "law" (defArgs s_law) (defBody s_law) (defScope s_law) .none kV56 dc56 pm56 an56 cd56 ct56), sl56⟩) (c56 : PySem.W.codeIn K cd56 "law" = true) (k56 : PySem.W.keepIn K (.ref f56) = true)
    {f57 : Addr} {od57 an57 : Option Addr} {sl57 : Array (Option Value)} {oc57 kV57 dc57 pm57 cd57 ct57 : Value}
    (a57 : PySem.W.findIn K (.ref C_Erring) "__init__" = some (some (.ref f57))) (i57 : PySem.W.isFn K (.ref f57) = true) (l57 : K.lookup f57 = some ⟨oc57, od57, .func (PySem.W.fnOf "__init__" "Erring.__init__" (defArgs s_Erring___init) (defBody s_Erring___init) (defScope s_Erring___init) .none kV57 dc57 pm57 an57 cd57 ct57), sl57⟩) (c57 : PySem.W.codeIn K cd57 "Erring.__init__" = true) (k57 : PySem.W.keepIn K (.ref f57) = true)
    {f58 : Addr} {od58 an58 : Option Addr} {sl58 : Array (Option Value)} {oc58 kV58 dc58 pm58 cd58 ct58 : Value} {DT58 : Addr} {cD58 : Value} {oD58 : Option Addr} {nD58 : Nat} {sD58 : Array (Option Value)} {u58_0 : Value}
    (a58 : PySem.W.findIn K (.ref C_Scene) "__init__" = some (some (.ref f58))) (i58 : PySem.W.isFn K (.ref f58) = true) (l58 : K.lookup f58 = some ⟨oc58, od58, .func (PySem.W.fnOf "__init__" "Scene.__init__" (defArgs s_Scene___init) (defBody s_Scene___init) (defScope s_Scene___init) (.ref DT58) kV58 dc58 pm58 an58 cd58 ct58), sl58⟩) (c58 : PySem.W.codeIn K cd58 "Scene.__init__" = true) (k58 : PySem.W.keepIn K (.ref f58) = true) (lD58 : K.lookup DT58 = some ⟨cD58, oD58, .seq #[u58_0] nD58, sD58⟩) (r58_0 : L2.RelV (V.int 0) u58_0)
    {f59 : Addr} {od59 an59 : Option Addr} {sl59 : Array (Option Value)} {oc59 kV59 dc59 pm59 cd59 ct59 : Value}
    (a59 : PySem.W.findIn K (.ref C_Scene) "last" = some (some (.ref f59))) (i59 : PySem.W.isFn K (.ref f59) = true) (l59 : K.lookup f59 = some ⟨oc59, od59, .func (PySem.W.fnOf "last" "Scene.last" (defArgs s_Scene_last) (defBody s_Scene_last) (defScope s_Scene_last) .none kV59 dc59 pm59 an59 cd59 ct59), sl59⟩) (c59 : PySem.W.codeIn K cd59 "Scene.last" = true) (k59 : PySem.W.keepIn K (.ref f59) = true)
    {f60 : Addr} {od60 an60 : Option Addr} {sl60 : Array (Option Value)} {oc60 kV60 dc60 pm60 cd60 ct60 : Value}
    (a60 : PySem.W.findIn K (.ref C_Scene) "reckon" = some (some (.ref f60))) (i60 : PySem.W.isFn K (.ref f60) = true) (l60 : K.lookup f60 = some ⟨oc60, od60, .func (PySem.W.fnOf "reckon" "Scene.reckon" (defArgs s_Scene_reckon) (defBody s_Scene_reckon) (defScope s_Scene_reckon) .none kV60 dc60 pm60 an60 cd60 ct60), sl60⟩) (c60 : PySem.W.codeIn K cd60 "Scene.reckon" = true) (k60 : PySem.W.keepIn K (.ref f60) = true)
    {f61 D61 : Addr} {od61 an61 : Option Addr} {sl61 : Array (Option Value)} {oc61 dc61 pm61 cd61 ct61 : Value} {u61_0 : Value}
    (a61 : PySem.W.findIn K (.ref C_Scene) "place" = some (some (.ref f61))) (i61 : PySem.W.isFn K (.ref f61) = true) (l61 : K.lookup f61 = some ⟨oc61, od61, .func (PySem.W.fnOf "place" "Scene.place" (defArgs s_Scene_place) (defBody s_Scene_place) (defScope s_Scene_place) .none (.ref D61) dc61 pm61 an61 cd61 ct61), sl61⟩) (c61 : PySem.W.codeIn K cd61 "Scene.place" = true) (k61 : PySem.W.keepIn K (.ref f61) = true) (q61_0 : PySem.W.nsIn K D61 "empty" = some (some u61_0)) (r61_0 : L2.RelV (V.bl false) u61_0)
    {f62 : Addr} {od62 an62 : Option Addr} {sl62 : Array (Option Value)} {oc62 kV62 dc62 pm62 cd62 ct62 : Value}
    (a62 : PySem.W.findIn K (.ref C_Scene) "reckoned" = some (some (.ref f62))) (i62 : PySem.W.isFn K (.ref f62) = true) (l62 : K.lookup f62 = some ⟨oc62, od62, .func (PySem.W.fnOf "reckoned" "Scene.reckoned" (defArgs s_Scene_reckoned) (defBody s_Scene_reckoned) (defScope s_Scene_reckoned) .none kV62 dc62 pm62 an62 cd62 ct62), sl62⟩) (c62 : PySem.W.codeIn K cd62 "Scene.reckoned" = true) (k62 : PySem.W.keepIn K (.ref f62) = true)
    {f63 : Addr} {od63 an63 : Option Addr} {sl63 : Array (Option Value)} {oc63 kV63 dc63 pm63 cd63 ct63 : Value}
    (a63 : PySem.W.findIn K (.ref C_Scene) "worth_at" = some (some (.ref f63))) (i63 : PySem.W.isFn K (.ref f63) = true) (l63 : K.lookup f63 = some ⟨oc63, od63, .func (PySem.W.fnOf "worth_at" "Scene.worth_at" (defArgs s_Scene_worth_at) (defBody s_Scene_worth_at) (defScope s_Scene_worth_at) .none kV63 dc63 pm63 an63 cd63 ct63), sl63⟩) (c63 : PySem.W.codeIn K cd63 "Scene.worth_at" = true) (k63 : PySem.W.keepIn K (.ref f63) = true)
    {f64 : Addr} {od64 an64 : Option Addr} {sl64 : Array (Option Value)} {oc64 kV64 dc64 pm64 cd64 ct64 : Value}
    (a64 : PySem.W.findIn K (.ref C_Scene) "next_key" = some (some (.ref f64))) (i64 : PySem.W.isFn K (.ref f64) = true) (l64 : K.lookup f64 = some ⟨oc64, od64, .func (PySem.W.fnOf "next_key" "Scene.next_key" (defArgs s_Scene_next_key) (defBody s_Scene_next_key) (defScope s_Scene_next_key) .none kV64 dc64 pm64 an64 cd64 ct64), sl64⟩) (c64 : PySem.W.codeIn K cd64 "Scene.next_key" = true) (k64 : PySem.W.keepIn K (.ref f64) = true)
    {f65 : Addr} {od65 an65 : Option Addr} {sl65 : Array (Option Value)} {oc65 kV65 dc65 pm65 cd65 ct65 : Value}
    (a65 : PySem.W.findIn K (.ref C_Scene) "place_of" = some (some (.ref f65))) (i65 : PySem.W.isFn K (.ref f65) = true) (l65 : K.lookup f65 = some ⟨oc65, od65, .func (PySem.W.fnOf "place_of" "Scene.place_of" (defArgs s_Scene_place_of) (defBody s_Scene_place_of) (defScope s_Scene_place_of) .none kV65 dc65 pm65 an65 cd65 ct65), sl65⟩) (c65 : PySem.W.codeIn K cd65 "Scene.place_of" = true) (k65 : PySem.W.keepIn K (.ref f65) = true)
    {f66 : Addr} {od66 an66 : Option Addr} {sl66 : Array (Option Value)} {oc66 kV66 dc66 pm66 cd66 ct66 : Value}
    (a66 : PySem.W.findIn K (.ref C_Arrays) "__init__" = some (some (.ref f66))) (i66 : PySem.W.isFn K (.ref f66) = true) (l66 : K.lookup f66 = some ⟨oc66, od66, .func (PySem.W.fnOf "__init__" "Arrays.__init__" (defArgs s_Arrays___init) (defBody s_Arrays___init) (defScope s_Arrays___init) .none kV66 dc66 pm66 an66 cd66 ct66), sl66⟩) (c66 : PySem.W.codeIn K cd66 "Arrays.__init__" = true) (k66 : PySem.W.keepIn K (.ref f66) = true)
    {f67 : Addr} {od67 an67 : Option Addr} {sl67 : Array (Option Value)} {oc67 kV67 dc67 pm67 cd67 ct67 : Value}
    (a67 : PySem.W.findIn K (.ref C_Arrays) "put" = some (some (.ref f67))) (i67 : PySem.W.isFn K (.ref f67) = true) (l67 : K.lookup f67 = some ⟨oc67, od67, .func (PySem.W.fnOf "put" "Arrays.put" (defArgs s_Arrays_put) (defBody s_Arrays_put) (defScope s_Arrays_put) .none kV67 dc67 pm67 an67 cd67 ct67), sl67⟩) (c67 : PySem.W.codeIn K cd67 "Arrays.put" = true) (k67 : PySem.W.keepIn K (.ref f67) = true)
    {f68 D68 : Addr} {od68 an68 : Option Addr} {sl68 : Array (Option Value)} {oc68 dc68 pm68 cd68 ct68 : Value} {u68_0 : Value}
    (a68 : PySem.W.findIn K (.ref C_Arrays) "read" = some (some (.ref f68))) (i68 : PySem.W.isFn K (.ref f68) = true) (l68 : K.lookup f68 = some ⟨oc68, od68, .func (PySem.W.fnOf "read" "Arrays.read" (defArgs s_Arrays_read) (defBody s_Arrays_read) (defScope s_Arrays_read) .none (.ref D68) dc68 pm68 an68 cd68 ct68), sl68⟩) (c68 : PySem.W.codeIn K cd68 "Arrays.read" = true) (k68 : PySem.W.keepIn K (.ref f68) = true) (q68_0 : PySem.W.nsIn K D68 "otherwise" = some (some u68_0)) (r68_0 : L2.RelV (V.str (Str.ofString "")) u68_0)
    {f69 : Addr} {od69 an69 : Option Addr} {sl69 : Array (Option Value)} {oc69 kV69 dc69 pm69 cd69 ct69 : Value}
    (a69 : PySem.W.findIn K (.ref C_Arrays) "beneath" = some (some (.ref f69))) (i69 : PySem.W.isFn K (.ref f69) = true) (l69 : K.lookup f69 = some ⟨oc69, od69, .func (PySem.W.fnOf "beneath" "Arrays.beneath" (defArgs s_Arrays_beneath) (defBody s_Arrays_beneath) (defScope s_Arrays_beneath) .none kV69 dc69 pm69 an69 cd69 ct69), sl69⟩) (c69 : PySem.W.codeIn K cd69 "Arrays.beneath" = true) (k69 : PySem.W.keepIn K (.ref f69) = true)
    {f70 : Addr} {od70 an70 : Option Addr} {sl70 : Array (Option Value)} {oc70 kV70 dc70 pm70 cd70 ct70 : Value}
    (a70 : PySem.W.findIn K (.ref C_Arrays) "data" = some (some (.ref f70))) (i70 : PySem.W.isFn K (.ref f70) = true) (l70 : K.lookup f70 = some ⟨oc70, od70, .func (PySem.W.fnOf "data" "Arrays.data" (defArgs s_Arrays_data) (defBody s_Arrays_data) (defScope s_Arrays_data) .none kV70 dc70 pm70 an70 cd70 ct70), sl70⟩) (c70 : PySem.W.codeIn K cd70 "Arrays.data" = true) (k70 : PySem.W.keepIn K (.ref f70) = true)
    {f71 : Addr} {od71 an71 : Option Addr} {sl71 : Array (Option Value)} {oc71 kV71 dc71 pm71 cd71 ct71 : Value}
    (a71 : PySem.W.findIn K (.ref C_Arrays) "kill" = some (some (.ref f71))) (i71 : PySem.W.isFn K (.ref f71) = true) (l71 : K.lookup f71 = some ⟨oc71, od71, .func (PySem.W.fnOf "kill" "Arrays.kill" (defArgs s_Arrays_kill) (defBody s_Arrays_kill) (defScope s_Arrays_kill) .none kV71 dc71 pm71 an71 cd71 ct71), sl71⟩) (c71 : PySem.W.codeIn K cd71 "Arrays.kill" = true) (k71 : PySem.W.keepIn K (.ref f71) = true)
    {f72 : Addr} {od72 an72 : Option Addr} {sl72 : Array (Option Value)} {oc72 kV72 dc72 pm72 cd72 ct72 : Value}
    (a72 : PySem.W.findIn K (.ref C_Arrays) "names" = some (some (.ref f72))) (i72 : PySem.W.isFn K (.ref f72) = true) (l72 : K.lookup f72 = some ⟨oc72, od72, .func (PySem.W.fnOf "names" "Arrays.names" (defArgs s_Arrays_names) (defBody s_Arrays_names) (defScope s_Arrays_names) .none kV72 dc72 pm72 an72 cd72 ct72), sl72⟩) (c72 : PySem.W.codeIn K cd72 "Arrays.names" = true) (k72 : PySem.W.keepIn K (.ref f72) = true)
    {f73 : Addr} {od73 an73 : Option Addr} {sl73 : Array (Option Value)} {oc73 kV73 dc73 pm73 cd73 ct73 : Value}
    (a73 : PySem.W.findIn K (.ref C_Arrays) "count" = some (some (.ref f73))) (i73 : PySem.W.isFn K (.ref f73) = true) (l73 : K.lookup f73 = some ⟨oc73, od73, .func (PySem.W.fnOf "count" "Arrays.count" (defArgs s_Arrays_count) (defBody s_Arrays_count) (defScope s_Arrays_count) .none kV73 dc73 pm73 an73 cd73 ct73), sl73⟩) (c73 : PySem.W.codeIn K cd73 "Arrays.count" = true) (k73 : PySem.W.keepIn K (.ref f73) = true)
    {f74 D74 : Addr} {od74 an74 : Option Addr} {sl74 : Array (Option Value)} {oc74 dc74 pm74 cd74 ct74 : Value} {u74_0 : Value}
    (a74 : PySem.W.findIn K (.ref C_Arrays) "order" = some (some (.ref f74))) (i74 : PySem.W.isFn K (.ref f74) = true) (l74 : K.lookup f74 = some ⟨oc74, od74, .func (PySem.W.fnOf "order" "Arrays.order" (defArgs s_Arrays_order) (defBody s_Arrays_order) (defScope s_Arrays_order) .none (.ref D74) dc74 pm74 an74 cd74 ct74), sl74⟩) (c74 : PySem.W.codeIn K cd74 "Arrays.order" = true) (k74 : PySem.W.keepIn K (.ref f74) = true) (q74_0 : PySem.W.nsIn K D74 "back" = some (some u74_0)) (r74_0 : L2.RelV (V.bl false) u74_0)
    {f75 : Addr} {od75 an75 : Option Addr} {sl75 : Array (Option Value)} {oc75 kV75 dc75 pm75 cd75 ct75 : Value}
    (a75 : PySem.W.findIn K (.ref C_Arrays) "rows" = some (some (.ref f75))) (i75 : PySem.W.isFn K (.ref f75) = true) (l75 : K.lookup f75 = some ⟨oc75, od75, .func (PySem.W.fnOf "rows" "Arrays.rows" (defArgs s_Arrays_rows) (defBody s_Arrays_rows) (defScope s_Arrays_rows) .none kV75 dc75 pm75 an75 cd75 ct75), sl75⟩) (c75 : PySem.W.codeIn K cd75 "Arrays.rows" = true) (k75 : PySem.W.keepIn K (.ref f75) = true)
    {f76 : Addr} {od76 an76 : Option Addr} {sl76 : Array (Option Value)} {oc76 kV76 dc76 pm76 cd76 ct76 : Value}
    (a76 : PySem.W.findIn K (.ref C_Dealings) "__init__" = some (some (.ref f76))) (i76 : PySem.W.isFn K (.ref f76) = true) (l76 : K.lookup f76 = some ⟨oc76, od76, .func (PySem.W.fnOf "__init__" "Dealings.__init__" (defArgs s_Dealings___init) (defBody s_Dealings___init) (defScope s_Dealings___init) .none kV76 dc76 pm76 an76 cd76 ct76), sl76⟩) (c76 : PySem.W.codeIn K cd76 "Dealings.__init__" = true) (k76 : PySem.W.keepIn K (.ref f76) = true)
    {f77 : Addr} {od77 an77 : Option Addr} {sl77 : Array (Option Value)} {oc77 kV77 dc77 pm77 cd77 ct77 : Value}
    (a77 : PySem.W.findIn K (.ref C_Dealings) "level" = some (some (.ref f77))) (i77 : PySem.W.isFn K (.ref f77) = true) (l77 : K.lookup f77 = some ⟨oc77, od77, .func (PySem.W.fnOf "level" "Dealings.level" (defArgs s_Dealings_level) (defBody s_Dealings_level) (defScope s_Dealings_level) .none kV77 dc77 pm77 an77 cd77 ct77), sl77⟩) (c77 : PySem.W.codeIn K cd77 "Dealings.level" = true) (k77 : PySem.W.keepIn K (.ref f77) = true)
    {f78 : Addr} {od78 an78 : Option Addr} {sl78 : Array (Option Value)} {oc78 kV78 dc78 pm78 cd78 ct78 : Value}
    (a78 : PySem.W.findIn K (.ref C_Dealings) "touched" = some (some (.ref f78))) (i78 : PySem.W.isFn K (.ref f78) = true) (l78 : K.lookup f78 = some ⟨oc78, od78, .func (PySem.W.fnOf "touched" "Dealings.touched" (defArgs s_Dealings_touched) (defBody s_Dealings_touched) (defScope s_Dealings_touched) .none kV78 dc78 pm78 an78 cd78 ct78), sl78⟩) (c78 : PySem.W.codeIn K cd78 "Dealings.touched" = true) (k78 : PySem.W.keepIn K (.ref f78) = true)
    {f79 : Addr} {od79 an79 : Option Addr} {sl79 : Array (Option Value)} {oc79 kV79 dc79 pm79 cd79 ct79 : Value}
    (a79 : PySem.W.findIn K (.ref C_Dealings) "need_free" = some (some (.ref f79))) (i79 : PySem.W.isFn K (.ref f79) = true) (l79 : K.lookup f79 = some ⟨oc79, od79, .func (PySem.W.fnOf "need_free" "Dealings.need_free" (defArgs s_Dealings_need_free) (defBody s_Dealings_need_free) (defScope s_Dealings_need_free) .none kV79 dc79 pm79 an79 cd79 ct79), sl79⟩) (c79 : PySem.W.codeIn K cd79 "Dealings.need_free" = true) (k79 : PySem.W.keepIn K (.ref f79) = true)
    {f80 : Addr} {od80 an80 : Option Addr} {sl80 : Array (Option Value)} {oc80 kV80 dc80 pm80 cd80 ct80 : Value}
    (a80 : PySem.W.findIn K (.ref C_Dealings) "note" = some (some (.ref f80))) (i80 : PySem.W.isFn K (.ref f80) = true) (l80 : K.lookup f80 = some ⟨oc80, od80, .func (PySem.W.fnOf "note" "Dealings.note" (defArgs s_Dealings_note) (defBody s_Dealings_note) (defScope s_Dealings_note) .none kV80 dc80 pm80 an80 cd80 ct80), sl80⟩) (c80 : PySem.W.codeIn K cd80 "Dealings.note" = true) (k80 : PySem.W.keepIn K (.ref f80) = true)
    {f81 : Addr} {od81 an81 : Option Addr} {sl81 : Array (Option Value)} {oc81 kV81 dc81 pm81 cd81 ct81 : Value}
    (a81 : PySem.W.findIn K (.ref C_Dealings) "put" = some (some (.ref f81))) (i81 : PySem.W.isFn K (.ref f81) = true) (l81 : K.lookup f81 = some ⟨oc81, od81, .func (PySem.W.fnOf "put" "Dealings.put" (defArgs s_Dealings_put) (defBody s_Dealings_put) (defScope s_Dealings_put) .none kV81 dc81 pm81 an81 cd81 ct81), sl81⟩) (c81 : PySem.W.codeIn K cd81 "Dealings.put" = true) (k81 : PySem.W.keepIn K (.ref f81) = true)
    {f82 : Addr} {od82 an82 : Option Addr} {sl82 : Array (Option Value)} {oc82 kV82 dc82 pm82 cd82 ct82 : Value}
    (a82 : PySem.W.findIn K (.ref C_Dealings) "kill" = some (some (.ref f82))) (i82 : PySem.W.isFn K (.ref f82) = true) (l82 : K.lookup f82 = some ⟨oc82, od82, .func (PySem.W.fnOf "kill" "Dealings.kill" (defArgs s_Dealings_kill) (defBody s_Dealings_kill) (defScope s_Dealings_kill) .none kV82 dc82 pm82 an82 cd82 ct82), sl82⟩) (c82 : PySem.W.codeIn K cd82 "Dealings.kill" = true) (k82 : PySem.W.keepIn K (.ref f82) = true)
    {f83 D83 : Addr} {od83 an83 : Option Addr} {sl83 : Array (Option Value)} {oc83 dc83 pm83 cd83 ct83 : Value} {u83_0 : Value}
    (a83 : PySem.W.findIn K (.ref C_Dealings) "read" = some (some (.ref f83))) (i83 : PySem.W.isFn K (.ref f83) = true) (l83 : K.lookup f83 = some ⟨oc83, od83, .func (PySem.W.fnOf "read" "Dealings.read" (defArgs s_Dealings_read) (defBody s_Dealings_read) (defScope s_Dealings_read) .none (.ref D83) dc83 pm83 an83 cd83 ct83), sl83⟩) (c83 : PySem.W.codeIn K cd83 "Dealings.read" = true) (k83 : PySem.W.keepIn K (.ref f83) = true) (q83_0 : PySem.W.nsIn K D83 "otherwise" = some (some u83_0)) (r83_0 : L2.RelV (V.str (Str.ofString "")) u83_0)
    {f84 : Addr} {od84 an84 : Option Addr} {sl84 : Array (Option Value)} {oc84 kV84 dc84 pm84 cd84 ct84 : Value}
    (a84 : PySem.W.findIn K (.ref C_Dealings) "data" = some (some (.ref f84))) (i84 : PySem.W.isFn K (.ref f84) = true) (l84 : K.lookup f84 = some ⟨oc84, od84, .func (PySem.W.fnOf "data" "Dealings.data" (defArgs s_Dealings_data) (defBody s_Dealings_data) (defScope s_Dealings_data) .none kV84 dc84 pm84 an84 cd84 ct84), sl84⟩) (c84 : PySem.W.codeIn K cd84 "Dealings.data" = true) (k84 : PySem.W.keepIn K (.ref f84) = true)
    {f85 D85 : Addr} {od85 an85 : Option Addr} {sl85 : Array (Option Value)} {oc85 dc85 pm85 cd85 ct85 : Value} {u85_0 : Value}
    (a85 : PySem.W.findIn K (.ref C_Dealings) "order" = some (some (.ref f85))) (i85 : PySem.W.isFn K (.ref f85) = true) (l85 : K.lookup f85 = some ⟨oc85, od85, .func (PySem.W.fnOf "order" "Dealings.order" (defArgs s_Dealings_order) (defBody s_Dealings_order) (defScope s_Dealings_order) .none (.ref D85) dc85 pm85 an85 cd85 ct85), sl85⟩) (c85 : PySem.W.codeIn K cd85 "Dealings.order" = true) (k85 : PySem.W.keepIn K (.ref f85) = true) (q85_0 : PySem.W.nsIn K D85 "back" = some (some u85_0)) (r85_0 : L2.RelV (V.bl false) u85_0)
    (tI_Erring : PySem.W.typeIn K (.ref f57) = some (.type "function"))
    {D_BY_TEXTS : Addr} (gd_BY_TEXTS : PySem.W.nsIn K mainGlobals "BY_TEXTS" = some (some (.ref D_BY_TEXTS)))
    (z_abs : PySem.W.nsIn K mainGlobals "abs" = some none)
    (z_all : PySem.W.nsIn K mainGlobals "all" = some none)
    (z_bool : PySem.W.nsIn K mainGlobals "bool" = some none)
    (z_enumerate : PySem.W.nsIn K mainGlobals "enumerate" = some none)
    (z_int : PySem.W.nsIn K mainGlobals "int" = some none)
    (z_isinstance : PySem.W.nsIn K mainGlobals "isinstance" = some none)
    (z_len : PySem.W.nsIn K mainGlobals "len" = some none)
    (z_list : PySem.W.nsIn K mainGlobals "list" = some none)
    (z_max : PySem.W.nsIn K mainGlobals "max" = some none)
    (z_min : PySem.W.nsIn K mainGlobals "min" = some none)
    (z_range : PySem.W.nsIn K mainGlobals "range" = some none)
    (z_sorted : PySem.W.nsIn K mainGlobals "sorted" = some none)
    (z_str : PySem.W.nsIn K mainGlobals "str" = some none)
    (z_tuple : PySem.W.nsIn K mainGlobals "tuple" = some none)

    {t_FIGURES : Tok} (g_FIGURES : PySem.W.nsIn K mainGlobals "FIGURES" = some (some (.str (Str.ofString "0123456789") t_FIGURES)))
    {t_LETTERS : Tok} (g_LETTERS : PySem.W.nsIn K mainGlobals "LETTERS" = some (some (.str (Str.ofString "abcdefghijklmnopqrstuvwxyz") t_LETTERS)))
    {t_MOST_KEYS : Tok} (g_MOST_KEYS : PySem.W.nsIn K mainGlobals "MOST_KEYS" = some (some (.int 6 t_MOST_KEYS)))
    {t_MOST_LETTERS : Tok} (g_MOST_LETTERS : PySem.W.nsIn K mainGlobals "MOST_LETTERS" = some (some (.int 8 t_MOST_LETTERS)))
    {t_MOST_LONG : Tok} (g_MOST_LONG : PySem.W.nsIn K mainGlobals "MOST_LONG" = some (some (.int 2000 t_MOST_LONG)))
    {t_MOST_SIGNS : Tok} (g_MOST_SIGNS : PySem.W.nsIn K mainGlobals "MOST_SIGNS" = some (some (.int 40 t_MOST_SIGNS)))
    {t_SIGNS : Tok} (g_SIGNS : PySem.W.nsIn K mainGlobals "SIGNS" = some (some (.str (Str.ofString " !\"#$&'()*+,-./0123456789:;<=>?@ABCDEFGHIJKLMNOPQRSTUVWXYZ[\\]^_`abcdefghijklmnopqrstuvwxyz{|}~") t_SIGNS)))
    {tp_PLACES : Addr} {ot_PLACES : Option Addr} {nt_PLACES : Nat} {st_PLACES : Array (Option Value)} {v_PLACES_0 : Value} {v_PLACES_1 : Value} {v_PLACES_2 : Value} (gt_PLACES : PySem.W.nsIn K mainGlobals "PLACES" = some (some (.ref tp_PLACES))) (lt_PLACES : K.lookup tp_PLACES = some ⟨.type "tuple", ot_PLACES, .seq #[v_PLACES_0, v_PLACES_1, v_PLACES_2] nt_PLACES, st_PLACES⟩) (rt_PLACES_0 : L2.RelV (V.str (Str.ofString "var")) v_PLACES_0) (rt_PLACES_1 : L2.RelV (V.str (Str.ofString "at")) v_PLACES_1) (rt_PLACES_2 : L2.RelV (V.str (Str.ofString "short")) v_PLACES_2)
    : Txt K mg ⟨f0, PySem.W.fnOf "is_worth" "is_worth" (defArgs s_is_worth) (defBody s_is_worth) (defScope s_is_worth) .none kV0 dc0 pm0 an0 cd0 ct0, f1, PySem.W.fnOf "is_name" "is_name" (defArgs s_is_name) (defBody s_is_name) (defScope s_is_name) .none kV1 dc1 pm1 an1 cd1 ct1, f2, PySem.W.fnOf "is_key" "is_key" (defArgs s_is_key) (defBody s_is_key) (defScope s_is_key) .none kV2 dc2 pm2 an2 cd2 ct2, f3, PySem.W.fnOf "is_reference" "is_reference" (defArgs s_is_reference) (defBody s_is_reference) (defScope s_is_reference) .none kV3 dc3 pm3 an3 cd3 ct3, f4, PySem.W.fnOf "signs_ahead" "signs_ahead" (defArgs s_signs_ahead) (defBody s_signs_ahead) (defScope s_signs_ahead) .none kV4 dc4 pm4 an4 cd4 ct4, f5, PySem.W.fnOf "number_of" "number_of" (defArgs s_number_of) (defBody s_number_of) (defScope s_number_of) .none kV5 dc5 pm5 an5 cd5 ct5, f6, PySem.W.fnOf "number_text" "number_text" (defArgs s_number_text) (defBody s_number_text) (defScope s_number_text) .none kV6 dc6 pm6 an6 cd6 ct6, f7, PySem.W.fnOf "is_number_text" "is_number_text" (defArgs s_is_number_text) (defBody s_is_number_text) (defScope s_is_number_text) .none kV7 dc7 pm7 an7 cd7 ct7, f8, PySem.W.fnOf "rank" "rank" (defArgs s_rank) (defBody s_rank) (defScope s_rank) .none kV8 dc8 pm8 an8 cd8 ct8, f9, PySem.W.fnOf "is_stem" "is_stem" (defArgs s_is_stem) (defBody s_is_stem) (defScope s_is_stem) .none kV9 dc9 pm9 an9 cd9 ct9, f10, PySem.W.fnOf "meet" "meet" (defArgs s_meet) (defBody s_meet) (defScope s_meet) .none kV10 dc10 pm10 an10 cd10 ct10, f11, PySem.W.fnOf "truth_text" "truth_text" (defArgs s_truth_text) (defBody s_truth_text) (defScope s_truth_text) .none kV11 dc11 pm11 an11 cd11 ct11, f12, PySem.W.fnOf "quotient" "quotient" (defArgs s_quotient) (defBody s_quotient) (defScope s_quotient) .none kV12 dc12 pm12 an12 cd12 ct12, f13, PySem.W.fnOf "by_numbers" "by_numbers" (defArgs s_by_numbers) (defBody s_by_numbers) (defScope s_by_numbers) .none kV13 dc13 pm13 an13 cd13 ct13, f14, PySem.W.fnOf "are_one_text" "are_one_text" (defArgs s_are_one_text) (defBody s_are_one_text) (defScope s_are_one_text) .none kV14 dc14 pm14 an14 cd14 ct14, f15, PySem.W.fnOf "put_behind" "put_behind" (defArgs s_put_behind) (defBody s_put_behind) (defScope s_put_behind) .none kV15 dc15 pm15 an15 cd15 ct15, f16, PySem.W.fnOf "holds_other" "holds_other" (defArgs s_holds_other) (defBody s_holds_other) (defScope s_holds_other) .none kV16 dc16 pm16 an16 cd16 ct16, f17, PySem.W.fnOf "stands_behind" "stands_behind" (defArgs s_stands_behind) (defBody s_stands_behind) (defScope s_stands_behind) .none kV17 dc17 pm17 an17 cd17 ct17, f18, PySem.W.fnOf "of_two" "of_two" (defArgs s_of_two) (defBody s_of_two) (defScope s_of_two) .none kV18 dc18 pm18 an18 cd18 ct18, f19, PySem.W.fnOf "piece_of" "piece_of" (defArgs s_piece_of) (defBody s_piece_of) (defScope s_piece_of) .none kV19 dc19 pm19 an19 cd19 ct19, f20, PySem.W.fnOf "part_of" "part_of" (defArgs s_part_of) (defBody s_part_of) (defScope s_part_of) .none kV20 dc20 pm20 an20 cd20 ct20, f21, PySem.W.fnOf "of_worths" "of_worths" (defArgs s_of_worths) (defBody s_of_worths) (defScope s_of_worths) .none kV21 dc21 pm21 an21 cd21 ct21, f22, PySem.W.fnOf "not_too_long" "not_too_long" (defArgs s_not_too_long) (defBody s_not_too_long) (defScope s_not_too_long) .none kV22 dc22 pm22 an22 cd22 ct22, f23, PySem.W.fnOf "need_reference" "need_reference" (defArgs s_need_reference) (defBody s_need_reference) (defScope s_need_reference) .none kV23 dc23 pm23 an23 cd23 ct23, f24, PySem.W.fnOf "need_worth" "need_worth" (defArgs s_need_worth) (defBody s_need_worth) (defScope s_need_worth) .none kV24 dc24 pm24 an24 cd24 ct24, f25, PySem.W.fnOf "need_ordered" "need_ordered" (defArgs s_need_ordered) (defBody s_need_ordered) (defScope s_need_ordered) .none kV25 dc25 pm25 an25 cd25 ct25, f26, PySem.W.fnOf "ranks" "ranks" (defArgs s_ranks) (defBody s_ranks) (defScope s_ranks) .none kV26 dc26 pm26 an26 cd26 ct26, f27, PySem.W.fnOf "walked" "walked" (defArgs s_walked) (defBody s_walked) (defScope s_walked) .none kV27 dc27 pm27 an27 (.ref kc27) ct27, kc27, pp27, f28, PySem.W.fnOf "need_job" "need_job" (defArgs s_need_job) (defBody s_need_job) (defScope s_need_job) .none kV28 dc28 pm28 an28 cd28 ct28, f29, PySem.W.fnOf "_law_cell_at" "_law_cell_at" (defArgs s_law_cell_at) (defBody s_law_cell_at) (defScope s_law_cell_at) .none kV29 dc29 pm29 an29 cd29 ct29, f30, PySem.W.fnOf "_law_bag" "_law_bag" (defArgs s_law_bag) (defBody s_law_bag) (defScope s_law_bag) .none kV30 dc30 pm30 an30 cd30 ct30, f31, PySem.W.fnOf "_law_draw" "_law_draw" (defArgs s_law_draw) (defBody s_law_draw) (defScope s_law_draw) .none kV31 dc31 pm31 an31 cd31 ct31, f32, PySem.W.fnOf "_law_key" "_law_key" (defArgs s_law_key) (defBody s_law_key) (defScope s_law_key) .none kV32 dc32 pm32 an32 cd32 ct32, f33, PySem.W.fnOf "_law_word" "_law_word" (defArgs s_law_word) (defBody s_law_word) (defScope s_law_word) .none kV33 dc33 pm33 an33 cd33 ct33, f34, PySem.W.fnOf "_law_unlike" "_law_unlike" (defArgs s_law_unlike) (defBody s_law_unlike) (defScope s_law_unlike) .none kV34 dc34 pm34 an34 cd34 ct34, f35, PySem.W.fnOf "_law_pool" "_law_pool" (defArgs s_law_pool) (defBody s_law_pool) (defScope s_law_pool) .none kV35 dc35 pm35 an35 cd35 ct35, f36, PySem.W.fnOf "_law_spot" "_law_spot" (defArgs s_law_spot) (defBody s_law_spot) (defScope s_law_spot) .none kV36 dc36 pm36 an36 cd36 ct36, f37, PySem.W.fnOf "_law_rank" "_law_rank" (defArgs s_law_rank) (defBody s_law_rank) (defScope s_law_rank) .none kV37 dc37 pm37 an37 cd37 ct37, f38, PySem.W.fnOf "_law_worth" "_law_worth" (defArgs s_law_worth) (defBody s_law_worth) (defScope s_law_worth) .none kV38 dc38 pm38 an38 cd38 ct38, f39, PySem.W.fnOf "_law_number" "_law_number" (defArgs s_law_number) (defBody s_law_number) (defScope s_law_number) .none kV39 dc39 pm39 an39 cd39 ct39, f40, PySem.W.fnOf "_law_of_numbers" "_law_of_numbers" (defArgs s_law_of_numbers) (defBody s_law_of_numbers) (defScope s_law_of_numbers) .none kV40 dc40 pm40 an40 cd40 ct40, f41, PySem.W.fnOf "_law_of_two" "_law_of_two" (defArgs s_law_of_two) (defBody s_law_of_two) (defScope s_law_of_two) .none kV41 dc41 pm41 an41 cd41 ct41, f42, PySem.W.fnOf "_law_piece" "_law_piece" (defArgs s_law_piece) (defBody s_law_piece) (defScope s_law_piece) .none kV42 dc42 pm42 an42 cd42 ct42, f43, PySem.W.fnOf "_law_of_worths" "_law_of_worths" (defArgs s_law_of_worths) (defBody s_law_of_worths) (defScope s_law_of_worths) .none kV43 dc43 pm43 an43 cd43 ct43, f44, PySem.W.fnOf "_law_place" "_law_place" (defArgs s_law_place) (defBody s_law_place) (defScope s_law_place) .none kV44 dc44 pm44 an44 cd44 ct44, f45, PySem.W.fnOf "_law_next" "_law_next" (defArgs s_law_next) (defBody s_law_next) (defScope s_law_next) .none kV45 dc45 pm45 an45 cd45 ct45, f46, PySem.W.fnOf "_law_data" "_law_data" (defArgs s_law_data) (defBody s_law_data) (defScope s_law_data) .none kV46 dc46 pm46 an46 cd46 ct46, f47, PySem.W.fnOf "_law_of_place" "_law_of_place" (defArgs s_law_of_place) (defBody s_law_of_place) (defScope s_law_of_place) .none kV47 dc47 pm47 an47 cd47 ct47, f48, PySem.W.fnOf "_law_told" "_law_told" (defArgs s_law_told) (defBody s_law_told) (defScope s_law_told) .none kV48 dc48 pm48 an48 cd48 ct48, f49, PySem.W.fnOf "_law_due" "_law_due" (defArgs s_law_due) (defBody s_law_due) (defScope s_law_due) .none kV49 dc49 pm49 an49 cd49 ct49, f50, PySem.W.fnOf "_law_said" "_law_said" (defArgs s_law_said) (defBody s_law_said) (defScope s_law_said) .none kV50 dc50 pm50 an50 cd50 ct50, f51, PySem.W.fnOf "_law_filled" "_law_filled" (defArgs s_law_filled) (defBody s_law_filled) (defScope s_law_filled) .none kV51 dc51 pm51 an51 cd51 ct51, f52, PySem.W.fnOf "_law_stage" "_law_stage" (defArgs s_law_stage) (defBody s_law_stage) (defScope s_law_stage) .none kV52 dc52 pm52 an52 cd52 ct52, f53, PySem.W.fnOf "_law_shown" "_law_shown" (defArgs s_law_shown) (defBody s_law_shown) (defScope s_law_shown) .none kV53 dc53 pm53 an53 cd53 ct53, f54, PySem.W.fnOf "_law_place_right" "_law_place_right" (defArgs s_law_place_right) (defBody s_law_place_right) (defScope s_law_place_right) .none kV54 dc54 pm54 an54 cd54 ct54, f55, PySem.W.fnOf "_law_changed" "_law_changed" (defArgs s_law_changed) (defBody s_law_changed) (defScope s_law_changed) .none kV55 dc55 pm55 an55 cd55 ct55, f56, PySem.W.fnOf "law" "law" (defArgs s_law) (defBody s_law) (defScope s_law) .none kV56 dc56 pm56 an56 cd56 ct56, f57, PySem.W.fnOf "__init__" "Erring.__init__" (defArgs s_Erring___init) (defBody s_Erring___init) (defScope s_Erring___init) .none kV57 dc57 pm57 an57 cd57 ct57, f58, PySem.W.fnOf "__init__" "Scene.__init__" (defArgs s_Scene___init) (defBody s_Scene___init) (defScope s_Scene___init) (.ref DT58) kV58 dc58 pm58 an58 cd58 ct58, [u58_0], f59, PySem.W.fnOf "last" "Scene.last" (defArgs s_Scene_last) (defBody s_Scene_last) (defScope s_Scene_last) .none kV59 dc59 pm59 an59 cd59 ct59, f60, PySem.W.fnOf "reckon" "Scene.reckon" (defArgs s_Scene_reckon) (defBody s_Scene_reckon) (defScope s_Scene_reckon) .none kV60 dc60 pm60 an60 cd60 ct60, f61, PySem.W.fnOf "place" "Scene.place" (defArgs s_Scene_place) (defBody s_Scene_place) (defScope s_Scene_place) .none (.ref D61) dc61 pm61 an61 cd61 ct61, [u61_0], f62, PySem.W.fnOf "reckoned" "Scene.reckoned" (defArgs s_Scene_reckoned) (defBody s_Scene_reckoned) (defScope s_Scene_reckoned) .none kV62 dc62 pm62 an62 cd62 ct62, f63, PySem.W.fnOf "worth_at" "Scene.worth_at" (defArgs s_Scene_worth_at) (defBody s_Scene_worth_at) (defScope s_Scene_worth_at) .none kV63 dc63 pm63 an63 cd63 ct63, f64, PySem.W.fnOf "next_key" "Scene.next_key" (defArgs s_Scene_next_key) (defBody s_Scene_next_key) (defScope s_Scene_next_key) .none kV64 dc64 pm64 an64 cd64 ct64, f65, PySem.W.fnOf "place_of" "Scene.place_of" (defArgs s_Scene_place_of) (defBody s_Scene_place_of) (defScope s_Scene_place_of) .none kV65 dc65 pm65 an65 cd65 ct65, f66, PySem.W.fnOf "__init__" "Arrays.__init__" (defArgs s_Arrays___init) (defBody s_Arrays___init) (defScope s_Arrays___init) .none kV66 dc66 pm66 an66 cd66 ct66, f67, PySem.W.fnOf "put" "Arrays.put" (defArgs s_Arrays_put) (defBody s_Arrays_put) (defScope s_Arrays_put) .none kV67 dc67 pm67 an67 cd67 ct67, f68, PySem.W.fnOf "read" "Arrays.read" (defArgs s_Arrays_read) (defBody s_Arrays_read) (defScope s_Arrays_read) .none (.ref D68) dc68 pm68 an68 cd68 ct68, [u68_0], f69, PySem.W.fnOf "beneath" "Arrays.beneath" (defArgs s_Arrays_beneath) (defBody s_Arrays_beneath) (defScope s_Arrays_beneath) .none kV69 dc69 pm69 an69 cd69 ct69, f70, PySem.W.fnOf "data" "Arrays.data" (defArgs s_Arrays_data) (defBody s_Arrays_data) (defScope s_Arrays_data) .none kV70 dc70 pm70 an70 cd70 ct70, f71, PySem.W.fnOf "kill" "Arrays.kill" (defArgs s_Arrays_kill) (defBody s_Arrays_kill) (defScope s_Arrays_kill) .none kV71 dc71 pm71 an71 cd71 ct71, f72, PySem.W.fnOf "names" "Arrays.names" (defArgs s_Arrays_names) (defBody s_Arrays_names) (defScope s_Arrays_names) .none kV72 dc72 pm72 an72 cd72 ct72, f73, PySem.W.fnOf "count" "Arrays.count" (defArgs s_Arrays_count) (defBody s_Arrays_count) (defScope s_Arrays_count) .none kV73 dc73 pm73 an73 cd73 ct73, f74, PySem.W.fnOf "order" "Arrays.order" (defArgs s_Arrays_order) (defBody s_Arrays_order) (defScope s_Arrays_order) .none (.ref D74) dc74 pm74 an74 cd74 ct74, [u74_0], f75, PySem.W.fnOf "rows" "Arrays.rows" (defArgs s_Arrays_rows) (defBody s_Arrays_rows) (defScope s_Arrays_rows) .none kV75 dc75 pm75 an75 cd75 ct75, f76, PySem.W.fnOf "__init__" "Dealings.__init__" (defArgs s_Dealings___init) (defBody s_Dealings___init) (defScope s_Dealings___init) .none kV76 dc76 pm76 an76 cd76 ct76, f77, PySem.W.fnOf "level" "Dealings.level" (defArgs s_Dealings_level) (defBody s_Dealings_level) (defScope s_Dealings_level) .none kV77 dc77 pm77 an77 cd77 ct77, f78, PySem.W.fnOf "touched" "Dealings.touched" (defArgs s_Dealings_touched) (defBody s_Dealings_touched) (defScope s_Dealings_touched) .none kV78 dc78 pm78 an78 cd78 ct78, f79, PySem.W.fnOf "need_free" "Dealings.need_free" (defArgs s_Dealings_need_free) (defBody s_Dealings_need_free) (defScope s_Dealings_need_free) .none kV79 dc79 pm79 an79 cd79 ct79, f80, PySem.W.fnOf "note" "Dealings.note" (defArgs s_Dealings_note) (defBody s_Dealings_note) (defScope s_Dealings_note) .none kV80 dc80 pm80 an80 cd80 ct80, f81, PySem.W.fnOf "put" "Dealings.put" (defArgs s_Dealings_put) (defBody s_Dealings_put) (defScope s_Dealings_put) .none kV81 dc81 pm81 an81 cd81 ct81, f82, PySem.W.fnOf "kill" "Dealings.kill" (defArgs s_Dealings_kill) (defBody s_Dealings_kill) (defScope s_Dealings_kill) .none kV82 dc82 pm82 an82 cd82 ct82, f83, PySem.W.fnOf "read" "Dealings.read" (defArgs s_Dealings_read) (defBody s_Dealings_read) (defScope s_Dealings_read) .none (.ref D83) dc83 pm83 an83 cd83 ct83, [u83_0], f84, PySem.W.fnOf "data" "Dealings.data" (defArgs s_Dealings_data) (defBody s_Dealings_data) (defScope s_Dealings_data) .none kV84 dc84 pm84 an84 cd84 ct84, f85, PySem.W.fnOf "order" "Dealings.order" (defArgs s_Dealings_order) (defBody s_Dealings_order) (defScope s_Dealings_order) .none (.ref D85) dc85 pm85 an85 cd85 ct85, [u85_0], C_Scene, C_Arrays, C_Dealings, t_FIGURES, t_LETTERS, t_MOST_KEYS, t_MOST_LETTERS, t_MOST_LONG, t_MOST_SIGNS, t_SIGNS, tp_PLACES, D_BY_TEXTS, C_Erring⟩ where
  F_is_worth := fun_mk (st := s_is_worth) l0 c0 k0
  g_is_worth := PySem.W.mg_of X G a0
  b_is_worth := (fun_mk (st := s_is_worth) l0 c0 k0).binds (ps := ["thing"]) fun _ _ _ _ _ _ us hl => match us, hl with | [_], _ => rfl
  F_is_name := fun_mk (st := s_is_name) l1 c1 k1
  g_is_name := PySem.W.mg_of X G a1
  b_is_name := (fun_mk (st := s_is_name) l1 c1 k1).binds (ps := ["thing"]) fun _ _ _ _ _ _ us hl => match us, hl with | [_], _ => rfl
  F_is_key := fun_mk (st := s_is_key) l2 c2 k2
  g_is_key := PySem.W.mg_of X G a2
  b_is_key := (fun_mk (st := s_is_key) l2 c2 k2).binds (ps := ["thing"]) fun _ _ _ _ _ _ us hl => match us, hl with | [_], _ => rfl
  F_is_reference := fun_mk (st := s_is_reference) l3 c3 k3
  g_is_reference := PySem.W.mg_of X G a3
  b_is_reference := (fun_mk (st := s_is_reference) l3 c3 k3).binds (ps := ["thing"]) fun _ _ _ _ _ _ us hl => match us, hl with | [_], _ => rfl
  F_signs_ahead := fun_mk (st := s_signs_ahead) l4 c4 k4
  g_signs_ahead := PySem.W.mg_of X G a4
  b_signs_ahead := (fun_mk (st := s_signs_ahead) l4 c4 k4).binds (ps := ["worth", "some"]) fun _ _ _ _ _ _ us hl => match us, hl with | [_, _], _ => rfl
  F_number_of := fun_mk (st := s_number_of) l5 c5 k5
  g_number_of := PySem.W.mg_of X G a5
  b_number_of := (fun_mk (st := s_number_of) l5 c5 k5).binds (ps := ["worth"]) fun _ _ _ _ _ _ us hl => match us, hl with | [_], _ => rfl
  F_number_text := fun_mk (st := s_number_text) l6 c6 k6
  g_number_text := PySem.W.mg_of X G a6
  b_number_text := (fun_mk (st := s_number_text) l6 c6 k6).binds (ps := ["number"]) fun _ _ _ _ _ _ us hl => match us, hl with | [_], _ => rfl
  F_is_number_text := fun_mk (st := s_is_number_text) l7 c7 k7
  g_is_number_text := PySem.W.mg_of X G a7
  b_is_number_text := (fun_mk (st := s_is_number_text) l7 c7 k7).binds (ps := ["worth"]) fun _ _ _ _ _ _ us hl => match us, hl with | [_], _ => rfl
  F_rank := fun_mk (st := s_rank) l8 c8 k8
  g_rank := PySem.W.mg_of X G a8
  b_rank := (fun_mk (st := s_rank) l8 c8 k8).binds (ps := ["key"]) fun _ _ _ _ _ _ us hl => match us, hl with | [_], _ => rfl
  F_is_stem := fun_mk (st := s_is_stem) l9 c9 k9
  g_is_stem := PySem.W.mg_of X G a9
  b_is_stem := (fun_mk (st := s_is_stem) l9 c9 k9).binds (ps := ["one", "other"]) fun _ _ _ _ _ _ us hl => match us, hl with | [_, _], _ => rfl
  F_meet := fun_mk (st := s_meet) l10 c10 k10
  g_meet := PySem.W.mg_of X G a10
  b_meet := (fun_mk (st := s_meet) l10 c10 k10).binds (ps := ["one", "other"]) fun _ _ _ _ _ _ us hl => match us, hl with | [_, _], _ => rfl
  F_truth_text := fun_mk (st := s_truth_text) l11 c11 k11
  g_truth_text := PySem.W.mg_of X G a11
  b_truth_text := (fun_mk (st := s_truth_text) l11 c11 k11).binds (ps := ["truth"]) fun _ _ _ _ _ _ us hl => match us, hl with | [_], _ => rfl
  F_quotient := fun_mk (st := s_quotient) l12 c12 k12
  g_quotient := PySem.W.mg_of X G a12
  b_quotient := (fun_mk (st := s_quotient) l12 c12 k12).binds (ps := ["one", "other"]) fun _ _ _ _ _ _ us hl => match us, hl with | [_, _], _ => rfl
  F_by_numbers := fun_mk (st := s_by_numbers) l13 c13 k13
  g_by_numbers := PySem.W.mg_of X G a13
  b_by_numbers := (fun_mk (st := s_by_numbers) l13 c13 k13).binds (ps := ["sign", "one", "other"]) fun _ _ _ _ _ _ us hl => match us, hl with | [_, _, _], _ => rfl
  F_are_one_text := fun_mk (st := s_are_one_text) l14 c14 k14
  g_are_one_text := PySem.W.mg_of X G a14
  b_are_one_text := (fun_mk (st := s_are_one_text) l14 c14 k14).binds (ps := ["one", "other"]) fun _ _ _ _ _ _ us hl => match us, hl with | [_, _], _ => rfl
  F_put_behind := fun_mk (st := s_put_behind) l15 c15 k15
  g_put_behind := PySem.W.mg_of X G a15
  b_put_behind := (fun_mk (st := s_put_behind) l15 c15 k15).binds (ps := ["one", "other"]) fun _ _ _ _ _ _ us hl => match us, hl with | [_, _], _ => rfl
  F_holds_other := fun_mk (st := s_holds_other) l16 c16 k16
  g_holds_other := PySem.W.mg_of X G a16
  b_holds_other := (fun_mk (st := s_holds_other) l16 c16 k16).binds (ps := ["one", "other"]) fun _ _ _ _ _ _ us hl => match us, hl with | [_, _], _ => rfl
  F_stands_behind := fun_mk (st := s_stands_behind) l17 c17 k17
  g_stands_behind := PySem.W.mg_of X G a17
  b_stands_behind := (fun_mk (st := s_stands_behind) l17 c17 k17).binds (ps := ["one", "other"]) fun _ _ _ _ _ _ us hl => match us, hl with | [_, _], _ => rfl
  F_of_two := fun_mk (st := s_of_two) l18 c18 k18
  g_of_two := PySem.W.mg_of X G a18
  b_of_two := (fun_mk (st := s_of_two) l18 c18 k18).binds (ps := ["sign", "one", "other"]) fun _ _ _ _ _ _ us hl => match us, hl with | [_, _, _], _ => rfl
  F_piece_of := fun_mk (st := s_piece_of) l19 c19 k19
  g_piece_of := PySem.W.mg_of X G a19
  b_piece_of := (fun_mk (st := s_piece_of) l19 c19 k19).binds (ps := ["one", "other", "nth"]) fun _ _ _ _ _ _ us hl => match us, hl with | [_, _, _], _ => rfl
  F_part_of := fun_mk (st := s_part_of) l20 c20 k20
  g_part_of := PySem.W.mg_of X G a20
  b_part_of := (fun_mk (st := s_part_of) l20 c20 k20).binds (ps := ["one", "first", "last"]) fun _ _ _ _ _ _ us hl => match us, hl with | [_, _, _], _ => rfl
  F_of_worths := fun_mk (st := s_of_worths) l21 c21 k21
  g_of_worths := PySem.W.mg_of X G a21
  b_of_worths := (fun_mk (st := s_of_worths) l21 c21 k21).binds (ps := ["word", "worths"]) fun _ _ _ _ _ _ us hl => match us, hl with | [_, _], _ => rfl
  F_not_too_long := fun_mk (st := s_not_too_long) l22 c22 k22
  g_not_too_long := PySem.W.mg_of X G a22
  b_not_too_long := (fun_mk (st := s_not_too_long) l22 c22 k22).binds (ps := ["worth"]) fun _ _ _ _ _ _ us hl => match us, hl with | [_], _ => rfl
  F_need_reference := fun_mk (st := s_need_reference) l23 c23 k23
  g_need_reference := PySem.W.mg_of X G a23
  b_need_reference := (fun_mk (st := s_need_reference) l23 c23 k23).binds (ps := ["thing"]) fun _ _ _ _ _ _ us hl => match us, hl with | [_], _ => rfl
  F_need_worth := fun_mk (st := s_need_worth) l24 c24 k24
  g_need_worth := PySem.W.mg_of X G a24
  b_need_worth := (fun_mk (st := s_need_worth) l24 c24 k24).binds (ps := ["thing"]) fun _ _ _ _ _ _ us hl => match us, hl with | [_], _ => rfl
  F_need_ordered := fun_mk (st := s_need_ordered) l25 c25 k25
  g_need_ordered := PySem.W.mg_of X G a25
  b_need_ordered := (fun_mk (st := s_need_ordered) l25 c25 k25).binds (ps := ["thing"]) fun _ _ _ _ _ _ us hl => match us, hl with | [_], _ => rfl
  F_ranks := fun_mk (st := s_ranks) l26 c26 k26
  g_ranks := PySem.W.mg_of X G a26
  b_ranks := (fun_mk (st := s_ranks) l26 c26 k26).binds (ps := ["ref"]) fun _ _ _ _ _ _ us hl => match us, hl with | [_], _ => rfl
  F_walked := fun_mk (st := s_walked) l27 c27 k27
  g_walked := PySem.W.mg_of X G a27
  kc_walked := rfl
  m_walked := .head _
  u_walked := by
    intro p hp
    simp only [List.mem_cons, List.not_mem_nil, or_false] at hp
    subst hp
    · exact fun _ => rfl
  b_walked := (fun_mk (st := s_walked) l27 c27 k27).binds (ps := ["refs"]) fun _ _ _ _ _ _ us hl => match us, hl with | [_], _ => rfl
  F_need_job := fun_mk (st := s_need_job) l28 c28 k28
  g_need_job := PySem.W.mg_of X G a28
  b_need_job := (fun_mk (st := s_need_job) l28 c28 k28).binds (ps := ["thing"]) fun _ _ _ _ _ _ us hl => match us, hl with | [_], _ => rfl
  F_law_cell_at := fun_mk (st := s_law_cell_at) l29 c29 k29
  g_law_cell_at := PySem.W.mg_of X G a29
  b_law_cell_at := (fun_mk (st := s_law_cell_at) l29 c29 k29).binds (ps := ["script", "k"]) fun _ _ _ _ _ _ us hl => match us, hl with | [_, _], _ => rfl
  F_law_bag := fun_mk (st := s_law_bag) l30 c30 k30
  g_law_bag := PySem.W.mg_of X G a30
  b_law_bag := (fun_mk (st := s_law_bag) l30 c30 k30).binds (ps := ["cell"]) fun _ _ _ _ _ _ us hl => match us, hl with | [_], _ => rfl
  F_law_draw := fun_mk (st := s_law_draw) l31 c31 k31
  g_law_draw := PySem.W.mg_of X G a31
  b_law_draw := (fun_mk (st := s_law_draw) l31 c31 k31).binds (ps := ["bag", "many"]) fun _ _ _ _ _ _ us hl => match us, hl with | [_, _], _ => rfl
  F_law_key := fun_mk (st := s_law_key) l32 c32 k32
  g_law_key := PySem.W.mg_of X G a32
  b_law_key := (fun_mk (st := s_law_key) l32 c32 k32).binds (ps := ["bag"]) fun _ _ _ _ _ _ us hl => match us, hl with | [_], _ => rfl
  F_law_word := fun_mk (st := s_law_word) l33 c33 k33
  g_law_word := PySem.W.mg_of X G a33
  b_law_word := (fun_mk (st := s_law_word) l33 c33 k33).binds (ps := ["bag"]) fun _ _ _ _ _ _ us hl => match us, hl with | [_], _ => rfl
  F_law_unlike := fun_mk (st := s_law_unlike) l34 c34 k34
  g_law_unlike := PySem.W.mg_of X G a34
  b_law_unlike := (fun_mk (st := s_law_unlike) l34 c34 k34).binds (ps := ["found", "one"]) fun _ _ _ _ _ _ us hl => match us, hl with | [_, _], _ => rfl
  F_law_pool := fun_mk (st := s_law_pool) l35 c35 k35
  g_law_pool := PySem.W.mg_of X G a35
  b_law_pool := (fun_mk (st := s_law_pool) l35 c35 k35).binds (ps := ["bag"]) fun _ _ _ _ _ _ us hl => match us, hl with | [_], _ => rfl
  F_law_spot := fun_mk (st := s_law_spot) l36 c36 k36
  g_law_spot := PySem.W.mg_of X G a36
  b_law_spot := (fun_mk (st := s_law_spot) l36 c36 k36).binds (ps := ["bag", "pool", "most"]) fun _ _ _ _ _ _ us hl => match us, hl with | [_, _, _], _ => rfl
  F_law_rank := fun_mk (st := s_law_rank) l37 c37 k37
  g_law_rank := PySem.W.mg_of X G a37
  b_law_rank := (fun_mk (st := s_law_rank) l37 c37 k37).binds (ps := ["text"]) fun _ _ _ _ _ _ us hl => match us, hl with | [_], _ => rfl
  F_law_worth := fun_mk (st := s_law_worth) l38 c38 k38
  g_law_worth := PySem.W.mg_of X G a38
  b_law_worth := (fun_mk (st := s_law_worth) l38 c38 k38).binds (ps := ["bag"]) fun _ _ _ _ _ _ us hl => match us, hl with | [_], _ => rfl
  F_law_number := fun_mk (st := s_law_number) l39 c39 k39
  g_law_number := PySem.W.mg_of X G a39
  b_law_number := (fun_mk (st := s_law_number) l39 c39 k39).binds (ps := ["worth"]) fun _ _ _ _ _ _ us hl => match us, hl with | [_], _ => rfl
  F_law_of_numbers := fun_mk (st := s_law_of_numbers) l40 c40 k40
  g_law_of_numbers := PySem.W.mg_of X G a40
  b_law_of_numbers := (fun_mk (st := s_law_of_numbers) l40 c40 k40).binds (ps := ["sign", "one", "other"]) fun _ _ _ _ _ _ us hl => match us, hl with | [_, _, _], _ => rfl
  F_law_of_two := fun_mk (st := s_law_of_two) l41 c41 k41
  g_law_of_two := PySem.W.mg_of X G a41
  b_law_of_two := (fun_mk (st := s_law_of_two) l41 c41 k41).binds (ps := ["sign", "one", "other"]) fun _ _ _ _ _ _ us hl => match us, hl with | [_, _, _], _ => rfl
  F_law_piece := fun_mk (st := s_law_piece) l42 c42 k42
  g_law_piece := PySem.W.mg_of X G a42
  b_law_piece := (fun_mk (st := s_law_piece) l42 c42 k42).binds (ps := ["one", "other", "nth"]) fun _ _ _ _ _ _ us hl => match us, hl with | [_, _, _], _ => rfl
  F_law_of_worths := fun_mk (st := s_law_of_worths) l43 c43 k43
  g_law_of_worths := PySem.W.mg_of X G a43
  b_law_of_worths := (fun_mk (st := s_law_of_worths) l43 c43 k43).binds (ps := ["word", "worths"]) fun _ _ _ _ _ _ us hl => match us, hl with | [_, _], _ => rfl
  F_law_place := fun_mk (st := s_law_place) l44 c44 k44
  g_law_place := PySem.W.mg_of X G a44
  b_law_place := (fun_mk (st := s_law_place) l44 c44 k44).binds (ps := ["m", "one", "is_open"]) fun _ _ _ _ _ _ us hl => match us, hl with | [_, _, _], _ => rfl
  F_law_next := fun_mk (st := s_law_next) l45 c45 k45
  g_law_next := PySem.W.mg_of X G a45
  b_law_next := (fun_mk (st := s_law_next) l45 c45 k45).binds (ps := ["nodes", "ref", "is_back"]) fun _ _ _ _ _ _ us hl => match us, hl with | [_, _, _], _ => rfl
  F_law_data := fun_mk (st := s_law_data) l46 c46 k46
  g_law_data := PySem.W.mg_of X G a46
  b_law_data := (fun_mk (st := s_law_data) l46 c46 k46).binds (ps := ["nodes", "ref"]) fun _ _ _ _ _ _ us hl => match us, hl with | [_, _], _ => rfl
  F_law_of_place := fun_mk (st := s_law_of_place) l47 c47 k47
  g_law_of_place := PySem.W.mg_of X G a47
  b_law_of_place := (fun_mk (st := s_law_of_place) l47 c47 k47).binds (ps := ["m", "one"]) fun _ _ _ _ _ _ us hl => match us, hl with | [_, _], _ => rfl
  F_law_told := fun_mk (st := s_law_told) l48 c48 k48
  g_law_told := PySem.W.mg_of X G a48
  b_law_told := (fun_mk (st := s_law_told) l48 c48 k48).binds (ps := ["m", "one"]) fun _ _ _ _ _ _ us hl => match us, hl with | [_, _], _ => rfl
  F_law_due := fun_mk (st := s_law_due) l49 c49 k49
  g_law_due := PySem.W.mg_of X G a49
  b_law_due := (fun_mk (st := s_law_due) l49 c49 k49).binds (ps := ["m", "one"]) fun _ _ _ _ _ _ us hl => match us, hl with | [_, _], _ => rfl
  F_law_said := fun_mk (st := s_law_said) l50 c50 k50
  g_law_said := PySem.W.mg_of X G a50
  b_law_said := (fun_mk (st := s_law_said) l50 c50 k50).binds (ps := ["scene", "one"]) fun _ _ _ _ _ _ us hl => match us, hl with | [_, _], _ => rfl
  F_law_filled := fun_mk (st := s_law_filled) l51 c51 k51
  g_law_filled := PySem.W.mg_of X G a51
  b_law_filled := (fun_mk (st := s_law_filled) l51 c51 k51).binds (ps := ["bag", "pool", "arrays"]) fun _ _ _ _ _ _ us hl => match us, hl with | [_, _, _], _ => rfl
  F_law_stage := fun_mk (st := s_law_stage) l52 c52 k52
  g_law_stage := PySem.W.mg_of X G a52
  b_law_stage := (fun_mk (st := s_law_stage) l52 c52 k52).binds (ps := ["bag", "pool"]) fun _ _ _ _ _ _ us hl => match us, hl with | [_, _], _ => rfl
  F_law_shown := fun_mk (st := s_law_shown) l53 c53 k53
  g_law_shown := PySem.W.mg_of X G a53
  b_law_shown := (fun_mk (st := s_law_shown) l53 c53 k53).binds (ps := ["bag", "pool"]) fun _ _ _ _ _ _ us hl => match us, hl with | [_, _], _ => rfl
  F_law_place_right := fun_mk (st := s_law_place_right) l54 c54 k54
  g_law_place_right := PySem.W.mg_of X G a54
  b_law_place_right := (fun_mk (st := s_law_place_right) l54 c54 k54).binds (ps := ["bag", "s", "pool"]) fun _ _ _ _ _ _ us hl => match us, hl with | [_, _, _], _ => rfl
  F_law_changed := fun_mk (st := s_law_changed) l55 c55 k55
  g_law_changed := PySem.W.mg_of X G a55
  b_law_changed := (fun_mk (st := s_law_changed) l55 c55 k55).binds (ps := ["bag", "s", "pool"]) fun _ _ _ _ _ _ us hl => match us, hl with | [_, _, _], _ => rfl
  F_law := fun_mk (st := s_law) l56 c56 k56
  g_law := PySem.W.mg_of X G a56
  b_law := (fun_mk (st := s_law) l56 c56 k56).binds (ps := ["script"]) fun _ _ _ _ _ _ us hl => match us, hl with | [_], _ => rfl
  F_Erring___init := fun_mk (st := s_Erring___init) l57 c57 k57
  ie_Erring := a57
  b_Erring___init := (fun_mk (st := s_Erring___init) l57 c57 k57).binds (ps := ["self", "word"]) fun _ _ _ _ _ _ us hl => match us, hl with | [_, _], _ => rfl
  F_Scene___init := funp_mk (st := s_Scene___init) l58 c58 k58
  Mk_Scene := ⟨mk_Scene, a58, i58, kp_Scene⟩
  bd_Scene___init := pos_binds (st := s_Scene___init) l58 lD58 ["self", "own", "dealings", "job"] 3 rfl fun us hl => match us, hl with | [_, _, _], _ => ⟨_, rfl, rfl⟩
  dv_Scene___init := .cons r58_0 (.nil)
  F_Scene_last := fun_mk (st := s_Scene_last) l59 c59 k59
  M_Scene_last := ⟨a59, i59, k59⟩
  b_Scene_last := (fun_mk (st := s_Scene_last) l59 c59 k59).binds (ps := ["self"]) fun _ _ _ _ _ _ us hl => match us, hl with | [_], _ => rfl
  F_Scene_reckon := fun_mk (st := s_Scene_reckon) l60 c60 k60
  M_Scene_reckon := ⟨a60, i60, k60⟩
  b_Scene_reckon := (fun_mk (st := s_Scene_reckon) l60 c60 k60).binds (ps := ["self", "expression"]) fun _ _ _ _ _ _ us hl => match us, hl with | [_, _], _ => rfl
  F_Scene_place := fun_mk (st := s_Scene_place) l61 c61 k61
  M_Scene_place := ⟨a61, i61, k61⟩
  bd_Scene_place := kwd_binds (st := s_Scene_place) l61 ["self", "expression", "empty"] 2 [("empty", u61_0)] rfl (List.forall_mem_cons.mpr ⟨q61_0, fun _ h => nomatch h⟩) fun us hl => match us, hl with | [_, _], _ => ⟨_, _, _, _, _, _, rfl, rfl, rfl⟩
  dv_Scene_place := .cons r61_0 (.nil)
  F_Scene_reckoned := fun_mk (st := s_Scene_reckoned) l62 c62 k62
  M_Scene_reckoned := ⟨a62, i62, k62⟩
  b_Scene_reckoned := (fun_mk (st := s_Scene_reckoned) l62 c62 k62).binds (ps := ["self", "expression"]) fun _ _ _ _ _ _ us hl => match us, hl with | [_, _], _ => rfl
  F_Scene_worth_at := fun_mk (st := s_Scene_worth_at) l63 c63 k63
  M_Scene_worth_at := ⟨a63, i63, k63⟩
  b_Scene_worth_at := (fun_mk (st := s_Scene_worth_at) l63 c63 k63).binds (ps := ["self", "spot"]) fun _ _ _ _ _ _ us hl => match us, hl with | [_, _], _ => rfl
  F_Scene_next_key := fun_mk (st := s_Scene_next_key) l64 c64 k64
  M_Scene_next_key := ⟨a64, i64, k64⟩
  b_Scene_next_key := (fun_mk (st := s_Scene_next_key) l64 c64 k64).binds (ps := ["self", "expression", "back"]) fun _ _ _ _ _ _ us hl => match us, hl with | [_, _, _], _ => rfl
  F_Scene_place_of := fun_mk (st := s_Scene_place_of) l65 c65 k65
  M_Scene_place_of := ⟨a65, i65, k65⟩
  b_Scene_place_of := (fun_mk (st := s_Scene_place_of) l65 c65 k65).binds (ps := ["self", "expression", "empty"]) fun _ _ _ _ _ _ us hl => match us, hl with | [_, _, _], _ => rfl
  F_Arrays___init := fun_mk (st := s_Arrays___init) l66 c66 k66
  Mk_Arrays := ⟨mk_Arrays, a66, i66, kp_Arrays⟩
  b_Arrays___init := (fun_mk (st := s_Arrays___init) l66 c66 k66).binds (ps := ["self"]) fun _ _ _ _ _ _ us hl => match us, hl with | [_], _ => rfl
  F_Arrays_put := fun_mk (st := s_Arrays_put) l67 c67 k67
  M_Arrays_put := ⟨a67, i67, k67⟩
  b_Arrays_put := (fun_mk (st := s_Arrays_put) l67 c67 k67).binds (ps := ["self", "ref", "worth"]) fun _ _ _ _ _ _ us hl => match us, hl with | [_, _, _], _ => rfl
  F_Arrays_read := fun_mk (st := s_Arrays_read) l68 c68 k68
  M_Arrays_read := ⟨a68, i68, k68⟩
  bd_Arrays_read := kwd_binds (st := s_Arrays_read) l68 ["self", "ref", "otherwise"] 2 [("otherwise", u68_0)] rfl (List.forall_mem_cons.mpr ⟨q68_0, fun _ h => nomatch h⟩) fun us hl => match us, hl with | [_, _], _ => ⟨_, _, _, _, _, _, rfl, rfl, rfl⟩
  dv_Arrays_read := .cons r68_0 (.nil)
  F_Arrays_beneath := fun_mk (st := s_Arrays_beneath) l69 c69 k69
  M_Arrays_beneath := ⟨a69, i69, k69⟩
  b_Arrays_beneath := (fun_mk (st := s_Arrays_beneath) l69 c69 k69).binds (ps := ["self", "ref"]) fun _ _ _ _ _ _ us hl => match us, hl with | [_, _], _ => rfl
  F_Arrays_data := fun_mk (st := s_Arrays_data) l70 c70 k70
  M_Arrays_data := ⟨a70, i70, k70⟩
  b_Arrays_data := (fun_mk (st := s_Arrays_data) l70 c70 k70).binds (ps := ["self", "ref"]) fun _ _ _ _ _ _ us hl => match us, hl with | [_, _], _ => rfl
  F_Arrays_kill := fun_mk (st := s_Arrays_kill) l71 c71 k71
  M_Arrays_kill := ⟨a71, i71, k71⟩
  b_Arrays_kill := (fun_mk (st := s_Arrays_kill) l71 c71 k71).binds (ps := ["self", "ref"]) fun _ _ _ _ _ _ us hl => match us, hl with | [_, _], _ => rfl
  F_Arrays_names := fun_mk (st := s_Arrays_names) l72 c72 k72
  M_Arrays_names := ⟨a72, i72, k72⟩
  b_Arrays_names := (fun_mk (st := s_Arrays_names) l72 c72 k72).binds (ps := ["self"]) fun _ _ _ _ _ _ us hl => match us, hl with | [_], _ => rfl
  F_Arrays_count := fun_mk (st := s_Arrays_count) l73 c73 k73
  M_Arrays_count := ⟨a73, i73, k73⟩
  b_Arrays_count := (fun_mk (st := s_Arrays_count) l73 c73 k73).binds (ps := ["self"]) fun _ _ _ _ _ _ us hl => match us, hl with | [_], _ => rfl
  F_Arrays_order := fun_mk (st := s_Arrays_order) l74 c74 k74
  M_Arrays_order := ⟨a74, i74, k74⟩
  bd_Arrays_order := kwd_binds (st := s_Arrays_order) l74 ["self", "ref", "back"] 2 [("back", u74_0)] rfl (List.forall_mem_cons.mpr ⟨q74_0, fun _ h => nomatch h⟩) fun us hl => match us, hl with | [_, _], _ => ⟨_, _, _, _, _, _, rfl, rfl, rfl⟩
  dv_Arrays_order := .cons r74_0 (.nil)
  F_Arrays_rows := fun_mk (st := s_Arrays_rows) l75 c75 k75
  M_Arrays_rows := ⟨a75, i75, k75⟩
  b_Arrays_rows := (fun_mk (st := s_Arrays_rows) l75 c75 k75).binds (ps := ["self", "ref"]) fun _ _ _ _ _ _ us hl => match us, hl with | [_, _], _ => rfl
  F_Dealings___init := fun_mk (st := s_Dealings___init) l76 c76 k76
  Mk_Dealings := ⟨mk_Dealings, a76, i76, kp_Dealings⟩
  b_Dealings___init := (fun_mk (st := s_Dealings___init) l76 c76 k76).binds (ps := ["self", "arrays"]) fun _ _ _ _ _ _ us hl => match us, hl with | [_, _], _ => rfl
  F_Dealings_level := fun_mk (st := s_Dealings_level) l77 c77 k77
  M_Dealings_level := ⟨a77, i77, k77⟩
  b_Dealings_level := (fun_mk (st := s_Dealings_level) l77 c77 k77).binds (ps := ["self", "job"]) fun _ _ _ _ _ _ us hl => match us, hl with | [_, _], _ => rfl
  F_Dealings_touched := fun_mk (st := s_Dealings_touched) l78 c78 k78
  M_Dealings_touched := ⟨a78, i78, k78⟩
  b_Dealings_touched := (fun_mk (st := s_Dealings_touched) l78 c78 k78).binds (ps := ["self", "job"]) fun _ _ _ _ _ _ us hl => match us, hl with | [_, _], _ => rfl
  F_Dealings_need_free := fun_mk (st := s_Dealings_need_free) l79 c79 k79
  M_Dealings_need_free := ⟨a79, i79, k79⟩
  b_Dealings_need_free := (fun_mk (st := s_Dealings_need_free) l79 c79 k79).binds (ps := ["self", "job", "ref"]) fun _ _ _ _ _ _ us hl => match us, hl with | [_, _, _], _ => rfl
  F_Dealings_note := fun_mk (st := s_Dealings_note) l80 c80 k80
  M_Dealings_note := ⟨a80, i80, k80⟩
  b_Dealings_note := (fun_mk (st := s_Dealings_note) l80 c80 k80).binds (ps := ["self", "job", "ref", "rows"]) fun _ _ _ _ _ _ us hl => match us, hl with | [_, _, _, _], _ => rfl
  F_Dealings_put := fun_mk (st := s_Dealings_put) l81 c81 k81
  M_Dealings_put := ⟨a81, i81, k81⟩
  b_Dealings_put := (fun_mk (st := s_Dealings_put) l81 c81 k81).binds (ps := ["self", "job", "ref", "worth"]) fun _ _ _ _ _ _ us hl => match us, hl with | [_, _, _, _], _ => rfl
  F_Dealings_kill := fun_mk (st := s_Dealings_kill) l82 c82 k82
  M_Dealings_kill := ⟨a82, i82, k82⟩
  b_Dealings_kill := (fun_mk (st := s_Dealings_kill) l82 c82 k82).binds (ps := ["self", "job", "ref"]) fun _ _ _ _ _ _ us hl => match us, hl with | [_, _, _], _ => rfl
  F_Dealings_read := fun_mk (st := s_Dealings_read) l83 c83 k83
  M_Dealings_read := ⟨a83, i83, k83⟩
  bd_Dealings_read := kwd_binds (st := s_Dealings_read) l83 ["self", "job", "ref", "otherwise"] 3 [("otherwise", u83_0)] rfl (List.forall_mem_cons.mpr ⟨q83_0, fun _ h => nomatch h⟩) fun us hl => match us, hl with | [_, _, _], _ => ⟨_, _, _, _, _, _, rfl, rfl, rfl⟩
  dv_Dealings_read := .cons r83_0 (.nil)
  F_Dealings_data := fun_mk (st := s_Dealings_data) l84 c84 k84
  M_Dealings_data := ⟨a84, i84, k84⟩
  b_Dealings_data := (fun_mk (st := s_Dealings_data) l84 c84 k84).binds (ps := ["self", "job", "ref"]) fun _ _ _ _ _ _ us hl => match us, hl with | [_, _, _], _ => rfl
  F_Dealings_order := fun_mk (st := s_Dealings_order) l85 c85 k85
  M_Dealings_order := ⟨a85, i85, k85⟩
  bd_Dealings_order := kwd_binds (st := s_Dealings_order) l85 ["self", "job", "ref", "back"] 3 [("back", u85_0)] rfl (List.forall_mem_cons.mpr ⟨q85_0, fun _ h => nomatch h⟩) fun us hl => match us, hl with | [_, _, _], _ => ⟨_, _, _, _, _, _, rfl, rfl, rfl⟩
  dv_Dealings_order := .cons r85_0 (.nil)
  cl_Scene := ⟨pg_Scene, hd_Scene, po_Scene, sa_Scene⟩
  g_Scene := PySem.W.mg_of X G aC_Scene
  na_Scene_own := na_Scene_own
  na_Scene_dealings := na_Scene_dealings
  na_Scene_job := na_Scene_job
  na_Scene_latest := na_Scene_latest
  cl_Arrays := ⟨pg_Arrays, hd_Arrays, po_Arrays, sa_Arrays⟩
  g_Arrays := PySem.W.mg_of X G aC_Arrays
  na_Arrays_nodes := na_Arrays_nodes
  cl_Dealings := ⟨pg_Dealings, hd_Dealings, po_Dealings, sa_Dealings⟩
  g_Dealings := PySem.W.mg_of X G aC_Dealings
  na_Dealings_shelf := na_Dealings_shelf
  na_Dealings_begun := na_Dealings_begun
  na_Dealings_touches := na_Dealings_touches
  kb_Arrays_order__2_back := kbn_of (fun_mk (st := s_Arrays_order) l74 c74 k74) ["self", "ref", "back"] ["back"] 2 [(false, 0), (false, 1), (true, 0)] fun _ _ _ _ _ _ us ws h1 h2 => match us, ws, h1, h2 with | [_, _], [_], _, _ => rfl
  kb_Arrays_read__2_otherwise := kbn_of (fun_mk (st := s_Arrays_read) l68 c68 k68) ["self", "ref", "otherwise"] ["otherwise"] 2 [(false, 0), (false, 1), (true, 0)] fun _ _ _ _ _ _ us ws h1 h2 => match us, ws, h1, h2 with | [_, _], [_], _, _ => rfl
  kb_Dealings_order__3_back := kbn_of (fun_mk (st := s_Dealings_order) l85 c85 k85) ["self", "job", "ref", "back"] ["back"] 3 [(false, 0), (false, 1), (false, 2), (true, 0)] fun _ _ _ _ _ _ us ws h1 h2 => match us, ws, h1, h2 with | [_, _, _], [_], _, _ => rfl
  kb_Dealings_read__3_otherwise := kbn_of (fun_mk (st := s_Dealings_read) l83 c83 k83) ["self", "job", "ref", "otherwise"] ["otherwise"] 3 [(false, 0), (false, 1), (false, 2), (true, 0)] fun _ _ _ _ _ _ us ws h1 h2 => match us, ws, h1, h2 with | [_, _, _], [_], _, _ => rfl
  kb_Scene_place__2_empty := kbn_of (fun_mk (st := s_Scene_place) l61 c61 k61) ["self", "expression", "empty"] ["empty"] 2 [(false, 0), (false, 1), (true, 0)] fun _ _ _ _ _ _ us ws h1 h2 => match us, ws, h1, h2 with | [_, _], [_], _, _ => rfl
  g_Erring := PySem.W.mg_of X G aX_Erring
  ox_Erring := ⟨⟨_, _, _, _, _, _, _, _, _, _, _, _, _, _, _, xL_Erring, rv_Erring⟩, sa_Erring, eC_Erring, tC_Erring, kC_Erring⟩
  xf_Erring := ⟨ga_Erring, gg_Erring, eC_Erring, hC_Erring⟩
  it_Erring := tI_Erring
  te_Erring := exm_own eC_Erring iC_Erring tC_Erring sC_Erring
  na_Erring_word := nx_Erring_word
  c_BY_TEXTS := PySem.W.mg_of X G gd_BY_TEXTS
  n_abs := PySem.W.mg_none_of X G z_abs
  n_all := PySem.W.mg_none_of X G z_all
  n_bool := PySem.W.mg_none_of X G z_bool
  n_enumerate := PySem.W.mg_none_of X G z_enumerate
  n_int := PySem.W.mg_none_of X G z_int
  n_isinstance := PySem.W.mg_none_of X G z_isinstance
  n_len := PySem.W.mg_none_of X G z_len
  n_list := PySem.W.mg_none_of X G z_list
  n_max := PySem.W.mg_none_of X G z_max
  n_min := PySem.W.mg_none_of X G z_min
  n_range := PySem.W.mg_none_of X G z_range
  n_sorted := PySem.W.mg_none_of X G z_sorted
  n_str := PySem.W.mg_none_of X G z_str
  n_tuple := PySem.W.mg_none_of X G z_tuple
  c_FIGURES := PySem.W.mg_of X G g_FIGURES
  c_LETTERS := PySem.W.mg_of X G g_LETTERS
  c_MOST_KEYS := PySem.W.mg_of X G g_MOST_KEYS
  c_MOST_LETTERS := PySem.W.mg_of X G g_MOST_LETTERS
  c_MOST_LONG := PySem.W.mg_of X G g_MOST_LONG
  c_MOST_SIGNS := PySem.W.mg_of X G g_MOST_SIGNS
  c_SIGNS := PySem.W.mg_of X G g_SIGNS
  c_PLACES := PySem.W.mg_of X G gt_PLACES
  q_PLACES := fun H => .inr ⟨_, _, _, lt_PLACES, rfl, rfl, Evl.sz_of (by show 3 ≤ 100000; decide), .cons rt_PLACES_0 (.cons rt_PLACES_1 (.cons rt_PLACES_2 (.nil)))⟩
section
variable {P : Program} {w : World} {K : PySem.W.Frag} {mg : Str → Option Value} {base : Heap} {A : Ad}
theorem ok_law_cell_at (T : Txt K mg A) : FnOk P w K mg base CX0 1 A.a_law_cell_at A.d_law_cell_at ["script", "k"] (spCell K) := by
  refine T.F_law_cell_at.ok sc_law_cell_at (fun vs H Q E h => ?_) (fun cdv A outer s H vs Q E hr h => ?_)
  · obtain ⟨a, ns, k, rfl, _⟩ := h
    rfl
  · obtain ⟨a, ns, k, rfl, hS, hk, q⟩ := h
    refine ⟨_, (pss_cons (ps_if (pt_cmpR op_lt (pv 1) (pe_callB (k_len K) (by rfl) T.n_len PySem.boot_len (pa_cons (pv 0) pa_nil)) (nomark _))
      (pss_one (ps_ret (pe_ix (k_ix_list K) (pv 0) (pv 1) (fun _ _ => rfl))))
      pss_nil)
      (pss_one (ps_ret pe_int))), ?_⟩
    refine ⟨_, rfl, .ref a, rfl, a, _, rfl, .inl hS, k, _, rfl, rfl, _, rfl, ite2 (fun e => ?_) (fun e => ?_)⟩
    · obtain ⟨v, _, hv⟩ := at_map (xs := ns) V.int hk (by
        have := of_decide_eq_true e
        rw [List.length_map] at this
        exact this)
      exact ⟨.ref a, rfl, .int k, rfl, a, _, k, .int v, rfl, rfl, hS, hv, q v⟩
    · exact q 0
theorem pow_okB {i : Int} (h0 : 0 ≤ i) (h : i < 2 ^ 140) : CPowW i 5 := ⟨by decide, by decide, by
  have h1 : i.natAbs < 2 ^ 140 := by omega
  exact Nat.lt_of_lt_of_le h1 (Nat.pow_le_pow_right (by decide) (by decide))⟩
theorem pow_ten {j : Int} (h0 : 0 ≤ j) (h : j ≤ 1000) : CPowW 10 j := ⟨h0, h, Nat.lt_of_lt_of_le (by decide : (10 : Nat) < 2 ^ 4) (Nat.pow_le_pow_right (by decide) (by decide))⟩
theorem ok_law_draw (T : Txt K mg A) : FnOk P w K mg base CX0 1 A.a_law_draw A.d_law_draw ["bag", "many"] spDraw := by
  refine T.F_law_draw.ok sc_law_draw (fun vs H Q E h => ?_) (fun cdv A outer s H vs Q E hr h => ?_)
  · obtain ⟨b, m, N, rfl, _⟩ := h
    rfl
  · obtain ⟨b, m, N, rfl, m0, m1, hN, ⟨x, y, z, hb, y0, y1, z0, z1⟩, q⟩ := h
    have hl : SqL K H b [.int x, .int y, .int z] := .inl (.inl hb)
    refine ⟨_, (pss_cons (ps_if (pt_cmpR op_gt (pe_ix (k_ix_list K) (pv 0) pe_int (fun _ _ => rfl)) pe_int (nomark _))
      (pss_cons (ps_set (i := 2) sc_law_draw.nd rfl (.inl rfl) (pe_op op_mod (pe_ix (k_ix_list K) (pv 0) pe_int (fun _ _ => rfl)) (pv 1)))
      (pss_cons (ps_asg (pe_op op_fdivW (pe_ix (k_ix_list K) (pv 0) pe_int (fun _ _ => rfl)) (pv 1)) (pg_sub (pv 0) pe_int set_list))
      (pss_one (ps_ret (pv 2)))))
      pss_nil)
      (pss_cons (ps_asg (pe_op op_add (pe_ix (k_ix_list K) (pv 0) pe_int (fun _ _ => rfl)) pe_int) (pg_sub (pv 0) pe_int set_list))
      (pss_cons (ps_set (i := 2) sc_law_draw.nd rfl (.inl rfl) (pe_op op_mod (pe_op op_powW (pe_op op_add (pe_ix (k_ix_list K) (pv 0) pe_int (fun _ _ => rfl)) (pe_op op_mulW (pe_ix (k_ix_list K) (pv 0) pe_int (fun _ _ => rfl)) pe_int)) pe_int) (pe_op op_add (pe_op op_powW pe_int pe_int) pe_int)))
      (pss_cons (ps_set (i := 2) sc_law_draw.nd rfl (.inl rfl) (pe_op op_mod (pe_op op_powW (pe_op op_add (pv 2) (pe_op op_mulW (pe_ix (k_ix_list K) (pv 0) pe_int (fun _ _ => rfl)) pe_int)) pe_int) (pe_op op_add (pe_op op_powW pe_int pe_int) pe_int)))
      (pss_one (ps_ret (pe_op op_mod (pe_op op_fdivW (pv 2) pe_int) (pv 1)))))))), ?_⟩
    refine ⟨.ref b, rfl, b, _, 0, .int x, rfl, rfl, hl, atI_nat (j := 0) rfl, x, 1, rfl, rfl, _, rfl, ite2 (fun e => ?_) (fun e => ?_)⟩
    · refine ⟨.ref b, rfl, b, _, 0, .int x, rfl, rfl, hl, atI_nat (j := 0) rfl, .int m, rfl, x, m, rfl, rfl, m0, ?_⟩
      refine ⟨.ref b, rfl, b, _, 0, .int x, rfl, rfl, hl, atI_nat (j := 0) rfl, .int m, rfl, x, m, rfl, rfl, div_ok m0 m1, ?_⟩
      refine ⟨.ref b, rfl, b, _, _, 0, rfl, rfl, hb, rfl, ?_⟩
      refine ⟨_, rfl, q _ _ .upd ⟨x / m, y, z, upd_same, y0, y1, z0, by omega⟩ (Int.emod_nonneg _ (by omega)) (Int.emod_lt_of_pos _ m0)⟩
    · refine ⟨.ref b, rfl, b, _, 2, .int z, rfl, rfl, hl, atI_nat (j := 2) rfl, z, 1, rfl, rfl, ?_⟩
      refine ⟨.ref b, rfl, b, _, _, 2, rfl, rfl, hb, rfl, ?_⟩
      generalize hH1 : upd H b _ = H1
      have hb1 : H1 b = some (.lst [.int x, .int y, .int (z + 1)]) := by rw [← hH1]; exact upd_same
      have hl1 : SqL K H1 b [.int x, .int y, .int (z + 1)] := .inl (.inl hb1)
      have t39 : (10 : Int) ^ (39 : Int).toNat + 3 = 1000000000000000000000000000000000000003 := by decide
      have t36 : (10 : Int) ^ (36 : Int).toNat + 67 = 1000000000000000000000000000000000067 := by decide
      refine ⟨.ref b, rfl, b, _, 1, .int y, rfl, rfl, hl1, atI_nat (j := 1) rfl, .ref b, rfl, b, _, 2, .int (z + 1), rfl, rfl, hl1, atI_nat (j := 2) rfl, z + 1, 982451653, rfl, rfl, mul_ok (by omega) (by decide), y, (z + 1) * 982451653, rfl, rfl, _, 5, rfl, rfl, pow_okB (by omega) (by omega), 10, 39, rfl, rfl, pow_ten (by decide) (by decide), _, 3, rfl, rfl, _, _, rfl, rfl, (by show (0 : Int) < (10 : Int) ^ (39 : Int).toNat + 3; rw [t39]; decide), ?_⟩
      dsimp only
      rw [t39]
      generalize hm : (y + (z + 1) * 982451653) ^ (5 : Int).toNat % 1000000000000000000000000000000000000003 = m1
      have p0 : 0 ≤ m1 := by rw [← hm]; exact Int.emod_nonneg _ (by decide)
      have p1 : m1 < 1000000000000000000000000000000000000003 := by rw [← hm]; exact Int.emod_lt_of_pos _ (by decide)
      refine ⟨_, rfl, .ref b, rfl, b, _, 2, .int (z + 1), rfl, rfl, hl1, atI_nat (j := 2) rfl, z + 1, 15485863, rfl, rfl, mul_ok (by omega) (by decide), m1, (z + 1) * 15485863, rfl, rfl, _, 3, rfl, rfl, pow_ok (by omega) (by omega), 10, 36, rfl, rfl, pow_ten (by decide) (by decide), _, 67, rfl, rfl, _, _, rfl, rfl, (by show (0 : Int) < (10 : Int) ^ (36 : Int).toNat + 67; rw [t36]; decide), ?_⟩
      refine ⟨_, rfl, _, 1024, rfl, rfl, div_ok (by decide) (by decide), .int m, rfl, _, m, rfl, rfl, m0, ?_⟩
      exact q _ _ (by rw [← hH1]; exact .upd) ⟨x, y, z + 1, hb1, y0, y1, by omega, by omega⟩ (Int.emod_nonneg _ (by omega)) (Int.emod_lt_of_pos _ m0)
theorem ok_law_bag (T : Txt K mg A) : FnOk P w K mg base CX0 1 A.a_law_bag A.d_law_bag ["cell"] spBag1 := by
  refine T.F_law_bag.ok sc_law_bag (fun vs H Q E h => ?_) (fun cdv A outer s H vs Q E hr h => ?_)
  · obtain ⟨c, rfl, _⟩ := h
    rfl
  · obtain ⟨c, rfl, q⟩ := h
    refine ⟨_, (pss_one (ps_ret (pe_lst (pa_cons (pe_callB (call_max2 rfl) (by rfl) T.n_max (by decide +kernel) (pa_cons pe_int (pa_cons (pe_op op_sub (pv 0) (pe_op op_powW pe_int pe_int)) pa_nil))) (pa_cons (pe_op op_mod (pv 0) (pe_op op_add (pe_op op_powW pe_int pe_int) pe_int)) (pa_cons pe_int pa_nil)))))), ?_⟩
    have t41 : (10 : Int) ^ (40 : Int).toNat + 121 = 10000000000000000000000000000000000000121 := by decide
    refine ⟨.int c, rfl, 10, 18, rfl, rfl, pow_ten (by decide) (by decide), c, _, rfl, rfl, 1, _, rfl, .int c, rfl, 10, 40, rfl, rfl, pow_ten (by decide) (by decide), _, 121, rfl, rfl, c, _, rfl, rfl, (by show (0 : Int) < (10 : Int) ^ (40 : Int).toNat + 121; rw [t41]; decide), (by show 3 ≤ sizeLine; decide), fun p hp => ?_⟩
    have e0 : 0 ≤ c % ((10 : Int) ^ (40 : Int).toNat + 121) := Int.emod_nonneg _ (by decide)
    have e1 : c % ((10 : Int) ^ (40 : Int).toNat + 121) < 10000000000000000000000000000000000000121 := by
      rw [← t41]
      exact Int.emod_lt_of_pos _ (by decide)
    refine q _ _ hp (same_new hp) ⟨_, _, 0, upd_same, ?_, ?_, by omega, by omega⟩
    · show 0 ≤ c % ((10 : Int) ^ (40 : Int).toNat + 121)
      omega
    · show c % ((10 : Int) ^ (40 : Int).toNat + 121) < 2 ^ 139
      generalize c % ((10 : Int) ^ (40 : Int).toNat + 121) = r at e0 e1
      omega
theorem ok_is_worth (T : Txt K mg A) : FnOk P w K mg base CX0 1 A.a_is_worth A.d_is_worth ["thing"] (spThing isWorthD) := by
  refine T.F_is_worth.ok sc_is_worth (fun vs H Q E h => ?_) (fun cdv A outer s H vs Q E hr h => ?_)
  · obtain ⟨v, d, rfl, _⟩ := h
    rfl
  · obtain ⟨v, d, rfl, r, hb, q⟩ := h
    refine ⟨_, (pss_one (ps_ret (pe_and (pe_callB (k_isi K) (by rfl) T.n_isinstance (by decide +kernel) (pa_cons (pv 0) (pa_cons (pe_bltn (v := .ty "str") (by rfl) T.n_str (by decide +kernel) rfl) pa_nil))) (pe_one (pe_callB (k_all K) (by rfl) T.n_all (by decide +kernel) (pa_cons (pe_lc (own := [("sign", 1)]) (g := gName 1) (tt := tYes) rfl sc_is_worth.nd (pi_str (pv 0)) (blkOk_by (own := [("sign", 1)]) (N := N_is_worth) (sc := defScope s_is_worth) (by decide +kernel)) (fun _ _ _ _ _ => (pg_name (i := 1) sc_is_worth.nd rfl (.inl rfl))) (fun _ _ _ _ _ => pts_nil) (fun _ _ _ _ _ => (pe_cmpR op_inS (pv 1) (pe_glob (v := .str (Str.ofString " !\"#$&'()*+,-./0123456789:;<=>?@ABCDEFGHIJKLMNOPQRSTUVWXYZ[\\]^_`abcdefghijklmnopqrstuvwxyz{|}~")) rfl T.c_SIGNS ⟨_, rfl⟩) (by rfl)))) pa_nil)))))), ?_⟩
    refine ⟨_, rfl, v, .ty "str", _, _, _, rfl, .ty "str", r.ty, kit_inst (d := d) (T := "str") (by decide), ⟨_, rfl, ite2 (fun e => ?_) (fun e => ?_)⟩⟩
    · cases r with
      | str x =>
        have hx : x.length ≤ 100000 := by cases hb; assumption
        refine ⟨_, rfl, x, rfl, fun D hD => ?_⟩
        refine lc_pure_str (fun _ => true) (fun c => .bl (decide (Wc c))) hx hD (fun c H2 _ s2 R q2 => q2 _ (.refl _)) (fun c H2 _ _ s2 R q2 => ?_) (fun H2 s2 e2 => ?_)
        · refine ⟨_, rfl, c, _, rfl, rfl, ?_⟩
          rw [show (Str.ofString " !\"#$&'()*+,-./0123456789:;<=>?@ABCDEFGHIJKLMNOPQRSTUVWXYZ[\\]^_`abcdefghijklmnopqrstuvwxyz{|}~") = lawSigns from rfl, lawSigns_dec]
          exact q2 _ (.refl _)
        · rw [all_bools] at e2
          refine ⟨D, _, rfl, .inl (.inl e2), ?_⟩
          rw [all_dec]
          exact q _ s2
      | non => cases e
      | bl b => cases e
      | int i => cases e
      | lst h g => cases e
      | tup h g => cases e
      | dct h => cases e
    · have ef : isWorthD d = false := by
        cases r <;> first | rfl | exact absurd rfl e
      rw [ef] at q
      exact q _ (.refl H)
theorem ok_is_name (T : Txt K mg A) : FnOk P w K mg base CX0 1 A.a_is_name A.d_is_name ["thing"] (spThing isNameD) := by
  refine T.F_is_name.ok sc_is_name (fun vs H Q E h => ?_) (fun cdv A outer s H vs Q E hr h => ?_)
  · obtain ⟨v, d, rfl, _⟩ := h
    rfl
  · obtain ⟨v, d, rfl, r, hb, q⟩ := h
    refine ⟨_, (pss_cons (ps_if (PW.pt (pw_or (pt_not (pt_val (pe_callB (k_isi K) (by rfl) T.n_isinstance (by decide +kernel) (pa_cons (pv 0) (pa_cons (pe_bltn (v := .ty "str") (by rfl) T.n_str (by decide +kernel) rfl) pa_nil))))) (pw_or1 (pt_not (pt_chain op_le op_le pe_int (pe_callB call_len_str (by rfl) T.n_len PySem.boot_len (pa_cons (pv 0) pa_nil)) (pe_glob (v := .int 8) rfl T.c_MOST_LETTERS ⟨_, rfl⟩))))))
      (pss_one (ps_ret pe_bl))
      pss_nil)
      (pss_one (ps_ret (pe_callB (k_all K) (by rfl) T.n_all (by decide +kernel) (pa_cons (pe_lc (own := [("sign", 1)]) (g := gName 1) (tt := tYes) rfl sc_is_name.nd (pi_str (pv 0)) (blkOk_by (own := [("sign", 1)]) (N := N_is_name) (sc := defScope s_is_name) (by decide +kernel)) (fun _ _ _ _ _ => (pg_name (i := 1) sc_is_name.nd rfl (.inl rfl))) (fun _ _ _ _ _ => pts_nil) (fun _ _ _ _ _ => (pe_cmpR op_inS (pv 1) (pe_glob (v := .str (Str.ofString "abcdefghijklmnopqrstuvwxyz")) rfl T.c_LETTERS ⟨_, rfl⟩) (by rfl)))) pa_nil))))), ?_⟩
    refine ⟨_, rfl, v, .ty "str", _, _, _, rfl, .ty "str", r.ty, kit_inst (d := d) (T := "str") (by decide), ⟨_, rfl, ite2 (fun e => ?_) (fun e => ?_)⟩⟩
    · have ef : isNameD d = false := by
        cases r <;> first | rfl | cases e
      refine iteT ?_
      rw [ef] at q
      exact q _ (.refl H)
    · cases r with
      | str x =>
        have hx : x.length ≤ 100000 := by cases hb; assumption
        refine ⟨_, rfl, x, rfl, Evl.sz_of hx, _, _, rfl, rfl, _, rfl, ?_⟩
        have fin : ∀ b : Bool, b = (decide (1 ≤ x.length) && decide (x.length ≤ 8)) → (if (!b) = true then Q (.bl false) H else tRet (tCB (rAll K) (tCons (tLc (iStr (tVar 0)) (gName 1) tYes (tOp rInS (tVar 1) (tC (.str "abcdefghijklmnopqrstuvwxyz"))) [1]) tNil)) { nx := fun _ H' => Q .non H', rt := Q } [some (.str x), none] H) := by
          intro b hbb
          cases hb2 : b with
          | false =>
            refine iteT ?_
            have ef : isNameD (.str x) = false := by
              show ((decide (1 ≤ x.length) && decide (x.length ≤ 8)) && _) = false
              rw [← hbb, hb2]
              rfl
            rw [ef] at q
            exact q _ (.refl H)
          | true =>
            refine iteF ⟨_, rfl, x, rfl, fun D hD => ?_⟩
            refine lc_pure_str (fun _ => true) (fun c => .bl (decide (97 ≤ c ∧ c ≤ 122))) hx hD (fun c H2 _ s2 R q2 => q2 _ (.refl _)) (fun c H2 _ _ s2 R q2 => ?_) (fun H2 s2 e2 => ?_)
            · refine ⟨_, rfl, c, _, rfl, rfl, ?_⟩
              rw [letters_mem]
              exact q2 _ (.refl _)
            · rw [all_bools] at e2
              refine ⟨D, _, rfl, .inl (.inl e2), ?_⟩
              have ef : isNameD (.str x) = ((tl x).map fun c => decide (97 ≤ c ∧ c ≤ 122)).all id := by
                show ((decide (1 ≤ x.length) && decide (x.length ≤ 8)) && _) = _
                rw [← hbb, hb2, Bool.true_and, List.all_map]
                rfl
              rw [ef] at q
              exact q _ s2
        by_cases h1 : 1 ≤ x.length
        · rw [decide_eq_true (show (1 : Int) ≤ (x.length : Int) by omega)]
          refine iteT ⟨_, _, rfl, rfl, _, rfl, ?_⟩
          have h2 : decide ((x.length : Int) ≤ 8) = decide (x.length ≤ 8) := decide_eq_decide.mpr (by omega)
          rw [h2]
          have := fin (decide (x.length ≤ 8)) (by rw [decide_eq_true h1, Bool.true_and])
          cases h3 : decide (x.length ≤ 8) with
          | false => rw [h3] at this; exact iteT (iteT_of this rfl)
          | true => rw [h3] at this; exact iteF (iteF_of this rfl)
        · rw [decide_eq_false (show ¬ (1 : Int) ≤ (x.length : Int) by omega)]
          refine iteF ⟨_, rfl, iteT ?_⟩
          have := fin false (by rw [decide_eq_false h1, Bool.false_and])
          exact iteT_of this rfl
      | non => exact absurd rfl e
      | bl b => exact absurd rfl e
      | int i => exact absurd rfl e
      | lst h g => exact absurd rfl e
      | tup h g => exact absurd rfl e
      | dct h => exact absurd rfl e
theorem ok_is_key (T : Txt K mg A) : FnOk P w K mg base CX0 2 A.a_is_key A.d_is_key ["thing"] (spThing isKeyD) := by
  have G_is_worth := ok_is_worth (P := P) (w := w) (base := base) T
  refine T.F_is_key.ok sc_is_key (fun vs H Q E h => ?_) (fun cdv A outer s H vs Q E hr h => ?_)
  · obtain ⟨v, d, rfl, _⟩ := h
    rfl
  · obtain ⟨v, d, rfl, r, hb, q⟩ := h
    refine ⟨_, (pss_one (ps_ret (pe_and (pe_call G_is_worth (hr.mono (by omega)) (by rfl) T.g_is_worth T.F_is_worth.kp T.b_is_worth .nil pass0 (pa_cons (pv 0) pa_nil)) (pe_one (pe_chain op_le op_le pe_int (pe_callB call_len_str (by rfl) T.n_len PySem.boot_len (pa_cons (pv 0) pa_nil)) (pe_glob (v := .int 40) rfl T.c_MOST_SIGNS ⟨_, rfl⟩)))))), ?_⟩
    refine ⟨_, rfl, v, d, rfl, r, hb, fun H1 s1 => ⟨_, rfl, ite2 (fun e => ?_) (fun e => ?_)⟩⟩
    · cases d with
      | str x =>
        cases r
        have hx : x.length ≤ 100000 := by cases hb; assumption
        have e' : decide (WorthS x) = true := e
        refine ⟨_, rfl, x, rfl, Evl.sz_of hx, _, _, rfl, rfl, _, rfl, ?_⟩
        have hq : ∀ b : Bool, b = (decide (1 ≤ x.length) && decide (x.length ≤ 40)) → Q (.bl b) H1 := by
          intro b hb
          have ef : isKeyD (.str x) = b := by
            show (decide (WorthS x) && (decide (1 ≤ x.length) && decide (x.length ≤ 40))) = b
            rw [e', Bool.true_and, hb]
          rw [ef] at q
          exact q _ s1
        by_cases h1 : 1 ≤ x.length
        · rw [decide_eq_true (show (1 : Int) ≤ (x.length : Int) by omega)]
          refine iteT ⟨_, _, rfl, rfl, hq _ ?_⟩
          rw [decide_eq_true h1, Bool.true_and]
          exact decide_eq_decide.mpr (by omega)
        · rw [decide_eq_false (show ¬ (1 : Int) ≤ (x.length : Int) by omega)]
          exact iteF (hq _ (by rw [decide_eq_false h1, Bool.false_and]))
      | none => cases e
      | bool b => cases e
      | int i => cases e
      | list ds => cases e
      | tuple ds => cases e
      | dict ds => cases e
    · have ef : isKeyD d = false := by
        cases d with
        | str x =>
          have e' : decide (WorthS x) = false := Bool.eq_false_iff.mpr e
          show (decide (WorthS x) && _) = false
          rw [e', Bool.false_and]
        | none => rfl
        | bool b => rfl
        | int i => rfl
        | list ds => rfl
        | tuple ds => rfl
        | dict ds => rfl
      rw [ef] at q
      exact q _ s1
theorem ok_is_reference (T : Txt K mg A) : FnOk P w K mg base CX0 3 A.a_is_reference A.d_is_reference ["thing"] (spThing isRefD) := by
  have G_is_name := ok_is_name (P := P) (w := w) (base := base) T
  have G_is_key := ok_is_key (P := P) (w := w) (base := base) T
  refine T.F_is_reference.ok sc_is_reference (fun vs H Q E h => ?_) (fun cdv A outer s H vs Q E hr h => ?_)
  · obtain ⟨v, d, rfl, _⟩ := h
    rfl
  · obtain ⟨v, d, rfl, r, hb, q⟩ := h
    refine ⟨_, (pss_cons (ps_if (PW.pt (pw_or (pt_not (pt_val (pe_callB (k_isi K) (by rfl) T.n_isinstance (by decide +kernel) (pa_cons (pv 0) (pa_cons (pe_bltn (v := .ty "tuple") (by rfl) T.n_tuple (by decide +kernel) rfl) pa_nil))))) (pw_or1 (pt_cmpR op_ne (pe_callB (k_len K) (by rfl) T.n_len PySem.boot_len (pa_cons (pv 0) pa_nil)) pe_int (nomark _)))))
      (pss_one (ps_ret pe_bl))
      pss_nil)
      (pss_cons (ps_asg (pv 0) (pg_tup rfl (pgs_cons (pg_name (i := 1) sc_is_reference.nd rfl (.inl rfl)) (pgs_cons (pg_name (i := 2) sc_is_reference.nd rfl (.inl rfl)) pgs_nil))))
      (pss_cons (ps_if (PW.pt (pw_or (pt_not (pt_val (pe_call G_is_name (hr.mono (by omega)) (by rfl) T.g_is_name T.F_is_name.kp T.b_is_name .nil pass0 (pa_cons (pv 1) pa_nil)))) (pw_or (pt_not (pt_val (pe_callB (k_isi K) (by rfl) T.n_isinstance (by decide +kernel) (pa_cons (pv 2) (pa_cons (pe_bltn (v := .ty "tuple") (by rfl) T.n_tuple (by decide +kernel) rfl) pa_nil))))) (pw_or1 (pt_cmpR op_gt (pe_callB (k_len K) (by rfl) T.n_len PySem.boot_len (pa_cons (pv 2) pa_nil)) (pe_glob (v := .int 6) rfl T.c_MOST_KEYS ⟨_, rfl⟩) (nomark _))))))
      (pss_one (ps_ret pe_bl))
      pss_nil)
      (pss_one (ps_ret (pe_callB (k_all K) (by rfl) T.n_all (by decide +kernel) (pa_cons (pe_lc (own := [("key", 3)]) (g := gName 3) (tt := tYes) rfl sc_is_reference.nd (k_pi_tup K (pv 2)) (blkOk_by (own := [("key", 3)]) (N := N_is_reference) (sc := defScope s_is_reference) (by decide +kernel)) (fun _ _ _ _ _ => (pg_name (i := 3) sc_is_reference.nd rfl (.inl rfl))) (fun _ _ _ _ _ => pts_nil) (fun _ _ _ _ _ => (pe_call G_is_key (hr.mono (by omega)) (by rfl) T.g_is_key T.F_is_key.kp T.b_is_key .nil pass0 (pa_cons (pv 3) pa_nil)))) pa_nil))))))), ?_⟩
    refine ⟨_, rfl, v, .ty "tuple", _, _, _, rfl, .ty "tuple", r.ty, kit_inst (d := d) (T := "tuple") (by decide), _, rfl, ite2 (fun e => ?_) (fun e => ?_)⟩
    · have ef : isRefD d = false := by
        cases r <;> first | rfl | cases e
      refine iteT ?_
      rw [ef] at q
      exact q _ (.refl H)
    cases r with
    | non => exact absurd rfl e
    | bl b => exact absurd rfl e
    | int i => exact absurd rfl e
    | str x => exact absurd rfl e
    | lst h g => exact absurd rfl e
    | dct h => exact absurd rfl e
    | @tup a xs ds h g =>
      refine ⟨_, rfl, a, xs, rfl, .inr (.inl (.inl h)), rfl, _, rfl, ite2 (fun e2 => ?_) (fun e2 => ?_)⟩
      · have hl : ds.length ≠ 2 := by
          rw [← g.len]
          intro z
          rw [z, decide_eq_true (by rfl)] at e2
          cases e2
        have ef : isRefD (.tuple ds) = false := by
          match ds, hl with
          | [], _ => rfl
          | [_], _ => rfl
          | [_, _], hl => exact absurd rfl hl
          | _ :: x :: _ :: _, _ => cases x <;> rfl
        rw [ef] at q
        exact q _ (.refl H)
      · have hl : xs.length = 2 := by
          refine Decidable.byContradiction fun z => e2 ?_
          rw [decide_eq_false]
          · rfl
          · intro y
            have := V.int.inj y
            exact z (by omega)
        obtain ⟨x1, x2, rfl⟩ : ∃ x1 x2, xs = [x1, x2] := by
          match xs, hl with
          | [x1, x2], _ => exact ⟨x1, x2, rfl⟩
        cases g with
        | @cons _ _ d1 _ g1 g =>
        cases g with
        | @cons _ _ d2 _ g2 g =>
        cases g
        refine ⟨_, rfl, a, [x1, x2], rfl, .inl (.inl h), rfl, x1, [x2], rfl, x2, [], rfl, rfl, ?_⟩
        have hb1 : Bnd 100000 d1 := by cases hb with | tup h a => exact a d1 List.mem_cons_self
        have hb2 : Bnd 100000 d2 := by cases hb with | tup h a => exact a d2 (List.mem_cons_of_mem _ List.mem_cons_self)
        refine ⟨_, rfl, x1, d1, rfl, g1, hb1, fun H1 s1 => ⟨_, rfl, ite2 (fun e3 => ?_) (fun e3 => ?_)⟩⟩
        · have ef : isRefD (.tuple [d1, d2]) = false := by
            have e3 : isNameD d1 = false := by
              cases hh : isNameD d1 with
              | false => rfl
              | true => rw [hh] at e3; cases e3
            cases d2 <;> first | rfl | (show (isNameD d1 && _) = false; rw [e3, Bool.false_and])
          refine iteT ?_
          rw [ef] at q
          exact q _ s1
        have e3 : isNameD d1 = true := by
          cases hh : isNameD d1 with
          | true => rfl
          | false => rw [hh] at e3; exact absurd rfl e3
        have r2 := g2.same s1
        refine ⟨_, rfl, x2, .ty "tuple", _, _, _, rfl, .ty "tuple", r2.ty, kit_inst (d := d2) (T := "tuple") (by decide), _, rfl, ite2 (fun e4 => ?_) (fun e4 => ?_)⟩
        · have ef : isRefD (.tuple [d1, d2]) = false := by
            cases r2 <;> first | rfl | cases e4
          refine iteT ?_
          rw [ef] at q
          exact q _ s1
        cases r2 with
        | non => exact absurd rfl e4
        | bl b => exact absurd rfl e4
        | int i => exact absurd rfl e4
        | str x => exact absurd rfl e4
        | lst h g => exact absurd rfl e4
        | dct h => exact absurd rfl e4
        | @tup a2 ks ds2 h2 gk =>
        have hks : ks.length ≤ 100000 := by rw [gk.len]; cases hb2 with | tup h a => exact h
        refine ⟨_, rfl, a2, ks, rfl, .inr (.inl (.inl h2)), _, _, rfl, rfl, _, rfl, ite2 (fun e5 => ?_) (fun e5 => ?_)⟩
        · have ef : isRefD (.tuple [d1, .tuple ds2]) = false := by
            show (isNameD d1 && (decide (ds2.length ≤ 6) && _)) = false
            rw [decide_eq_false (show ¬ ds2.length ≤ 6 by rw [← gk.len]; have := of_decide_eq_true e5; omega), Bool.false_and, Bool.and_false]
          rw [ef] at q
          exact q _ s1
        refine ⟨_, rfl, a2, rfl, ⟨_, .inl (.inl h2)⟩, fun D hD => ?_⟩
        refine lc_pure_tup (fun _ => true) (fun x => .bl (isKeyD (datOf H1 x))) hks hD h2 (fun x H2 _ s2 R q2 => q2 _ (.refl _)) (fun x H2 hx _ s2 R q2 => ?_) (fun H2 s2 e6 => ?_)
        · refine ⟨_, rfl, x, _, rfl, (gk.each x hx).same s2, ?_, fun H3 s3 => q2 _ s3⟩
          cases hb2 with
          | tup h a =>
            refine a _ ?_
            rw [gk.map]
            exact List.mem_map.mpr ⟨x, hx, rfl⟩
        · rw [all_bools] at e6
          refine ⟨D, _, rfl, .inl (.inl e6), ?_⟩
          have ef : isRefD (.tuple [d1, .tuple ds2]) = (ks.map fun x => isKeyD (datOf H1 x)).all id := by
            show (isNameD d1 && (decide (ds2.length ≤ 6) && ds2.all isKeyD)) = _
            rw [e3, decide_eq_true (show ds2.length ≤ 6 by rw [← gk.len]; have := of_decide_eq_false (Bool.eq_false_iff.mpr e5); omega), Bool.true_and, Bool.true_and, gk.map, List.all_map, List.all_map]
            rfl
          rw [ef] at q
          exact q _ (s1.trans s2)
theorem ok_is_stem (T : Txt K mg A) : FnOk P w K mg base CX0 1 A.a_is_stem A.d_is_stem ["one", "other"] (spRel stemB) := by
  refine T.F_is_stem.ok sc_is_stem (fun vs H Q E h => ?_) (fun cdv A outer s H vs Q E hr h => ?_)
  · obtain ⟨v1, v2, n1, k1, n2, k2, rfl, _⟩ := h
    rfl
  · obtain ⟨v1, v2, n1, k1, n2, k2, rfl, ⟨a1, t1, rfl, e1, f1⟩, ⟨a2, t2, rfl, e2, f2⟩, l1, l2, q⟩ := h
    refine ⟨_, (pss_one (ps_ret (pe_and (pe_cmpR op_eq (pe_ix (k_ix_tup K) (pv 0) pe_int (fun _ _ => rfl)) (pe_ix (k_ix_tup K) (pv 1) pe_int (fun _ _ => rfl)) (nomark _)) (pe_one (pe_cmpR (k_eqP K hr.units) (pe_slice (k_sl_tup K) (pe_ix (k_ix_tup K) (pv 1) pe_int (fun _ _ => rfl)) po_none (po_some (pe_callB (k_len K) (by rfl) T.n_len PySem.boot_len (pa_cons (pe_ix (k_ix_tup K) (pv 0) pe_int (fun _ _ => rfl)) pa_nil)))) (pe_ix (k_ix_tup K) (pv 0) pe_int (fun _ _ => rfl)) (nomark _)))))), ?_⟩
    refine ⟨_, rfl, a1, _, 0, .str n1, rfl, rfl, .inl (.inl e1), atI_nat (j := 0) rfl, _, rfl, a2, _, 0, .str n2, rfl, rfl, .inl (.inl e2), atI_nat (j := 0) rfl, rfl, _, rfl, ite2 (fun e => ?_) (fun e => ?_)⟩
    · have en : n1 = n2 := V.str.inj (of_decide_eq_true e)
      refine ⟨_, rfl, a2, _, 1, .ref t2, rfl, rfl, .inl (.inl e2), atI_nat (j := 1) rfl, _, rfl, a1, _, 1, .ref t1, rfl, rfl, .inl (.inl e1), atI_nat (j := 1) rfl, t1, _, rfl, .inr (.inl (.inl f1)), _, rfl, ?_⟩
      refine rd_takeT (.inl (.inl f2)) fun p H1 s1 hp => ?_
      refine ⟨_, rfl, a1, _, 1, .ref t1, rfl, rfl, .inl (.inl (s1 _ _ e1)), atI_nat (j := 1) rfl, ?_⟩
      rw [List.length_map, ← List.map_take] at hp
      refine rd_eqP (dv_strs hp) (dv_strs (.inl (.inl (s1 _ _ f1)))) (by decide) ?_
      have er : stemB n1 k1 n2 k2 = decide (PySem.W.Tup.mk (k2.take k1.length) = PySem.W.Tup.mk k1) := by
        unfold stemB
        rw [decide_eq_true en, Bool.true_and]
        exact decide_eq_decide.mpr ⟨fun z => by rw [z], fun z => PySem.W.Tup.mk.inj z⟩
      rw [← er]
      exact q _ s1
    · have en : n1 ≠ n2 := fun z => e (decide_eq_true (congrArg V.str z))
      have er : stemB n1 k1 n2 k2 = false := by
        unfold stemB
        rw [decide_eq_false en, Bool.false_and]
      rw [← er]
      exact q _ (.refl H)
theorem ok_meet (T : Txt K mg A) : FnOk P w K mg base CX0 2 A.a_meet A.d_meet ["one", "other"] (spRel meetB) := by
  have G_is_stem := ok_is_stem (P := P) (w := w) (base := base) T
  refine T.F_meet.ok sc_meet (fun vs H Q E h => ?_) (fun cdv A outer s H vs Q E hr h => ?_)
  · obtain ⟨v1, v2, n1, k1, n2, k2, rfl, _⟩ := h
    rfl
  · obtain ⟨v1, v2, n1, k1, n2, k2, rfl, r1, r2, l1, l2, q⟩ := h
    refine ⟨_, (pss_one (ps_ret (pe_or (pe_call G_is_stem (hr.mono (by omega)) (by rfl) T.g_is_stem T.F_is_stem.kp T.b_is_stem .nil pass0 (pa_cons (pv 0) (pa_cons (pv 1) pa_nil))) (pe_one (pe_call G_is_stem (hr.mono (by omega)) (by rfl) T.g_is_stem T.F_is_stem.kp T.b_is_stem .nil pass0 (pa_cons (pv 1) (pa_cons (pv 0) pa_nil))))))), ?_⟩
    refine ⟨_, rfl, _, rfl, _, _, n1, k1, n2, k2, rfl, r1, r2, l1, l2, fun H1 s1 => ⟨_, rfl, ite2 (fun e => ?_) (fun e => ?_)⟩⟩
    · have er : meetB n1 k1 n2 k2 = true := by unfold meetB; rw [e]; rfl
      rw [← er]
      exact q _ s1
    · refine ⟨_, rfl, _, rfl, _, _, n2, k2, n1, k1, rfl, r2.same s1, r1.same s1, l2, l1, fun H2 s2 => ?_⟩
      have er : meetB n1 k1 n2 k2 = stemB n2 k2 n1 k1 := by unfold meetB; rw [Bool.eq_false_iff.mpr e]; rfl
      rw [← er]
      exact q _ (s1.trans s2)
theorem ok_need_reference (T : Txt K mg A) : FnOk P w K mg base CX0 4 A.a_need_reference A.d_need_reference ["thing"] (spNeed isRefD) := by
  have G_is_reference := ok_is_reference (P := P) (w := w) (base := base) T
  refine T.F_need_reference.ok sc_need_reference (fun vs H Q E h => ?_) (fun cdv A outer s H vs Q E hr h => ?_)
  · obtain ⟨v, d, rfl, _⟩ := h
    rfl
  · obtain ⟨v, d, rfl, r, hb, hf, q⟩ := h
    refine ⟨_, (pss_one (ps_if (pt_not (pt_val (pe_call G_is_reference (hr.mono (by omega)) (by rfl) T.g_is_reference T.F_is_reference.kp T.b_is_reference .nil pass0 (pa_cons (pv 0) pa_nil))))
      (pss_one ps_never)
      pss_nil)), ?_⟩
    refine ⟨_, rfl, v, d, rfl, r, hb, fun H1 s1 => ⟨_, rfl, ?_⟩⟩
    rw [hf]
    exact iteF (q _ s1)
theorem ok_need_worth (T : Txt K mg A) : FnOk P w K mg base CX0 2 A.a_need_worth A.d_need_worth ["thing"] (spNeed isWorthD) := by
  have G_is_worth := ok_is_worth (P := P) (w := w) (base := base) T
  refine T.F_need_worth.ok sc_need_worth (fun vs H Q E h => ?_) (fun cdv A outer s H vs Q E hr h => ?_)
  · obtain ⟨v, d, rfl, _⟩ := h
    rfl
  · obtain ⟨v, d, rfl, r, hb, hf, q⟩ := h
    refine ⟨_, (pss_one (ps_if (pt_not (pt_val (pe_call G_is_worth (hr.mono (by omega)) (by rfl) T.g_is_worth T.F_is_worth.kp T.b_is_worth .nil pass0 (pa_cons (pv 0) pa_nil))))
      (pss_one ps_never)
      pss_nil)), ?_⟩
    refine ⟨_, rfl, v, d, rfl, r, hb, fun H1 s1 => ⟨_, rfl, ?_⟩⟩
    rw [hf]
    exact iteF (q _ s1)
theorem ok_Arrays_init (T : Txt K mg A) : FnOk P w K mg base CX0 1 A.a_Arrays___init A.d_Arrays___init ["self"] (spArInit w A.c_Arrays) := by
  refine T.F_Arrays___init.ok sc_Arrays___init (fun vs H Q E h => ?_) (fun cdv Ar outer s H vs Q E hr h => ?_)
  · obtain ⟨p, dx, rfl, _⟩ := h
    rfl
  · obtain ⟨p, dx, rfl, hp, q⟩ := h
    refine ⟨_, (pss_one (ps_fld (pv 0) (k_newN w) rfl)), ?_⟩
    intro d hd
    have npd : p ≠ d := ne_of_none hp hd
    refine ⟨_, rfl, p, A.c_Arrays, dx, [], rfl, (by rw [upd_ne npd]; exact hp), T.cl_Arrays, T.na_Arrays_nodes, (by show 0 < 1000; decide), ?_⟩
    refine q d _ hd ⟨⟨dx, upd_same⟩, by rw [upd_ne npd.symm]; exact upd_same, fun e he => nomatch he⟩ fun b o e hb => ?_
    rw [upd_ne hb, upd_ne (ne_of_none e hd)]
    exact e
theorem ok_Arrays_put (T : Txt K mg A) : FnOk P w K mg base CX0 5 A.a_Arrays_put A.d_Arrays_put ["self", "ref", "worth"] (spArPut w A.c_Arrays) := by
  have G_need_reference := ok_need_reference (P := P) (w := w) (base := base) T
  have G_need_worth := ok_need_worth (P := P) (w := w) (base := base) T
  refine T.F_Arrays_put.ok sc_Arrays_put (fun vs H Q E h => ?_) (fun cdv Ar outer s H vs Q E hr h => ?_)
  · obtain ⟨p, d, b, es, r, x, rfl, _⟩ := h
    rfl
  · obtain ⟨p, d, b, es, r, x, rfl, hA, hR, hS, hx, hxl, hl, q⟩ := h
    refine ⟨_, (pss_cons (ps_expr (pe_call G_need_reference (hr.mono (by omega)) (by rfl) T.g_need_reference T.F_need_reference.kp T.b_need_reference .nil pass0 (pa_cons (pv 1) pa_nil)))
      (pss_cons (ps_expr (pe_call G_need_worth (hr.mono (by omega)) (by rfl) T.g_need_worth T.F_need_worth.kp T.b_need_worth .nil pass0 (pa_cons (pv 2) pa_nil)))
      (pss_one (ps_asg (pv 2) (pg_sub (pe_fld (pv 0) rfl) (pv 1) (k_setN w hr.units)))))), ?_⟩
    refine ⟨_, rfl, .ref b, refD r.1 r.2, rfl, ref_rd hR, ref_bnd hS, ref_is hS, fun H1 s1 => ?_⟩
    refine ⟨_, rfl, .str x, .str x, rfl, .str x, .str (by omega), decide_eq_true hx, fun H2 s2 => ?_⟩
    obtain ⟨⟨dx, e⟩, en, er⟩ := hA.same (s1.trans s2)
    refine ⟨_, rfl, _, rfl, p, A.c_Arrays, dx, _, _, rfl, e, T.cl_Arrays, T.na_Arrays_nodes, rfl, _, rfl, ?_⟩
    exact ⟨d, b, es, r, rfl, rfl, hR.same (s1.trans s2), ⟨en, er⟩, Evl.sz_lt (by omega), q _ (s1.trans s2)⟩
theorem ok_Arrays_read (T : Txt K mg A) : FnOk P w K mg base CX0 5 A.a_Arrays_read A.d_Arrays_read ["self", "ref", "otherwise"] (spArRead w A.c_Arrays) := by
  have G_need_reference := ok_need_reference (P := P) (w := w) (base := base) T
  refine T.F_Arrays_read.ok sc_Arrays_read (fun vs H Q E h => ?_) (fun cdv Ar outer s H vs Q E hr h => ?_)
  · obtain ⟨p, d, b, es, r, o, rfl, _⟩ := h
    rfl
  · obtain ⟨p, d, b, es, r, o, rfl, hA, hR, hS, q⟩ := h
    refine ⟨_, (pss_cons (ps_expr (pe_call G_need_reference (hr.mono (by omega)) (by rfl) T.g_need_reference T.F_need_reference.kp T.b_need_reference .nil pass0 (pa_cons (pv 1) pa_nil)))
      (pss_one (ps_ret (k_mN w PySem.F.slot_dict_get PySem.F.type_dict_get (k_getN w hr.units) (pe_fld (pv 0) rfl) (pa_cons (pv 1) (pa_cons (pv 2) pa_nil)))))), ?_⟩
    refine ⟨_, rfl, .ref b, refD r.1 r.2, rfl, ref_rd hR, ref_bnd hS, ref_is hS, fun H1 s1 => ?_⟩
    obtain ⟨⟨dx, e⟩, hn⟩ := hA.same s1
    refine ⟨_, rfl, p, A.c_Arrays, dx, _, _, rfl, e, T.cl_Arrays, T.na_Arrays_nodes, rfl, ⟨d, es, rfl, hn.rd⟩, _, rfl, _, rfl, ?_⟩
    exact ⟨d, b, es, r, o, rfl, rfl, hR.same s1, hn.rd, q _ s1⟩
theorem ok_Arrays_beneath (T : Txt K mg A) : FnOk P w K mg base CX0 2 A.a_Arrays_beneath A.d_Arrays_beneath ["self", "ref"] (spArBeneath w A.c_Arrays) := by
  have G_is_stem := ok_is_stem (P := P) (w := w) (base := base) T
  refine T.F_Arrays_beneath.ok sc_Arrays_beneath (fun vs H Q E h => ?_) (fun cdv Ar outer s H vs Q E hr h => ?_)
  · obtain ⟨p, d, b, es, r, rfl, _⟩ := h
    rfl
  · obtain ⟨p, d, b, es, r, rfl, hA, hR, hRl, hl, hes, q⟩ := h
    refine ⟨_, (pss_one (ps_ret (pe_lock (pe_lc (own := [("one", 2)]) (g := gName 2)  rfl sc_Arrays_beneath.nd (k_pi_nd w (pe_fld (pv 0) rfl)) (blkOk_by (own := [("one", 2)]) (N := N_Arrays_beneath) (sc := defScope s_Arrays_beneath) (by decide +kernel)) (fun _ _ _ _ _ => (pg_name (i := 2) sc_Arrays_beneath.nd rfl (.inl rfl))) (fun _ _ _ _ _ => pts_one (pt_val (pe_call G_is_stem (hr.mono (by omega)) (by rfl) T.g_is_stem T.F_is_stem.kp T.b_is_stem .nil pass0 (pa_cons (pv 1) (pa_cons (pv 2) pa_nil))))) (fun _ _ _ _ _ => (pv 2)))))), ?_⟩
    obtain ⟨⟨dx, e⟩, en, er⟩ := id hA
    refine ⟨d, ndO w d es, en, True.intro, fun od => ?_⟩
    have eL : upd H d (.frz od (ndO w d es)) d = some (.frz od (ndO w d es)) := upd_same
    refine ⟨_, rfl, p, A.c_Arrays, dx, _, _, rfl, (by rw [upd_ne hA.ne]; exact e), T.cl_Arrays, T.na_Arrays_nodes, rfl, d, od, es, rfl, eL, fun D hD => ?_⟩
    have Dd : D ≠ d := (ne_of_none eL hD).symm
    have hDH : H D = none := by rw [upd_ne Dd] at hD; exact hD
    have hRL : RefAt (upd H d (.frz od (ndO w d es))) (.ref b) r.1 r.2 := hR.frz en
    have hEL : ∀ e ∈ es, RefAt (upd H d (.frz od (ndO w d es))) (.ref e.2.1) e.1.1 e.1.2 := fun e he => (er e he).frz en
    refine lc_nd (fun e => stemB r.1 r.2 e.1.1 e.1.2) (fun e => .ref e.2.1) (by omega) hD eL (fun x H2 hx s2 R q2 => ?_) (fun x H2 hx _ s2 R q2 => ⟨_, rfl, q2 _ (.refl _)⟩) (fun H2 s2 e2 => ?_)
    · refine ⟨_, rfl, _, rfl, _, _, _, _, _, _, rfl, hRL.same s2, (hEL x hx).same s2, hRl, Nat.le_trans (hes x hx).len (by decide), fun H3 s3 => ⟨_, rfl, q2 _ s3⟩⟩
    · exact ⟨s2 _ _ eL, q D _ hDH (lock_same en s2) (by rw [upd_ne Dd]; exact e2)⟩
theorem bit_small (b : Bool) : (if b = true then (1 : Int) else 0).natAbs < 2 ^ 256 := by cases b <;> decide
theorem ok_Arrays_data (T : Txt K mg A) : FnOk P w K mg base CX0 5 A.a_Arrays_data A.d_Arrays_data ["self", "ref"] (spArData w A.c_Arrays) := by
  have G_need_reference := ok_need_reference (P := P) (w := w) (base := base) T
  have G_Arrays_beneath := ok_Arrays_beneath (P := P) (w := w) (base := base) T
  refine T.F_Arrays_data.ok sc_Arrays_data (fun vs H Q E h => ?_) (fun cdv Ar outer s H vs Q E hr h => ?_)
  · obtain ⟨p, d, b, es, r, rfl, _⟩ := h
    rfl
  · obtain ⟨p, d, b, es, r, rfl, hA, hR, hS, hl, hes, q⟩ := h
    refine ⟨_, (pss_cons (ps_expr (pe_call G_need_reference (hr.mono (by omega)) (by rfl) T.g_need_reference T.F_need_reference.kp T.b_need_reference .nil pass0 (pa_cons (pv 1) pa_nil)))
      (pss_cons (ps_set (i := 2) sc_Arrays_data.nd rfl (.inl rfl) (pe_callTy call_int1 (by rfl) T.n_int (by decide +kernel) (pa_cons (pe_cmpR (k_inN w hr.units) (pv 1) (pe_fld (pv 0) rfl) (by rfl)) pa_nil)))
      (pss_one (ps_ret (pe_op op_add (pv 2) (pe_op op_mulW pe_int (pe_callTy call_int1 (by rfl) T.n_int (by decide +kernel) (pa_cons (pe_cmpR op_gt (pe_callB (k_len K) (by rfl) T.n_len PySem.boot_len (pa_cons (pe_meth (pv 0) T.cl_Arrays T.M_Arrays_beneath G_Arrays_beneath (hr.mono (by omega)) T.b_Arrays_beneath .nil pass0 (pa_cons (pv 1) pa_nil)) pa_nil)) (pv 2) (nomark _)) pa_nil)))))))), ?_⟩
    refine ⟨_, rfl, .ref b, refD r.1 r.2, rfl, ref_rd hR, ref_bnd hS, ref_is hS, fun H1 s1 => ?_⟩
    have hA1 := hA.same s1
    have hR1 := hR.same s1
    obtain ⟨⟨dx, e⟩, hn⟩ := id hA1
    refine ⟨_, rfl, _, rfl, p, A.c_Arrays, dx, _, _, rfl, e, T.cl_Arrays, T.na_Arrays_nodes, rfl, b, d, es, r, rfl, rfl, hR1, hn.rd, .inr ⟨_, rfl, ?_⟩⟩
    refine ⟨_, rfl, _, rfl, p, dx, _, rfl, e, rfl, _, rfl, p, d, b, es, r, rfl, hA1, hR1, Nat.le_trans hS.len (by decide), hl, hes, fun D H2 hD s2 e2 => ?_⟩
    refine ⟨D, _, rfl, .inl (.inl (.inl e2)), _, rfl, _, _, rfl, rfl, .inr ⟨_, rfl, _, _, rfl, rfl, mul_ok (by decide) (bit_small _), _, _, rfl, rfl, q _ (s1.trans s2)⟩⟩
theorem ok_Arrays_kill (T : Txt K mg A) : FnOk P w K mg base CX0 5 A.a_Arrays_kill A.d_Arrays_kill ["self", "ref"] (spArKill w A.c_Arrays) := by
  have G_need_reference := ok_need_reference (P := P) (w := w) (base := base) T
  have G_Arrays_beneath := ok_Arrays_beneath (P := P) (w := w) (base := base) T
  refine T.F_Arrays_kill.ok sc_Arrays_kill (fun vs H Q E h => ?_) (fun cdv Ar outer s H vs Q E hr h => ?_)
  · obtain ⟨p, d, b, es, r, rfl, _⟩ := h
    rfl
  · obtain ⟨p, d, b, es, r, rfl, hA, hR, hS, hl, hes, hnd, q⟩ := h
    refine ⟨_, (pss_cons (ps_expr (pe_call G_need_reference (hr.mono (by omega)) (by rfl) T.g_need_reference T.F_need_reference.kp T.b_need_reference .nil pass0 (pa_cons (pv 1) pa_nil)))
      (pss_cons (ps_set (i := 2) sc_Arrays_kill.nd rfl (.inl rfl) (pe_meth (pv 0) T.cl_Arrays T.M_Arrays_beneath G_Arrays_beneath (hr.mono (by omega)) T.b_Arrays_beneath .nil pass0 (pa_cons (pv 1) pa_nil)))
      (pss_cons (ps_for PassesOwn.never rfl (k_pi_list K (pv 2)) (pg_name (i := 3) sc_Arrays_kill.nd rfl (.inl rfl))
      (pss_one (ps_expr (k_mN w PySem.F.slot_dict_pop PySem.F.type_dict_pop (k_popN w hr.units) (pe_fld (pv 0) rfl) (pa_cons (pv 3) pa_nil)))))
      (pss_one (ps_ret (pe_callB (k_len K) (by rfl) T.n_len PySem.boot_len (pa_cons (pv 2) pa_nil))))))), ?_⟩
    refine ⟨_, rfl, .ref b, refD r.1 r.2, rfl, ref_rd hR, ref_bnd hS, ref_is hS, fun H1 s1 => ?_⟩
    have hA1 := hA.same s1
    have hR1 := hR.same s1
    obtain ⟨⟨dx, e⟩, hn⟩ := id hA1
    refine ⟨_, rfl, p, dx, _, rfl, e, rfl, _, rfl, p, d, b, es, r, rfl, hA1, hR1, Nat.le_trans hS.len (by decide), hl, hes, fun D H2 hD s2 e2 => ?_⟩
    have hA2 := hA1.same s2
    obtain ⟨⟨dy, ey⟩, hn2⟩ := id hA2
    have Dd : D ≠ d := ne_of e2 hn2.1 (fun z => nomatch z)
    have gl : (ndBelow es r.1 r.2).length ≤ es.length := List.length_filter_le _ _
    have bn : ((ndBelow es r.1 r.2).map (·.1)).Nodup := hnd.sublist ((List.filter_sublist (l := es)).map _)
    refine ⟨_, rfl, D, rfl, ⟨_, .inl (.inl e2)⟩, ?_⟩
    refine for_list (K := K) (fun i σ' H' => ∃ z, σ' = [some (.ref p), some (.ref b), some (.ref D), z] ∧ H' = upd H2 d (ndO w d (ndBut es (((ndBelow es r.1 r.2).take i).map (·.1))))) ⟨_, rfl, ?_⟩ (fun i σ' H' _ ⟨_, _, h⟩ => by rw [h]; exact .inl (.inl (by rw [upd_ne Dd]; exact e2))) ?_ ?_
    · rw [List.take_zero, List.map_nil, but_nil]
      funext x
      by_cases hx : x = d
      · subst hx; rw [upd_same]; exact hn2.1
      · rw [upd_ne hx]
    · rintro i v σ' H' hv ⟨z, rfl, rfl⟩
      rw [List.getElem?_map] at hv
      obtain ⟨x, hx, rfl⟩ := Option.map_eq_some_iff.mp hv
      have hm : x ∈ ndBelow es r.1 r.2 := List.mem_of_getElem? hx
      have hme : x ∈ es := (List.mem_filter.mp hm).1
      have hi : i < (ndBelow es r.1 r.2).length := (List.getElem?_eq_some_iff.mp hx).1
      have hnot : x.1 ∉ ((ndBelow es r.1 r.2).take i).map (·.1) := by
        intro h
        rw [List.map_take] at h
        obtain ⟨j, hj, ej⟩ := List.getElem_of_mem h
        rw [List.length_take] at hj
        rw [List.getElem_take] at ej
        have h2 : ((ndBelow es r.1 r.2).map (·.1))[i]? = some x.1 := by rw [List.getElem?_map, hx]; rfl
        have h1 : ((ndBelow es r.1 r.2).map (·.1))[j]? = some x.1 := by rw [← ej]; exact List.getElem?_eq_getElem (by omega)
        have := (List.getElem?_inj (by rw [List.length_map]; omega) bn).mp (h1.trans h2.symm)
        omega
      have hN : NdAt w (upd H2 d (ndO w d (ndBut es (((ndBelow es r.1 r.2).take i).map (·.1))))) d (ndBut es (((ndBelow es r.1 r.2).take i).map (·.1))) := ⟨upd_same, fun y hy => (hn2.2 y (List.mem_filter.mp hy).1).nd hn2.1⟩
      refine ⟨_, rfl, p, A.c_Arrays, dy, _, _, rfl, (by rw [upd_ne hA2.ne]; exact ey), T.cl_Arrays, T.na_Arrays_nodes, rfl, ⟨d, _, rfl, hN.rd⟩, _, rfl, ?_⟩
      refine ⟨d, _, _, x.1, x.2.2, rfl, rfl, (hn2.2 x hme).nd hn2.1, hN, but_get hnd hme hnot, _, rfl, ?_⟩
      rw [upd_upd, but_drop, ← List.map_singleton, ← List.map_append, ← show (ndBelow es r.1 r.2).take (i + 1) = (ndBelow es r.1 r.2).take i ++ [x] by rw [List.take_add_one, hx]; rfl]
    · rintro σ' H' ⟨z, rfl, rfl⟩
      refine ⟨_, rfl, D, _, rfl, .inl (.inl (.inl (by rw [upd_ne Dd]; exact e2))), ?_⟩
      rw [List.length_map, List.take_of_length_le (Nat.le_refl _)]
      have hall := but_all hnd (fun e => stemB r.1 r.2 e.1.1 e.1.2)
      rw [show (ndBelow es r.1 r.2).map (·.1) = (es.filter fun e => stemB r.1 r.2 e.1.1 e.1.2).map (·.1) from rfl, hall]
      exact q H2 (s1.trans s2)
theorem ok_signs_ahead (T : Txt K mg A) : FnOk P w K mg base CX0 1 A.a_signs_ahead A.d_signs_ahead ["worth", "some"] spAhead := by
  refine T.F_signs_ahead.ok sc_signs_ahead (fun vs H Q E h => ?_) (fun cdv A outer s H vs Q E hr h => ?_)
  · obtain ⟨x, z, rfl, _⟩ := h
    rfl
  · obtain ⟨x, z, rfl, hl, q⟩ := h
    refine ⟨_, (pss_cons (ps_set (i := 2) sc_signs_ahead.nd rfl (.inl rfl) pe_int)
      (pss_cons (ps_while PassesOwn.never (PW.pt (pw_and (pt_cmpR op_lt (pv 2) (pe_callB call_len_str (by rfl) T.n_len PySem.boot_len (pa_cons (pv 0) pa_nil)) (nomark _)) (pw_and1 (pt_cmpR op_inS (pe_ix ix_str (pv 0) (pv 2) (fun _ _ => rfl)) (pv 1) (by rfl)))))
      (pss_one (ps_aug (i := 2) sc_signs_ahead.nd rfl (.inl rfl) pe_int ip_add)))
      (pss_one (ps_ret (pv 2))))), ?_⟩
    have hx := len_tl x
    refine ⟨fun m σ H' => ∃ pre rest, tl x = pre ++ rest ∧ (∀ c ∈ pre, decide (c ∈ tl z) = true) ∧ m = rest.length ∧ H' = H ∧ σ = [some (.str x), some (.str z), some (.int (pre.length : Int))], ⟨_, [], tl x, rfl, (fun _ h => nomatch h), rfl, rfl, rfl⟩, ?_⟩
    rintro m σ H' ⟨pre, rest, e, hp, rfl, rfl, rfl⟩
    refine ⟨_, rfl, _, rfl, x, rfl, Evl.sz_of hl, _, _, rfl, rfl, _, rfl, ?_⟩
    cases rest with
    | nil =>
      have hle : ¬ ((pre.length : Int) < (x.length : Int)) := by rw [hx, e, List.append_nil]; omega
      rw [decide_eq_false hle]
      refine iteF (iteF ⟨_, rfl, ?_⟩)
      have e2 := (takeWhile_pre (p := fun c => decide (c ∈ tl z)) hp (.inl rfl)).1
      unfold aheadL at q
      rw [e, e2] at q
      exact q
    | cons c r =>
      have hlt : (pre.length : Int) < (x.length : Int) := by rw [hx, e, List.length_append, List.length_cons]; omega
      rw [decide_eq_true hlt]
      have hc : atI (tl x) (pre.length : Int) = some c := atI_nat (by rw [e, List.getElem?_append_right (Nat.le_refl _), Nat.sub_self]; rfl)
      refine iteT ⟨_, rfl, _, rfl, x, _, c, rfl, rfl, Evl.sz_of hl, hc, _, rfl, c, z, rfl, rfl, _, rfl, ?_⟩
      by_cases hz : c ∈ tl z
      · rw [decide_eq_true hz]
        refine iteT ⟨_, fun σ' H' h => h, ?_⟩
        refine ⟨_, rfl, _, _, rfl, rfl, r.length, Nat.lt_succ_self _, pre ++ [c], r, by rw [e]; simp, fun d hd => ?_, rfl, rfl, ?_⟩
        · rcases List.mem_append.mp hd with hd | hd
          · exact hp d hd
          · rw [List.mem_singleton.mp hd]; exact decide_eq_true hz
        · rw [List.length_append]
          rfl
      · rw [decide_eq_false hz]
        refine iteF ⟨_, rfl, ?_⟩
        have e2 := (takeWhile_pre (p := fun c => decide (c ∈ tl z)) hp (.inr ⟨c, r, rfl, decide_eq_false hz⟩)).1
        unfold aheadL at q
        rw [e, e2] at q
        exact q
theorem ok_number_of (T : Txt K mg A) : FnOk P w K mg base CX0 2 A.a_number_of A.d_number_of ["worth"] spNumberOf := by
  have G_signs_ahead := ok_signs_ahead (P := P) (w := w) (base := base) T
  refine T.F_number_of.ok sc_number_of (fun vs H Q E h => ?_) (fun cdv A outer s H vs Q E hr h => ?_)
  · obtain ⟨x, rfl, _⟩ := h
    rfl
  · obtain ⟨x, rfl, hl, q⟩ := h
    refine ⟨_, (pss_cons (ps_set (i := 1) sc_number_of.nd rfl (.inl rfl) (pe_call G_signs_ahead (hr.mono (by omega)) (by rfl) T.g_signs_ahead T.F_signs_ahead.kp T.b_signs_ahead .nil pass0 (pa_cons (pv 0) (pa_cons pe_str pa_nil))))
      (pss_cons (ps_set (i := 2) sc_number_of.nd rfl (.inl rfl) (pe_slice sl_str (pv 0) (po_some (pv 1)) (po_some (pe_op op_add (pv 1) (pe_call G_signs_ahead (hr.mono (by omega)) (by rfl) T.g_signs_ahead T.F_signs_ahead.kp T.b_signs_ahead .nil pass0 (pa_cons (pe_slice sl_str (pv 0) (po_some (pv 1)) po_none) (pa_cons (pe_glob (v := .str (Str.ofString "0123456789")) rfl T.c_FIGURES ⟨_, rfl⟩) pa_nil)))))))
      (pss_cons (ps_set (i := 3) sc_number_of.nd rfl (.inl rfl) (pe_ifExp (pt_cmpR op_ne (pv 2) pe_str (nomark _)) (pe_callTy call_int_str (by rfl) T.n_int (by decide +kernel) (pa_cons (pv 2) pa_nil)) pe_int))
      (pss_one (ps_ret (pe_ifExp (pt_cmpR op_eq (pe_op op_mod (pe_m1 PySem.F.slot_str_count PySem.F.type_str_count mt_count (pe_slice sl_str (pv 0) po_none (po_some (pv 1))) pe_str) pe_int) pe_int (nomark _)) (pe_op op_sub pe_int (pv 3)) (pv 3))))))), ?_⟩
    have hx := len_tl x
    have em := ahead_marks (tl x)
    have dw : (tl x).drop (marksOf (tl x)).length = (tl x).dropWhile isMark := by
      have h1 := List.takeWhile_append_dropWhile (p := isMark) (l := tl x)
      have h2 := congrArg (List.drop (marksOf (tl x)).length) h1
      rw [show List.takeWhile isMark (tl x) = marksOf (tl x) from rfl, List.drop_left] at h2
      exact h2.symm
    have tw : (tl x).take (marksOf (tl x)).length = marksOf (tl x) := by
      have h1 := List.takeWhile_append_dropWhile (p := isMark) (l := tl x)
      have h2 := congrArg (List.take (marksOf (tl x)).length) h1
      rw [show List.takeWhile isMark (tl x) = marksOf (tl x) from rfl, List.take_left] at h2
      exact h2.symm
    refine ⟨_, rfl, x, _, rfl, Nat.le_trans hl (by decide), ?_⟩
    refine ⟨_, rfl, _, rfl, _, rfl, _, rfl, ?_⟩
    refine ⟨_, rfl, _, rfl, _, rfl, x, rfl, Evl.sz_of (by omega), _, _, rfl, ?_, ?_⟩
    · exact Nat.le_trans (cutS_length x _ _) (by omega)
    rw [em, cut_from, dw, ahead_figs]
    refine ⟨_, _, rfl, rfl, _, rfl, x, rfl, Evl.sz_of (by omega), ?_⟩
    have ef : tl (cutS x (some ((marksOf (tl x)).length : Int)) (some (((marksOf (tl x)).length : Int) + (((tl x).dropWhile isMark).takeWhile isFig).length))) = figsOf (tl x) := by
      rw [show (((marksOf (tl x)).length : Int) + (((tl x).dropWhile isMark).takeWhile isFig).length) = (((marksOf (tl x)).length + (((tl x).dropWhile isMark).takeWhile isFig).length : Nat) : Int) by omega, cut_mid, dw, Nat.add_sub_cancel_left]
      have h1 := List.takeWhile_append_dropWhile (p := isFig) (l := (tl x).dropWhile isMark)
      have h2 := congrArg (List.take (((tl x).dropWhile isMark).takeWhile isFig).length) h1
      rw [List.take_left] at h2
      exact h2.symm
    generalize hf : cutS x _ _ = f
    rw [hf] at ef
    have hfl : f.length ≤ 640 := by rw [← hf]; exact Nat.le_trans (cutS_length x _ _) hl
    have hfd : PySem.NumText.AllDigits (tl f) := by
      rw [ef]
      exact fun c hc => isFig_iff.mp (mem_takeWhile hc)
    refine ⟨_, rfl, rfl, _, rfl, ?_⟩
    have last : ∀ n : Int, n = (PySem.NumText.digitsVal (figsOf (tl x)) : Int) → tSeq (tAsg (tC (.int n)) (gName 3)) (tRet (tIf (tTest (tOp rEq (tOp (rI (fun _ j => 0 < j) fun i j => .int (i % j)) (tM1 (fun x xs H Q => ∃ a b, x = V.str a ∧ xs = [V.str b] ∧ Q (.int (Txt.count a b)) H) (tSl rSlS (tVar 0) tNoPart (tPart (tVar 1))) (tC (.str "-"))) (tC (.int 2))) (tC (.int 1)))) (tOp (rI0 fun i j => .int (i - j)) (tC (.int 0)) (tVar 3)) (tVar 3)))
        { nx := fun _ H' => Q .non H', rt := Q } [some (.str x), some (.int ((marksOf (tl x)).length : Int)), some (.str f), none] H := by
      intro n hn
      refine ⟨_, rfl, _, rfl, _, rfl, x, rfl, Evl.sz_of (by omega), ⟨_, rfl⟩, _, _, rfl, rfl, _, _, rfl, rfl, (show (0 : Int) < 2 by decide), rfl, _, rfl, ?_⟩
      have ec : Txt.count (cutS x none (some ((marksOf (tl x)).length : Int))) (Str.ofString "-") = ((marksOf (tl x)).count 45 : Int) := by
        rw [show Str.ofString "-" = ⟨#[45]⟩ by decide +kernel, count_one, cut_toN, tw]
      rw [ec]
      refine ite2 (fun e => ?_) (fun e => ?_)
      · have e2 : (marksOf (tl x)).count 45 % 2 = 1 := by
          have := V.int.inj (of_decide_eq_true e)
          omega
        refine ⟨_, rfl, _, _, rfl, rfl, ?_⟩
        have er : numS x = 0 - n := by unfold numS numL; rw [if_pos e2, hn]
        rw [er] at q
        exact q
      · have e2 : ¬ (marksOf (tl x)).count 45 % 2 = 1 := by
          intro z
          refine e (decide_eq_true (congrArg V.int ?_))
          show ((marksOf (tl x)).count 45 : Int) % 2 = 1
          omega
        refine ⟨_, rfl, ?_⟩
        have er : numS x = n := by unfold numS numL; rw [if_neg e2, hn]
        rw [er] at q
        exact q
    refine ite2 (fun e => ?_) (fun e => ?_)
    · have hne : tl f ≠ [] := by
        intro z
        have : f = Str.ofString "" := tl_inj (by rw [z, empty_tl])
        subst this
        exact absurd e (by decide)
      refine ⟨_, rfl, f, _, rfl, PySem.intText_digits hfd hne (by omega), hfl, ?_⟩
      exact last _ (by rw [← ef])
    · have hz : f = Str.ofString "" := by
        refine Decidable.byContradiction fun z => e ?_
        rw [decide_eq_false (fun y => z (V.str.inj y))]
        rfl
      refine last 0 ?_
      rw [← ef, hz, empty_tl]
      rfl
theorem ok_number_text (T : Txt K mg A) : FnOk P w K mg base CX0 1 A.a_number_text A.d_number_text ["number"] spNumberText := by
  refine T.F_number_text.ok sc_number_text (fun vs H Q E h => ?_) (fun cdv A outer s H vs Q E hr h => ?_)
  · obtain ⟨n, rfl, _⟩ := h
    rfl
  · obtain ⟨n, rfl, hl, q⟩ := h
    refine ⟨_, (pss_one (ps_ret (pe_callTy call_str_int (by rfl) T.n_str (by decide +kernel) (pa_cons (pv 0) pa_nil)))), ?_⟩
    exact ⟨_, rfl, n, rfl, hl, q⟩
theorem ok_is_number_text (T : Txt K mg A) : FnOk P w K mg base CX0 2 A.a_is_number_text A.d_is_number_text ["worth"] spIsNumber := by
  have G_signs_ahead := ok_signs_ahead (P := P) (w := w) (base := base) T
  refine T.F_is_number_text.ok sc_is_number_text (fun vs H Q E h => ?_) (fun cdv A outer s H vs Q E hr h => ?_)
  · obtain ⟨x, rfl, _⟩ := h
    rfl
  · obtain ⟨x, rfl, hl, q⟩ := h
    refine ⟨_, (pss_cons (ps_set (i := 1) sc_is_number_text.nd rfl (.inl rfl) (pe_ifExp (pt_cmpR op_eq (pe_slice sl_str (pv 0) po_none (po_some pe_int)) pe_str (nomark _)) (pe_slice sl_str (pv 0) (po_some pe_int) po_none) (pv 0)))
      (pss_cons (ps_if (PW.pt (pw_or (pt_cmpR op_eq (pv 1) pe_str (nomark _)) (pw_or1 (pt_cmpR op_lt (pe_call G_signs_ahead (hr.mono (by omega)) (by rfl) T.g_signs_ahead T.F_signs_ahead.kp T.b_signs_ahead .nil pass0 (pa_cons (pv 1) (pa_cons (pe_glob (v := .str (Str.ofString "0123456789")) rfl T.c_FIGURES ⟨_, rfl⟩) pa_nil))) (pe_callB call_len_str (by rfl) T.n_len PySem.boot_len (pa_cons (pv 1) pa_nil)) (nomark _)))))
      (pss_one (ps_ret pe_bl))
      pss_nil)
      (pss_one (ps_ret (pe_or (pe_cmpR op_eq (pv 0) pe_str (nomark _)) (pe_one (pe_cmpR op_ne (pe_ix ix_str (pv 1) pe_int (fun _ _ => rfl)) pe_str (nomark _)))))))), ?_⟩
    have rest : ∀ f : Str, f.length ≤ 100000 → tl f = (if (tl x).take 1 = [45] then (tl x).drop 1 else tl x) →
        tIfS (tOr (tTest (tOp rEq (tVar 1) (tC (.str "")))) (tTest (tOp (rI0 fun i j => .bl (decide (i < j))) (tCall spAhead [] E0 (tCons (tVar 1) (tCons (tC (.str "0123456789")) tNil))) (tCB (fun xs H Q => ∃ z, xs = [V.str z] ∧ z.length ≤ sizeLine ∧ Q (V.int z.length) H) (tCons (tVar 1) tNil)))))
          (tRet (tC (.bl false))) tNext { nx := fun σ H => tRet (tOrV (tOp rEq (tVar 0) (tC (.str "0"))) (tOp rNe (tOp rIxS (tVar 1) (tC (.int 0))) (tC (.str "0")))) { nx := fun _ H' => Q .non H', rt := Q } σ H, rt := Q } [some (.str x), some (.str f)] H := by
      intro f hf ef
      have hfl := len_tl f
      refine ⟨_, rfl, rfl, _, rfl, ite2 (fun e => ?_) (fun e => ?_)⟩
      · have e1 : f = Str.ofString "" := V.str.inj (of_decide_eq_true e)
        refine iteT ?_
        have er : isNumS x = false := by
          unfold isNumS isNumL
          rw [← ef, e1, empty_tl]
          rfl
        rw [er] at q
        exact q
      · have hne : tl f ≠ [] := by
          intro z
          have : f = Str.ofString "" := tl_inj (by rw [z, empty_tl])
          subst this
          exact e (decide_eq_true rfl)
        refine ⟨_, rfl, f, _, rfl, hf, ?_⟩
        rw [ahead_figs]
        refine ⟨_, rfl, f, rfl, Evl.sz_of hf, _, _, rfl, rfl, _, rfl, ite2 (fun e2 => ?_) (fun e2 => ?_)⟩
        · have e3 : ((tl f).takeWhile isFig).length < (tl f).length := by
            have := of_decide_eq_true e2
            omega
          have er : isNumS x = false := by
            unfold isNumS isNumL isNumF
            rw [← ef, if_pos (.inr e3)]
          rw [er] at q
          exact q
        · have e3 : ¬ ((tl f).takeWhile isFig).length < (tl f).length := by
            have := of_decide_eq_false (Bool.eq_false_iff.mpr e2)
            omega
          obtain ⟨c, r, ec⟩ : ∃ c r, tl f = c :: r := by
            cases h : tl f with
            | nil => exact absurd h hne
            | cons c r => exact ⟨c, r, rfl⟩
          have er : isNumS x = (tl x == [48] || !((tl f).head? == some 48)) := by
            unfold isNumS isNumL isNumF
            rw [← ef, if_neg (fun z => z.elim hne e3)]
          have hd : decide (V.str x = V.str (Str.ofString "0")) = (tl x == [48]) := by
            rw [Bool.eq_iff_iff, decide_eq_true_eq, beq_iff_eq]
            exact ⟨fun z => by rw [V.str.inj z]; decide +kernel, fun z => congrArg V.str (tl_inj (by rw [z]; decide +kernel))⟩
          refine ⟨_, rfl, rfl, _, rfl, ?_⟩
          rw [hd]
          refine ite2 (fun e4 => ?_) (fun e4 => ?_)
          · rw [er, e4] at q
            exact q
          · refine ⟨_, rfl, f, 0, c, rfl, rfl, Evl.sz_of hf, atI_nat (j := 0) (by show (tl f)[0]? = _; rw [ec]; rfl), rfl, ?_⟩
            have h2 : (!decide (V.str ⟨#[c]⟩ = V.str (Str.ofString "0"))) = !((tl f).head? == some 48) := by
              rw [ec, Bool.eq_iff_iff, Bool.not_eq_true', Bool.not_eq_true', decide_eq_false_iff_not, beq_eq_false_iff_ne]
              have h3 : (V.str ⟨#[c]⟩ = V.str (Str.ofString "0")) ↔ c = 48 := by
                rw [show Str.ofString "0" = ⟨#[48]⟩ by decide +kernel]
                exact ⟨fun z => by
                  have := congrArg tl (V.str.inj z)
                  exact (List.cons.inj this).1, fun z => by rw [z]⟩
              rw [h3]
              exact ⟨fun z y => z (Option.some.inj y), fun z y => z (by rw [y]; rfl)⟩
            rw [h2]
            rw [er, Bool.eq_false_iff.mpr e4] at q
            exact q
    refine ⟨_, rfl, _, rfl, x, rfl, Evl.sz_of hl, rfl, _, rfl, ite2 (fun e => ?_) (fun e => ?_)⟩
    · have e1 : (tl x).take 1 = [45] := by
        have := congrArg tl (V.str.inj (of_decide_eq_true e))
        rw [show tl (cutS x none (some 1)) = (tl x).take 1 from cut_toN x 1] at this
        exact this.trans (by decide +kernel)
      refine ⟨_, rfl, _, rfl, x, rfl, Evl.sz_of hl, ?_⟩
      exact rest _ (Nat.le_trans (cutS_length x _ _) hl) (by rw [if_pos e1]; exact cut_from x 1)
    · have e1 : (tl x).take 1 ≠ [45] := by
        intro z
        refine e (decide_eq_true (congrArg V.str (tl_inj ?_)))
        rw [show tl (cutS x none (some 1)) = (tl x).take 1 from cut_toN x 1, z]
        decide +kernel
      refine ⟨_, rfl, ?_⟩
      exact rest x hl (by rw [if_neg e1])
theorem ok_rank (T : Txt K mg A) : FnOk P w K mg base CX0 3 A.a_rank A.d_rank ["key"] (spRank K) := by
  have G_is_number_text := ok_is_number_text (P := P) (w := w) (base := base) T
  have G_number_of := ok_number_of (P := P) (w := w) (base := base) T
  refine T.F_rank.ok sc_rank (fun vs H Q E h => ?_) (fun cdv A outer s H vs Q E hr h => ?_)
  · obtain ⟨x, rfl, _⟩ := h
    rfl
  · obtain ⟨x, rfl, hl, q⟩ := h
    refine ⟨_, (pss_cons (ps_if (pt_val (pe_call G_is_number_text (hr.mono (by omega)) (by rfl) T.g_is_number_text T.F_is_number_text.kp T.b_is_number_text .nil pass0 (pa_cons (pv 0) pa_nil)))
      (pss_one (ps_ret (pe_tup (pa_cons pe_int (pa_cons (pe_call G_number_of (hr.mono (by omega)) (by rfl) T.g_number_of T.F_number_of.kp T.b_number_of .nil pass0 (pa_cons (pv 0) pa_nil)) (pa_cons pe_str pa_nil))))))
      pss_nil)
      (pss_one (ps_ret (pe_tup (pa_cons pe_int (pa_cons pe_int (pa_cons (pv 0) pa_nil))))))), ?_⟩
    refine ⟨_, rfl, x, rfl, Nat.le_trans hl (by decide), _, rfl, ite2 (fun e => ?_) (fun e => ?_)⟩
    · refine ⟨_, rfl, x, rfl, hl, ?_⟩
      refine ⟨Evl.sz_of (by show 3 ≤ 100000; decide), fun p hp => q _ _ (same_new hp) ?_⟩
      rw [show rankT x = ⟨0, numS x, Str.ofString ""⟩ by unfold rankT; rw [if_pos e]]
      exact dv_rank upd_same
    · refine ⟨_, rfl, ?_⟩
      refine ⟨Evl.sz_of (by show 3 ≤ 100000; decide), fun p hp => q _ _ (same_new hp) ?_⟩
      rw [show rankT x = ⟨1, 0, x⟩ by unfold rankT; rw [if_neg e]]
      exact dv_rank upd_same
theorem ok_need_ordered (T : Txt K mg A) : FnOk P w K mg base CX0 4 A.a_need_ordered A.d_need_ordered ["thing"] spNeedOrd := by
  have G_is_reference := ok_is_reference (P := P) (w := w) (base := base) T
  have G_is_key := ok_is_key (P := P) (w := w) (base := base) T
  refine T.F_need_ordered.ok sc_need_ordered (fun vs H Q E h => ?_) (fun cdv Ar outer s H vs Q E hr h => ?_)
  · obtain ⟨a, n, ks, last, rfl, _⟩ := h
    rfl
  · obtain ⟨a, n, ks, last, rfl, ⟨a', k, ea, e1, e2⟩, hS, q⟩ := h
    cases ea
    rw [List.map_append, List.map_singleton] at e2
    refine ⟨_, (pss_cons (ps_if (PW.pt (pw_or (pt_not (pt_val (pe_callB (k_isi K) (by rfl) T.n_isinstance (by decide +kernel) (pa_cons (pv 0) (pa_cons (pe_bltn (v := .ty "tuple") (by rfl) T.n_tuple (by decide +kernel) rfl) pa_nil))))) (pw_or (pt_cmpR op_ne (pe_callB (k_len K) (by rfl) T.n_len PySem.boot_len (pa_cons (pv 0) pa_nil)) pe_int (nomark _)) (pw_or1 (pt_not (pt_val (pe_callB (k_isi K) (by rfl) T.n_isinstance (by decide +kernel) (pa_cons (pe_ix (k_ix_tup K) (pv 0) pe_int (fun _ _ => rfl)) (pa_cons (pe_bltn (v := .ty "tuple") (by rfl) T.n_tuple (by decide +kernel) rfl) pa_nil)))))))))
      (pss_one ps_never)
      pss_nil)
      (pss_cons (ps_asg (pv 0) (pg_tup rfl (pgs_cons (pg_name (i := 1) sc_need_ordered.nd rfl (.inl rfl)) (pgs_cons (pg_name (i := 2) sc_need_ordered.nd rfl (.inl rfl)) pgs_nil))))
      (pss_cons (ps_if (PW.pt (pw_or (pt_not (pt_chain op_lt op_le pe_int (pe_callB (k_len K) (by rfl) T.n_len PySem.boot_len (pa_cons (pv 2) pa_nil)) (pe_glob (v := .int 6) rfl T.c_MOST_KEYS ⟨_, rfl⟩))) (pw_or1 (pt_not (pt_val (pe_call G_is_reference (hr.mono (by omega)) (by rfl) T.g_is_reference T.F_is_reference.kp T.b_is_reference .nil pass0 (pa_cons (pe_tup (pa_cons (pv 1) (pa_cons (pe_slice (k_sl_tup K) (pv 2) po_none (po_some (pe_un un_neg pe_int))) pa_nil))) pa_nil)))))))
      (pss_one ps_never)
      pss_nil)
      (pss_one (ps_if (PW.pt (pw_and (pt_cmpR op_ne (pe_ix (k_ix_tup K) (pv 2) (pe_un un_neg pe_int) (fun _ _ => rfl)) pe_str (nomark _)) (pw_and1 (pt_not (pt_val (pe_call G_is_key (hr.mono (by omega)) (by rfl) T.g_is_key T.F_is_key.kp T.b_is_key .nil pass0 (pa_cons (pe_ix (k_ix_tup K) (pv 2) (pe_un un_neg pe_int) (fun _ _ => rfl)) pa_nil)))))))
      (pss_one ps_never)
      pss_nil))))), ?_⟩
    have l5 := hS.len
    refine ⟨_, rfl, .ref a, .ty "tuple", _, _, true, rfl, .ty "tuple", .base (.tup e1), kit_ty (by decide +kernel), _, rfl, iteF ?_⟩
    refine ⟨_, rfl, a, _, rfl, .inr (.inl (.inl e1)), rfl, _, rfl, iteF' (by rw [decide_eq_true (by rfl)]; rfl) ?_⟩
    refine ⟨_, rfl, a, _, 1, .ref k, rfl, rfl, .inl (.inl e1), atI_nat (j := 1) rfl, .ref k, .ty "tuple", _, _, true, rfl, .ty "tuple", .base (.tup e2), kit_ty (by decide +kernel), _, rfl, iteF ?_⟩
    refine ⟨_, rfl, a, [.str n, .ref k], rfl, .inl (.inl e1), rfl, .str n, [.ref k], rfl, .ref k, [], rfl, rfl, ?_⟩
    have lk : (((ks.map V.str ++ [V.str last]).length : Nat) : Int) = (ks.length : Int) + 1 := by rw [List.length_append, List.length_map]; rfl
    refine ⟨_, rfl, k, _, rfl, .inr (.inl (.inl e2)), _, _, rfl, rfl, _, rfl, ?_⟩
    refine iteT' (decide_eq_true (by rw [lk]; omega)) ⟨_, _, rfl, rfl, _, rfl, iteF' (by rw [decide_eq_true (by rw [lk]; omega)]; rfl) ?_⟩
    refine ⟨_, rfl, _, rfl, 1, rfl, -1, rfl, ?_⟩
    refine rd_initT e2 fun p H1 s1 hp => ?_
    refine ⟨Evl.sz_of (by show 2 ≤ 100000; decide), fun t ht => ?_⟩
    have R : RefAt (upd H1 t (.tup [.str n, .ref p])) (.ref t) n ks := ⟨t, p, rfl, upd_same, same_new ht _ _ hp⟩
    have s2 : Same H (upd H1 t (.tup [.str n, .ref p])) := s1.trans (same_new ht)
    generalize upd H1 t (.tup [.str n, .ref p]) = H2 at R s2 ⊢
    refine ⟨.ref t, refD n ks, rfl, ref_rd R, ref_bnd hS.refS, fun H3 s3 => ⟨_, rfl, ?_⟩⟩
    rw [ref_is hS.refS]
    have t3 := s2.trans s3
    refine iteF ⟨_, rfl, 1, rfl, k, _, -1, .str last, rfl, rfl, .inl (.inl (t3 _ _ e2)), at_last, rfl, _, rfl, ?_⟩
    rcases hS.last with el | hl
    · refine iteF' (by rw [el, decide_eq_true (by rfl)]; rfl) (q _ t3)
    · refine iteT' (by rw [decide_eq_false (fun z => hl.ne (V.str.inj z))]; rfl) ⟨_, rfl, 1, rfl, k, _, -1, .str last, rfl, rfl, .inl (.inl (t3 _ _ e2)), at_last, .str last, .str last, rfl, .str last, .str (Nat.le_trans hl.2.1 (by decide)), fun H4 s4 => ⟨_, rfl, iteF' ?_ (q _ (t3.trans s4))⟩⟩
      show (!(decide (WorthS last) && (decide (1 ≤ last.length) && decide (last.length ≤ 40)))) = false
      rw [decide_eq_true hl.2.2, decide_eq_true hl.1, decide_eq_true hl.2.1]
      rfl
theorem str_eq {x y : Str} : decide (V.str x = V.str y) = decide (x = y) := decide_eq_decide.mpr ⟨fun z => V.str.inj z, fun z => congrArg V.str z⟩
theorem ok_Arrays_order (T : Txt K mg A) : FnOk P w K mg base CX0 6 A.a_Arrays_order A.d_Arrays_order ["self", "ref", "back"] (spOrder w A.c_Arrays) := by
  have G_need_ordered := ok_need_ordered (P := P) (w := w) (base := base) T
  have G_Arrays_beneath := ok_Arrays_beneath (P := P) (w := w) (base := base) T
  have G_rank := ok_rank (P := P) (w := w) (base := base) T
  refine T.F_Arrays_order.ok sc_Arrays_order (fun vs H Q E h => ?_) (fun cdv Ar outer s H vs Q E hr h => ?_)
  · obtain ⟨p, d, a, es, n, ks, last, t, rfl, _⟩ := h
    rfl
  · obtain ⟨p, d, a, es, n, ks, last, t, rfl, hA, hG, hl, hR, hS, q⟩ := h
    obtain ⟨a', k, ea, e1, e2⟩ := id hR
    cases ea
    rw [List.map_append, List.map_singleton] at e2
    refine ⟨_, (pss_cons (ps_expr (pe_call G_need_ordered (hr.mono (by omega)) (by rfl) T.g_need_ordered T.F_need_ordered.kp T.b_need_ordered .nil pass0 (pa_cons (pv 1) pa_nil)))
      (pss_cons (ps_asg (pv 1) (pg_tup rfl (pgs_cons (pg_name (i := 3) sc_Arrays_order.nd rfl (.inl rfl)) (pgs_cons (pg_name (i := 4) sc_Arrays_order.nd rfl (.inr rfl)) pgs_nil))))
      (pss_cons (ps_set (i := 5) sc_Arrays_order.nd rfl (.inl rfl) (pe_tup (pa_cons (pv 3) (pa_cons (pe_slice (k_sl_tup K) (pv 4) po_none (po_some (pe_un un_neg pe_int))) pa_nil))))
      (pss_cons (ps_setDc (i := 6) (own := [("one", 8)]) (g := gName 8)  rfl sc_Arrays_order.nd rfl rfl (sw_dc rfl rfl rfl (by decide +kernel)) (k_pi_list K (pe_meth (pv 0) T.cl_Arrays T.M_Arrays_beneath G_Arrays_beneath (hr.mono (by omega)) T.b_Arrays_beneath .nil pass0 (pa_cons (pv 5) pa_nil))) (blkOk_by (own := [("one", 8)]) (N := N_Arrays_order) (sc := defScope s_Arrays_order) (by decide +kernel)) (fun _ _ _ _ _ => (pg_name (i := 8) sc_Arrays_order.nd rfl (.inl rfl))) (fun _ _ _ _ _ => pts_one (pt_cmpR op_ge (pe_callB (k_len K) (by rfl) T.n_len PySem.boot_len (pa_cons (pe_ix (k_ix_tup K) (pv 8) pe_int (fun _ _ => rfl)) pa_nil)) (pe_callB (k_len K) (by rfl) T.n_len PySem.boot_len (pa_cons (pv 4) pa_nil)) (nomark _))) (fun _ _ _ _ _ => (pe_ix (k_ix_tup K) (pe_ix (k_ix_tup K) (pv 8) pe_int (fun _ _ => rfl)) (pe_op op_sub (pe_callB (k_len K) (by rfl) T.n_len PySem.boot_len (pa_cons (pv 4) pa_nil)) pe_int) (fun _ _ => rfl))) (fun _ _ _ _ _ => pe_bl))
      (pss_cons (ps_set (i := 7) sc_Arrays_order.nd rfl (.inl rfl) (pe_callBK (cr_sortKeyD G_rank (hr.mono (by omega)) T.b_rank) (by rfl) T.n_sorted (by decide +kernel) (pa_cons (pv 6) pa_nil) (pk_cons (pe_glob (v := .ref A.a_rank) rfl T.g_rank rfl) pk_nil)))
      (pss_cons (ps_if (pt_val (pv 2))
      (pss_one (ps_set (i := 7) sc_Arrays_order.nd rfl (.inl rfl) (k_revL K (pe_lc (own := [("key", 9)]) (g := gName 9)  rfl sc_Arrays_order.nd (k_pi_list K (pv 7)) (blkOk_by (own := [("key", 9)]) (N := N_Arrays_order) (sc := defScope s_Arrays_order) (by decide +kernel)) (fun _ _ _ _ _ => (pg_name (i := 9) sc_Arrays_order.nd rfl (.inl rfl))) (fun _ _ _ _ _ => pts_one (PW.pt (pw_or (pt_cmpR op_eq (pe_ix (k_ix_tup K) (pv 4) (pe_un un_neg pe_int) (fun _ _ => rfl)) pe_str (nomark _)) (pw_or1 (pt_cmpR (k_ltP K hr.units) (pe_call G_rank (hr.mono (by omega)) (by rfl) T.g_rank T.F_rank.kp T.b_rank .nil pass0 (pa_cons (pv 9) pa_nil)) (pe_call G_rank (hr.mono (by omega)) (by rfl) T.g_rank T.F_rank.kp T.b_rank .nil pass0 (pa_cons (pe_ix (k_ix_tup K) (pv 4) (pe_un un_neg pe_int) (fun _ _ => rfl)) pa_nil)) (nomark _)))))) (fun _ _ _ _ _ => (pv 9))))))
      (pss_one (ps_setLc (i := 7) (own := [("key", 9)]) (g := gName 9)  rfl sc_Arrays_order.nd rfl rfl (sw_true rfl rfl rfl (by decide +kernel)) (k_pi_list K (pv 7)) (blkOk_by (own := [("key", 9)]) (N := N_Arrays_order) (sc := defScope s_Arrays_order) (by decide +kernel)) (fun _ _ _ _ _ => (pg_name (i := 9) sc_Arrays_order.nd rfl (.inl rfl))) (fun _ _ _ _ _ => pts_one (PW.pt (pw_or (pt_cmpR op_eq (pe_ix (k_ix_tup K) (pv 4) (pe_un un_neg pe_int) (fun _ _ => rfl)) pe_str (nomark _)) (pw_or1 (pt_cmpR (k_gtP K hr.units) (pe_call G_rank (hr.mono (by omega)) (by rfl) T.g_rank T.F_rank.kp T.b_rank .nil pass0 (pa_cons (pv 9) pa_nil)) (pe_call G_rank (hr.mono (by omega)) (by rfl) T.g_rank T.F_rank.kp T.b_rank .nil pass0 (pa_cons (pe_ix (k_ix_tup K) (pv 4) (pe_un un_neg pe_int) (fun _ _ => rfl)) pa_nil)) (nomark _)))))) (fun _ _ _ _ _ => (pv 9)))))
      (pss_one (ps_ret (pe_ifExp (pt_cmpR (k_neE K hr.units) (pv 7) (pe_lst pa_nil) (nomark _)) (pe_ix (k_ix_list K) (pv 7) pe_int (fun _ _ => rfl)) pe_str))))))))), ?_⟩
    have l5 := hS.len
    have lk : (((ks.map V.str ++ [V.str last]).length : Nat) : Int) = (ks.length : Int) + 1 := by rw [List.length_append, List.length_map]; rfl
    have l40 : last.length ≤ 640 := by
      rcases hS.last with e | e
      · rw [e]; decide +kernel
      · exact Nat.le_trans e.2.1 (by decide)
    obtain ⟨⟨dx, ep⟩, _⟩ := id hA
    refine ⟨_, rfl, a, n, ks, last, rfl, hR, hS, fun H1 s1 => ?_⟩
    refine ⟨_, rfl, a, [.str n, .ref k], rfl, .inl (.inl (s1 _ _ e1)), rfl, .str n, [.ref k], rfl, .ref k, [], rfl, rfl, ?_⟩
    refine ⟨_, rfl, _, rfl, 1, rfl, -1, rfl, ?_⟩
    refine rd_initT (s1 _ _ e2) fun pk H2 s2 hp => ?_
    refine ⟨Evl.sz_of (by show 2 ≤ 100000; decide), fun hd hhd => ?_⟩
    have R3 : RefAt (upd H2 hd (.tup [.str n, .ref pk])) (.ref hd) n ks := ⟨hd, pk, rfl, upd_same, same_new hhd _ _ hp⟩
    have t3 : Same H (upd H2 hd (.tup [.str n, .ref pk])) := (s1.trans s2).trans (same_new hhd)
    show gName 5 (V.ref hd) _ (upd H2 hd (.tup [.str n, .ref pk])) _
    generalize upd H2 hd (.tup [.str n, .ref pk]) = H3 at R3 t3 ⊢
    refine ⟨_, rfl, p, dx, _, rfl, t3 _ _ ep, rfl, _, rfl, p, d, hd, es, (n, ks), rfl, hA.same t3, R3, by show ks.length ≤ 1000; omega, hl, hG.refs, fun D0 H4 hD0 s4 e4 => ⟨D0, rfl, ⟨_, .inl (.inl e4)⟩, fun D hD => ?_⟩⟩
    have t4 := t3.trans s4
    have hDH := none_of_same t4 hD
    have bl : (ndBelow es n ks).length ≤ 1000 := Nat.le_trans (List.length_filter_le _ _) hl
    have A4 := hA.same t4
    refine dc_list (K := K) (xs := (ndBelow es n ks).map fun e => V.ref e.2.1) (fun i H' => Same H4 H' ∧ ∃ kvs U, H' D = some (.dK kvs) ∧ kvs.map (·.1) = U.map Sum.inr ∧ U.length ≤ i ∧ ∀ x, x ∈ U ↔ x ∈ ((((ndBelow es n ks).take i).filter fun e => decide (ks.length < e.1.2.length)).map fun e => e.1.2.getD ks.length (Str.ofString ""))) ⟨same_new hD, [], [], upd_same, rfl, Nat.le_refl _, fun x => by rw [List.take_zero]; exact Iff.rfl⟩ (fun i H' _ h => h.1.seq (.inl (.inl e4))) ?_ ?_
    · rintro i x H' hx ⟨s5, kvs, U, eD, hk, hU, hm⟩
      rw [List.getElem?_map] at hx
      obtain ⟨e, he, rfl⟩ := Option.map_eq_some_iff.mp hx
      have hi : i < (ndBelow es n ks).length := (List.getElem?_eq_some_iff.mp he).1
      have hin : e ∈ es := (List.mem_filter.mp (List.mem_of_getElem? he)).1
      obtain ⟨x1, ke, ex, h1, h2⟩ := (A4.2.2 e hin).same s5
      cases ex
      have f2 := s5 _ _ (t4 _ _ e2)
      have fs := filter_snoc (p := fun e : Ent => decide (ks.length < e.1.2.length)) (f := fun e : Ent => e.1.2.getD ks.length (Str.ofString "")) he
      refine ⟨wipe1, ?_⟩
      refine ⟨_, rfl, e.2.1, _, 1, .ref ke, rfl, rfl, .inl (.inl h1), atI_nat (j := 1) rfl, ke, _, rfl, .inr (.inl (.inl h2)), _, rfl, k, _, rfl, .inr (.inl (.inl f2)), _, _, rfl, rfl, _, rfl, ?_⟩
      rw [lk, List.length_map]
      by_cases hlt : ks.length < e.1.2.length
      · refine iteT' (decide_eq_true (by omega)) ?_
        have hv : e.1.2[ks.length]? = some (e.1.2.getD ks.length (Str.ofString "")) := by rw [List.getD_eq_getElem?_getD, List.getElem?_eq_getElem hlt]; rfl
        refine ⟨_, rfl, e.2.1, _, 1, .ref ke, rfl, rfl, .inl (.inl h1), atI_nat (j := 1) rfl, _, rfl, k, _, rfl, .inr (.inl (.inl f2)), _, _, rfl, rfl, ke, _, _, .str (e.1.2.getD ks.length (Str.ofString "")), rfl, rfl, .inl (.inl h2), at_strs (by rw [lk]; omega) hv, kvs, .inr (e.1.2.getD ks.length (Str.ofString "")), rfl, eD, ?_, same_mut s5 hD, ?_⟩
        · have := congrArg List.length hk
          rw [List.length_map, List.length_map] at this
          exact Evl.sz_lt (by omega)
        · obtain ⟨W, w1, w2, w3⟩ := putK_keys kvs (e.1.2.getD ks.length (Str.ofString "")) (V.bl true) hk
          refine ⟨_, W, upd_same, w1, by omega, fun y => ?_⟩
          rw [w3, hm, fs]
          exact ⟨fun z => z.imp id fun z => ⟨decide_eq_true hlt, z⟩, fun z => z.imp id (·.2)⟩
      · refine iteF' (decide_eq_false (by omega)) ⟨s5, kvs, U, eD, hk, by omega, fun y => ?_⟩
        rw [hm, fs]
        exact ⟨.inl, fun z => z.elim id fun z => absurd (of_decide_eq_true z.1) hlt⟩
    · rintro H5 ⟨s5, kvs, U, eD, hk, hU, hm⟩
      rw [List.length_map] at hU hm
      rw [List.take_length] at hm
      have t5 := t4.trans s5
      have hm : ∀ x, x ∈ U ↔ x ∈ behOf es n ks := hm
      have u40 : ∀ x ∈ U, x.length ≤ 640 := fun x hx => by
        obtain ⟨e, he, rfl⟩ := List.mem_map.mp ((hm x).mp hx)
        obtain ⟨he, hlt⟩ := List.mem_filter.mp he
        have hlt := of_decide_eq_true hlt
        have he := (List.mem_filter.mp he).1
        have hv : e.1.2.getD ks.length (Str.ofString "") ∈ e.1.2 := by
          rw [List.getD_eq_getElem?_getD, List.getElem?_eq_getElem hlt]
          exact List.getElem_mem hlt
        exact Nat.le_trans ((hG.refs e he).keys _ hv).2.1 (by decide)
      refine ⟨_, rfl, ?_⟩
      refine ⟨D, kvs, U, keyOf, rfl, rfl, .inl eD, hk, by omega, alikeK U, sortableK U, fun x hx => ?_, fun x hx H6 s6 R h6 => ?_, fun r H6 hr6 s6 e6 => ?_⟩
      · obtain ⟨y, _, rfl⟩ := List.mem_map.mp hx
        exact Nat.le_trans (PySem.W.Datum.depth_le (rankT y)) (by decide)
      · obtain ⟨y, hy, rfl⟩ := List.mem_map.mp hx
        exact ⟨y, rfl, u40 y hy, fun v H7 s7 d7 => h6 v H7 s7 d7⟩
      rw [sortK_map] at e6
      have t6 := t5.trans s6
      have sl : (sortK U).length ≤ 1000 := by rw [(sortK_perm U).length_eq]; omega
      have test : ∀ (b : Bool) (x : Str), x ∈ U → True := fun _ _ _ => trivial
      dsimp only
      refine seq_abs (fun σ' H' => ∃ r2, Same H H' ∧ H' r2 = some (.lst ((if t = true then (cand (sortK U) last t).reverse else cand (sortK U) last t).map V.str)) ∧ σ' = [some (.ref p), some (.ref a), some (.bl t), some (.str n), some (.ref k), some (.ref hd), some (.ref D), some (.ref r2), none, none]) (fun Nx hN => ?_) ?_
      · refine ⟨_, rfl, _, rfl, ?_⟩
        cases t with
        | true =>
          refine iteT ⟨_, rfl, r, rfl, ⟨_, .inl (.inl e6)⟩, fun D2 hD2 => ?_⟩
          refine lc_pure_list (K := K) (xs := (sortK U).map V.str) (onStrB fun x => decide (last = Str.ofString "") || (if true = true then ltK x last else ltK last x)) (onStr fun x => V.str x) (by rw [List.length_map]; omega) hD2 (.inl (.inl e6)) (fun v H7 hv s7 R q7 => ?_) (fun v H7 hv _ s7 R q7 => ?_) (fun H7 s7 e7 => ?_)
          · obtain ⟨x, hx, rfl⟩ := List.mem_map.mp hv
            have hxU : x ∈ U := (sortK_perm U).mem_iff.mp hx
            have f2 := s7 _ _ (t6 _ _ e2)
            refine ⟨_, rfl, 1, rfl, k, _, -1, .str last, rfl, rfl, .inl (.inl f2), at_last, rfl, _, rfl, ?_⟩
            show (if decide (V.str last = V.str (Str.ofString "")) = true then _ else _)
            rw [str_eq]
            by_cases el : last = Str.ofString ""
            · refine iteT' (decide_eq_true el) ?_
              have : onStrB (fun x => decide (last = Str.ofString "") || (if true = true then ltK x last else ltK last x)) (V.str x) = true := by
                show (decide (last = Str.ofString "") || _) = true
                rw [decide_eq_true el]; rfl
              rw [this] at q7
              exact q7 _ (.refl _)
            · refine iteF' (decide_eq_false el) ⟨_, rfl, x, rfl, u40 x hxU, fun v1 H8 s8 d1 => ⟨_, rfl, 1, rfl, k, _, -1, .str last, rfl, rfl, .inl (.inl (s8 _ _ f2)), at_last, last, rfl, l40, fun v2 H9 s9 d2 => rd_ltP (dp_same s9 d1) d2 (by decide) ⟨_, rfl, ?_⟩⟩⟩
              have : onStrB (fun x => decide (last = Str.ofString "") || (if true = true then ltK x last else ltK last x)) (V.str x) = ltK x last := by
                show (decide (last = Str.ofString "") || _) = _
                rw [decide_eq_false el]; rfl
              rw [this] at q7
              exact q7 _ (s8.trans s9)
          · obtain ⟨x, hx, rfl⟩ := List.mem_map.mp hv
            exact ⟨_, rfl, q7 _ (.refl _)⟩
          · rw [strs_filter, List.map_id'] at e7
            have D2H := none_of_same t6 hD2
            refine ⟨D2, _, rfl, .inl (.inl e7), fun p3 hp3 => hN _ _ ⟨p3, (t6.trans s7).trans (same_new hp3), ?_, rfl⟩⟩
            rw [upd_same, if_pos rfl, List.map_reverse]
            rfl
        | false =>
          refine iteF ⟨_, rfl, r, rfl, ⟨_, .inl (.inl e6)⟩, fun D2 hD2 => ?_⟩
          refine lc_pure_list (K := K) (xs := (sortK U).map V.str) (onStrB fun x => decide (last = Str.ofString "") || (if false = true then ltK x last else ltK last x)) (onStr fun x => V.str x) (by rw [List.length_map]; omega) hD2 (.inl (.inl e6)) (fun v H7 hv s7 R q7 => ?_) (fun v H7 hv _ s7 R q7 => ?_) (fun H7 s7 e7 => ?_)
          · obtain ⟨x, hx, rfl⟩ := List.mem_map.mp hv
            have hxU : x ∈ U := (sortK_perm U).mem_iff.mp hx
            have f2 := s7 _ _ (t6 _ _ e2)
            refine ⟨_, rfl, 1, rfl, k, _, -1, .str last, rfl, rfl, .inl (.inl f2), at_last, rfl, _, rfl, ?_⟩
            show (if decide (V.str last = V.str (Str.ofString "")) = true then _ else _)
            rw [str_eq]
            by_cases el : last = Str.ofString ""
            · refine iteT' (decide_eq_true el) ?_
              have : onStrB (fun x => decide (last = Str.ofString "") || (if false = true then ltK x last else ltK last x)) (V.str x) = true := by
                show (decide (last = Str.ofString "") || _) = true
                rw [decide_eq_true el]; rfl
              rw [this] at q7
              exact q7 _ (.refl _)
            · refine iteF' (decide_eq_false el) ⟨_, rfl, x, rfl, u40 x hxU, fun v1 H8 s8 d1 => ⟨_, rfl, 1, rfl, k, _, -1, .str last, rfl, rfl, .inl (.inl (s8 _ _ f2)), at_last, last, rfl, l40, fun v2 H9 s9 d2 => rd_gtP (dp_same s9 d1) d2 (by decide) ⟨_, rfl, ?_⟩⟩⟩
              have : onStrB (fun x => decide (last = Str.ofString "") || (if false = true then ltK x last else ltK last x)) (V.str x) = ltK last x := by
                show (decide (last = Str.ofString "") || _) = _
                rw [decide_eq_false el]; rfl
              rw [this] at q7
              exact q7 _ (s8.trans s9)
          · obtain ⟨x, hx, rfl⟩ := List.mem_map.mp hv
            exact ⟨_, rfl, q7 _ (.refl _)⟩
          · rw [strs_filter, List.map_id'] at e7
            refine hN _ _ ⟨D2, t6.trans s7, ?_, rfl⟩
            rw [e7, if_neg Bool.false_ne_true]
            rfl
      · rintro σ' H7 ⟨r2, t7, e7, rfl⟩
        generalize hrow : (if t = true then (cand (sortK U) last t).reverse else cand (sortK U) last t) = row at e7
        refine ⟨_, rfl, Evl.sz_of (by show 0 ≤ 100000; decide), fun em hem => ⟨r2, em, _, rfl, rfl, .inl (.inl (same_new hem _ _ e7)), .inl (.inl upd_same), _, rfl, ?_⟩⟩
        have t8 : Same H (upd H7 em (.lst [])) := t7.trans (same_new hem)
        have fin : ∀ H' res, Same H H' → res = headS row → Q (.str res) H' := fun H' res s8 hres => by
          refine q H' res s8 (IsNext.congr hm ?_)
          cases t with
          | true => exact next_last (by rw [hres, ← hrow, if_pos rfl])
          | false => exact next_head (by rw [hres, ← hrow, if_neg Bool.false_ne_true])
        cases hrw : row with
        | nil => exact iteF' (by rfl) (fin _ _ t8 (by rw [hrw]; rfl))
        | cons x l =>
          refine iteT' (by rfl) ⟨_, rfl, r2, _, 0, .str x, rfl, rfl, .inl (.inl (same_new hem _ _ e7)), ?_, fin _ _ t8 (by rw [hrw]; rfl)⟩
          rw [hrw]
          exact atI_nat (j := 0) rfl
theorem ok_ranks (T : Txt K mg A) : FnOk P w K mg base CX0 4 A.a_ranks A.d_ranks ["ref"] (spRanks K) := by
  have G_rank := ok_rank (P := P) (w := w) (base := base) T
  refine T.F_ranks.ok sc_ranks (fun vs H Q E h => ?_) (fun cdv Ar outer s H vs Q E hr h => ?_)
  · obtain ⟨a, n, ks, rfl, _⟩ := h
    rfl
  · obtain ⟨a, n, ks, rfl, hR, hS, q⟩ := h
    refine ⟨_, (pss_one (ps_ret (pe_lc (own := [("key", 1)]) (g := gName 1) (tt := tYes) rfl sc_ranks.nd (k_pi_tup K (pe_ix (k_ix_tup K) (pv 0) pe_int (fun _ _ => rfl))) (blkOk_by (own := [("key", 1)]) (N := N_ranks) (sc := defScope s_ranks) (by decide +kernel)) (fun _ _ _ _ _ => (pg_name (i := 1) sc_ranks.nd rfl (.inl rfl))) (fun _ _ _ _ _ => pts_nil) (fun _ _ _ _ _ => (pe_call G_rank (hr.mono (by omega)) (by rfl) T.g_rank T.F_rank.kp T.b_rank .nil pass0 (pa_cons (pv 1) pa_nil)))))), ?_⟩
    obtain ⟨a', k, ea, e1, e2⟩ := id hR
    cases ea
    have l6 := hS.len
    refine ⟨_, rfl, a, _, 1, .ref k, rfl, rfl, .inl (.inl e1), atI_nat (j := 1) rfl, k, rfl, ⟨_, .inl (.inl e2)⟩, fun D hD => ?_⟩
    refine lc_rel_tup (K := K) (fun H x y => ∃ z, x = .str z ∧ DV K H y (rankT z)) ?_ (by rw [List.length_map]; omega) hD e2 ?_ ?_
    · rintro H1 H2 x y acc hd _ k ⟨z, ex, d⟩
      exact ⟨z, ex, dv_rank_out hd k d⟩
    · intro x H2 hx s2 R hR2
      obtain ⟨z, hz, rfl⟩ := List.mem_map.mp hx
      exact ⟨_, rfl, z, rfl, Nat.le_trans (hS.keys z hz).2.1 (by decide), fun v H3 s3 d3 => hR2 v H3 s3 ⟨z, rfl, d3⟩⟩
    · intro H2 ys s2 e p
      exact q _ H2 s2 (Dp.lst (.inl (.inl e)) (paired_dp p))
theorem ok_walked (T : Txt K mg A) (B : Tb base mg A) : FnOk P w K mg base CX0 8 A.a_walked A.d_walked ["refs"] (spWalked K (tabsOf A)) := by
  have G_ranks := ok_ranks (P := P) (w := w) (base := base) T
  refine T.F_walked.okc T.kc_walked sc_walked (fun vs H Q E h => ?_) (fun Ar outer s H vs Q E hr h => ?_)
  · obtain ⟨a, L, rfl, _⟩ := h
    rfl
  · obtain ⟨a, L, rfl, hs, hR, hl, hk, hT, q⟩ := h
    refine ⟨_, (pss_one (ps_ret (pe_sortLam (T := tabsOf A) (k := 4) (N := ["ref"]) (by rfl) T.n_sorted (by decide +kernel) B.b_walked rfl rfl T.m_walked T.u_walked (hr.mono (by omega)) (by exact ⟨rfl, rfl, rfl, by decide +kernel, rfl, by decide +kernel, by decide +kernel⟩) (by intros; rfl) (fun _ _ _ _ _ _ hr => (pe_tup (pa_cons (pe_ix (k_ix_tup K) (pv 0) pe_int (fun _ _ => rfl)) (pa_cons (pe_call G_ranks (hr.mono (by omega)) (by rfl) T.g_ranks T.F_ranks.kp T.b_ranks .nil pass0 (pa_cons (pv 0) pa_nil)) pa_nil)))) (pa_cons (pv 0) pa_nil)))), ?_⟩
    refine ⟨_, rfl, a, L.map (fun e : Ent => V.ref e.2.1), keyE rankT H, rfl, hs, by rw [List.length_map]; omega, alikeE _, sortableE _, fun x hx => ?_, hT, fun H2 e2 T2 => ⟨fun x hx H3 s3 R h3 => ?_, fun p H4 hp s4 e4 => ?_⟩⟩
    · exact Nat.le_trans (PySem.W.Datum.depth_le _) (by decide)
    · obtain ⟨e, he, rfl⟩ := List.mem_map.mp hx
      have R3 := ((hR e he).ext e2).same s3
      rw [keyE_at (hR e he)] at h3
      obtain ⟨a', k, ea, e1, _⟩ := id R3
      cases ea
      refine ⟨_, rfl, e.2.1, _, 0, .str e.1.1, rfl, rfl, .inl (.inl e1), atI_nat (j := 0) rfl, _, rfl, e.2.1, e.1.1, e.1.2, rfl, R3, hk e he, fun v H5 s5 d5 => ⟨Evl.sz_of (by show 2 ≤ 100000; decide), fun p hp => h3 _ _ (s5.trans (same_new hp)) ?_⟩⟩
      exact Dp.tup (.inl (.inl upd_same)) (.cons (.str _) (.cons (dp_same (same_new hp) d5) .nil))
    · exact q p H4 (e2.back p hp) (e2.trans (.of s4)) (Tabs.same T2 s4) (by rw [e4, srt_map rankT_ok hR hk])
theorem ok_Arrays_rows (T : Txt K mg A) (B : Tb base mg A) : FnOk P w K mg base CX0 9 A.a_Arrays_rows A.d_Arrays_rows ["self", "ref"] (spRows w A.c_Arrays (tabsOf A)) := by
  have G_need_reference := ok_need_reference (P := P) (w := w) (base := base) T
  have G_Arrays_beneath := ok_Arrays_beneath (P := P) (w := w) (base := base) T
  have G_walked := ok_walked (P := P) (w := w) T B
  refine T.F_Arrays_rows.ok sc_Arrays_rows (fun vs H Q E h => ?_) (fun cdv Ar outer s H vs Q E hr h => ?_)
  · obtain ⟨p, d, a, es, n, ks, rfl, _⟩ := h
    rfl
  · obtain ⟨p, d, a, es, n, ks, rfl, hA, hG, hl, hR, hS, hT, q⟩ := h
    refine ⟨_, (pss_cons (ps_expr (pe_call G_need_reference (hr.mono (by omega)) (by rfl) T.g_need_reference T.F_need_reference.kp T.b_need_reference .nil pass0 (pa_cons (pv 1) pa_nil)))
      (pss_one (ps_ret (pe_lc (own := [("one", 2)]) (g := gName 2) (tt := tYes) (te := tTup (tCons (tVar 2) (tCons (tOp (rdIxN w) (tFld K (tVar 0) "nodes") (tVar 2)) tNil))) rfl sc_Arrays_rows.nd (k_pi_list K (pe_call G_walked (hr.mono (by omega)) (by rfl) T.g_walked T.F_walked.kp T.b_walked .nil pass0 (pa_cons (pe_meth (pv 0) T.cl_Arrays T.M_Arrays_beneath G_Arrays_beneath (hr.mono (by omega)) T.b_Arrays_beneath .nil pass0 (pa_cons (pv 1) pa_nil)) pa_nil))) (blkOk_by (own := [("one", 2)]) (N := N_Arrays_rows) (sc := defScope s_Arrays_rows) (by decide +kernel)) (fun _ _ _ _ _ => (pg_name (i := 2) sc_Arrays_rows.nd rfl (.inl rfl))) (fun _ _ _ _ _ => pts_nil) (fun _ _ _ _ _ => by exact (pe_tup (pa_cons (pv 2) (pa_cons (pe_ix (k_ixN w hr.units) (by exact (pe_fld (pv 0) rfl)) (pv 2) (fun _ _ => rfl)) pa_nil)))))))), ?_⟩
    have l6 := hS.len
    obtain ⟨⟨dx, ep⟩, _⟩ := id hA
    refine ⟨_, rfl, .ref a, rfD (n, ks), rfl, ref_rd hR, ref_bnd hS, ref_is hS, fun H1 s1 => ?_⟩
    have bl : (ndBelow es n ks).length ≤ 1000 := Nat.le_trans (List.length_filter_le _ _) hl
    refine ⟨_, rfl, p, dx, _, rfl, s1 _ _ ep, rfl, _, rfl, p, d, a, es, (n, ks), rfl, hA.same s1, hR.same s1, by show ks.length ≤ 1000; omega, hl, hG.refs, fun D0 H2 hD0 s2 e2 => ?_⟩
    have t2 := s1.trans s2
    have A2 := hA.same t2
    refine ⟨D0, ndBelow es n ks, rfl, .inl (.inl e2), refs_below A2.2.2 n ks, bl, hG.below n ks, Tabs.same hT t2, fun r H3 hr3 e3 T3 el => ?_⟩
    have u3 := (Ext2.of t2).trans e3
    have A3 := hA.ext u3
    refine ⟨r, rfl, ⟨_, .inl (.inl el)⟩, fun D hD => ?_⟩
    refine lc_rel_ents (K := K) RowF rowF_out (by rw [srt_len]; omega) hD (.inl (.inl el)) (fun e H4 he s4 R h4 => ?_) (fun H4 ys s4 e4 p4 => ?_)
    · have hin : e ∈ es := (List.mem_filter.mp (srt_mem.mp he)).1
      have A4 := A3.same s4
      obtain ⟨⟨dx4, ep4⟩, _⟩ := id A4
      refine ⟨_, rfl, _, rfl, p, A.c_Arrays, dx4, _, _, rfl, ep4, T.cl_Arrays, T.na_Arrays_nodes, rfl, _, rfl, d, e.2.1, es, e.1, e.2.2, rfl, rfl, A4.2.2 e hin, A4.2.rd, get_of hG.nd hin, Evl.sz_of (by show 2 ≤ 100000; decide), fun p5 hp5 => h4 _ _ (same_new hp5) ⟨p5, rfl, upd_same⟩⟩
    · refine q D ys H4 ?_ (u3.trans (.of s4)) (Tabs.same T3 s4) e4 (rows_rd (refs_srt (refs_below (A3.same s4).2.2 n ks)) (fun e he => hG.wor e (List.mem_filter.mp (srt_mem.mp he)).1) p4)
      exact u3.back D hD
theorem ok_need_job (T : Txt K mg A) : FnOk P w K mg base CX0 1 A.a_need_job A.d_need_job ["thing"] spNeedJob := by
  refine T.F_need_job.ok sc_need_job (fun vs H Q E h => ?_) (fun cdv Ar outer s H vs Q E hr h => ?_)
  · obtain ⟨j, rfl, _⟩ := h
    rfl
  · obtain ⟨j, rfl, j0, q⟩ := h
    refine ⟨_, (pss_one (ps_if (PW.pt (pw_or (pt_not (pt_val (pe_callB (k_isi K) (by rfl) T.n_isinstance (by decide +kernel) (pa_cons (pv 0) (pa_cons (pe_bltn (v := .ty "int") (by rfl) T.n_int (by decide +kernel) rfl) pa_nil))))) (pw_or (pt_val (pe_callB (k_isi K) (by rfl) T.n_isinstance (by decide +kernel) (pa_cons (pv 0) (pa_cons (pe_bltn (v := .ty "bool") (by rfl) T.n_bool (by decide +kernel) rfl) pa_nil)))) (pw_or1 (pt_cmpR op_lt (pv 0) pe_int (nomark _))))))
      (pss_one ps_never)
      pss_nil)), ?_⟩
    refine ⟨_, rfl, .int j, .ty "int", _, _, _, rfl, .ty "int", (Rd.int j).ty, kit_inst (d := .int j) (T := "int") (by decide), _, rfl, iteF ?_⟩
    refine ⟨_, rfl, .int j, .ty "bool", _, _, _, rfl, .ty "bool", (Rd.int j).ty, kit_inst (d := .int j) (T := "bool") (by decide), _, rfl, iteF ?_⟩
    refine ⟨_, rfl, j, 0, rfl, rfl, _, rfl, ?_⟩
    rw [decide_eq_false (by omega)]
    exact iteF (q _ (.refl _))
theorem ok_Dealings_init (T : Txt K mg A) : FnOk P w K mg base CX0 1 A.a_Dealings___init A.d_Dealings___init ["self", "arrays"] (spDlInit A.c_Dealings) := by
  refine T.F_Dealings___init.ok sc_Dealings___init (fun vs H Q E h => ?_) (fun cdv Ar outer s H vs Q E hr h => ?_)
  · obtain ⟨g, p, dg, rfl, _⟩ := h
    rfl
  · obtain ⟨g, p, dg, rfl, hg, q⟩ := h
    refine ⟨_, (pss_cons (ps_fld (pv 0) (pv 1) rfl)
      (pss_cons (ps_fld (pv 0) pe_dnewK rfl)
      (pss_one (ps_fld (pv 0) pe_dnewK rfl)))), ?_⟩
    refine ⟨_, rfl, _, rfl, g, A.c_Dealings, dg, [], rfl, hg, T.cl_Dealings, T.na_Dealings_shelf, (by show 0 < 1000; decide), ?_⟩
    generalize e1 : upd H g _ = H1
    have g1 : H1 g = some (.ins A.c_Dealings dg [(Str.ofString "shelf", .ref p)]) := by rw [← e1]; exact upd_same
    have k1 : ∀ b u, b ≠ g → H b = some u → H1 b = some u := fun b u n e => by rw [← e1, upd_ne n]; exact e
    refine fun bd hbd => ?_
    have nb : g ≠ bd := ne_of_none g1 hbd
    have b0 : H bd = none := by rw [← e1, upd_ne nb.symm] at hbd; exact hbd
    refine ⟨_, rfl, g, A.c_Dealings, dg, _, rfl, (by rw [upd_ne nb]; exact g1), T.cl_Dealings, T.na_Dealings_begun, (by show 1 < 1000; decide), ?_⟩
    generalize e2 : upd (upd H1 bd _) g _ = H2
    have g2 : H2 g = some (.ins A.c_Dealings dg [(Str.ofString "shelf", .ref p), (Str.ofString "begun", .ref bd)]) := by rw [← e2]; exact upd_same
    have b2 : H2 bd = some (.dK []) := by rw [← e2, upd_ne nb.symm]; exact upd_same
    have k2 : ∀ b u, b ≠ g → H1 b = some u → H2 b = some u := fun b u n e => by rw [← e2, upd_ne n, upd_ne (ne_of_none e hbd)]; exact e
    refine fun td htd => ?_
    have nt : g ≠ td := ne_of_none g2 htd
    have nbt : bd ≠ td := ne_of_none b2 htd
    have t1 : H1 td = none := by rw [← e2, upd_ne nt.symm, upd_ne nbt.symm] at htd; exact htd
    have t0 : H td = none := by rw [← e1, upd_ne nt.symm] at t1; exact t1
    refine ⟨_, rfl, g, A.c_Dealings, dg, _, rfl, (by rw [upd_ne nt]; exact g2), T.cl_Dealings, T.na_Dealings_touches, (by show 2 < 1000; decide), ?_⟩
    refine q _ bd td b0 t0 nbt (fun b u e n => ?_) upd_same ?_ ?_
    · rw [upd_ne n, upd_ne (ne_of_none (k2 b u n (k1 b u n e)) htd)]
      exact k2 b u n (k1 b u n e)
    · rw [upd_ne nb.symm, upd_ne nbt]; exact b2
    · rw [upd_ne nt.symm]; exact upd_same
theorem ok_Dealings_level (T : Txt K mg A) : FnOk P w K mg base CX0 2 A.a_Dealings_level A.d_Dealings_level ["self", "job"] (spDlLevel w A.c_Arrays A.c_Dealings) := by
  have G_need_job := ok_need_job (P := P) (w := w) (base := base) T
  refine T.F_Dealings_level.ok sc_Dealings_level (fun vs H Q E h => ?_) (fun cdv Ar outer s H vs Q E hr h => ?_)
  · obtain ⟨s, R, U, J, Bd, j, rfl, _⟩ := h
    rfl
  · obtain ⟨s, R, U, J, Bd, j, rfl, j0, hD, q⟩ := h
    refine ⟨_, (pss_cons (ps_expr (pe_call G_need_job (hr.mono (by omega)) (by rfl) T.g_need_job T.F_need_job.kp T.b_need_job .nil pass0 (pa_cons (pv 1) pa_nil)))
      (pss_one (ps_ret (pe_callB (k_len K) (by rfl) T.n_len PySem.boot_len (pa_cons (pe_dget2 (hu_of hr) (pe_fld (pv 0) rfl) (pv 1) (pe_lst pa_nil) (by exact ⟨rfl, rfl, rfl, rfl⟩)) pa_nil))))), ?_⟩
    refine ⟨_, rfl, j, rfl, j0, fun H1 s1 => ?_⟩
    have D1 := hD.same s1
    refine ⟨_, rfl, s.g, A.c_Dealings, s.dg, _, _, rfl, D1.cg, T.cl_Dealings, T.na_Dealings_begun, rfl, s.bd, rfl, .inl ⟨_, .inl D1.cb⟩, _, rfl, ?_⟩
    refine ⟨Evl.sz_of (by show 0 ≤ 100000; decide), fun e0 he0 => ?_⟩
    have s2 : Same H1 (upd H1 e0 (.lst [])) := same_new he0
    have D2 := D1.same s2
    refine ⟨_, .inl ⟨_, .inl j, .inl D2.cb, rfl, (val_kvJ s.bg j).symm⟩, ?_⟩
    cases hx : asg s.bg j with
    | none =>
      refine ⟨e0, [], rfl, .inl (.inl (.inl upd_same)), ?_⟩
      have := q _ (s1.trans s2)
      rw [stk_no hx] at this
      exact this
    | some x =>
      refine ⟨x.2.1, _, rfl, .inl (.inl (.inl (D2.cs (asg_mem hx).1))), ?_⟩
      have := q _ (s1.trans s2)
      rw [stk_of hx] at this
      rw [List.length_map] at this ⊢
      exact this
theorem ok_Dealings_note (T : Txt K mg A) : FnOk P w K mg base CX0 3 A.a_Dealings_note A.d_Dealings_note ["self", "job", "ref", "rows"] (spNote w A.c_Arrays A.c_Dealings (tabsOf A)) := by
  have G_Dealings_level := ok_Dealings_level (P := P) (w := w) (base := base) T
  refine T.F_Dealings_note.ok sc_Dealings_note (fun vs H Q E h => ?_) (fun cdv Ar outer s H vs Q E hr h => ?_)
  · obtain ⟨s, R, U, J, Bd, j, a, l, r, ys, m, rfl, _⟩ := h
    rfl
  · obtain ⟨s, R, U, J, Bd, j, a, l, r, ys, m, rfl, j0, hj, hD, hR, hS, hu, hl, nl, hm, hg, hB, q⟩ := h
    refine ⟨_, (pss_one (ps_if (pt_cmpR op_gt (pe_meth (pv 0) T.cl_Dealings T.M_Dealings_level G_Dealings_level (hr.mono (by omega)) T.b_Dealings_level .nil pass0 (pa_cons (pv 1) pa_nil)) pe_int (nomark _))
      (pss_cons (ps_asg pe_bl (pg_sub (pe_dsetd (pe_fld (pv 0) rfl) (pv 1) (k_newN w) (by exact ⟨rfl, rfl, rfl, rfl⟩)) (pv 2) (k_setN w hr.units)))
      (pss_one (ps_expr (k_bm K PySem.F.plainAttrs_list PySem.F.slot_list_extend PySem.F.type_list_extend mt_extend (pe_ix (k_ix_list K) (pe_dget (hu_of hr) (pe_fld (pv 0) rfl) (pv 1) (fun _ _ => rfl)) (pe_un un_neg pe_int) (fun _ _ => rfl)) (pa_cons (pv 3) pa_nil)))))
      pss_nil)), ?_⟩
    refine ⟨_, rfl, s.g, s.dg, _, rfl, hD.cg, rfl, _, rfl, s, R, U, J, Bd, j, rfl, j0, hD, fun H1 s1 => ⟨_, _, rfl, rfl, _, rfl, ?_⟩⟩
    have D1 := hD.same s1
    by_cases hne : stk s j = []
    · rw [hne]
      rw [decide_eq_false (by decide)]
      refine iteF ?_
      have le : Bd ≤ Bd + m.length := Nat.le_add_right _ _
      refine q H1 s (.same s1) (.refl _) ⟨D1.hold, D1.refs, D1.good, D1.wor, D1.bk, D1.tk, D1.bj, D1.tj, D1.rws, D1.trf, D1.uni, D1.ul, D1.jl, fun y hy => ⟨Nat.le_trans (D1.rl y hy).1 le, Nat.le_trans (D1.rl y hy).2 le⟩, hB⟩ rfl (fun i => ?_) (fun i => ?_)
      · by_cases c : i = j
        · rw [if_pos c, c, hne]; rfl
        · rw [if_neg c]
      · by_cases c : i = j
        · rw [if_pos c, c]; unfold noteT; rw [if_pos hne]
        · rw [if_neg c]
    · rw [decide_eq_true (by have := List.length_pos_iff.mpr hne; omega)]
      refine iteT ?_
      obtain ⟨x, hx⟩ := stk_ne hne
      obtain ⟨st0, y0, est⟩ : ∃ st y1, x.2.2 = st ++ [y1] := by
        rcases List.eq_nil_or_concat x.2.2 with h | ⟨st, y, h⟩
        · exact absurd (by rw [stk_of hx, h]; rfl) hne
        · exact ⟨st, y, by rw [h, List.concat_eq_append]⟩
      have hstk : stk s j = st0.map (·.2.2) ++ [y0.2.2] := by rw [stk_of hx, est, List.map_append]; rfl
      have hns : noteS (stk s j) m = st0.map (·.2.2) ++ [y0.2.2 ++ m] := by
        rw [hstk]
        unfold noteS
        rw [List.getLast?_concat, List.dropLast_concat]
      have bl : s.tc.length ≤ 50 := Nat.le_trans (keys_le hD.tk hD.tj) hD.jl
      have step : ∀ (H2 : Hp) (s2 : DlS), DlIn w A.c_Arrays A.c_Dealings U J Bd H2 s2 R → Pers (tabsOf A) H H2 → Fix s s2 → s2.es = s.es → s2.bg = s.bg → (∀ i, tch s2 i = if i = j then noteT (stk s j) (tch s j) r else tch s i) → H2 l = some (.lst ys) →
          H2 s.g = some (insG A.c_Dealings s2) ∧ H2 s2.bd = some (.dK (s.bg.map kvJ)) ∧ H2 x.2.1 = some (.lst ((st0.map fun y => V.ref y.1) ++ [V.ref y0.1])) ∧ H2 y0.1 = some (.lst y0.2.1) ∧ y0.2.1.length + ys.length ≤ sizeLine ∧ Q .non (upd H2 y0.1 (.lst (y0.2.1 ++ ys))) := fun H2 s2 D2 k2 F2 e2 eb2 t2 l2 => by
        have hx2 : asg s2.bg j = some x := by rw [eb2]; exact hx
        obtain ⟨s3, D3, k3, F3, e3, t3, S3, ey, ly⟩ := D2.extend (T := tabsOf A) hx2 est (L2.Paired.mapP hm fun _ _ c => c.pers k2) hg hB
        have hm2 := (asg_mem hx2).1
        have lm := paired_len hm
        refine ⟨by have := D2.cg; rwa [F2.g] at this, by have := D2.cb; rwa [eb2] at this, ?_, ey, sz_bigE (by omega), q _ s3 (k2.trans k3) (F2.trans F3) D3 (e3.trans e2) (fun i => ?_) (fun i => ?_)⟩
        · have := D2.cs hm2
          rw [est, ← stkL_snoc] at this
          exact this
        · rw [S3 i, hns]
          by_cases c : i = j
          · rw [if_pos c, if_pos c]
          · rw [if_neg c, if_neg c]
            show stkV (asg s2.bg i) = _
            rw [eb2]
            try rfl
        · rw [← t2 i]
          show tchV (asg s3.tc i) = tchV (asg s2.tc i)
          rw [t3]
      refine ⟨_, rfl, s.g, A.c_Dealings, s.dg, _, _, rfl, D1.cg, T.cl_Dealings, T.na_Dealings_touches, rfl, s.td, rfl, .inl ⟨_, .inl D1.ct⟩, _, rfl, fun p1 hp1 => ?_⟩
      have s2 : Same H1 (upd H1 p1 (ndO w p1 [])) := same_new hp1
      have D2 := D1.same s2
      have l1 := s1 _ _ hl
      refine ⟨_, .inl j, D2.ct, rfl, Evl.sz_lt (by rw [List.length_map]; omega), fun v hv => ?_, fun hv => ?_⟩
      · rw [val_kvJ] at hv
        cases hy : asg s.tc j with
        | none => rw [hy] at hv; cases hv
        | some t =>
          rw [hy] at hv
          cases hv
          have R2 := (hR.same s1).same s2
          obtain ⟨s3, D3, k3, F3, e3, b3, t3⟩ := D2.touchSet (T := tabsOf A) hy R2 hS hu
          have hn := D2.cn (asg_mem hy).1
          have kk : Pers (tabsOf A) H (upd (upd H1 p1 (ndO w p1 [])) t.2.1 (ndO w t.2.1 (ndPut t.2.2 r a (.bl true)))) := ((Pers.same s1).trans (.same s2)).trans k3
          have ll := lst_mob (u := ndO w t.2.1 (ndPut t.2.2 r a (.bl true))) (s2 _ _ l1) hn.1 (fun _ z => nomatch z)
          have lt : t.2.2.length ≤ 1000 := by
            have tr := hD.trf t (asg_mem hy).1
            have := List.Nodup.length_le_of_subset tr.2.1 (l₂ := U) fun y hy => by
              obtain ⟨z, hz, rfl⟩ := List.mem_map.mp hy
              exact (tr.2.2 z hz).2
            rw [List.length_map] at this
            exact Nat.le_trans this hD.ul
          obtain ⟨g1, g2, g3, g4, g5, g6⟩ := step _ s3 D3 kk F3 e3 b3 (fun i => by
            rw [t3 i, put_keysT, tch_of hy]
            unfold noteT
            rw [if_neg hne]) ll
          refine ⟨_, rfl, t.2.1, a, t.2.2, r, rfl, rfl, R2, hn, Evl.sz_lt (by omega), ?_⟩
          exact ⟨_, rfl, s.g, A.c_Dealings, _, _, _, rfl, g1, T.cl_Dealings, T.na_Dealings_begun, rfl, _, rfl, s3.bd, .ref x.2.1, rfl, .inl ⟨_, .inl j, .inl g2, rfl, by rw [val_kvJ, hx]; rfl⟩, 1, rfl, x.2.1, _, -1, .ref y0.1, rfl, rfl, .inl (.inl g3), atI_last _ _, .inl ⟨rfl, _, .inl (.inl g4)⟩, _, rfl, y0.1, l, _, _, rfl, rfl, g4, ll, g5, g6⟩
      · have hn : asg s.tc j = none := by
          rw [val_kvJ] at hv
          cases hy : asg s.tc j with
          | none => rfl
          | some t => rw [hy] at hv; cases hv
        obtain ⟨hnd, D3, k3, R3⟩ := D1.touchNew (T := tabsOf A) hj hn hp1 (hR.same s1) hS hu rfl
        have kk := (Pers.same (T := tabsOf A) s1).trans k3
        have ll : upd (upd (upd H1 p1 (ndO w p1 [])) s.td (.dK (putK (s.tc.map kvJ) (.inl j) (.ref p1)))) p1 (ndO w p1 (ndPut [] r a (.bl true))) l = some (.lst ys) :=
          lst_mob (lst_mob (s2 _ _ l1) D2.ct (fun _ z => nomatch z)) hnd.1 (fun _ z => nomatch z)
        obtain ⟨g1, g2, g3, g4, g5, g6⟩ := step _ { s with tc := s.tc ++ [(j, p1, ndPut [] r a (.bl true))] } D3 kk ⟨rfl, rfl, rfl⟩ rfl rfl (fun i => by
          rw [tch_new hn]
          unfold noteT
          rw [if_neg hne, tch_no hn]
          by_cases c : i = j
          · rw [if_pos c, if_pos c]; try rfl
          · rw [if_neg c, if_neg c]) ll
        refine ⟨_, rfl, p1, a, [], r, rfl, rfl, R3, hnd, Evl.sz_lt (by show 0 < 100000; decide), ?_⟩
        exact ⟨_, rfl, s.g, A.c_Dealings, _, _, _, rfl, g1, T.cl_Dealings, T.na_Dealings_begun, rfl, _, rfl, s.bd, .ref x.2.1, rfl, .inl ⟨_, .inl j, .inl g2, rfl, by rw [val_kvJ, hx]; rfl⟩, 1, rfl, x.2.1, _, -1, .ref y0.1, rfl, rfl, .inl (.inl g3), atI_last _ _, .inl ⟨rfl, _, .inl (.inl g4)⟩, _, rfl, y0.1, l, _, _, rfl, rfl, g4, ll, g5, g6⟩
theorem ok_Dealings_need_free (T : Txt K mg A) : FnOk P w K mg base CX0 3 A.a_Dealings_need_free A.d_Dealings_need_free ["self", "job", "ref"] (spNeedFree w A.c_Arrays A.c_Dealings) := by
  have G_meet := ok_meet (P := P) (w := w) (base := base) T
  refine T.F_Dealings_need_free.ok sc_Dealings_need_free (fun vs H Q E h => ?_) (fun cdv Ar outer s H vs Q E hr h => ?_)
  · obtain ⟨s, R, U, J, Bd, j, a, r, rfl, _⟩ := h
    rfl
  · obtain ⟨s, R, U, J, Bd, j, a, r, rfl, hD, hR, lr, hF, q⟩ := h
    refine ⟨_, (pss_one (ps_for PassesOwn.never rfl (k_pi_list K (pe_callB (call_sortedDI rfl) (by rfl) T.n_sorted (by decide +kernel) (pa_cons (pe_fld (pv 0) rfl) pa_nil))) (pg_name (i := 3) sc_Dealings_need_free.nd rfl (.inl rfl))
      (pss_one (ps_if (pt_cmpR op_ne (pv 3) (pv 1) (nomark _))
      (pss_one (ps_lock (ps_for PassesOwn.never rfl (k_pi_nd w (pe_dget (hu_of hr) (pe_fld (pv 0) rfl) (pv 3) (fun _ _ => rfl))) (pg_name (i := 4) sc_Dealings_need_free.nd rfl (.inl rfl))
      (pss_one (ps_if (pt_val (pe_call G_meet (hr.mono (by omega)) (by rfl) T.g_meet T.F_meet.kp T.b_meet .nil pass0 (pa_cons (pv 4) (pa_cons (pv 2) pa_nil))))
      (pss_one ps_never)
      pss_nil)))))
      pss_nil)))), ?_⟩
    have tl : s.tc.length ≤ 50 := Nat.le_trans (keys_le hD.tk hD.tj) hD.jl
    refine ⟨_, rfl, s.g, A.c_Dealings, s.dg, _, _, rfl, hD.cg, T.cl_Dealings, T.na_Dealings_touches, rfl, s.td, _, s.tc.map (·.1), rfl, .inl hD.ct, by rw [List.map_map, List.map_map]; rfl, by rw [List.length_map]; omega, fun ys p hp _ np => ?_⟩
    have s1 : Same H (upd H p (.lst (ys.map V.int))) := same_new np
    have ep : upd H p (.lst (ys.map V.int)) p = some (.lst (ys.map V.int)) := upd_same
    generalize upd H p (.lst (ys.map V.int)) = H1 at s1 ep ⊢
    refine ⟨p, rfl, ⟨_, .inl (.inl ep)⟩, ?_⟩
    refine for_list (K := K) (D := { nx := fun _ H' => Q V.non H', rt := Q }) (a := p) (xs := ys.map V.int) (fun i σ H' => Same H1 H' ∧ ∃ y3 y4, σ = [some (.ref s.g), some (.int j), some (.ref a), y3, y4]) ⟨.refl _, _, _, rfl⟩ (fun i σ H' _ h => .inl (.inl (h.1 _ _ ep))) ?_ ?_
    · rintro i y σ H' hi ⟨s2, y3, y4, rfl⟩
      obtain ⟨o, ho, rfl⟩ : ∃ o, o ∈ ys ∧ V.int o = y := by
        obtain ⟨o, h1, h2⟩ := List.mem_map.mp (List.mem_of_getElem? hi)
        exact ⟨o, h1, h2⟩
      refine ⟨_, rfl, _, rfl, rfl, _, rfl, ?_⟩
      by_cases c : o = j
      · rw [decide_eq_true (congrArg V.int c)]
        exact iteF ⟨s2, _, _, rfl⟩
      · rw [decide_eq_false (fun z => c (V.int.inj z))]
        have t2 := s1.trans s2
        have D2 := hD.same t2
        obtain ⟨x, hx⟩ : ∃ x, asg s.tc o = some x := by
          cases e : asg s.tc o with
          | some x => exact ⟨x, rfl⟩
          | none =>
            obtain ⟨x, hx, ex⟩ := List.mem_map.mp (hp.mem_iff.mp ho)
            exact absurd ex (asg_none.mp e x hx)
        have hn := D2.cn (asg_mem hx).1
        refine iteT ?_
        refine ⟨x.2.1, ndO w x.2.1 x.2.2, hn.1, True.intro, fun od => ?_⟩
        have keep : ∀ {c : Addr} {u : HO}, H' c = some u → (∀ es, u ≠ ndO w x.2.1 es) → upd H' x.2.1 (.frz od (ndO w x.2.1 x.2.2)) c = some u := fun {c u} e n => by
          rw [upd_ne (fun z => n x.2.2 (by rw [z, hn.1] at e; exact (Option.some.inj e).symm))]
          exact e
        have back : ∀ H3, Same (upd H' x.2.1 (.frz od (ndO w x.2.1 x.2.2))) H3 → Same H' (upd H3 x.2.1 (ndO w x.2.1 x.2.2)) := fun H3 s => lock_same hn.1 s
        have eL : upd H' x.2.1 (.frz od (ndO w x.2.1 x.2.2)) x.2.1 = some (.frz od (ndO w x.2.1 x.2.2)) := upd_same
        have rL : ∀ e ∈ x.2.2, RefAt (upd H' x.2.1 (.frz od (ndO w x.2.1 x.2.2))) (.ref e.2.1) e.1.1 e.1.2 := fun e he => (hn.2 e he).frz hn.1
        have RL : RefAt (upd H' x.2.1 (.frz od (ndO w x.2.1 x.2.2))) (.ref a) r.1 r.2 := (hR.same t2).frz hn.1
        refine ⟨_, rfl, s.g, A.c_Dealings, s.dg, _, _, rfl, keep D2.cg (fun _ z => nomatch z), T.cl_Dealings, T.na_Dealings_touches, rfl, _, rfl, s.td, .ref x.2.1, rfl, .inl ⟨_, .inl o, .inl (keep D2.ct (fun _ z => nomatch z)), rfl, by rw [val_kvJ, hx]; rfl⟩, x.2.1, od, x.2.2, rfl, eL, ?_⟩
        generalize upd H' x.2.1 (.frz od (ndO w x.2.1 x.2.2)) = HL at back eL rL RL
        refine for_nd (fun i σ H3 => Same HL H3 ∧ ∃ y4, σ = [some (.ref s.g), some (.int j), some (.ref a), some (.int o), y4]) ⟨.refl _, _, rfl⟩ (fun i σ H3 _ h => h.1 _ _ eL) ?_ ?_
        · rintro i e σ H3 he ⟨s3, y4', rfl⟩
          have hin := List.mem_of_getElem? he
          have trf := (hD.trf x (asg_mem hx).1).2.2 e hin
          have ll := trf.1.len
          refine ⟨_, rfl, _, rfl, .ref e.2.1, .ref a, e.1.1, e.1.2, r.1, r.2, rfl, (rL e hin).same s3, RL.same s3, by omega, lr, fun H4 s4 => ⟨_, rfl, ?_⟩⟩
          rw [hF o c e.1 (by rw [tch_of hx]; exact List.mem_map.mpr ⟨e, hin, rfl⟩)]
          exact iteF ⟨s3.trans s4, _, rfl⟩
        · rintro σ H3 ⟨s3, y4', rfl⟩
          exact ⟨s3 _ _ eL, s2.trans (back H3 s3), _, _, rfl⟩
    · rintro σ H' ⟨s2, y3, y4, rfl⟩
      exact q _ (s1.trans s2)
theorem ok_Dealings_put (T : Txt K mg A) : FnOk P w K mg base CX0 6 A.a_Dealings_put A.d_Dealings_put ["self", "job", "ref", "worth"] (spDlPut w A.c_Arrays A.c_Dealings (tabsOf A)) := by
  have G_need_job := ok_need_job (P := P) (w := w) (base := base) T
  have G_need_reference := ok_need_reference (P := P) (w := w) (base := base) T
  have G_need_worth := ok_need_worth (P := P) (w := w) (base := base) T
  have G_Dealings_need_free := ok_Dealings_need_free (P := P) (w := w) (base := base) T
  have G_Dealings_note := ok_Dealings_note (P := P) (w := w) (base := base) T
  have G_Arrays_read := ok_Arrays_read (P := P) (w := w) (base := base) T
  have G_Arrays_put := ok_Arrays_put (P := P) (w := w) (base := base) T
  refine T.F_Dealings_put.ok sc_Dealings_put (fun vs H Q E h => ?_) (fun cdv Ar outer s H vs Q E hr h => ?_)
  · obtain ⟨s, R, U, J, Bd, j, a, r, x, rfl, _⟩ := h
    rfl
  · obtain ⟨s, R, U, J, Bd, j, a, r, x, rfl, j0, hj, hD, hR, hS, hu, hF, hw, hx, hB, q⟩ := h
    refine ⟨_, (pss_cons (ps_expr (pe_call G_need_job (hr.mono (by omega)) (by rfl) T.g_need_job T.F_need_job.kp T.b_need_job .nil pass0 (pa_cons (pv 1) pa_nil)))
      (pss_cons (ps_expr (pe_call G_need_reference (hr.mono (by omega)) (by rfl) T.g_need_reference T.F_need_reference.kp T.b_need_reference .nil pass0 (pa_cons (pv 2) pa_nil)))
      (pss_cons (ps_expr (pe_call G_need_worth (hr.mono (by omega)) (by rfl) T.g_need_worth T.F_need_worth.kp T.b_need_worth .nil pass0 (pa_cons (pv 3) pa_nil)))
      (pss_cons (ps_expr (pe_meth (pv 0) T.cl_Dealings T.M_Dealings_need_free G_Dealings_need_free (hr.mono (by omega)) T.b_Dealings_need_free .nil pass0 (pa_cons (pv 1) (pa_cons (pv 2) pa_nil))))
      (pss_cons (ps_expr (pe_meth (pv 0) T.cl_Dealings T.M_Dealings_note G_Dealings_note (hr.mono (by omega)) T.b_Dealings_note .nil pass0 (pa_cons (pv 1) (pa_cons (pv 2) (pa_cons (pe_lst (pa_cons (pe_tup (pa_cons (pv 2) (pa_cons (pe_methN (pe_fld (pv 0) rfl) T.cl_Arrays T.M_Arrays_read G_Arrays_read (hr.mono (by omega)) T.kb_Arrays_read__2_otherwise pass0 (pa_cons (pv 2) pa_nil) (pk_cons pe_non pk_nil)) pa_nil))) pa_nil)) pa_nil)))))
      (pss_one (ps_expr (pe_meth (pe_fld (pv 0) rfl) T.cl_Arrays T.M_Arrays_put G_Arrays_put (hr.mono (by omega)) T.b_Arrays_put .nil pass0 (pa_cons (pv 2) (pa_cons (pv 3) pa_nil)))))))))), ?_⟩
    have l6 := hS.len
    refine ⟨_, rfl, j, rfl, j0, fun H1 s1 => ?_⟩
    refine ⟨_, rfl, .ref a, refD r.1 r.2, rfl, ref_rd (hR.same s1), ref_bnd hS, ref_is hS, fun H2 s2 => ?_⟩
    have t2 := s1.trans s2
    refine ⟨_, rfl, .str x, .str x, rfl, .str x, .str (by omega), decide_eq_true hw, fun H3 s3 => ?_⟩
    have t3 := t2.trans s3
    have D3 := hD.same t3
    refine ⟨_, rfl, s.g, s.dg, _, rfl, D3.cg, rfl, _, rfl, _, rfl, s, R, U, J, Bd, j, a, r, rfl, D3, hR.same t3, by omega, hF, fun H4 s4 => ?_⟩
    have t4 := t3.trans s4
    have D4 := hD.same t4
    refine ⟨_, rfl, s.g, s.dg, _, rfl, D4.cg, rfl, _, rfl, _, rfl, _, rfl, _, rfl, s.g, A.c_Dealings, s.dg, _, _, rfl, D4.cg, T.cl_Dealings, T.na_Dealings_shelf, rfl, s.p, s.dp, _, rfl, D4.cp, rfl, _, rfl, rfl, rfl, s.p, s.d, a, s.es, r, .non, rfl, D4.ar, hR.same t4, hS, fun H5 s5 => ⟨Evl.sz_of (by show 2 ≤ 100000; decide), fun t1 ht1 => ⟨Evl.sz_of (by show 1 ≤ 100000; decide), fun l1 hl1 => ?_⟩⟩⟩
    have t5 := t4.trans s5
    have hv : (ndGet s.es r).getD .non = (pGet (s.es.map pr) r).getD .non := by rw [get_pr]
    have hvg : GoodC U (r, (pGet (s.es.map pr) r).getD .non) := ⟨hS, hu, by
      rw [← hv]
      cases e : ndGet s.es r with
      | none => exact .inl rfl
      | some v =>
        unfold ndGet at e
        obtain ⟨en, he, rfl⟩ := Option.map_eq_some_iff.mp e
        exact .inr (hD.wor en (List.mem_of_find?_eq_some he))⟩
    rw [hv] at hl1 ⊢
    have s6 : Same H5 (upd H5 t1 (.tup [.ref a, (pGet (s.es.map pr) r).getD .non])) := same_new ht1
    have et1 : upd H5 t1 (.tup [.ref a, (pGet (s.es.map pr) r).getD .non]) t1 = some (.tup [.ref a, (pGet (s.es.map pr) r).getD .non]) := upd_same
    generalize upd H5 t1 (.tup [.ref a, (pGet (s.es.map pr) r).getD .non]) = H6 at s6 et1 hl1 ⊢
    have s7 : Same H6 (upd H6 l1 (.lst [.ref t1])) := same_new hl1
    have el1 : upd H6 l1 (.lst [.ref t1]) l1 = some (.lst [.ref t1]) := upd_same
    have t7 := (t5.trans s6).trans s7
    have D7 := hD.same t7
    have nl : l1 ∉ (memOf w A.c_Arrays A.c_Dealings s).map (·.1) := fun hm => by
      obtain ⟨u, hu, e⟩ := List.mem_map.mp hm
      exact ne_of_none ((hD.same (t5.trans s6)).hold.has u (List.mem_append_left _ hu)) hl1 e
    refine ⟨s, R, U, J, Bd, j, a, l1, r, [.ref t1], [(r, (pGet (s.es.map pr) r).getD .non)], rfl, j0, hj, D7, hR.same t7, hS, hu, el1, nl, .cons ⟨t1, a, rfl, s7 _ _ et1, hR.same t7⟩ .nil, fun c hc => by rw [List.mem_singleton.mp hc]; exact hvg, hB, fun H8 s' k8 F8 D8 e8 S8 T8 => ?_⟩
    have cg8 : H8 s.g = some (insG A.c_Dealings s') := by have := D8.cg; rwa [F8.g] at this
    have cp8 : H8 s.p = some (insP A.c_Arrays s') := by have := D8.cp; rwa [F8.p] at this
    have sh : insG A.c_Dealings s' = .ins A.c_Dealings s'.dg [(Str.ofString "shelf", .ref s.p), (Str.ofString "begun", .ref s'.bd), (Str.ofString "touches", .ref s'.td)] := by unfold insG; rw [F8.p]
    rw [sh] at cg8
    have kk : Pers (tabsOf A) H H8 := (Pers.same t7).trans k8
    have R8 := hR.pers kk
    have ar8 : ArAt w A.c_Arrays H8 s.p s'.d s'.es := by have := D8.ar; rwa [F8.p] at this
    refine ⟨_, rfl, s.g, A.c_Dealings, s'.dg, _, _, rfl, cg8, T.cl_Dealings, T.na_Dealings_shelf, rfl, s.p, s'.dp, _, rfl, cp8, rfl, _, rfl, _, rfl, s.p, s'.d, a, s'.es, r, x, rfl, ar8, R8, hS, hw, hx, D8.elen, fun H9 s9 => ?_⟩
    obtain ⟨D10, k10⟩ := (D8.same s9).putEs (T := tabsOf A) (R8.same s9) hS hu hw hx
    refine q _ { s' with es := ndPut s'.es r a (.str x) } (kk.trans ((Pers.same s9).trans k10)) ⟨F8.g, F8.p, F8.d⟩ D10 (by rw [put_pr, e8]) S8 T8
theorem ok_Dealings_kill (T : Txt K mg A) (B : Tb base mg A) : FnOk P w K mg base CX0 10 A.a_Dealings_kill A.d_Dealings_kill ["self", "job", "ref"] (spDlKill w A.c_Arrays A.c_Dealings (tabsOf A)) := by
  have G_need_job := ok_need_job (P := P) (w := w) (base := base) T
  have G_need_reference := ok_need_reference (P := P) (w := w) (base := base) T
  have G_Dealings_need_free := ok_Dealings_need_free (P := P) (w := w) (base := base) T
  have G_Dealings_note := ok_Dealings_note (P := P) (w := w) (base := base) T
  have G_Arrays_rows := ok_Arrays_rows (P := P) (w := w) T B
  have G_Arrays_kill := ok_Arrays_kill (P := P) (w := w) (base := base) T
  refine T.F_Dealings_kill.ok sc_Dealings_kill (fun vs H Q E h => ?_) (fun cdv Ar outer s H vs Q E hr h => ?_)
  · obtain ⟨s, R, U, J, Bd, j, a, r, rfl, _⟩ := h
    rfl
  · obtain ⟨s, R, U, J, Bd, j, a, r, rfl, j0, hj, hD, hR, hS, hu, hF, hB, hT, q⟩ := h
    refine ⟨_, (pss_cons (ps_expr (pe_call G_need_job (hr.mono (by omega)) (by rfl) T.g_need_job T.F_need_job.kp T.b_need_job .nil pass0 (pa_cons (pv 1) pa_nil)))
      (pss_cons (ps_expr (pe_call G_need_reference (hr.mono (by omega)) (by rfl) T.g_need_reference T.F_need_reference.kp T.b_need_reference .nil pass0 (pa_cons (pv 2) pa_nil)))
      (pss_cons (ps_expr (pe_meth (pv 0) T.cl_Dealings T.M_Dealings_need_free G_Dealings_need_free (hr.mono (by omega)) T.b_Dealings_need_free .nil pass0 (pa_cons (pv 1) (pa_cons (pv 2) pa_nil))))
      (pss_cons (ps_expr (pe_meth (pv 0) T.cl_Dealings T.M_Dealings_note G_Dealings_note (hr.mono (by omega)) T.b_Dealings_note .nil pass0 (pa_cons (pv 1) (pa_cons (pv 2) (pa_cons (pe_meth (pe_fld (pv 0) rfl) T.cl_Arrays T.M_Arrays_rows G_Arrays_rows (hr.mono (by omega)) T.b_Arrays_rows .nil pass0 (pa_cons (pv 2) pa_nil)) pa_nil)))))
      (pss_one (ps_ret (pe_meth (pe_fld (pv 0) rfl) T.cl_Arrays T.M_Arrays_kill G_Arrays_kill (hr.mono (by omega)) T.b_Arrays_kill .nil pass0 (pa_cons (pv 2) pa_nil)))))))), ?_⟩
    have l6 := hS.len
    have el := hD.elen
    refine ⟨_, rfl, j, rfl, j0, fun H1 s1 => ?_⟩
    refine ⟨_, rfl, .ref a, refD r.1 r.2, rfl, ref_rd (hR.same s1), ref_bnd hS, ref_is hS, fun H2 s2 => ?_⟩
    have t2 := s1.trans s2
    have D2 := hD.same t2
    refine ⟨_, rfl, s.g, s.dg, _, rfl, D2.cg, rfl, _, rfl, _, rfl, s, R, U, J, Bd, j, a, r, rfl, D2, hR.same t2, by omega, hF, fun H4 s4 => ?_⟩
    have t4 := t2.trans s4
    have D4 := hD.same t4
    refine ⟨_, rfl, s.g, s.dg, _, rfl, D4.cg, rfl, _, rfl, _, rfl, _, rfl, s.g, A.c_Dealings, s.dg, _, _, rfl, D4.cg, T.cl_Dealings, T.na_Dealings_shelf, rfl, s.p, s.dp, _, rfl, D4.cp, rfl, _, rfl, s.p, s.d, a, s.es, r.1, r.2, rfl, D4.ar, hD.good, el, hR.same t4, hS, Tabs.same hT t4, fun r1 xs H5 hr1 x5 T5 e5 rd5 => ?_⟩
    have ch5 := rows_ch rd5 fun e he => hD.good.wor e (List.mem_filter.mp (srt_mem.mp he)).1 |>.imp fun _ z => z.1
    have hL : pSrt (pBelow (s.es.map pr) r) = (srtE (ndBelow s.es r.1 r.2)).map pr := by rw [← below_pr, srt_pr]
    have hLm : ∀ e ∈ srtE (ndBelow s.es r.1 r.2), e ∈ s.es := fun e he => (List.mem_filter.mp (srt_mem.mp he)).1
    have ll : (srtE (ndBelow s.es r.1 r.2)).length ≤ 1000 := by rw [srt_len]; exact Nat.le_trans (List.length_filter_le _ _) el
    generalize srtE (ndBelow s.es r.1 r.2) = L at ch5 hL hLm ll
    have k5 : Pers (tabsOf A) H H5 := (Pers.same t4).trans (.ext x5 T5)
    have D5 := D4.ext x5
    have nl : r1 ∉ (memOf w A.c_Arrays A.c_Dealings s).map (·.1) := fun hm => by
      obtain ⟨u, hu, e⟩ := List.mem_map.mp hm
      exact ne_of_none (D4.hold.has u (List.mem_append_left _ hu)) hr1 e
    have hm5 : Paired (ChF H5) (L.map pr) xs := paired_map ch5
    have le2 : Bd + (L.map pr).length ≤ Bd + 1000 := by rw [List.length_map]; omega
    refine ⟨s, R, U, J, Bd, j, a, r1, r, xs, L.map pr, rfl, j0, hj, D5, hR.pers k5, hS, hu, e5, nl, hm5, fun c hc => ?_, by omega, fun H8 s' k8 F8 D8 e8 S8 T8 => ?_⟩
    · obtain ⟨e, he, rfl⟩ := List.mem_map.mp hc
      exact ⟨hD.good.refs e (hLm e he), hD.uni e (hLm e he), .inr (hD.wor e (hLm e he))⟩
    have cg8 : H8 s.g = some (insG A.c_Dealings s') := by have := D8.cg; rwa [F8.g] at this
    have cp8 : H8 s.p = some (insP A.c_Arrays s') := by have := D8.cp; rwa [F8.p] at this
    have sh : insG A.c_Dealings s' = .ins A.c_Dealings s'.dg [(Str.ofString "shelf", .ref s.p), (Str.ofString "begun", .ref s'.bd), (Str.ofString "touches", .ref s'.td)] := by unfold insG; rw [F8.p]
    rw [sh] at cg8
    have kk : Pers (tabsOf A) H H8 := k5.trans k8
    have R8 := hR.pers kk
    have ar8 : ArAt w A.c_Arrays H8 s.p s'.d s'.es := by have := D8.ar; rwa [F8.p] at this
    refine ⟨_, rfl, s.g, A.c_Dealings, s'.dg, _, _, rfl, cg8, T.cl_Dealings, T.na_Dealings_shelf, rfl, s.p, s'.dp, _, rfl, cp8, rfl, _, rfl, s.p, s'.d, a, s'.es, r, rfl, ar8, R8, hS, D8.elen, D8.good.refs, D8.good.nd, fun H9 s9 => ?_⟩
    obtain ⟨D10, k10⟩ := (D8.same s9).restEs (T := tabsOf A) r.1 r.2
    have le3 : Bd + (L.map pr).length ≤ Bd + 1000 := le2
    have D11 : DlIn w A.c_Arrays A.c_Dealings U J (Bd + 1000) _ { s' with es := ndRest s'.es r.1 r.2 } R := ⟨D10.hold, D10.refs, D10.good, D10.wor, D10.bk, D10.tk, D10.bj, D10.tj, D10.rws, D10.trf, D10.uni, D10.ul, D10.jl, fun y hy => ⟨Nat.le_trans (D10.rl y hy).1 le3, Nat.le_trans (D10.rl y hy).2 le3⟩, hB⟩
    have fin := q _ { s' with es := ndRest s'.es r.1 r.2 } (kk.trans ((Pers.same s9).trans k10)) ⟨F8.g, F8.p, F8.d⟩ D11 (by rw [rest_pr, e8]) (by rw [hL]; exact S8) T8
    rw [← below_pr, List.length_map] at fin
    rw [e8]
    rw [e8] at fin
    exact fin
theorem ok_Dealings_read (T : Txt K mg A) : FnOk P w K mg base CX0 6 A.a_Dealings_read A.d_Dealings_read ["self", "job", "ref", "otherwise"] (spDlRead w A.c_Arrays A.c_Dealings) := by
  have G_need_job := ok_need_job (P := P) (w := w) (base := base) T
  have G_need_reference := ok_need_reference (P := P) (w := w) (base := base) T
  have G_Dealings_need_free := ok_Dealings_need_free (P := P) (w := w) (base := base) T
  have G_Arrays_read := ok_Arrays_read (P := P) (w := w) (base := base) T
  refine T.F_Dealings_read.ok sc_Dealings_read (fun vs H Q E h => ?_) (fun cdv Ar outer s H vs Q E hr h => ?_)
  · obtain ⟨s, R, U, J, Bd, j, a, r, o, rfl, _⟩ := h
    rfl
  · obtain ⟨s, R, U, J, Bd, j, a, r, o, rfl, j0, hD, hR, hS, hF, q⟩ := h
    refine ⟨_, (pss_cons (ps_expr (pe_call G_need_job (hr.mono (by omega)) (by rfl) T.g_need_job T.F_need_job.kp T.b_need_job .nil pass0 (pa_cons (pv 1) pa_nil)))
      (pss_cons (ps_expr (pe_call G_need_reference (hr.mono (by omega)) (by rfl) T.g_need_reference T.F_need_reference.kp T.b_need_reference .nil pass0 (pa_cons (pv 2) pa_nil)))
      (pss_cons (ps_expr (pe_meth (pv 0) T.cl_Dealings T.M_Dealings_need_free G_Dealings_need_free (hr.mono (by omega)) T.b_Dealings_need_free .nil pass0 (pa_cons (pv 1) (pa_cons (pv 2) pa_nil))))
      (pss_one (ps_ret (pe_methN (pe_fld (pv 0) rfl) T.cl_Arrays T.M_Arrays_read G_Arrays_read (hr.mono (by omega)) T.kb_Arrays_read__2_otherwise pass0 (pa_cons (pv 2) pa_nil) (pk_cons (pv 3) pk_nil))))))), ?_⟩
    have l6 := hS.len
    refine ⟨_, rfl, j, rfl, j0, fun H1 s1 => ?_⟩
    refine ⟨_, rfl, .ref a, refD r.1 r.2, rfl, ref_rd (hR.same s1), ref_bnd hS, ref_is hS, fun H2 s2 => ?_⟩
    have t2 := s1.trans s2
    have D2 := hD.same t2
    refine ⟨_, rfl, s.g, s.dg, _, rfl, D2.cg, rfl, _, rfl, _, rfl, s, R, U, J, Bd, j, a, r, rfl, D2, hR.same t2, by omega, hF, fun H4 s4 => ?_⟩
    have t4 := t2.trans s4
    have D4 := hD.same t4
    exact ⟨_, rfl, s.g, A.c_Dealings, s.dg, _, _, rfl, D4.cg, T.cl_Dealings, T.na_Dealings_shelf, rfl, s.p, s.dp, _, rfl, D4.cp, rfl, _, rfl, _, rfl, rfl, rfl, s.p, s.d, a, s.es, r, o, rfl, D4.ar, hR.same t4, hS, fun H5 s5 => q _ (t4.trans s5)⟩
theorem ok_Dealings_data (T : Txt K mg A) : FnOk P w K mg base CX0 6 A.a_Dealings_data A.d_Dealings_data ["self", "job", "ref"] (spDlData w A.c_Arrays A.c_Dealings) := by
  have G_need_job := ok_need_job (P := P) (w := w) (base := base) T
  have G_need_reference := ok_need_reference (P := P) (w := w) (base := base) T
  have G_Dealings_need_free := ok_Dealings_need_free (P := P) (w := w) (base := base) T
  have G_Arrays_data := ok_Arrays_data (P := P) (w := w) (base := base) T
  refine T.F_Dealings_data.ok sc_Dealings_data (fun vs H Q E h => ?_) (fun cdv Ar outer s H vs Q E hr h => ?_)
  · obtain ⟨s, R, U, J, Bd, j, a, r, rfl, _⟩ := h
    rfl
  · obtain ⟨s, R, U, J, Bd, j, a, r, rfl, j0, hD, hR, hS, hF, q⟩ := h
    refine ⟨_, (pss_cons (ps_expr (pe_call G_need_job (hr.mono (by omega)) (by rfl) T.g_need_job T.F_need_job.kp T.b_need_job .nil pass0 (pa_cons (pv 1) pa_nil)))
      (pss_cons (ps_expr (pe_call G_need_reference (hr.mono (by omega)) (by rfl) T.g_need_reference T.F_need_reference.kp T.b_need_reference .nil pass0 (pa_cons (pv 2) pa_nil)))
      (pss_cons (ps_expr (pe_meth (pv 0) T.cl_Dealings T.M_Dealings_need_free G_Dealings_need_free (hr.mono (by omega)) T.b_Dealings_need_free .nil pass0 (pa_cons (pv 1) (pa_cons (pv 2) pa_nil))))
      (pss_one (ps_ret (pe_meth (pe_fld (pv 0) rfl) T.cl_Arrays T.M_Arrays_data G_Arrays_data (hr.mono (by omega)) T.b_Arrays_data .nil pass0 (pa_cons (pv 2) pa_nil))))))), ?_⟩
    have l6 := hS.len
    refine ⟨_, rfl, j, rfl, j0, fun H1 s1 => ?_⟩
    refine ⟨_, rfl, .ref a, refD r.1 r.2, rfl, ref_rd (hR.same s1), ref_bnd hS, ref_is hS, fun H2 s2 => ?_⟩
    have t2 := s1.trans s2
    have D2 := hD.same t2
    refine ⟨_, rfl, s.g, s.dg, _, rfl, D2.cg, rfl, _, rfl, _, rfl, s, R, U, J, Bd, j, a, r, rfl, D2, hR.same t2, by omega, hF, fun H4 s4 => ?_⟩
    have t4 := t2.trans s4
    have D4 := hD.same t4
    exact ⟨_, rfl, s.g, A.c_Dealings, s.dg, _, _, rfl, D4.cg, T.cl_Dealings, T.na_Dealings_shelf, rfl, s.p, s.dp, _, rfl, D4.cp, rfl, _, rfl, s.p, s.d, a, s.es, r, rfl, D4.ar, hR.same t4, hS, D4.elen, D4.good.refs, fun H5 s5 => q _ (t4.trans s5)⟩
theorem ok_Dealings_order (T : Txt K mg A) : FnOk P w K mg base CX0 7 A.a_Dealings_order A.d_Dealings_order ["self", "job", "ref", "back"] (spDlOrder w A.c_Arrays A.c_Dealings) := by
  have G_need_job := ok_need_job (P := P) (w := w) (base := base) T
  have G_need_ordered := ok_need_ordered (P := P) (w := w) (base := base) T
  have G_Dealings_need_free := ok_Dealings_need_free (P := P) (w := w) (base := base) T
  have G_Arrays_order := ok_Arrays_order (P := P) (w := w) (base := base) T
  refine T.F_Dealings_order.ok sc_Dealings_order (fun vs H Q E h => ?_) (fun cdv Ar outer s H vs Q E hr h => ?_)
  · obtain ⟨s, R, U, J, Bd, j, a, n, ks, last, t, rfl, _⟩ := h
    rfl
  · obtain ⟨s, R, U, J, Bd, j, a, n, ks, last, t, rfl, j0, hD, hR, hS, hF, q⟩ := h
    refine ⟨_, (pss_cons (ps_expr (pe_call G_need_job (hr.mono (by omega)) (by rfl) T.g_need_job T.F_need_job.kp T.b_need_job .nil pass0 (pa_cons (pv 1) pa_nil)))
      (pss_cons (ps_expr (pe_call G_need_ordered (hr.mono (by omega)) (by rfl) T.g_need_ordered T.F_need_ordered.kp T.b_need_ordered .nil pass0 (pa_cons (pv 2) pa_nil)))
      (pss_cons (ps_expr (pe_meth (pv 0) T.cl_Dealings T.M_Dealings_need_free G_Dealings_need_free (hr.mono (by omega)) T.b_Dealings_need_free .nil pass0 (pa_cons (pv 1) (pa_cons (pe_tup (pa_cons (pe_ix (k_ix_tup K) (pv 2) pe_int (fun _ _ => rfl)) (pa_cons (pe_slice (k_sl_tup K) (pe_ix (k_ix_tup K) (pv 2) pe_int (fun _ _ => rfl)) po_none (po_some (pe_un un_neg pe_int))) pa_nil))) pa_nil))))
      (pss_one (ps_ret (pe_methN (pe_fld (pv 0) rfl) T.cl_Arrays T.M_Arrays_order G_Arrays_order (hr.mono (by omega)) T.kb_Arrays_order__2_back pass0 (pa_cons (pv 2) pa_nil) (pk_cons (pv 3) pk_nil))))))), ?_⟩
    have l5 := hS.len
    refine ⟨_, rfl, j, rfl, j0, fun H1 s1 => ?_⟩
    refine ⟨_, rfl, a, n, ks, last, rfl, hR.same s1, hS, fun H2 s2 => ?_⟩
    have t2 := s1.trans s2
    have D2 := hD.same t2
    obtain ⟨a', k, ea, ea1, ea2⟩ := id (hR.same t2)
    cases ea
    rw [List.map_append, List.map_singleton] at ea2
    refine ⟨_, rfl, s.g, s.dg, _, rfl, D2.cg, rfl, _, rfl, _, rfl, _, _, 0, .str n, rfl, rfl, .inl (.inl ea1), atI_nat (j := 0) rfl, _, rfl, _, _, 1, .ref k, rfl, rfl, .inl (.inl ea1), atI_nat (j := 1) rfl, ?_⟩
    dsimp only [tNoPart]
    refine ⟨1, rfl, -1, rfl, ?_⟩
    refine rd_initT ea2 fun p1 H3 s3 e3 => ⟨Evl.sz_of (by show 2 ≤ 100000; decide), fun p2 hp2 => ?_⟩
    have s4 : Same H2 (upd H3 p2 (.tup [.str n, .ref p1])) := s3.trans (same_new hp2)
    have R4 : RefAt (upd H3 p2 (.tup [.str n, .ref p1])) (.ref p2) n ks := ⟨p2, p1, rfl, upd_same, same_new hp2 _ _ e3⟩
    dsimp only [tNil]
    generalize upd H3 p2 (.tup [.str n, .ref p1]) = H4 at s4 R4 ⊢
    have t4 := t2.trans s4
    have D4 := hD.same t4
    refine ⟨s, R, U, J, Bd, j, p2, (n, ks), rfl, D4, R4, by show ks.length ≤ 1000; omega, hF, fun H5 s5 => ?_⟩
    have t5 := t4.trans s5
    have D5 := hD.same t5
    exact ⟨_, rfl, s.g, A.c_Dealings, s.dg, _, _, rfl, D5.cg, T.cl_Dealings, T.na_Dealings_shelf, rfl, s.p, s.dp, _, rfl, D5.cp, rfl, _, rfl, _, rfl, rfl, rfl, s.p, s.d, _, s.es, n, ks, last, t, rfl, D5.ar, D5.good, D5.elen, hR.same t5, hS, fun H6 z s6 hz => q _ z (t5.trans s6) hz⟩
theorem keyS_rep {x rr : Str} {n : Nat} (hx : ∀ c ∈ tl x, Wc c) (hr : rr.length = n) (h0 : 1 ≤ n) (h1 : n ≤ 40) (hc : ∀ c ∈ tl rr, c ∈ tl x) : KeyS rr := ⟨by omega, by omega, fun c h => hx c (hc c h)⟩
theorem ok_law_key (T : Txt K mg A) : FnOk P w K mg base CX0 2 A.a_law_key A.d_law_key ["bag"] spKey := by
  have G_law_draw := ok_law_draw (P := P) (w := w) (base := base) T
  refine T.F_law_key.ok sc_law_key (fun vs H Q E h => ?_) (fun cdv A outer s H vs Q E hr h => ?_)
  · obtain ⟨b, N, rfl, _⟩ := h
    rfl
  · obtain ⟨b, N, rfl, hN, hB, q⟩ := h
    refine ⟨_, (pss_cons (ps_set (i := 1) sc_law_key.nd rfl (.inl rfl) (pe_lst (pa_cons pe_str (pa_cons pe_str (pa_cons pe_str (pa_cons pe_str (pa_cons pe_str (pa_cons pe_str (pa_cons pe_str (pa_cons pe_str (pa_cons pe_str (pa_cons pe_str (pa_cons pe_str (pa_cons pe_str (pa_cons pe_str (pa_cons pe_str (pa_cons pe_str (pa_cons (pe_op op_repS pe_str pe_int) (pa_cons (pe_op op_repS pe_str pe_int) pa_nil)))))))))))))))))))
      (pss_cons (ps_if (pt_cmpR op_gt (pe_call G_law_draw (hr.mono (by omega)) (by rfl) T.g_law_draw T.F_law_draw.kp T.b_law_draw .nil pass0 (pa_cons (pv 0) (pa_cons pe_int pa_nil))) pe_int (nomark _))
      (pss_one (ps_ret (pe_ix (k_ix_list K) (pv 1) (pe_call G_law_draw (hr.mono (by omega)) (by rfl) T.g_law_draw T.F_law_draw.kp T.b_law_draw .nil pass0 (pa_cons (pv 0) (pa_cons pe_int pa_nil))) (fun _ _ => rfl))))
      pss_nil)
      (pss_cons (ps_set (i := 2) sc_law_key.nd rfl (.inr rfl) pe_str)
      (pss_one (ps_ret (pe_m1 PySem.F.slot_str_join PySem.F.type_str_join (k_mt_join K) pe_str (pe_lc (own := [("k", 3)]) (g := gName 3) (tt := tYes) rfl sc_law_key.nd (pi_range1 (by rfl) T.n_range (pa_cons (pe_op op_add pe_int (pe_call G_law_draw (hr.mono (by omega)) (by rfl) T.g_law_draw T.F_law_draw.kp T.b_law_draw .nil pass0 (pa_cons (pv 0) (pa_cons pe_int pa_nil)))) pa_nil)) (blkOk_by (own := [("k", 3)]) (N := N_law_key) (sc := defScope s_law_key) (by decide +kernel)) (fun _ _ _ _ _ => (pg_name (i := 3) sc_law_key.nd rfl (.inl rfl))) (fun _ _ _ _ _ => pts_nil) (fun _ _ _ _ _ => (pe_ix ix_str (pv 2) (pe_call G_law_draw (hr.mono (by omega)) (by rfl) T.g_law_draw T.F_law_draw.kp T.b_law_draw .nil pass0 (pa_cons (pv 0) (pa_cons (pe_callB call_len_str (by rfl) T.n_len PySem.boot_len (pa_cons (pv 2) pa_nil)) pa_nil))) (fun _ _ => rfl)))))))))), ?_⟩
    refine ⟨Str.ofString "a", 40, rfl, rfl, by decide, by decide, (by decide +kernel), fun r1 hr1 hc1 => ?_⟩
    refine ⟨Str.ofString "9", 20, rfl, rfl, by decide, by decide, (by decide +kernel), fun r2 hr2 hc2 => ?_⟩
    have l1 : (Str.ofString "a").length = 1 := by decide +kernel
    have l2 : (Str.ofString "9").length = 1 := by decide +kernel
    have k1 : KeyS r1 := keyS_rep (x := Str.ofString "a") (n := 40) (by decide +kernel) (by rw [l1] at hr1; omega) (by decide) (by decide) hc1
    have k2 : KeyS r2 := keyS_rep (x := Str.ofString "9") (n := 20) (by decide +kernel) (by rw [l2] at hr2; omega) (by decide) (by decide) hc2
    refine ⟨Evl.sz_of (by show 17 ≤ 100000; decide), fun p hp => ?_⟩
    generalize eH0 : upd H p _ = H0
    obtain ⟨xs, hxs, hxl, hxk⟩ : ∃ xs : List Str, H0 p = some (.lst (xs.map V.str)) ∧ xs.length = 17 ∧ ∀ x ∈ xs, KeyS x := by
      refine ⟨[Str.ofString "1", Str.ofString "2", Str.ofString "10", Str.ofString "-1", Str.ofString "0", Str.ofString "07", Str.ofString "-0", Str.ofString "+1", Str.ofString "1a", Str.ofString "a", Str.ofString "ab", Str.ofString "b", Str.ofString "A", Str.ofString " ", Str.ofString "x y", r1, r2], by rw [← eH0]; exact upd_same, rfl, fun x hx => ?_⟩
      simp only [List.mem_cons, List.not_mem_nil, or_false] at hx
      rcases hx with rfl | rfl | rfl | rfl | rfl | rfl | rfl | rfl | rfl | rfl | rfl | rfl | rfl | rfl | rfl | rfl | rfl
      all_goals first | exact k1 | exact k2 | exact ⟨by decide +kernel, by decide +kernel, by decide +kernel⟩
    have s0 : Same H H0 := by rw [← eH0]; exact same_new hp
    have B0 := hB.same s0
    have pb : p ≠ b := (hB.ne hp).symm
    refine ⟨_, rfl, b, 3, N, rfl, by decide, by decide, by omega, B0, fun H1 r c1 B1 r0 r1 => ⟨_, 0, rfl, rfl, _, rfl, ite2 (fun _ => ?_) (fun _ => ?_)⟩⟩
    · refine ⟨_, rfl, _, rfl, b, 17, _, rfl, by decide, by decide, by omega, B1, fun H2 u c2 B2 u0 u1 => ?_⟩
      have e2 := c2 _ _ pb (c1 _ _ pb hxs)
      obtain ⟨x, hx, ex⟩ := at_map (xs := xs) V.str u0 (by rw [hxl]; exact u1)
      exact ⟨p, _, u, .str x, rfl, rfl, .inl (.inl e2), ex, q _ x (((Chg.same s0).trans c1).trans c2) (B2.mono (by omega)) (hxk x hx)⟩
    have he : (Str.ofString "").length = 0 := by decide +kernel
    have hsw : WorthS (Str.ofString " !\"#$&'()*+,-./0189:;<=>?@AZ[\\]^_`az{|}~") := by decide +kernel
    have hsl : (Str.ofString " !\"#$&'()*+,-./0189:;<=>?@AZ[\\]^_`az{|}~").length = 40 := by decide +kernel
    generalize (Str.ofString " !\"#$&'()*+,-./0189:;<=>?@AZ[\\]^_`az{|}~") = signs at hsw hsl ⊢
    refine ⟨⟨_, rfl⟩, _, rfl, b, 3, _, rfl, by decide, by decide, by omega, B1, fun H2 r c2 B2 r0 r1 => ?_⟩
    refine ⟨_, _, rfl, rfl, _, rfl, by omega, by omega, fun D hD => ?_⟩
    refine lc_draws (N := N + 1 + 1) (c := 1) (n := (1 + r).toNat) (fun v => ∃ y : Str, v = .str y ∧ (∀ c ∈ tl y, Wc c) ∧ y.length = 1) (by omega) hD B2 (fun H8 M kk c8 B8 hM R q8 => ?_) (by decide) (fun H8 ys yl hy c8 B8 e8 => ?_)
    · refine ⟨_, rfl, ?_⟩
      refine rd_draw (m := signs.length) (N := M) rfl (fun R h => ⟨_, rfl, signs, rfl, Evl.sz_of (by omega), h⟩) (by omega) (by omega) (by omega) B8 fun H9 j c9 B9 j0 j1 => ?_
      obtain ⟨c, hc, ec⟩ := at_lt (xs := tl signs) j0 (by rw [← len_tl]; exact j1)
      refine ⟨signs, j, c, rfl, rfl, Evl.sz_of (by omega), ec, q8 _ _ c9 B9 ⟨_, rfl, fun d hd => ?_, rfl⟩⟩
      have : d = c := by simpa [tl] using hd
      rw [this]
      exact hsw c hc
    · obtain ⟨zs, rfl, hz⟩ := strs_of hy
      rw [List.length_map] at yl
      have hs := sum_le (c := 1) fun z h => Nat.le_of_eq (hz z h).2
      refine ⟨_, D, zs, rfl, rfl, .inl (.inl (.inl e8)), (by rw [he]; omega), ?_⟩
      have hlen := len_join1 (e := Str.ofString "") empty_tl fun z h => (hz z h).2
      exact q _ _ ((((Chg.same s0).trans c1).trans c2).trans c8) (B8.mono (by omega)) ⟨by omega, by omega, worth_join empty_tl fun z h => (hz z h).1⟩
theorem name_join {e : Str} (he : tl e = []) {zs : List Str} (h : ∀ z ∈ zs, ∀ c ∈ tl z, 97 ≤ c ∧ c ≤ 122) : ∀ c ∈ tl (Txt.join e zs), 97 ≤ c ∧ c ≤ 122 := by
  intro c hc
  rw [tl_join0 he, List.mem_flatten] at hc
  obtain ⟨l, hl, hc⟩ := hc
  obtain ⟨y, hy, rfl⟩ := List.mem_map.mp hl
  exact h y hy c hc
theorem ok_law_word (T : Txt K mg A) : FnOk P w K mg base CX0 2 A.a_law_word A.d_law_word ["bag"] spName := by
  have G_law_draw := ok_law_draw (P := P) (w := w) (base := base) T
  refine T.F_law_word.ok sc_law_word (fun vs H Q E h => ?_) (fun cdv A outer s H vs Q E hr h => ?_)
  · obtain ⟨b, N, rfl, _⟩ := h
    rfl
  · obtain ⟨b, N, rfl, hN, hB, q⟩ := h
    refine ⟨_, (pss_cons (ps_set (i := 1) sc_law_word.nd rfl (.inr rfl) (pe_ix (k_ix_list K) (pe_lst (pa_cons pe_str (pa_cons pe_str pa_nil))) (pe_call G_law_draw (hr.mono (by omega)) (by rfl) T.g_law_draw T.F_law_draw.kp T.b_law_draw .nil pass0 (pa_cons (pv 0) (pa_cons pe_int pa_nil))) (fun _ _ => rfl)))
      (pss_cons (ps_set (i := 2) sc_law_word.nd rfl (.inl rfl) (pe_op op_add pe_int (pe_call G_law_draw (hr.mono (by omega)) (by rfl) T.g_law_draw T.F_law_draw.kp T.b_law_draw .nil pass0 (pa_cons (pv 0) (pa_cons (pe_ix (k_ix_list K) (pe_lst (pa_cons pe_int (pa_cons pe_int pa_nil))) (pe_call G_law_draw (hr.mono (by omega)) (by rfl) T.g_law_draw T.F_law_draw.kp T.b_law_draw .nil pass0 (pa_cons (pv 0) (pa_cons pe_int pa_nil))) (fun _ _ => rfl)) pa_nil)))))
      (pss_one (ps_ret (pe_m1 PySem.F.slot_str_join PySem.F.type_str_join (k_mt_join K) pe_str (pe_lc (own := [("k", 3)]) (g := gName 3) (tt := tYes) rfl sc_law_word.nd (pi_range1 (by rfl) T.n_range (pa_cons (pv 2) pa_nil)) (blkOk_by (own := [("k", 3)]) (N := N_law_word) (sc := defScope s_law_word) (by decide +kernel)) (fun _ _ _ _ _ => (pg_name (i := 3) sc_law_word.nd rfl (.inl rfl))) (fun _ _ _ _ _ => pts_nil) (fun _ _ _ _ _ => (pe_ix ix_str (pv 1) (pe_call G_law_draw (hr.mono (by omega)) (by rfl) T.g_law_draw T.F_law_draw.kp T.b_law_draw .nil pass0 (pa_cons (pv 0) (pa_cons (pe_callB call_len_str (by rfl) T.n_len PySem.boot_len (pa_cons (pv 1) pa_nil)) pa_nil))) (fun _ _ => rfl))))))))), ?_⟩
    refine rd_menu (xs := [.str "ab", .str "abcdefghijklmnopqrstuvwxyz"]) (N := N) (fun R h => h) rfl rfl (by decide) (by decide) (by omega) hB fun H1 v hv c1 B1 => ?_
    obtain ⟨x, rfl, hx, hl⟩ : ∃ x : Str, v = .str x ∧ (∀ c ∈ tl x, 97 ≤ c ∧ c ≤ 122) ∧ 0 < x.length ∧ x.length ≤ 100 := by
      simp only [List.mem_cons, List.not_mem_nil, or_false] at hv
      rcases hv with rfl | rfl <;> exact ⟨_, rfl, by decide +kernel, by decide +kernel, by decide +kernel⟩
    refine ⟨_, rfl, ?_⟩
    refine rd_menu (xs := [.int 3, .int 8]) (N := N + 1) (fun R h => h) rfl rfl (by decide) (by decide) (by omega) B1 fun H2 v hv c2 B2 => ?_
    obtain ⟨k, rfl, k0, k1⟩ : ∃ k : Int, v = .int k ∧ 1 ≤ k ∧ k ≤ 8 := by
      simp only [List.mem_cons, List.not_mem_nil, or_false] at hv
      rcases hv with rfl | rfl
      · exact ⟨3, rfl, by decide, by decide⟩
      · exact ⟨8, rfl, by decide, by decide⟩
    refine ⟨b, k, _, rfl, by omega, by omega, by omega, B2, fun H3 r c3 B3 r0 r1 => ⟨_, _, rfl, rfl, ?_⟩⟩
    refine ⟨⟨_, rfl⟩, ?_⟩
    refine ⟨_, rfl, _, rfl, by omega, by omega, fun D hD => ?_⟩
    refine lc_draws (N := N + 3) (c := 1) (n := (1 + r).toNat) (fun v => ∃ y : Str, v = .str y ∧ (∀ c ∈ tl y, 97 ≤ c ∧ c ≤ 122) ∧ y.length = 1) (by omega) hD B3 (fun H4 M kk c4 B4 hM R q4 => ?_) (by decide) (fun H4 ys yl hy c4 B4 e4 => ?_)
    · refine ⟨_, rfl, ?_⟩
      refine rd_draw (m := x.length) (N := M) rfl (fun R h => ⟨_, rfl, x, rfl, Evl.sz_of (by omega), h⟩) (by omega) (by omega) (by omega) B4 fun H5 j c5 B5 j0 j1 => ?_
      obtain ⟨c, hc, ec⟩ := at_lt (xs := tl x) j0 (by rw [← len_tl]; exact j1)
      refine ⟨x, j, c, rfl, rfl, Evl.sz_of (by omega), ec, q4 _ _ c5 B5 ⟨_, rfl, fun d hd => ?_, rfl⟩⟩
      have : d = c := by simpa [tl] using hd
      rw [this]
      exact hx c hc
    · obtain ⟨zs, rfl, hz⟩ := strs_of hy
      have hs := sum_le (c := 1) fun z h => Nat.le_of_eq (hz z h).2
      have he : (Str.ofString "").length = 0 := by decide +kernel
      rw [List.length_map] at yl
      refine ⟨_, D, zs, rfl, rfl, .inl (.inl (.inl e4)), (by rw [he]; omega), ?_⟩
      have hlen := len_join1 (e := Str.ofString "") empty_tl fun z h => (hz z h).2
      exact q _ _ ((c1.trans c2).trans (c3.trans c4)) (B4.mono (by omega)) ⟨by omega, by omega, name_join empty_tl fun z h => (hz z h).1⟩
theorem ok_law_unlike (T : Txt K mg A) : FnOk P w K mg base CX0 1 A.a_law_unlike A.d_law_unlike ["found", "one"] spUnlike := by
  refine T.F_law_unlike.ok sc_law_unlike (fun vs H Q E h => ?_) (fun cdv A outer s H vs Q E hr h => ?_)
  · obtain ⟨l, x, xs, rfl, _⟩ := h
    rfl
  · obtain ⟨l, x, xs, rfl, hl, lx, nx, q⟩ := h
    refine ⟨_, (pss_one (ps_ret (pe_op op_cat (pv 0) (pe_op op_rep (pe_lst (pa_cons (pv 1) pa_nil)) (pe_callTy call_int1 (by rfl) T.n_int (by decide +kernel) (pa_cons (pe_cmpR (k_notIn K) (pv 1) (pv 0) (by rfl)) pa_nil)))))), ?_⟩
    refine ⟨_, rfl, _, rfl, Evl.sz_of (by show 1 ≤ 100000; decide), fun p hp => ?_⟩
    have s1 : Same H (upd H p (.lst [.str x])) := same_new hp
    have e1 : upd H p (.lst [.str x]) p = some (.lst [.str x]) := upd_same
    generalize upd H p (.lst [.str x]) = H1 at s1 e1 ⊢
    refine ⟨_, rfl, _, rfl, l, _, rfl, .inl (.inl (.inl (s1 _ _ hl))), rfl, ?_, .inr ⟨_, rfl, ?_⟩⟩
    · rw [List.all_eq_true]; intro v hv; obtain ⟨y, _, rfl⟩ := List.mem_map.mp hv; rfl
    have hb : (if true = true then !inV (.str x) (xs.map V.str) else inV (.str x) (xs.map V.str)) = !decide (x ∈ xs) := by
      rw [if_pos rfl, inV_str]
    rw [hb]
    by_cases hm : x ∈ xs
    · rw [decide_eq_true hm]
      refine ⟨p, _, _, rfl, rfl, e1, by decide, by decide, by show 1 * 0 ≤ sizeLine; omega, fun p2 hp2 => ?_⟩
      have s2 := s1.trans (same_new (o := .lst (List.replicate (0 : Int).toNat [V.str x]).flatten) hp2)
      refine ⟨l, p2, _, _, rfl, rfl, s2 _ _ hl, upd_same, Evl.sz_of (by rw [List.length_map]; show _ + 0 ≤ 100000; omega), fun D hD => ?_⟩
      refine q D _ xs (none_of_same s2 hD) (s2.trans (same_new hD)) (by rw [upd_same]; show some (HO.lst (_ ++ [])) = _; rw [List.append_nil]) nx (fun y => ⟨.inl, fun h => h.elim id fun h => h ▸ hm⟩) (by omega) (fun z h => h)
    · rw [decide_eq_false hm]
      refine ⟨p, _, _, rfl, rfl, e1, by decide, by decide, by show 1 * 1 ≤ sizeLine; exact Evl.sz_of (by decide), fun p2 hp2 => ?_⟩
      have s2 := s1.trans (same_new (o := .lst (List.replicate (1 : Int).toNat [V.str x]).flatten) hp2)
      refine ⟨l, p2, _, _, rfl, rfl, s2 _ _ hl, upd_same, Evl.sz_of (by rw [List.length_map]; show _ + 1 ≤ 100000; omega), fun D hD => ?_⟩
      refine q D _ (xs ++ [x]) (none_of_same s2 hD) (s2.trans (same_new hD)) (by rw [upd_same, List.map_append]; rfl) ?_ (fun y => by rw [List.mem_append, List.mem_singleton]) (by rw [List.length_append]; exact Nat.le_refl _) (fun z h => ?_)
      · rw [List.nodup_append]
        exact ⟨nx, by simp, fun a ha c hc e => hm (by rw [List.mem_singleton.mp hc] at e; rw [← e]; exact ha)⟩
      · rw [List.getElem?_append_left (by
          obtain ⟨h1, _⟩ := List.getElem?_eq_some_iff.mp h
          exact h1)]
        exact h
theorem name_cut {x y : Str} (hx : NameS x) (hy : NameS y) : NameS (cutS (x ++ y) none (some 8)) := by
  have e := cut_to (x ++ y) (m := 8) (by decide)
  have l : (cutS (x ++ y) none (some 8)).length = min 8 (x.length + y.length) := by
    rw [len_tl, e, List.length_take, ← len_tl, len_appS]
    rfl
  have h1 := hx.1
  refine ⟨by omega, by omega, fun c hc => ?_⟩
  rw [e, tl_cat] at hc
  rcases List.mem_append.mp (List.mem_of_mem_take hc) with h | h
  · exact hx.2.2 c h
  · exact hy.2.2 c h
theorem ok_law_pool (T : Txt K mg A) : FnOk P w K mg base CX0 3 A.a_law_pool A.d_law_pool ["bag"] spPoolL := by
  have G_law_draw := ok_law_draw (P := P) (w := w) (base := base) T
  have G_law_key := ok_law_key (P := P) (w := w) (base := base) T
  have G_law_word := ok_law_word (P := P) (w := w) (base := base) T
  have G_law_unlike := ok_law_unlike (P := P) (w := w) (base := base) T
  refine T.F_law_pool.ok sc_law_pool (fun vs H Q E h => ?_) (fun cdv Ar outer s H vs Q E hr h => ?_)
  · obtain ⟨b, N, rfl, _⟩ := h
    rfl
  · obtain ⟨b, N, rfl, hN, hB, q⟩ := h
    refine ⟨_, (pss_cons (ps_set (i := 1) sc_law_pool.nd rfl (.inl rfl) (pe_lst pa_nil))
      (pss_cons (ps_for PassesOwn.never rfl (pi_range1 (by rfl) T.n_range (pa_cons (pe_op op_add pe_int (pe_call G_law_draw (hr.mono (by omega)) (by rfl) T.g_law_draw T.F_law_draw.kp T.b_law_draw .nil pass0 (pa_cons (pv 0) (pa_cons pe_int pa_nil)))) pa_nil)) (pg_name (i := 2) sc_law_pool.nd rfl (.inl rfl))
      (pss_cons (ps_set (i := 1) sc_law_pool.nd rfl (.inl rfl) (pe_call G_law_unlike (hr.mono (by omega)) (by rfl) T.g_law_unlike T.F_law_unlike.kp T.b_law_unlike .nil pass0 (pa_cons (pv 1) (pa_cons (pe_call G_law_word (hr.mono (by omega)) (by rfl) T.g_law_word T.F_law_word.kp T.b_law_word .nil pass0 (pa_cons (pv 0) pa_nil)) pa_nil))))
      (pss_one (ps_set (i := 1) sc_law_pool.nd rfl (.inl rfl) (pe_call G_law_unlike (hr.mono (by omega)) (by rfl) T.g_law_unlike T.F_law_unlike.kp T.b_law_unlike .nil pass0 (pa_cons (pv 1) (pa_cons (pe_slice sl_str (pe_op op_add_str (pe_ix (k_ix_list K) (pv 1) pe_int (fun _ _ => rfl)) (pe_call G_law_word (hr.mono (by omega)) (by rfl) T.g_law_word T.F_law_word.kp T.b_law_word .nil pass0 (pa_cons (pv 0) pa_nil))) po_none (po_some pe_int)) pa_nil)))))))
      (pss_cons (ps_set (i := 3) sc_law_pool.nd rfl (.inl rfl) (pe_lst (pa_cons pe_str pa_nil)))
      (pss_cons (ps_for PassesOwn.never rfl (pi_range1 (by rfl) T.n_range (pa_cons (pe_op op_add pe_int (pe_call G_law_draw (hr.mono (by omega)) (by rfl) T.g_law_draw T.F_law_draw.kp T.b_law_draw .nil pass0 (pa_cons (pv 0) (pa_cons pe_int pa_nil)))) pa_nil)) (pg_name (i := 2) sc_law_pool.nd rfl (.inl rfl))
      (pss_one (ps_set (i := 3) sc_law_pool.nd rfl (.inl rfl) (pe_call G_law_unlike (hr.mono (by omega)) (by rfl) T.g_law_unlike T.F_law_unlike.kp T.b_law_unlike .nil pass0 (pa_cons (pv 3) (pa_cons (pe_call G_law_key (hr.mono (by omega)) (by rfl) T.g_law_key T.F_law_key.kp T.b_law_key .nil pass0 (pa_cons (pv 0) pa_nil)) pa_nil))))))
      (pss_one (ps_ret (pe_lst (pa_cons (pe_slice (k_sl_list K) (pv 1) po_none (po_some (pe_op op_add pe_int (pe_call G_law_draw (hr.mono (by omega)) (by rfl) T.g_law_draw T.F_law_draw.kp T.b_law_draw .nil pass0 (pa_cons (pv 0) (pa_cons (pe_callB (k_len K) (by rfl) T.n_len PySem.boot_len (pa_cons (pv 1) pa_nil)) pa_nil)))))) (pa_cons (pv 3) pa_nil))))))))), ?_⟩
    refine ⟨Evl.sz_of (by show 0 ≤ 100000; decide), fun l0 hl0 => ?_⟩
    have s0 : Same H (upd H l0 (.lst [])) := same_new hl0
    have e0 : upd H l0 (.lst []) l0 = some (.lst (([] : List Str).map V.str)) := upd_same
    show gName 1 (V.ref l0) _ (upd H l0 (.lst [])) _
    generalize upd H l0 (.lst []) = H0 at s0 e0 ⊢
    dsimp only [gName]
    have B0 := hB.same s0
    refine seq_abs (fun σ' H' => ∃ (l : Addr) (ns : List Str), Chg b H H' ∧ BagAt (N + 1 + 60 * 3) b H' ∧ H l = none ∧ l ≠ b ∧ H' l = some (.lst (ns.map V.str)) ∧ ns.Nodup ∧ (∀ n ∈ ns, NameS n) ∧ ns.length ≤ 6 ∧ 0 < ns.length ∧ ∃ y2 y3, σ' = [some (.ref b), some (.ref l), y2, y3]) (fun Nn hNn => ?_) ?_
    · dsimp only
      refine ⟨_, rfl, b, 3, N, rfl, by decide, by decide, by omega, B0, fun H1 r c1 B1 r0 r1 => ⟨1, r, rfl, rfl, _, rfl, by omega, by omega, ?_⟩⟩
      have nl0 : l0 ≠ b := (hB.ne hl0).symm
      refine for_range (lo := 0) (n := (1 + r).toNat) (fun i σ' H' => ∃ (l : Addr) (ns : List Str), Chg b H H' ∧ BagAt (N + 1 + 60 * i) b H' ∧ H l = none ∧ l ≠ b ∧ H' l = some (.lst (ns.map V.str)) ∧ ns.Nodup ∧ (∀ n ∈ ns, NameS n) ∧ ns.length ≤ 2 * i ∧ (0 < i → 0 < ns.length) ∧ ∃ y2 y3, σ' = [some (.ref b), some (.ref l), y2, y3]) ⟨l0, [], (Chg.same s0).trans c1, B1, hl0, nl0, c1 _ _ nl0 e0, List.nodup_nil, (fun _ z => nomatch z), Nat.zero_le _, (fun z => absurd z (Nat.lt_irrefl _)), _, _, rfl⟩ ?_ ?_
      · rintro i σ H2 hi ⟨l, ns, c2, B2, hl, nl, el, nn, nm, nle, npos, y2, y3, rfl⟩
        refine ⟨_, rfl, _, rfl, b, _, rfl, by omega, B2, fun H3 s3 c3 B3 hs3 => ⟨l, s3, ns, rfl, c3 _ _ nl el, by omega, nn, fun D3 H4 ys hD3 s4 e4 ny my ly fy => ?_⟩⟩
        have mem0 : s3 ∈ ys := (my s3).mpr (.inr rfl)
        obtain ⟨n0, rest, rfl⟩ : ∃ n0 rest, ys = n0 :: rest := by
          cases ys with
          | nil => cases mem0
          | cons a r => exact ⟨a, r, rfl⟩
        have nmy : ∀ n ∈ n0 :: rest, NameS n := fun n hn => ((my n).mp hn).elim (nm n) fun e => e ▸ hs3
        have hD3H : H D3 = none := none_of_chg (c2.trans c3) (B3.ne hD3).symm hD3
        have nD3 : D3 ≠ b := (B3.ne hD3).symm
        have B4 := B3.same s4
        dsimp only [gName]
        refine ⟨_, rfl, _, rfl, D3, _, 0, .str n0, rfl, rfl, .inl (.inl e4), atI_nat (j := 0) rfl, _, rfl, b, _, rfl, by omega, B4, fun H5 s5 c5 B5 hs5 => ?_⟩
        have hn0 := nmy n0 List.mem_cons_self
        refine ⟨n0, s5, rfl, rfl, Evl.sz_of (by have := hn0.2.1; have := hs5.2.1; omega), ?_⟩
        refine ⟨8, rfl, _, rfl, Evl.sz_of (by rw [len_appS]; have := hn0.2.1; have := hs5.2.1; omega), D3, _, _, rfl, c5 _ _ nD3 e4, by omega, ny, fun D5 H6 zs hD5 s6 e6 nz mz lz fz => ?_⟩
        have hc := name_cut hn0 hs5
        generalize cutS (n0 ++ s5) none (some 8) = nc at hc mz
        have c6 : Chg b H H5 := (c2.trans c3).trans ((Chg.same s4).trans c5)
        have nD5 : D5 ≠ b := (B5.ne hD5).symm
        refine ⟨D5, zs, c6.trans (.same s6), (B5.same s6).mono (by omega), none_of_chg c6 nD5 hD5, nD5, e6, nz, fun n hn => ((mz n).mp hn).elim (nmy n) fun e => e ▸ hc, by omega, fun _ => List.length_pos_of_mem ((mz nc).mpr (.inr rfl)), _, _, rfl⟩
      · rintro σ H2 ⟨l, ns, c2, B2, hl, nl, el, nn, nm, nle, npos, y2, y3, rfl⟩
        exact hNn _ _ ⟨l, ns, c2, B2.mono (by omega), hl, nl, el, nn, nm, by omega, npos (by omega), y2, y3, rfl⟩
    · rintro σ H2 ⟨l, ns, c2, B2, hl, nl, el, nn, nm, nle, npos, y2, y3, rfl⟩
      refine ⟨Evl.sz_of (by show 1 ≤ 100000; decide), fun l0 hl0 => ?_⟩
      have s3 : Same H2 (upd H2 l0 (.lst [.str (Str.ofString "1")])) := same_new hl0
      have e3 : upd H2 l0 (.lst [.str (Str.ofString "1")]) l0 = some (.lst ([Str.ofString "1"].map V.str)) := upd_same
      show gName 3 (V.ref l0) _ (upd H2 l0 (.lst [.str (Str.ofString "1")])) _
      generalize upd H2 l0 (.lst [.str (Str.ofString "1")]) = H3 at s3 e3 ⊢
      dsimp only [gName]
      have B3 := B2.same s3
      have c3 := c2.trans (.same s3)
      have nl0 : l0 ≠ b := (B2.ne hl0).symm
      have hl0H := none_of_chg c2 nl0 hl0
      have el3 := s3 _ _ el
      have kone : KeyS (Str.ofString "1") := ⟨by decide +kernel, by decide +kernel, by decide +kernel⟩
      refine seq_abs (fun σ' H' => ∃ (k : Addr) (ks : List Str), Chg b H H' ∧ BagAt (N + 190 + 2010 * 4) b H' ∧ H k = none ∧ k ≠ b ∧ k ≠ l ∧ H' l = some (.lst (ns.map V.str)) ∧ H' k = some (.lst (ks.map V.str)) ∧ ks.Nodup ∧ (∀ n ∈ ks, KeyS n) ∧ ks.length ≤ 5 ∧ 0 < ks.length ∧ ∃ y2, σ' = [some (.ref b), some (.ref l), y2, some (.ref k)]) (fun Nn hNn => ?_) ?_
      · dsimp only
        refine ⟨_, rfl, b, 4, _, rfl, by decide, by decide, by omega, B3, fun H4 r c4 B4 r0 r1 => ⟨1, r, rfl, rfl, _, rfl, by omega, by omega, ?_⟩⟩
        refine for_range (lo := 0) (n := (1 + r).toNat) (fun i σ' H' => ∃ (k : Addr) (ks : List Str), Chg b H H' ∧ BagAt (N + 190 + 2010 * i) b H' ∧ H k = none ∧ k ≠ b ∧ k ≠ l ∧ H' l = some (.lst (ns.map V.str)) ∧ H' k = some (.lst (ks.map V.str)) ∧ ks.Nodup ∧ (∀ n ∈ ks, KeyS n) ∧ ks.length ≤ i + 1 ∧ 0 < ks.length ∧ ∃ y2, σ' = [some (.ref b), some (.ref l), y2, some (.ref k)])
          ⟨l0, [Str.ofString "1"], c3.trans c4, B4.mono (by omega), hl0H, nl0, (ne_of_none el hl0).symm, c4 _ _ nl el3, c4 _ _ nl0 e3, by simp, (fun n hn => by rw [List.mem_singleton.mp hn]; exact kone), Nat.le_refl _, Nat.one_pos, _, rfl⟩ ?_ ?_
        · rintro i σ H5 hi ⟨k, ks, c5, B5, hk, nk, kl, el5, ek5, nn5, ky5, le5, pos5, y2, rfl⟩
          refine ⟨_, rfl, _, rfl, b, _, rfl, by omega, B5, fun H6 s6 c6 B6 hs6 => ⟨k, s6, ks, rfl, c6 _ _ nk ek5, by omega, nn5, fun D6 H7 ys hD6 s7 e7 ny my ly fy => ?_⟩⟩
          have nD6 : D6 ≠ b := (B6.ne hD6).symm
          have el6 := c6 _ _ nl el5
          refine ⟨D6, ys, (c5.trans c6).trans (.same s7), (B6.same s7).mono (by omega), none_of_chg (c5.trans c6) nD6 hD6, nD6, (ne_of_none el6 hD6).symm, s7 _ _ el6, e7, ny, fun n hn => ((my n).mp hn).elim (ky5 n) fun e => e ▸ hs6, by omega, List.length_pos_of_mem ((my s6).mpr (.inr rfl)), _, rfl⟩
        · rintro σ H5 ⟨k, ks, c5, B5, hk, nk, kl, el5, ek5, nn5, ky5, le5, pos5, y2, rfl⟩
          exact hNn _ _ ⟨k, ks, c5, B5.mono (by omega), hk, nk, kl, el5, ek5, nn5, ky5, by omega, pos5, y2, rfl⟩
      · rintro σ H4 ⟨k, ks, c4, B4, hk, nk, kl, el4, ek4, nn4, ky4, le4, pos4, y2, rfl⟩
        have le4 : ks.length ≤ 6 := Nat.le_succ_of_le le4
        have B4 : BagAt (N + 10000) b H4 := B4.mono (by omega)
        refine ⟨_, rfl, ?_⟩
        refine rd_draw (m := ((ns.map V.str).length : Int)) (N := N + 10000) rfl (fun R h => ⟨_, rfl, l, _, rfl, .inl (.inl (.inl el4)), h⟩) (by rw [List.length_map]; omega) (by rw [List.length_map]; omega) (by omega) B4 fun H6 r c6 B6 r0 r1 => ?_
        rw [List.length_map] at r1
        obtain ⟨m, rfl⟩ : ∃ m : Nat, r = (m : Int) := ⟨r.toNat, by omega⟩
        have el6 := c6 _ _ nl el4
        have ek6 := c6 _ _ nk ek4
        refine ⟨1, (m : Int), rfl, rfl, _, rfl, l, _, rfl, .inl (.inl el6), fun l1 hl1 => ?_⟩
        have ec : cutV (ns.map V.str) none (some ((1 : Int) + (m : Int))) = (ns.take (1 + m)).map V.str := by
          rw [show ((1 : Int) + (m : Int)) = ((1 + m : Nat) : Int) by omega, cutV_to, List.map_take]
        rw [ec]
        have c7 : Chg b H H6 := c4.trans c6
        have nl1 : l1 ≠ b := (B6.ne hl1).symm
        refine ⟨_, rfl, Evl.sz_of (by show 2 ≤ 100000; decide), fun p hp => ?_⟩
        have nk1 : k ≠ l1 := ne_of_none ek6 hl1
        have ek7 : upd H6 l1 (.lst ((ns.take (1 + m)).map V.str)) k = some (.lst (ks.map V.str)) := by rw [upd_ne nk1]; exact ek6
        have e17 : upd H6 l1 (.lst ((ns.take (1 + m)).map V.str)) l1 = some (.lst ((ns.take (1 + m)).map V.str)) := upd_same
        have np1 : l1 ≠ p := ne_of_none e17 hp
        have npk : k ≠ p := ne_of_none ek7 hp
        have hp6 : H6 p = none := by rwa [upd_ne np1.symm] at hp
        have npb : p ≠ b := (B6.ne hp6).symm
        exact q _ p l1 k _ ks ((c7.trans (.new hl1)).trans (.new hp)) (((B6.new hl1).new hp).mono (by omega))
          ⟨upd_same, by rw [upd_ne np1]; exact e17, by rw [upd_ne npk]; exact ek7, by rw [List.length_take]; omega, by rw [List.length_take]; omega, pos4, le4, fun n hn => nm n (List.mem_of_mem_take hn), ky4, nn.sublist (List.take_sublist _ _), nn4⟩
          (none_of_chg c7 npb hp6) (none_of_chg c7 nl1 hl1) hk nk1.symm
theorem ok_law_spot (T : Txt K mg A) : FnOk P w K mg base CX0 2 A.a_law_spot A.d_law_spot ["bag", "pool", "most"] spSpot := by
  have G_law_draw := ok_law_draw (P := P) (w := w) (base := base) T
  refine T.F_law_spot.ok sc_law_spot (fun vs H Q E h => ?_) (fun cdv A outer s H vs Q E hr h => ?_)
  · obtain ⟨b, p, l1, l2, ns, ks, m, N, rfl, _⟩ := h
    rfl
  · obtain ⟨b, p, l1, l2, ns, ks, m, N, rfl, m0, m1, hN, hB, hP, q⟩ := h
    refine ⟨_, (pss_cons (ps_setLc (i := 3) (own := [("k", 4)]) (g := gName 4) (tt := tYes) rfl sc_law_spot.nd rfl rfl (sw_true rfl rfl rfl (by decide +kernel)) (pi_range1 (by rfl) T.n_range (pa_cons (pe_call G_law_draw (hr.mono (by omega)) (by rfl) T.g_law_draw T.F_law_draw.kp T.b_law_draw .nil pass0 (pa_cons (pv 0) (pa_cons (pe_op op_add (pv 2) pe_int) pa_nil))) pa_nil)) (blkOk_by (own := [("k", 4)]) (N := N_law_spot) (sc := defScope s_law_spot) (by decide +kernel)) (fun _ _ _ _ _ => (pg_name (i := 4) sc_law_spot.nd rfl (.inl rfl))) (fun _ _ _ _ _ => pts_nil) (fun _ _ _ _ _ => (pe_ix (k_ix_list K) (pe_ix (k_ix_list K) (pv 1) pe_int (fun _ _ => rfl)) (pe_call G_law_draw (hr.mono (by omega)) (by rfl) T.g_law_draw T.F_law_draw.kp T.b_law_draw .nil pass0 (pa_cons (pv 0) (pa_cons (pe_callB (k_len K) (by rfl) T.n_len PySem.boot_len (pa_cons (pe_ix (k_ix_list K) (pv 1) pe_int (fun _ _ => rfl)) pa_nil)) pa_nil))) (fun _ _ => rfl))))
      (pss_one (ps_ret (pe_tup (pa_cons (pe_ix (k_ix_list K) (pe_ix (k_ix_list K) (pv 1) pe_int (fun _ _ => rfl)) (pe_call G_law_draw (hr.mono (by omega)) (by rfl) T.g_law_draw T.F_law_draw.kp T.b_law_draw .nil pass0 (pa_cons (pv 0) (pa_cons (pe_callB (k_len K) (by rfl) T.n_len PySem.boot_len (pa_cons (pe_ix (k_ix_list K) (pv 1) pe_int (fun _ _ => rfl)) pa_nil)) pa_nil))) (fun _ _ => rfl)) (pa_cons (pe_callTy (k_tuple K) (by rfl) T.n_tuple (by decide +kernel) (pa_cons (pv 3) pa_nil)) pa_nil)))))), ?_⟩
    refine ⟨_, rfl, _, rfl, m, 1, rfl, rfl, b, m + 1, N, rfl, by omega, by omega, by omega, hB, fun H2 r2 c2 B2 r20 r21 => ?_⟩
    have P2 := hP.chg c2 hB
    refine ⟨_, rfl, by omega, by omega, fun D hD => ?_⟩
    refine lc_draws (N := N + 1) (c := 1) (n := r2.toNat) (fun v => ∃ y : Str, v = .str y ∧ KeyS y ∧ y ∈ ks) (by omega) hD B2 (fun H4 M kk c4 B4 hM R q4 => ?_) (by decide) (fun H4 ys yl hy c4 B4 e4 => ?_)
    · have P4 := P2.chg c4 B2
      have k1 := P4.k1
      have k0 := P4.k0
      refine ⟨_, rfl, p, _, 1, .ref l2, rfl, rfl, .inl (.inl P4.ep), atI_nat (j := 1) rfl, ?_⟩
      refine rd_draw (m := ((ks.map V.str).length : Int)) (N := M) rfl (fun R h => ⟨_, rfl, p, _, 1, .ref l2, rfl, rfl, .inl (.inl P4.ep), atI_nat (j := 1) rfl, l2, _, rfl, .inl (.inl (.inl P4.e2)), h⟩) (by rw [List.length_map]; omega) (by rw [List.length_map]; omega) (by omega) B4 fun H5 r5 c5 B5 r50 r51 => ?_
      rw [List.length_map] at r51
      obtain ⟨k, hkm, ek⟩ := at_map V.str r50 r51
      exact ⟨l2, _, r5, .str k, rfl, rfl, .inl (.inl (P4.chg c5 B4).e2), ek, q4 _ _ c5 B5 ⟨k, rfl, hP.ky k hkm, hkm⟩⟩
    · obtain ⟨zs, rfl, hz⟩ := strs_of hy
      rw [List.length_map] at yl
      have P4 := P2.chg c4 B2
      have n1 := P4.n1
      have n0 := P4.n0
      have nD : D ≠ b := (B2.ne hD).symm
      refine ⟨_, rfl, p, _, 0, .ref l1, rfl, rfl, .inl (.inl P4.ep), atI_nat (j := 0) rfl, ?_⟩
      refine rd_draw (m := ((ns.map V.str).length : Int)) (N := N + 1 + 1 * r2.toNat) rfl (fun R h => ⟨_, rfl, p, _, 0, .ref l1, rfl, rfl, .inl (.inl P4.ep), atI_nat (j := 0) rfl, l1, _, rfl, .inl (.inl (.inl P4.e1)), h⟩) (by rw [List.length_map]; omega) (by rw [List.length_map]; omega) (by omega) B4 fun H5 r c5 B5 r0 r1 => ?_
      rw [List.length_map] at r1
      obtain ⟨n, hnm, en⟩ := at_map V.str r0 r1
      have e5 := c5 _ _ nD e4
      refine ⟨l1, _, r, .str n, rfl, rfl, .inl (.inl (P4.chg c5 B4).e1), en, ?_⟩
      refine ⟨_, rfl, D, _, rfl, .inl ⟨.inl (.inl e5), fun kt hkt => ?_⟩⟩
      refine ⟨Evl.sz_of (by show 2 ≤ 100000; decide), fun a ha => ?_⟩
      have nk := ne_of_none (upd_same (H := H5) (a := kt) (o := .tup (zs.map V.str))) ha
      exact q _ a n zs ((c2.trans (c4.trans c5)).trans ((Chg.new hkt).trans (Chg.new ha))) (((B5.new hkt).new ha).mono (by omega)) ⟨a, kt, rfl, upd_same, by rw [upd_ne nk]; exact upd_same⟩ ⟨hP.nm n hnm, by omega, fun k hk => (hz k hk).1⟩ hnm (fun j hj => (hz j hj).2) (by omega)
theorem str_fits {n : Int} (h : n.natAbs < 2 ^ 200) : n.natAbs.log2 < 1920 := Nat.lt_of_lt_of_le (PySem.Flt.log2_lt_of (by decide) h) (by decide)
theorem ok_Erring___init (T : Txt K mg A) : FnOk P w K mg base CX0 1 A.a_Erring___init A.d_Erring___init ["self", "word"] (spErrI A.c_Erring wordF) := by
  refine T.F_Erring___init.ok sc_Erring___init (fun vs H Q E h => ?_) (fun cdv Ar outer s' H vs Q E hr h => ?_)
  · obtain ⟨a, v, rfl, _⟩ := h
    rfl
  · obtain ⟨a, v, rfl, ea, q⟩ := h
    refine ⟨_, (pss_one (ps_ost (pv 0) (pv 1))), ?_⟩
    exact ⟨_, rfl, _, rfl, a, A.c_Erring, rfl, T.ox_Erring, T.na_Erring_word, .inl ⟨ea, fun dx h1 h2 => q dx h1 h2⟩⟩
theorem digs_mem {c : Nat} : decide (c ∈ tl (Str.ofString "0123456789")) = isFig c := by
  have e : tl (Str.ofString "0123456789") = (List.range 10).map (· + 48) := by decide +kernel
  rw [e]
  unfold isFig
  rw [← Bool.decide_and]
  refine decide_eq_decide.mpr ?_
  rw [List.mem_map]
  constructor
  · rintro ⟨k, hk, rfl⟩
    have := List.mem_range.mp hk
    omega
  · intro h
    exact ⟨c - 48, List.mem_range.mpr (by omega), by omega⟩
theorem sign_is {c d : Nat} : decide (V.str ⟨#[c]⟩ = V.str ⟨#[d]⟩) = decide (c = d) := decide_eq_decide.mpr ⟨fun z => by
  have := congrArg tl (V.str.inj z)
  simpa [tl] using this, fun z => by rw [z]⟩
theorem flt_lt {α : Type} (p : α → Bool) : ∀ l : List α, decide ((l.filter p).length < l.length) = !(l.filter fun c => !p c).isEmpty
  | [] => rfl
  | x :: l => by
    have ih := flt_lt p l
    have hl := List.length_filter_le p l
    rw [List.filter_cons, List.filter_cons]
    cases h : p x with
    | true =>
      rw [if_pos rfl, Bool.not_true, if_neg Bool.false_ne_true, ← ih, List.length_cons, List.length_cons]
      exact decide_eq_decide.mpr (by omega)
    | false =>
      rw [if_neg Bool.false_ne_true, Bool.not_false, if_pos rfl, List.length_cons]
      rw [decide_eq_true (by omega)]
      rfl
theorem ok_law_rank (T : Txt K mg A) : FnOk P w K mg base CX0 1 A.a_law_rank A.d_law_rank ["text"] (spRank K) := by
  refine T.F_law_rank.ok sc_law_rank (fun vs H Q E h => ?_) (fun cdv Ar outer s' H vs Q E hr h => ?_)
  · obtain ⟨s, rfl, _⟩ := h
    rfl
  · obtain ⟨s, rfl, hs, q⟩ := h
    refine ⟨_, (pss_cons (ps_set (i := 1) sc_law_rank.nd rfl (.inl rfl) (pe_slice sl_str (pv 0) (po_some (pe_callTy call_int1 (by rfl) T.n_int (by decide +kernel) (pa_cons (pe_cmpR op_eq (pe_slice sl_str (pv 0) po_none (po_some pe_int)) pe_str (nomark _)) pa_nil))) po_none))
      (pss_cons (ps_setLc (i := 2) (own := [("sign", 3)]) (g := gName 3)  rfl sc_law_rank.nd rfl rfl (sw_true rfl rfl rfl (by decide +kernel)) (pi_str (pv 1)) (blkOk_by (own := [("sign", 3)]) (N := N_law_rank) (sc := defScope s_law_rank) (by decide +kernel)) (fun _ _ _ _ _ => (pg_name (i := 3) sc_law_rank.nd rfl (.inl rfl))) (fun _ _ _ _ _ => pts_one (pt_cmpR op_inS (pv 3) pe_str (by rfl))) (fun _ _ _ _ _ => (pv 3)))
      (pss_cons (ps_if (PW.pt (pw_or (pt_cmpR op_eq (pv 1) pe_str (nomark _)) (pw_or (pt_cmpR op_lt (pe_callB (k_len K) (by rfl) T.n_len PySem.boot_len (pa_cons (pv 2) pa_nil)) (pe_callB call_len_str (by rfl) T.n_len PySem.boot_len (pa_cons (pv 1) pa_nil)) (nomark _)) (pw_or1 (PW.pt (pw_and (pt_cmpR op_eq (pe_ix ix_str (pv 1) pe_int (fun _ _ => rfl)) pe_str (nomark _)) (pw_and1 (pt_cmpR op_ne (pv 0) pe_str (nomark _)))))))))
      (pss_one (ps_ret (pe_tup (pa_cons pe_int (pa_cons pe_int (pa_cons (pv 0) pa_nil))))))
      pss_nil)
      (pss_one (ps_ret (pe_tup (pa_cons pe_int (pa_cons (pe_callTy call_int_str (by rfl) T.n_int (by decide +kernel) (pa_cons (pv 0) pa_nil)) (pa_cons pe_str pa_nil))))))))), ?_⟩
    refine seq_abs (fun σ' H' => ∃ B : Str, σ' = [some (.str s), some (.str B), none, none] ∧ H = H' ∧ tl B = figS s ∧ B.length ≤ 640) (fun Nx hN => ?_) ?_
    · refine ⟨_, rfl, _, rfl, 1, rfl, s, rfl, Evl.sz_of (by omega), rfl, .inr ⟨_, rfl, ?_⟩⟩
      have ec := cut_to s (m := 1) (by decide)
      have e1 : decide (V.str (cutS s none (some 1)) = V.str (Str.ofString "-")) = decide ((tl s).take 1 = [45]) := decide_eq_decide.mpr ⟨fun z => by
        have := congrArg tl (V.str.inj z)
        rw [ec] at this
        rw [show ((tl s).take 1) = (tl s).take (1 : Int).toNat from rfl, this]
        decide +kernel, fun z => congrArg V.str (tl_inj (by
        rw [ec, show (tl s).take (1 : Int).toNat = (tl s).take 1 from rfl, z]
        decide +kernel))⟩
      rw [e1]
      by_cases h45 : (tl s).take 1 = [45]
      · rw [decide_eq_true h45]
        refine ⟨_, rfl, s, rfl, Evl.sz_of (by omega), hN _ _ ⟨_, rfl, rfl, ?_, Nat.le_trans (cutS_length s _ _) hs⟩⟩
        show tl (cutS s (some 1) none) = _
        rw [show tl (cutS s (some 1) none) = (tl s).drop 1 from cut_from s 1]
        unfold figS
        rw [if_pos h45]
      · rw [decide_eq_false h45]
        refine ⟨_, rfl, s, rfl, Evl.sz_of (by omega), hN _ _ ⟨_, rfl, rfl, ?_, Nat.le_trans (cutS_length s _ _) hs⟩⟩
        show tl (cutS s (some 0) none) = _
        rw [show tl (cutS s (some 0) none) = (tl s).drop 0 from cut_from s 0]
        unfold figS
        rw [if_neg h45, List.drop_zero]
    · rintro σ' H' ⟨B, rfl, rfl, eB, lB⟩
      have look := isNumS_look s
      rw [← eB] at look
      have lt := len_tl B
      refine ⟨_, rfl, B, rfl, fun D hD => ?_⟩
      refine lc_pure_str isFig (fun c => .str ⟨#[c]⟩) (by omega) hD (fun c H2 _ s2 R q2 => ?_) (fun c H2 _ _ s2 R q2 => ⟨_, rfl, q2 _ (.refl _)⟩) (fun H2 s2 e2 => ?_)
      · refine ⟨_, rfl, c, _, rfl, rfl, _, rfl, ?_⟩
        show R (decide (c ∈ tl (Str.ofString "0123456789"))) H2
        rw [digs_mem]
        exact q2 _ (.refl _)
      · have r1 : isNumS s = false → ∀ p, H2 p = none → Q (.ref p) (upd H2 p (.tup [.int 1, .int 0, .str s])) := fun hn p hp => q _ _ (s2.trans (same_new hp)) (by
          unfold rankT
          rw [if_neg (by rw [hn]; exact Bool.false_ne_true)]
          exact dv_rank upd_same)
        have r0 : isNumS s = true → ∀ p, H2 p = none → Q (.ref p) (upd H2 p (.tup [.int 0, .int (numS s), .str (Str.ofString "")])) := fun hn p hp => q _ _ (s2.trans (same_new hp)) (by
          unfold rankT
          rw [if_pos hn]
          exact dv_rank upd_same)
        have sz3 : 3 ≤ sizeLine := Evl.sz_of (by decide)
        cases hF : tl B with
        | nil =>
          have e : B = Str.ofString "" := tl_inj (by rw [hF, empty_tl])
          have hn : isNumS s = false := by rw [look, hF]; rfl
          exact ⟨_, rfl, rfl, _, rfl, iteT' (by rw [e]; exact decide_eq_true rfl) (iteT ⟨_, rfl, sz3, r1 hn⟩)⟩
        | cons c r =>
          have ne : B ≠ Str.ofString "" := fun z => by rw [z, empty_tl] at hF; cases hF
          refine ⟨_, rfl, rfl, _, rfl, iteF' (decide_eq_false (fun z => ne (V.str.inj z))) ?_⟩
          refine ⟨_, rfl, D, _, rfl, .inl (.inl (.inl e2)), _, rfl, B, rfl, Evl.sz_of (by omega), _, _, rfl, rfl, _, rfl, ?_⟩
          have ed : decide (((((tl B).filter isFig).map fun c => V.str ⟨#[c]⟩).length : Int) < (B.length : Int)) = !((tl B).filter fun c => !isFig c).isEmpty := by
            rw [← flt_lt, List.length_map]
            exact decide_eq_decide.mpr (by omega)
          rw [ed]
          cases hfil : ((tl B).filter fun c => !isFig c).isEmpty with
          | false =>
            have hn : isNumS s = false := by rw [look, hfil, Bool.and_false, Bool.false_and]
            exact iteT (iteT ⟨_, rfl, sz3, r1 hn⟩)
          | true =>
            have look2 : isNumS s = (!((tl B).head? == some 48) || decide (tl s = [48])) := by rw [look, hfil, hF]; rfl
            refine iteF ⟨_, rfl, B, 0, c, rfl, rfl, Evl.sz_of (by omega), ?_, rfl, _, rfl, ?_⟩
            · show atI (tl B) 0 = some c
              rw [hF]
              exact atI_nat (j := 0) rfl
            · show (if decide (V.str ⟨#[c]⟩ = V.str ⟨#[48]⟩) = true then _ else _)
              rw [sign_is]
              by_cases e48 : c = 48
              · refine iteT' (decide_eq_true e48) ⟨_, rfl, rfl, _, rfl, ?_⟩
                have es : decide (V.str s = V.str (Str.ofString "0")) = decide (tl s = [48]) := decide_eq_decide.mpr ⟨fun z => by rw [V.str.inj z]; decide +kernel, fun z => congrArg V.str (tl_inj (by rw [z]; decide +kernel))⟩
                show (if (!decide (V.str s = V.str (Str.ofString "0"))) = true then _ else _)
                rw [es]
                by_cases e1 : tl s = [48]
                · have hn : isNumS s = true := by rw [look2, decide_eq_true e1, Bool.or_true]
                  rw [decide_eq_true e1]
                  exact ⟨_, rfl, s, _, rfl, intText_num hn hs, hs, sz3, r0 hn⟩
                · have hn : isNumS s = false := by rw [look2, decide_eq_false e1, hF, e48]; rfl
                  rw [decide_eq_false e1]
                  exact ⟨_, rfl, sz3, r1 hn⟩
              · have hn : isNumS s = true := by
                  rw [look2, hF]
                  show (!(some c == some 48) || _) = true
                  have : (some c == some 48) = false := beq_eq_false_iff_ne.mpr fun z => e48 (Option.some.inj z)
                  rw [this]
                  rfl
                exact iteF' (decide_eq_false e48) ⟨_, rfl, s, _, rfl, intText_num hn hs, hs, sz3, r0 hn⟩
theorem ok_Scene_init (T : Txt K mg A) : FnOk P w K mg base CX0 1 A.a_Scene___init A.d_Scene___init ["self", "own", "dealings", "job"] (spScInit A.c_Scene) := by
  refine T.F_Scene___init.ok sc_Scene___init (fun vs H Q E h => ?_) (fun cdv Ar outer s' H vs Q E hr h => ?_)
  · obtain ⟨p, dx, o, d, rfl, _⟩ := h
    rfl
  · obtain ⟨p, dx, o, d, rfl, hp, q⟩ := h
    refine ⟨_, (pss_cons (ps_fld (pv 0) (pv 1) rfl)
      (pss_cons (ps_fld (pv 0) (pv 2) rfl)
      (pss_cons (ps_fld (pv 0) (pv 3) rfl)
      (pss_one (ps_fld (pv 0) pe_non rfl))))), ?_⟩
    refine ⟨_, rfl, _, rfl, p, A.c_Scene, dx, [], rfl, hp, T.cl_Scene, T.na_Scene_own, (by show 0 < 1000; decide), ?_⟩
    refine ⟨_, rfl, _, rfl, p, A.c_Scene, dx, _, rfl, upd_same, T.cl_Scene, T.na_Scene_dealings, (by show 1 < 1000; decide), ?_⟩
    refine ⟨_, rfl, _, rfl, p, A.c_Scene, dx, _, rfl, upd_same, T.cl_Scene, T.na_Scene_job, (by show 2 < 1000; decide), ?_⟩
    refine ⟨_, rfl, p, A.c_Scene, dx, _, rfl, upd_same, T.cl_Scene, T.na_Scene_latest, (by show 3 < 1000; decide), ?_⟩
    rw [upd_upd, upd_upd, upd_upd]
    exact q
def tlP (k : PK) (nm : Str) (ls : Addr) : List V := match k with
  | .short => [.ref ls]
  | _ => [.str nm, .ref ls]
theorem hdP_eq (k : PK) (nm : Str) (ls : Addr) : hdP k nm ls = .str k.t :: tlP k nm ls := by cases k <;> rfl
theorem tlP_last (k : PK) (nm : Str) (ls : Addr) : atI (tlP k nm ls) (-1) = some (.ref ls) := by cases k <;> rfl
theorem tlP_head (k : PK) (nm : Str) (ls : Addr) : ∃ x, atI (tlP k nm ls) 0 = some x ∧ (k ≠ .short → x = .str nm) := by
  cases k
  · exact ⟨_, rfl, fun _ => rfl⟩
  · exact ⟨_, rfl, fun _ => rfl⟩
  · exact ⟨_, rfl, fun z => absurd rfl z⟩
theorem kt_dec (k : PK) (c : PK) : decide (V.str k.t = V.str c.t) = decide (k = c) := by cases k <;> cases c <;> decide +kernel
theorem ones_ne {a b : Str} (h : a ≠ b) : decide (V.str a = V.str b) = false := decide_eq_false fun z => h (V.str.inj z)
theorem keyD_eq {k : Str} (h : WorthS k) : isKeyD (.str k) = (decide (1 ≤ k.length) && decide (k.length ≤ 40)) := by
  show (decide (WorthS k) && (decide (1 ≤ k.length) && decide (k.length ≤ 40))) = _
  rw [decide_eq_true h, Bool.true_and]
theorem keysOk_of {em : Bool} {ks : List Str} (h : ∀ j k, ks[j]? = some k → keyL em ks.length j k = true) : keysOk em ks = true := keysL_of fun j k e => by rw [Nat.zero_add]; exact h j k e
theorem keysOk_not {em : Bool} {ks : List Str} {j : Nat} {k : Str} (e : ks[j]? = some k) (h : keyL em ks.length j k = false) : keysOk em ks ≠ true := fun z => by
  have := keysL_get z j k e
  rw [Nat.zero_add, h] at this
  cases this
theorem place_body (T : Txt K mg A) (n k : Nat) (hk : 10 ≤ k) (G_Scene_reckoned : FnOk P w K mg base (L2.CX P w) k A.a_Scene_reckoned A.d_Scene_reckoned ["self", "expression"] (spRkE w A.c_Scene A.c_Arrays A.c_Dealings A.c_Erring n)) :
    FnOk P w K mg base (L2.CX P w) (k + 1) A.a_Scene_place_of A.d_Scene_place_of ["self", "expression", "empty"] (spPlE w A.c_Scene A.c_Arrays A.c_Dealings A.c_Erring n) := by
  have G_is_key := ok_is_key (P := P) (w := w) (base := base) T
  have G_Erring___init := ok_Erring___init (P := P) (w := w) (base := base) T
  refine T.F_Scene_place_of.okX sc_Scene_place_of (fun vs H Q E h => ?_) (fun cdv Ar outer s' H vs Q E hr h => ?_)
  · obtain ⟨v, lv, l, l', t, em, pk, nm, ps, r, rfl, _⟩ := h
    rfl
  · obtain ⟨v, lv, l, l', t, em, pk, nm, ps, r, rfl, hV, ⟨ls, us, et, el, hus⟩, hnm, hlen, hg, hev, hok, herr⟩ := h
    refine ⟨_, (pss_cons (ps_asg (pv 1) (k_star1 K rfl (pgs_cons (pg_name (i := 3) sc_Scene_place_of.nd rfl (.inl rfl)) (pgs_cons (pg_name (i := 4) sc_Scene_place_of.nd rfl (.inl rfl)) pgs_nil))))
      (pss_cons (ps_setLcX (i := 5) (own := [("part", 12)]) (g := gName 12) (tt := tYes) rfl rfl (takes_of (E := E) rfl rfl rfl rfl) rfl sc_Scene_place_of.nd rfl rfl (sw_true rfl rfl rfl (by decide +kernel)) (k_pi_list K (pe_ix (k_ix_list K) (pv 4) (pe_un un_neg pe_int) (fun _ _ => rfl))) (blkOk_by (own := [("part", 12)]) (N := N_Scene_place_of) (sc := defScope s_Scene_place_of) (by decide +kernel)) (fun _ _ _ _ _ => (pg_name (i := 12) sc_Scene_place_of.nd rfl (.inl rfl))) (fun _ _ _ _ _ => pts_nil) (fun _ _ _ _ _ _ hp => (pe_meth (pv 0) T.cl_Scene T.M_Scene_reckoned G_Scene_reckoned (hr.mono (by omega)) T.b_Scene_reckoned .nil hp (pa_cons (pv 12) pa_nil))))
      (pss_cons (ps_set (i := 6) sc_Scene_place_of.nd rfl (.inl rfl) (pe_tup pa_nil))
      (pss_cons (ps_set (i := 7) sc_Scene_place_of.nd rfl (.inl rfl) (pe_ix (k_ix_list K) (pv 4) pe_int (fun _ _ => rfl)))
      (pss_cons (ps_if (pt_cmpR op_eq (pv 3) pe_str (nomark _))
      (pss_cons (ps_if (pt_cmpR op_isN (pe_fld (pv 0) rfl) pe_non (nomark _))
      (pss_one (ps_raise rfl (takes_of (E := E) rfl rfl rfl rfl) (pmk_oex T.ox_Erring T.ie_Erring T.it_Erring G_Erring___init (hr.mono (by omega)) T.b_Erring___init .nil pass0 (by rfl) T.g_Erring (pa_cons pe_str pa_nil))))
      pss_nil)
      (pss_cons (ps_asg (pe_fld (pv 0) rfl) (pg_tup rfl (pgs_cons (pg_name (i := 7) sc_Scene_place_of.nd rfl (.inl rfl)) (pgs_cons (pg_name (i := 8) sc_Scene_place_of.nd rfl (.inl rfl)) pgs_nil))))
      (pss_one (ps_set (i := 6) sc_Scene_place_of.nd rfl (.inl rfl) (pe_slice (k_sl_tup K) (pv 8) po_none (po_some (pe_un un_neg pe_int)))))))
      pss_nil)
      (pss_cons (ps_if (pt_cmpR op_gt (pe_op op_add (pe_callB (k_len K) (by rfl) T.n_len PySem.boot_len (pa_cons (pv 6) pa_nil)) (pe_callB (k_len K) (by rfl) T.n_len PySem.boot_len (pa_cons (pv 5) pa_nil))) (pe_glob (v := .int 6) rfl T.c_MOST_KEYS ⟨_, rfl⟩) (nomark _))
      (pss_one (ps_raise rfl (takes_of (E := E) rfl rfl rfl rfl) (pmk_oex T.ox_Erring T.ie_Erring T.it_Erring G_Erring___init (hr.mono (by omega)) T.b_Erring___init .nil pass0 (by rfl) T.g_Erring (pa_cons pe_str pa_nil))))
      pss_nil)
      (pss_cons (ps_for (passes_of rfl) rfl (pi_enum (by rfl) T.n_enumerate (pa_cons (pv 5) pa_nil)) (pg_tup rfl (pgs_cons (pg_name (i := 9) sc_Scene_place_of.nd rfl (.inl rfl)) (pgs_cons (pg_name (i := 10) sc_Scene_place_of.nd rfl (.inl rfl)) pgs_nil)))
      (pss_one (ps_if (PW.pt (pw_and (pt_not (pt_val (pe_call G_is_key (hr.mono (by omega)) (by rfl) T.g_is_key T.F_is_key.kp T.b_is_key .nil pass0 (pa_cons (pv 10) pa_nil)))) (pw_and1 (pt_not (PW.pt (pw_and (pt_val (pv 2)) (pw_and (pt_cmpR op_eq (pv 10) pe_str (nomark _)) (pw_and1 (pt_cmpR op_eq (pv 9) (pe_op op_sub (pe_callB (k_len K) (by rfl) T.n_len PySem.boot_len (pa_cons (pv 5) pa_nil)) pe_int) (nomark _))))))))))
      (pss_one (ps_raise rfl (takes_of (E := E) rfl rfl rfl rfl) (pmk_oex T.ox_Erring T.ie_Erring T.it_Erring G_Erring___init (hr.mono (by omega)) T.b_Erring___init .nil pass0 (by rfl) T.g_Erring (pa_cons pe_str pa_nil))))
      pss_nil)))
      (pss_cons (ps_set (i := 11) sc_Scene_place_of.nd rfl (.inl rfl) (pe_tup (pa_cons (pv 7) (pa_cons (pe_op (k_catA K) (pv 6) (pe_callTy (k_tuple K) (by rfl) T.n_tuple (by decide +kernel) (pa_cons (pv 5) pa_nil))) pa_nil))))
      (pss_cons (ps_if (pt_cmpR op_ne (pv 3) pe_str (nomark _))
      (pss_one (ps_fld (pv 0) (pe_ifExp (pt_cmpR (k_neP K hr.units) (pe_ix (k_ix_tup K) (pv 11) pe_int (fun _ _ => rfl)) (pe_tup pa_nil) (nomark _)) (pv 11) pe_non) rfl))
      pss_nil)
      (pss_one (ps_ret (pe_tup (pa_cons (pe_cmpR op_eq (pv 3) pe_str (nomark _)) (pa_cons (pv 11) pa_nil)))))))))))))), ?_⟩
    rw [hdP_eq] at et
    refine ⟨_, rfl, t, _, _, rfl, .inl (.inl et), fun D hD => ⟨_, _, rfl, _, _, rfl, rfl, ?_⟩⟩
    have s1 : Same H (upd H D (.lst (tlP pk nm ls))) := same_new hD
    have eD : upd H D (.lst (tlP pk nm ls)) D = some (.lst (tlP pk nm ls)) := upd_same
    generalize upd H D (.lst (tlP pk nm ls)) = H1 at s1 eD ⊢
    have lps : us.length = ps.length := Paired.length hus
    have hV1 := hV.same s1
    have gs := hV.dl.good
    have evg := evE_ok hV.ge hV.dl.good hV.wo hV.dl.wor n
    dsimp only
    refine seq_abs (fun σ' H' => Chg v.sc H H' ∧ ∃ (ks : List Str) (kl : Addr) (lv2 : V) (l1 : Option Rf), evAll (evE v.eo v.s.es n) ps l = some (.ok ks, l1) ∧ VwS w A.c_Scene A.c_Arrays A.c_Dealings H' v lv2 l1 ∧ H' kl = some (.lst (ks.map V.str)) ∧ H' D = some (.lst (tlP pk nm ls)) ∧ σ' = [some (.ref v.sc), some (.ref t), some (.bl em), some (.str pk.t), some (.ref D), some (.ref kl), none, none, none, none, none, none, none]) (fun Nn hNn => ?_) ?_
    · refine ⟨_, rfl, 1, rfl, D, _, -1, .ref ls, rfl, rfl, .inl (.inl eD), tlP_last pk nm ls, ls, rfl, ⟨_, .inl (.inl (s1 _ _ el))⟩, fun L hL => ?_⟩
      obtain ⟨R, l1, hR⟩ : ∃ R l1, evAll (evE v.eo v.s.es n) ps l = some (R, l1) := by
        rcases bindX_some hev with ⟨wd, e1, _⟩ | ⟨ks, l1, e1, _⟩
        · exact ⟨_, _, e1⟩
        · exact ⟨_, _, e1⟩
      refine lc_ev (E := E) (CE := A.c_Erring) hL (by omega) hV1 (s1 _ _ el) (L2.Paired.mapP hus fun _ _ => ExAt.keep (.same s1)) hg hR (fun u e H2 lv2 l2 l3 r2 Q2 hv2 hx2 hg2 he2 tell => ?_) (fun ks eR H2 lv2 c2 hv2 eL => ?_) (fun wd eR H2 lv2 d c2 hv2 ed => ?_)
      · exact ⟨_, rfl, v.sc, _, _, rfl, hv2.at, rfl, _, rfl, v, lv2, l2, l3, u, e, r2, rfl, hv2, hx2, hg2, he2, tell⟩
      · subst eR
        have nsD : D ≠ v.sc := ne_of eD hV1.at fun z => nomatch z
        exact hNn _ _ ⟨(Chg.same s1).trans c2, ks, L, lv2, l1, hR, hv2, eL, c2 _ _ nsD eD, rfl⟩
      · subst eR
        have e2 : evP (evE v.eo v.s.es n) em pk nm ps l = some (.error wd, l1) := by
          unfold evP
          rw [hR]
          rfl
        rw [e2] at hev
        cases hev
        exact herr wd rfl H2 lv2 d ((Chg.same s1).trans c2) hv2 ed
    rintro σ H2 ⟨c2, ks, kl, lv2, l1, hR, hv2, ek, eD2, rfl⟩
    obtain ⟨hl1, hks⟩ := evAll_ok evg hR hg hV.lok
    obtain ⟨lks, hks⟩ := hks ks rfl
    have hpl : plK em pk nm ks l1 = (r, l') := by
      have e2 : evP (evE v.eo v.s.es n) em pk nm ps l = some (plK em pk nm ks l1) := by
        unfold evP
        rw [hR]
        rfl
      rw [e2] at hev
      injection hev
    clear hev hR hus el et evg hV1 s1 eD hD
    -- an error raised here
    have raise : ∀ (wd : Str) (H3 : Hp), plK em pk nm ks l1 = (.error wd, l1) → Same H2 H3 → ErrV A.c_Erring wordF (.str wd) H3 E := fun wd H3 e s3 H4 d s4 _ ed => by
      rw [e] at hpl
      cases hpl
      exact herr wd rfl H4 lv2 d (c2.trans (.same (s3.trans s4))) (hv2.same (s3.trans s4)) ed
    refine ⟨Evl.sz_of (by show 0 ≤ 100000; decide), fun p0 np0 => ?_⟩
    have s3 : Same H2 (upd H2 p0 (.tup [])) := same_new np0
    have e0 : (upd H2 p0 (.tup [])) p0 = some (.tup (([] : List Str).map V.str)) := upd_same
    generalize upd H2 p0 (.tup []) = H3 at s3 e0 ⊢
    obtain ⟨x0, hx0, hx0n⟩ := tlP_head pk nm ls
    refine ⟨_, rfl, D, _, 0, x0, rfl, rfl, .inl (.inl (s3 _ _ eD2)), hx0, ?_⟩
    dsimp only [gName]
    refine seq_abs (fun σ' H' => Same H2 H' ∧ ∃ (n0 : Str) (hd : List Str) (p1 : Addr) (y8 : Option V), plHead pk nm l1 = some (n0, hd) ∧ hd.length ≤ 6 ∧ H' p1 = some (.tup (hd.map V.str)) ∧ σ' = [some (.ref v.sc), some (.ref t), some (.bl em), some (.str pk.t), some (.ref D), some (.ref kl), some (.ref p1), some (.str n0), y8, none, none, none, none]) (fun Nn hNn => ?_) ?_
    · refine ⟨_, rfl, rfl, _, rfl, ?_⟩
      rw [show Str.ofString "short" = PK.short.t from rfl, kt_dec]
      by_cases hsh : pk = .short
      · subst hsh
        have hv3 := hv2.same s3
        refine iteT ⟨_, rfl, v.sc, A.c_Scene, v.dx, _, lv2, rfl, hv3.at, T.cl_Scene, T.na_Scene_latest, rfl, rfl, _, rfl, ?_⟩
        have la := hv3.la
        cases l1 with
        | none =>
          have la : lv2 = .non := la
          rw [decide_eq_true la]
          exact iteT (err_k (raise eHead H3 rfl s3))
        | some rr =>
          obtain ⟨⟨a1, k1, rfl, h1, h2⟩, hr1⟩ := la
          rw [decide_eq_false (fun z => nomatch z)]
          refine iteF ⟨_, rfl, v.sc, A.c_Scene, v.dx, _, .ref a1, rfl, hv3.at, T.cl_Scene, T.na_Scene_latest, rfl, a1, _, rfl, .inl (.inl h1), rfl, _, _, rfl, _, _, rfl, rfl, _, rfl, 1, rfl, -1, rfl, ?_⟩
          obtain ⟨js, x, ejs⟩ : ∃ js x, rr.2 = js ++ [x] := by
            rcases List.eq_nil_or_concat rr.2 with h | ⟨js, x, h⟩
            · exact absurd h hr1.ne
            · exact ⟨js, x, by rw [h, List.concat_eq_append]⟩
          rw [ejs, List.map_append, List.map_singleton] at h2
          refine rd_initT h2 fun p2 H4 s4 e4 => ?_
          have l6 := hr1.len
          refine hNn _ _ ⟨s3.trans s4, rr.1, rr.2.dropLast, p2, _, rfl, by rw [List.length_dropLast]; omega, by rw [ejs, List.dropLast_concat]; exact e4, rfl⟩
      · rw [decide_eq_false hsh]
        have ph : plHead pk nm l1 = some (nm, []) := by cases pk <;> first | rfl | exact absurd rfl hsh
        refine iteF (hNn _ _ ⟨s3, nm, [], p0, none, ph, by decide, e0, ?_⟩)
        rw [hx0n hsh]
        rfl
    rintro σ H4 ⟨s4, n0, hd, p1, y8, hph, hd6, e1, rfl⟩
    have epl : plK em pk nm ks l1 = if hd.length + ks.length > 6 then (.error eDeep, l1) else if keysOk em ks = true then (.ok (n0, hd ++ ks), if pk = .var then l1 else lastOf (n0, hd ++ ks)) else (.error eKey, l1) := by
      unfold plK
      rw [hph]
    have ek4 := s4 _ _ ek
    have lks2 : ks.length ≤ 100 := by omega
    refine ⟨_, rfl, p1, _, rfl, .inr (.inl (.inl e1)), _, rfl, kl, _, rfl, .inl (.inl (.inl ek4)), _, _, rfl, rfl, _, _, rfl, rfl, _, rfl, ?_⟩
    rw [List.length_map, List.length_map]
    refine ite2 (fun h6 => ?_) (fun h6 => ?_)
    · have h6 := of_decide_eq_true h6
      refine err_k (raise eDeep H4 ?_ s4)
      rw [epl, if_pos (by omega)]
    have h6 : ¬ hd.length + ks.length > 6 := fun z => h6 (decide_eq_true (by omega))
    rw [if_neg h6] at epl
    dsimp only [tNext]
    have wk := walk_enum (K := K) (a := kl) (xs := ks.map V.str)
    rw [List.length_map] at wk
    refine seq_abs (fun σ' H' => Same H2 H' ∧ keysOk em ks = true ∧ H' p1 = some (.tup (hd.map V.str)) ∧ ∃ y9 y10, σ' = [some (.ref v.sc), some (.ref t), some (.bl em), some (.str pk.t), some (.ref D), some (.ref kl), some (.ref p1), some (.str n0), y8, y9, y10, none, none]) (fun Nn hNn => ?_) ?_
    · refine ⟨_, rfl, kl, _, rfl, .inl (.inl ek4), ?_⟩
      refine for_it wk (fun i σ' H' => Same H4 H' ∧ (∀ j k, j < i → ks[j]? = some k → keyL em ks.length j k = true) ∧ ∃ y9 y10, σ' = [some (.ref v.sc), some (.ref t), some (.bl em), some (.str pk.t), some (.ref D), some (.ref kl), some (.ref p1), some (.str n0), y8, y9, y10, none, none]) ⟨.refl H4, (fun j k z _ => absurd z (Nat.not_lt_zero _)), _, _, rfl⟩ (fun i σ H' _ h => .inl (.inl (h.1 _ _ ek4))) ?_ ?_
      · rintro i x σ H5 H6 hi ⟨s5, hj, y9, y10, rfl⟩ ⟨T2, u, x2, rfl, hT, e3, eu, ev⟩
        cases eu
        dsimp only at ev
        rw [List.getElem?_map] at ev
        obtain ⟨key, hkey, rfl⟩ := Option.map_eq_some_iff.mp ev
        have eT : H6 T2 = some (.tup [.int (i : Int), .str key]) := by rw [e3]; exact upd_same
        have s6 : Same H5 H6 := by rw [e3]; exact same_new hT
        have s26 := s4.trans (s5.trans s6)
        obtain ⟨kw, kln⟩ := hks key (List.mem_of_getElem? hkey)
        have nxt : keyL em ks.length i key = true → ∀ j k, j < i + 1 → ks[j]? = some k → keyL em ks.length j k = true := fun g j k z e => by
          rcases Nat.lt_succ_iff_lt_or_eq.mp z with h | rfl
          · exact hj j k h e
          · rw [hkey] at e
            cases e
            exact g
        have rk : ∀ H7, Same H6 H7 → keyL em ks.length i key = false → ErrV A.c_Erring wordF (.str eKey) H7 E := fun H7 s7 g => raise eKey H7 (by rw [epl, if_neg (keysOk_not hkey g)]) (s26.trans s7)
        refine ⟨T2, _, rfl, .inl (.inl eT), rfl, _, _, rfl, _, _, rfl, rfl, ?_⟩
        refine ⟨_, rfl, .str key, .str key, rfl, .str _, (.str (show key.length ≤ 100000 by omega)), fun H7 s7 => ⟨_, rfl, ?_⟩⟩
        have s67 := s6.trans s7
        have s57 := s5.trans s67
        rw [keyD_eq kw]
        have ki : keyL em ks.length i key = ((decide (1 ≤ key.length) && decide (key.length ≤ 40)) || (em && (decide (key = Str.ofString "") && decide (i + 1 = ks.length)))) := rfl
        cases hb : (decide (1 ≤ key.length) && decide (key.length ≤ 40)) with
        | true =>
          rw [hb, Bool.true_or] at ki
          exact iteF (iteF ⟨s57, nxt ki, _, _, rfl⟩)
        | false =>
          rw [hb, Bool.false_or] at ki
          refine iteT ⟨_, rfl, _, rfl, ?_⟩
          cases em with
          | false =>
            rw [Bool.false_and] at ki
            exact iteF (iteT (err_k (rk H7 s7 ki)))
          | true =>
            rw [Bool.true_and] at ki
            refine iteT ⟨_, rfl, rfl, _, rfl, ?_⟩
            rw [show decide (V.str key = V.str (Str.ofString "")) = decide (key = Str.ofString "") from decide_eq_decide.mpr ⟨V.str.inj, congrArg V.str⟩]
            by_cases he : key = Str.ofString ""
            · rw [decide_eq_true he]
              rw [decide_eq_true he, Bool.true_and] at ki
              refine iteT ⟨_, rfl, _, rfl, kl, _, rfl, .inl (.inl (.inl ((s57 _ _ ek4)))), _, _, rfl, rfl, rfl, _, rfl, ?_⟩
              rw [List.length_map]
              by_cases h2 : i + 1 = ks.length
              · rw [decide_eq_true (show V.int (i : Int) = V.int ((ks.length : Int) - 1) from congrArg V.int (by omega))]
                rw [decide_eq_true h2] at ki
                exact iteF ⟨s57, nxt ki, _, _, rfl⟩
              · rw [decide_eq_false (show ¬ V.int (i : Int) = V.int ((ks.length : Int) - 1) from fun z => h2 (by have := V.int.inj z; omega))]
                rw [decide_eq_false h2] at ki
                exact iteT (err_k (rk H7 s7 ki))
            · rw [decide_eq_false he]
              rw [decide_eq_false he, Bool.false_and] at ki
              exact iteF (iteT (err_k (rk H7 s7 ki)))
      · rintro σ H5 ⟨s5, hj, y9, y10, rfl⟩
        exact hNn _ _ ⟨s4.trans s5, keysOk_of fun j k e => hj j k (List.getElem?_eq_some_iff.mp e).1 e, s5 _ _ e1, y9, y10, rfl⟩
    rintro σ H5 ⟨s5, hko, e15, y9, y10, rfl⟩
    rw [if_pos hko] at epl
    rw [epl] at hpl
    obtain ⟨er, el'⟩ := Prod.mk.inj hpl
    have hok := hok _ er.symm
    have pr := (plK_ok (epl.trans (congrArg (Prod.mk _) el')) hnm (fun x hx => (hks x hx).1) hl1).1
    have hl' : LOk l' := (plK_ok (epl.trans (congrArg (Prod.mk _) el')) hnm (fun x hx => (hks x hx).1) hl1).2.1
    have hv5 := hv2.same s5
    have ek5 := s5 _ _ ek
    refine ⟨_, rfl, _, rfl, _, rfl, kl, _, rfl, .inl ⟨.inl (.inl ek5), fun kt hkt => ?_⟩⟩
    have s6 : Same H5 (upd H5 kt (.tup (ks.map V.str))) := same_new hkt
    refine rd_catH (s6 _ _ e15) upd_same (by rw [List.length_map, List.length_map]; omega) fun p3 H7 s7 e7 => ⟨Evl.sz_of (by show 2 ≤ 100000; decide), fun p4 hp4 => ?_⟩
    rw [← List.map_append] at e7
    have s58 := (s6.trans s7).trans (same_new (o := .tup [.str n0, .ref p3]) hp4)
    have hR : RefAt (upd H7 p4 (.tup [.str n0, .ref p3])) (.ref p4) n0 (hd ++ ks) := ⟨p4, p3, rfl, upd_same, (same_new hp4) _ _ e7⟩
    clear s6 s7 e7 hkt
    generalize upd H7 p4 (.tup [.str n0, .ref p3]) = H8 at s58 hR ⊢
    have hv8 := hv5.same s58
    have s28 := s5.trans s58
    obtain ⟨_, k9, ea, eA, eB⟩ := id hR
    cases ea
    dsimp only [gName]
    refine seq_abs (fun σ' H' => ∃ lv9, Chg v.sc H8 H' ∧ VwS w A.c_Scene A.c_Arrays A.c_Dealings H' v lv9 l' ∧ σ' = [some (.ref v.sc), some (.ref t), some (.bl em), some (.str pk.t), some (.ref D), some (.ref kl), some (.ref p1), some (.str n0), y8, y9, y10, some (.ref p4), none]) (fun Nn hNn => ?_) ?_
    · refine ⟨_, rfl, rfl, _, rfl, ?_⟩
      rw [show Str.ofString "var" = PK.var.t from rfl, kt_dec]
      by_cases hvar : pk = .var
      · rw [decide_eq_true hvar]
        refine iteF (hNn _ _ ⟨lv2, fun _ _ _ z => z, ?_, rfl⟩)
        rw [if_pos hvar] at el'
        rw [← el']
        exact hv8
      · rw [decide_eq_false hvar]
        rw [if_neg hvar] at el'
        refine iteT ⟨_, rfl, _, _, 1, .ref k9, rfl, rfl, .inl (.inl eA), atI_nat (j := 1) rfl, Evl.sz_of (by show 0 ≤ 100000; decide), fun p5 hp5 => ?_⟩
        have s9 : Same H8 (upd H8 p5 (.tup [])) := same_new hp5
        have f0 : upd H8 p5 (.tup []) p5 = some (.tup []) := upd_same
        generalize upd H8 p5 (.tup []) = H9 at s9 f0 ⊢
        have d0 : DV K H9 (.ref p5) (PySem.W.Tup.mk ([] : List Str)) := dv_strs (.inl (.inl f0))
        refine rd_neP (dv_strs (.inl (.inl (s9 _ _ eB)))) d0 (by decide) ⟨_, rfl, ?_⟩
        have dd : decide (PySem.W.Tup.mk (hd ++ ks) = PySem.W.Tup.mk ([] : List Str)) = decide (hd ++ ks = []) := decide_eq_decide.mpr ⟨fun z => congrArg PySem.W.Tup.items z, fun z => by rw [z]⟩
        rw [dd]
        have hv9 := hv8.same s9
        have hR9 := hR.same s9
        unfold lastOf at el'
        by_cases hz : hd ++ ks = []
        · rw [if_pos hz] at el'
          obtain ⟨q1, q2⟩ := hv9.set (lv' := .non) (l' := l') (by rw [← el']; exact rfl)
          refine iteF' (by rw [decide_eq_true hz]; rfl) ?_
          exact ⟨_, rfl, v.sc, A.c_Scene, v.dx, _, rfl, hv9.at, T.cl_Scene, T.na_Scene_latest, (by show 4 < 1000; decide), hNn _ _ ⟨_, (Chg.same s9).trans q2, q1, rfl⟩⟩
        · rw [if_neg hz] at el'
          obtain ⟨q1, q2⟩ := hv9.set (lv' := .ref p4) (l' := l') (by rw [← el']; exact ⟨hR9, hl' _ el'.symm⟩)
          refine iteT' (by rw [decide_eq_false hz]; rfl) ?_
          exact ⟨_, rfl, _, rfl, v.sc, A.c_Scene, v.dx, _, rfl, hv9.at, T.cl_Scene, T.na_Scene_latest, (by show 4 < 1000; decide), hNn _ _ ⟨_, (Chg.same s9).trans q2, q1, rfl⟩⟩
    rintro σ H9 ⟨lv9, c9, hv9, rfl⟩
    refine ⟨_, rfl, rfl, _, rfl, Evl.sz_of (by show 2 ≤ 100000; decide), fun p6 hp6 => ?_⟩
    rw [show Str.ofString "var" = PK.var.t from rfl, kt_dec]
    have s10 : Same H9 (upd H9 p6 (.tup [.bl (decide (pk = .var)), .ref p4])) := same_new hp6
    refine hok _ lv9 p6 p4 ((c2.trans (.same s28)).trans (c9.trans (.same s10))) (hv9.same s10) upd_same ?_
    exact (hR.chgT c9 hv8.at (fun _ z => nomatch z)).same s10
theorem tell_chg {v : V35} {l' : Option Rf} {r : Except Str Str} {H H1 : Hp} {Q : VK} {E : XK} {cS cA cD CE : Addr} (h : TellV w cS cA cD CE v l' r H Q E) (c : Chg v.sc H H1) : TellV w cS cA cD CE v l' r H1 Q E := ⟨fun x e H' lv' c' hv => h.1 x e H' lv' (c.trans c') hv, fun wd e H' lv' d c' hv => h.2 wd e H' lv' d (c.trans c') hv⟩
theorem tell_err {v : V35} {l' : Option Rf} {wd : Str} {H : Hp} {Q : VK} {E : XK} {cS cA cD CE : Addr} {lv : V} (h : TellV w cS cA cD CE v l' (.error wd) H Q E) (hv : VwS w cS cA cD H v lv l') : ErrV CE wordF (.str wd) H E := fun H' d s _ ed => h.2 wd rfl H' lv d (.same s) (hv.same s) ed
theorem free_none {s : DlS} (h : ∀ i, tch s i = []) (j : Int) (r : Rf) : FreeOf s j r := fun i _ x hx => by rw [h i] at hx; cases hx
theorem side_good {cS cA cD : Addr} {H : Hp} {v : V35} {lv : V} {l : Option Rf} (h : VwS w cS cA cD H v lv l) (k : PK) : GoodEs (v.side k) ∧ ∀ e ∈ v.side k, WorV e.2.2 := by
  unfold V35.side sideE
  split
  · exact ⟨h.ge, h.wo⟩
  · exact ⟨h.dl.good, h.dl.wor⟩
theorem side_var {v : V35} {k : PK} (h : k = .var) : v.side k = v.eo := by unfold V35.side sideE; rw [if_pos h]
theorem side_not {v : V35} {k : PK} (h : k ≠ .var) : v.side k = v.s.es := by unfold V35.side sideE; rw [if_neg h]
theorem ok_Scene_worth_at (T : Txt K mg A) : FnOk P w K mg base CX0 7 A.a_Scene_worth_at A.d_Scene_worth_at ["self", "spot"] (spWorthAt w A.c_Scene A.c_Arrays A.c_Dealings) := by
  have G_Arrays_read := ok_Arrays_read (P := P) (w := w) (base := base) T
  have G_Dealings_read := ok_Dealings_read (P := P) (w := w) (base := base) T
  refine T.F_Scene_worth_at.ok sc_Scene_worth_at (fun vs H Q E h => ?_) (fun cdv Ar outer s' H vs Q E hr h => ?_)
  · obtain ⟨v, lv, l, p, a, k, r, rfl, _⟩ := h
    rfl
  · obtain ⟨v, lv, l, p, a, k, r, rfl, hV, ep, hR, hS, q⟩ := h
    refine ⟨_, (pss_cons (ps_asg (pv 1) (pg_tup rfl (pgs_cons (pg_name (i := 2) sc_Scene_worth_at.nd rfl (.inl rfl)) (pgs_cons (pg_name (i := 3) sc_Scene_worth_at.nd rfl (.inl rfl)) pgs_nil))))
      (pss_cons (ps_if (pt_val (pv 2))
      (pss_one (ps_ret (pe_methN (pe_fld (pv 0) rfl) T.cl_Arrays T.M_Arrays_read G_Arrays_read (hr.mono (by omega)) T.kb_Arrays_read__2_otherwise pass0 (pa_cons (pv 3) pa_nil) (pk_cons pe_non pk_nil))))
      pss_nil)
      (pss_one (ps_ret (pe_methN (pe_fld (pv 0) rfl) T.cl_Dealings T.M_Dealings_read G_Dealings_read (hr.mono (by omega)) T.kb_Dealings_read__3_otherwise pass0 (pa_cons (pe_fld (pv 0) rfl) (pa_cons (pv 3) pa_nil)) (pk_cons pe_non pk_nil)))))), ?_⟩
    refine ⟨_, rfl, p, _, rfl, .inl (.inl ep), rfl, _, _, rfl, _, _, rfl, rfl, _, rfl, _, rfl, ?_⟩
    by_cases hk : k = .var
    · rw [side_var hk] at q
      rw [decide_eq_true hk]
      obtain ⟨⟨dxp, epo⟩, _⟩ := id hV.ar
      exact iteT ⟨_, rfl, v.sc, A.c_Scene, v.dx, _, _, rfl, hV.at, T.cl_Scene, T.na_Scene_own, rfl, v.po, dxp, _, rfl, epo, rfl, _, rfl, rfl, rfl, v.po, v.d0, a, v.eo, r, .non, rfl, hV.ar, hR, hS, q⟩
    · rw [side_not hk] at q
      rw [decide_eq_false hk]
      exact iteF ⟨_, rfl, v.sc, A.c_Scene, v.dx, _, _, rfl, hV.at, T.cl_Scene, T.na_Scene_dealings, rfl, v.s.g, v.s.dg, _, rfl, hV.dl.cg, rfl, _, rfl, v.sc, A.c_Scene, v.dx, _, _, rfl, hV.at, T.cl_Scene, T.na_Scene_job, rfl, _, rfl, rfl, rfl, v.s, _, v.U, v.J, v.Bd, v.j, a, r, .non, rfl, hV.j0, hV.dl, hR, hS, free_none hV.tc _ _, q⟩
theorem next_body (T : Txt K mg A) (n k : Nat) (hk : 20 ≤ k) (G_Scene_place_of : FnOk P w K mg base (L2.CX P w) k A.a_Scene_place_of A.d_Scene_place_of ["self", "expression", "empty"] (spPlE w A.c_Scene A.c_Arrays A.c_Dealings A.c_Erring n)) :
    FnOk P w K mg base (L2.CX P w) (k + 1) A.a_Scene_next_key A.d_Scene_next_key ["self", "expression", "back"] (spNextE w A.c_Scene A.c_Arrays A.c_Dealings A.c_Erring n) := by
  have G_Erring___init := ok_Erring___init (P := P) (w := w) (base := base) T
  have G_Arrays_order := ok_Arrays_order (P := P) (w := w) (base := base) T
  have G_Dealings_order := ok_Dealings_order (P := P) (w := w) (base := base) T
  refine T.F_Scene_next_key.okX sc_Scene_next_key (fun vs H Q E h => ?_) (fun cdv Ar outer s' H vs Q E hr h => ?_)
  · obtain ⟨v, lv, l, l', t, b, pk, nm, ps, r, rfl, _⟩ := h
    rfl
  · obtain ⟨v, lv, l, l', t, b, pk, nm, ps, r, rfl, hV, hP, hnm, hlen, hg, hev, tell⟩ := h
    refine ⟨_, (pss_cons (ps_asg (pe_meth (pv 0) T.cl_Scene T.M_Scene_place_of G_Scene_place_of (hr.mono (by omega)) T.b_Scene_place_of .nil (passes_call (takes_of (E := E) rfl rfl rfl rfl) (fun _ _ _ _ h => h)) (pa_cons (pv 1) (pa_cons pe_bl pa_nil))) (pg_tup rfl (pgs_cons (pg_name (i := 3) sc_Scene_next_key.nd rfl (.inl rfl)) (pgs_cons (pg_name (i := 4) sc_Scene_next_key.nd rfl (.inl rfl)) pgs_nil))))
      (pss_cons (ps_if (pt_cmpR (k_eqP K hr.units) (pe_ix (k_ix_tup K) (pv 4) pe_int (fun _ _ => rfl)) (pe_tup pa_nil) (nomark _))
      (pss_one (ps_raise rfl (takes_of (E := E) rfl rfl rfl rfl) (pmk_oex T.ox_Erring T.ie_Erring T.it_Erring G_Erring___init (hr.mono (by omega)) T.b_Erring___init .nil pass0 (by rfl) T.g_Erring (pa_cons pe_str pa_nil))))
      pss_nil)
      (pss_cons (ps_if (pt_val (pv 3))
      (pss_one (ps_ret (pe_methN (pe_fld (pv 0) rfl) T.cl_Arrays T.M_Arrays_order G_Arrays_order (hr.mono (by omega)) T.kb_Arrays_order__2_back pass0 (pa_cons (pv 4) pa_nil) (pk_cons (pv 2) pk_nil))))
      pss_nil)
      (pss_one (ps_ret (pe_methN (pe_fld (pv 0) rfl) T.cl_Dealings T.M_Dealings_order G_Dealings_order (hr.mono (by omega)) T.kb_Dealings_order__3_back pass0 (pa_cons (pe_fld (pv 0) rfl) (pa_cons (pv 4) pa_nil)) (pk_cons (pv 2) pk_nil))))))), ?_⟩
    have evg := evE_ok hV.ge hV.dl.good hV.wo hV.dl.wor n
    obtain ⟨rp, lp, hp, hcase⟩ : ∃ rp lp, evP (evE v.eo v.s.es n) true pk nm ps l = some (rp, lp) ∧ ((∃ wd, rp = .error wd ∧ r = .error wd ∧ lp = l') ∨ ∃ rf, rp = .ok rf ∧ (if rf.2 = [] then some ((.error eKey : Except Str Str), lp) else some (.ok (nextV (v.side pk) rf.1 rf.2.dropLast (rf.2.getLastD (Str.ofString "")) b), lp)) = some (r, l')) := by
      rcases bindX_some hev with ⟨wd, e1, e2⟩ | ⟨rf, l1, e1, e2⟩
      · exact ⟨_, _, e1, .inl ⟨wd, rfl, e2, rfl⟩⟩
      · exact ⟨_, _, e1, .inr ⟨rf, rfl, e2⟩⟩
    have pr := (evP_ok evg hp hnm hg hV.lok).2
    refine ⟨_, rfl, v.sc, _, _, rfl, hV.at, rfl, _, rfl, v, lv, l, lp, t, true, pk, nm, ps, rp, rfl, hV, hP, hnm, hlen, hg, hp, fun rf erf H2 lv2 p a c2 hv2 ep hR => ?_, fun wd ewd H2 lv2 d c2 hv2 ed => ?_⟩
    · rcases hcase with ⟨wd, e, _⟩ | ⟨rf2, e, hr2⟩
      · rw [e] at erf; cases erf
      rw [erf] at e
      cases e
      have pr := pr _ erf
      refine ⟨p, _, rfl, .inl (.inl ep), rfl, _, _, rfl, _, _, rfl, rfl, ?_⟩
      obtain ⟨_, kt, ea, eA, eB⟩ := id hR
      cases ea
      refine ⟨_, rfl, _, _, 1, .ref kt, rfl, rfl, .inl (.inl eA), atI_nat (j := 1) rfl, Evl.sz_of (by show 0 ≤ 100000; decide), fun p0 hp0 => ?_⟩
      have s3 : Same H2 (upd H2 p0 (.tup [])) := same_new hp0
      have f0 : upd H2 p0 (.tup []) p0 = some (.tup []) := upd_same
      generalize upd H2 p0 (.tup []) = H3 at s3 f0 ⊢
      have d0 : DV K H3 (.ref p0) (PySem.W.Tup.mk ([] : List Str)) := dv_strs (.inl (.inl f0))
      refine rd_eqP (dv_strs (.inl (.inl (s3 _ _ eB)))) d0 (by decide) ⟨_, rfl, ?_⟩
      have dd : decide (PySem.W.Tup.mk rf.2 = PySem.W.Tup.mk ([] : List Str)) = decide (rf.2 = []) := decide_eq_decide.mpr ⟨fun z => congrArg PySem.W.Tup.items z, fun z => by rw [z]⟩
      rw [dd]
      have hv3 := hv2.same s3
      have hR3 := hR.same s3
      by_cases hz : rf.2 = []
      · rw [if_pos hz] at hr2
        cases hr2
        rw [decide_eq_true hz]
        exact iteT (err_k (tell_err (tell_chg tell (c2.trans (.same s3))) hv3))
      · rw [if_neg hz] at hr2
        cases hr2
        rw [decide_eq_false hz]
        obtain ⟨ks, last, ek⟩ : ∃ ks last, rf.2 = ks ++ [last] := by
          rcases List.eq_nil_or_concat rf.2 with h | ⟨js, x, h⟩
          · exact absurd h hz
          · exact ⟨js, x, by rw [h, List.concat_eq_append]⟩
        have ho := pr.ord ek
        rw [ek] at hR3
        have fin : ∀ H4 z, Same H3 H4 → IsNext (behOf (v.side pk) rf.1 ks) last b z → Q (.str z) H4 := fun H4 z s4 hz => by
          refine tell.1 z ?_ H4 lv2 ((c2.trans (.same s3)).trans (.same s4)) (hv3.same s4)
          rw [← nextV_eq hz, ek, List.dropLast_concat, List.getLastD_concat]
        refine iteF ⟨_, rfl, _, rfl, ?_⟩
        by_cases hk : pk = .var
        · rw [side_var hk] at fin
          rw [decide_eq_true hk]
          obtain ⟨⟨dxp, epo⟩, _⟩ := id hv3.ar
          exact iteT ⟨_, rfl, v.sc, A.c_Scene, v.dx, _, _, rfl, hv3.at, T.cl_Scene, T.na_Scene_own, rfl, v.po, dxp, _, rfl, epo, rfl, _, rfl, _, rfl, rfl, rfl, v.po, v.d0, _, v.eo, rf.1, ks, last, b, rfl, hv3.ar, hv3.ge, hv3.le, hR3, ho, fin⟩
        · rw [side_not hk] at fin
          rw [decide_eq_false hk]
          exact iteF ⟨_, rfl, v.sc, A.c_Scene, v.dx, _, _, rfl, hv3.at, T.cl_Scene, T.na_Scene_dealings, rfl, v.s.g, v.s.dg, _, rfl, hv3.dl.cg, rfl, _, rfl, v.sc, A.c_Scene, v.dx, _, _, rfl, hv3.at, T.cl_Scene, T.na_Scene_job, rfl, _, rfl, _, rfl, rfl, rfl, v.s, _, v.U, v.J, v.Bd, v.j, _, rf.1, ks, last, b, rfl, hv3.j0, hv3.dl, hR3, ho, free_none hv3.tc _ _, fin⟩
    · rcases hcase with ⟨wd2, e, rfl, rfl⟩ | ⟨rf2, e, _⟩
      · rw [ewd] at e
        cases e
        exact tell.2 wd rfl H2 lv2 d c2 hv2 ed
      · rw [ewd] at e; cases e
theorem inW_no {x : Str} {ys : List Str} (h : x ∉ ys) : inV (.str x) (ys.map V.str) = false := (inV_str x ys).trans (decide_eq_false h)
theorem inW_yes {x : Str} {ys : List Str} (h : x ∈ ys) : inV (.str x) (ys.map V.str) = true := (inV_str x ys).trans (decide_eq_true h)
abbrev plW : List Str := [Str.ofString "var", Str.ofString "at", Str.ofString "short"]
abbrev obW : List Str := [Str.ofString "order", Str.ofString "back"]
theorem worth_none {cS cA cD : Addr} {H : Hp} {v : V35} {lv : V} {l : Option Rf} (h : VwS w cS cA cD H v lv l) (k : PK) (r : Rf) : ((ndGet (v.side k) r).getD .non = .non ∧ worthE (v.side k) r = .error eMissing) ∨ ∃ x, (ndGet (v.side k) r).getD .non = .str x ∧ worthE (v.side k) r = .ok x := by
  cases e : worthE (v.side k) r with
  | error wd =>
    obtain ⟨e1, e2⟩ := worthE_err (side_good h k).2 e
    exact .inl ⟨by rw [e1]; rfl, by rw [e2]⟩
  | ok x => exact .inr ⟨x, by rw [worthE_ok e]; rfl, rfl⟩
def exParts (H : Hp) (n : Nat) (t : Addr) (wd : Str) (xs : List V) (e : Ex) : Prop := match e with
    | .is x => wd = Str.ofString "is" ∧ xs = [.str x]
    | .pl k nm ps => wd = k.t ∧ PlG (ExAt H n) H t k nm ps
    | .nxt b k nm ps => wd = nxtW b ∧ ∃ p, xs = [.ref p] ∧ PlG (ExAt H n) H p k nm ps
    | .data k nm ps => wd = Str.ofString "data" ∧ ∃ p, xs = [.ref p] ∧ PlG (ExAt H n) H p k nm ps
    | .oth k nm ps e => wd = Str.ofString "other" ∧ ∃ p u, xs = [.ref p, .ref u] ∧ PlG (ExAt H n) H p k nm ps ∧ ExAt H n u e
    | .op g a b => wd = Str.ofString "op" ∧ ∃ u v, xs = [.str g.t, .ref u, .ref v] ∧ ExAt H n u a ∧ ExAt H n v b
    | .fn f as => wd = f.t ∧ ∃ us : List Addr, xs = us.map V.ref ∧ Paired (ExAt H n) us as
theorem rk_step (T : Txt K mg A) (M : Md P w K A) (n k : Nat) (hk : 20 ≤ k) (G_Scene_reckoned : FnOk P w K mg base (L2.CX P w) k A.a_Scene_reckoned A.d_Scene_reckoned ["self", "expression"] (spRkE w A.c_Scene A.c_Arrays A.c_Dealings A.c_Erring n)) :
    FnOk P w K mg base (L2.CX P w) (k + 3) A.a_Scene_reckoned A.d_Scene_reckoned ["self", "expression"] (spRkE w A.c_Scene A.c_Arrays A.c_Dealings A.c_Erring (n + 1)) := by
  have G_Erring___init := ok_Erring___init (P := P) (w := w) (base := base) T
  have G_Scene_place_of := place_body (P := P) (w := w) (base := base) T n k (by omega) G_Scene_reckoned
  have G_Scene_next_key := next_body (P := P) (w := w) (base := base) T n (k + 1) (by omega) G_Scene_place_of
  have G_Scene_worth_at := ok_Scene_worth_at (P := P) (w := w) (base := base) T
  have G_Arrays_data := ok_Arrays_data (P := P) (w := w) (base := base) T
  have G_Dealings_data := ok_Dealings_data (P := P) (w := w) (base := base) T
  have G_number_text := ok_number_text (P := P) (w := w) (base := base) T
  have G_not_too_long : FnOk P w K mg base (L2.CX P w) 1 A.a_not_too_long A.d_not_too_long ["worth"] spNo := fn_no
  have G_of_worths : FnOk P w K mg base (CX0) 1 A.a_of_worths A.d_of_worths ["word", "worths"] spNo := fn_no
  have G_of_two : FnOk P w K mg base (L2.CX P w) 1 A.a_of_two A.d_of_two ["sign", "one", "other"] spNo := fn_no
  refine T.F_Scene_reckoned.okX sc_Scene_reckoned (fun vs H Q E h => ?_) (fun cdv Ar outer s' H vs Q E hr h => ?_)
  · obtain ⟨v, lv, l, l', t, e, r, rfl, _⟩ := h
    rfl
  · obtain ⟨v, lv, l, l', t, e, r, rfl, hV, hx, hg, hev, tell⟩ := h
    refine ⟨_, (pss_cons (ps_asg (pv 1) (k_star1 K rfl (pgs_cons (pg_name (i := 2) sc_Scene_reckoned.nd rfl (.inl rfl)) (pgs_cons (pg_name (i := 3) sc_Scene_reckoned.nd rfl (.inl rfl)) pgs_nil))))
      (pss_cons (ps_if (pt_cmpR op_eq (pv 2) pe_str (nomark _))
      (pss_one (ps_ret (pe_ix (k_ix_list K) (pv 3) pe_int (fun _ _ => rfl))))
      pss_nil)
      (pss_cons (ps_if (pt_cmpR (k_in K) (pv 2) (pe_glob (v := .ref A.t_PLACES) rfl T.c_PLACES rfl) (by rfl))
      (pss_cons (ps_set (i := 4) sc_Scene_reckoned.nd rfl (.inl rfl) (pe_meth (pv 0) T.cl_Scene T.M_Scene_worth_at G_Scene_worth_at (hr.mono (by omega)) T.b_Scene_worth_at .nil pass0 (pa_cons (pe_meth (pv 0) T.cl_Scene T.M_Scene_place_of G_Scene_place_of (hr.mono (by omega)) T.b_Scene_place_of .nil (passes_call (takes_of (E := E) rfl rfl rfl rfl) (fun _ _ _ _ h => h)) (pa_cons (pv 1) (pa_cons pe_bl pa_nil))) pa_nil)))
      (pss_cons (ps_if (pt_cmpR op_isN (pv 4) pe_non (nomark _))
      (pss_one (ps_raise rfl (takes_of (E := E) rfl rfl rfl rfl) (pmk_oex T.ox_Erring T.ie_Erring T.it_Erring G_Erring___init (hr.mono (by omega)) T.b_Erring___init .nil pass0 (by rfl) T.g_Erring (pa_cons pe_str pa_nil))))
      pss_nil)
      (pss_one (ps_ret (pv 4)))))
      pss_nil)
      (pss_cons (ps_if (pt_cmpR (k_in K) (pv 2) (pe_tup (pa_cons pe_str (pa_cons pe_str pa_nil))) (by rfl))
      (pss_one (ps_ret (pe_meth (pv 0) T.cl_Scene T.M_Scene_next_key G_Scene_next_key (hr.mono (by omega)) T.b_Scene_next_key .nil (passes_call (takes_of (E := E) rfl rfl rfl rfl) (fun _ _ _ _ h => h)) (pa_cons (pe_ix (k_ix_list K) (pv 3) pe_int (fun _ _ => rfl)) (pa_cons (pe_cmpR op_eq (pv 2) pe_str (nomark _)) pa_nil)))))
      pss_nil)
      (pss_cons (ps_if (pt_cmpR op_eq (pv 2) pe_str (nomark _))
      (pss_cons (ps_asg (pe_meth (pv 0) T.cl_Scene T.M_Scene_place_of G_Scene_place_of (hr.mono (by omega)) T.b_Scene_place_of .nil (passes_call (takes_of (E := E) rfl rfl rfl rfl) (fun _ _ _ _ h => h)) (pa_cons (pe_ix (k_ix_list K) (pv 3) pe_int (fun _ _ => rfl)) (pa_cons pe_bl pa_nil))) (pg_tup rfl (pgs_cons (pg_name (i := 5) sc_Scene_reckoned.nd rfl (.inl rfl)) (pgs_cons (pg_name (i := 6) sc_Scene_reckoned.nd rfl (.inl rfl)) pgs_nil))))
      (pss_one (ps_ret (pe_call G_number_text (hr.mono (by omega)) (by rfl) T.g_number_text T.F_number_text.kp T.b_number_text .nil pass0 (pa_cons (pe_ifExp (pt_val (pv 5)) (pe_meth (pe_fld (pv 0) rfl) T.cl_Arrays T.M_Arrays_data G_Arrays_data (hr.mono (by omega)) T.b_Arrays_data .nil pass0 (pa_cons (pv 6) pa_nil)) (pe_meth (pe_fld (pv 0) rfl) T.cl_Dealings T.M_Dealings_data G_Dealings_data (hr.mono (by omega)) T.b_Dealings_data .nil pass0 (pa_cons (pe_fld (pv 0) rfl) (pa_cons (pv 6) pa_nil)))) pa_nil)))))
      pss_nil)
      (pss_cons (ps_if (pt_cmpR op_eq (pv 2) pe_str (nomark _))
      (pss_cons (ps_set (i := 4) sc_Scene_reckoned.nd rfl (.inl rfl) (pe_meth (pv 0) T.cl_Scene T.M_Scene_worth_at G_Scene_worth_at (hr.mono (by omega)) T.b_Scene_worth_at .nil pass0 (pa_cons (pe_meth (pv 0) T.cl_Scene T.M_Scene_place_of G_Scene_place_of (hr.mono (by omega)) T.b_Scene_place_of .nil (passes_call (takes_of (E := E) rfl rfl rfl rfl) (fun _ _ _ _ h => h)) (pa_cons (pe_ix (k_ix_list K) (pv 3) pe_int (fun _ _ => rfl)) (pa_cons pe_bl pa_nil))) pa_nil)))
      (pss_one (ps_ret (pe_ifExp (pt_cmpR op_isN (pv 4) pe_non (nomark _)) (pe_meth (pv 0) T.cl_Scene T.M_Scene_reckoned G_Scene_reckoned (hr.mono (by omega)) T.b_Scene_reckoned .nil (passes_call (takes_of (E := E) rfl rfl rfl rfl) (fun _ _ _ _ h => h)) (pa_cons (pe_ix (k_ix_list K) (pv 3) pe_int (fun _ _ => rfl)) pa_nil)) (pv 4)))))
      pss_nil)
      (pss_cons (ps_if (pt_cmpR op_eq (pv 2) pe_str (nomark _))
      (pss_cons (ps_asg (pv 3) (pg_lst rfl (pgs_cons (pg_name (i := 7) sc_Scene_reckoned.nd rfl (.inl rfl)) (pgs_cons (pg_name (i := 8) sc_Scene_reckoned.nd rfl (.inl rfl)) (pgs_cons (pg_name (i := 9) sc_Scene_reckoned.nd rfl (.inl rfl)) pgs_nil)))))
      (pss_cons (ps_set (i := 10) sc_Scene_reckoned.nd rfl (.inl rfl) (pe_meth (pv 0) T.cl_Scene T.M_Scene_reckoned G_Scene_reckoned (hr.mono (by omega)) T.b_Scene_reckoned .nil (passes_call (takes_of (E := E) rfl rfl rfl rfl) (fun _ _ _ _ h => h)) (pa_cons (pv 8) pa_nil)))
      (pss_one (ps_ret (pe_call G_not_too_long (hr.mono (by omega)) (by rfl) T.g_not_too_long T.F_not_too_long.kp T.b_not_too_long .nil (passes_call (takes_of (E := E) rfl rfl rfl rfl) (fun _ _ _ _ h => h)) (pa_cons (pe_call G_of_two (hr.mono (by omega)) (by rfl) T.g_of_two T.F_of_two.kp T.b_of_two .nil (passes_call (takes_of (E := E) rfl rfl rfl rfl) (fun _ _ _ _ h => h)) (pa_cons (pv 7) (pa_cons (pv 10) (pa_cons (pe_meth (pv 0) T.cl_Scene T.M_Scene_reckoned G_Scene_reckoned (hr.mono (by omega)) T.b_Scene_reckoned .nil (passes_call (takes_of (E := E) rfl rfl rfl rfl) (fun _ _ _ _ h => h)) (pa_cons (pv 9) pa_nil)) pa_nil)))) pa_nil))))))
      pss_nil)
      (pss_one (ps_ret (pe_call G_not_too_long (hr.mono (by omega)) (by rfl) T.g_not_too_long T.F_not_too_long.kp T.b_not_too_long .nil (passes_call (takes_of (E := E) rfl rfl rfl rfl) (fun _ _ _ _ h => h)) (pa_cons (pe_call G_of_worths (hr.mono (by omega)) (by rfl) T.g_of_worths T.F_of_worths.kp T.b_of_worths .nil pass0 (pa_cons (pv 2) (pa_cons (pe_lcX (own := [("one", 10)]) (g := gName 10) (tt := tYes) rfl rfl (takes_of (E := E) rfl rfl rfl rfl) rfl sc_Scene_reckoned.nd (k_pi_list K (pv 3)) (blkOk_by (own := [("one", 10)]) (N := N_Scene_reckoned) (sc := defScope s_Scene_reckoned) (by decide +kernel)) (fun _ _ _ _ _ => (pg_name (i := 10) sc_Scene_reckoned.nd rfl (.inl rfl))) (fun _ _ _ _ _ => pts_nil) (fun _ _ _ _ _ _ hp => (pe_meth (pv 0) T.cl_Scene T.M_Scene_reckoned G_Scene_reckoned (hr.mono (by omega)) T.b_Scene_reckoned .nil hp (pa_cons (pv 10) pa_nil)))) pa_nil))) pa_nil))))))))))), ?_⟩
    have evg := evE_ok hV.ge hV.dl.good hV.wo hV.dl.wor n
    have tupE : ∃ wd xs, H t = some (.tup (.str wd :: xs)) ∧ exParts H n t wd xs e := by
      cases e with
      | is x => exact ⟨_, _, hx, rfl, rfl⟩
      | pl k nm ps =>
        obtain ⟨ls, us, h1, h2, h3⟩ := id hx
        rw [hdP_eq] at h1
        exact ⟨_, _, h1, rfl, hx⟩
      | nxt b k nm ps => obtain ⟨p, h1, h2⟩ := hx; exact ⟨_, _, h1, rfl, p, rfl, h2⟩
      | data k nm ps => obtain ⟨p, h1, h2⟩ := hx; exact ⟨_, _, h1, rfl, p, rfl, h2⟩
      | oth k nm ps e => obtain ⟨p, u, h1, h2, h3⟩ := hx; exact ⟨_, _, h1, rfl, p, u, rfl, h2, h3⟩
      | op g a b => obtain ⟨u, v, h1, h2, h3⟩ := hx; exact ⟨_, _, h1, rfl, u, v, rfl, h2, h3⟩
      | fn f as => obtain ⟨us, h1, h2⟩ := hx; exact ⟨_, _, h1, rfl, us, rfl, h2⟩
    obtain ⟨wd, xs, et, hE⟩ := tupE
    refine ⟨_, rfl, t, _, _, rfl, .inl (.inl et), fun D hD => ⟨_, _, rfl, _, _, rfl, rfl, ?_⟩⟩
    have s1 : Same H (upd H D (.lst xs)) := same_new hD
    have eD : upd H D (.lst xs) D = some (.lst xs) := upd_same
    generalize upd H D (.lst xs) = H1 at s1 eD ⊢
    clear hx
    have hV1 := hV.same s1
    dsimp only
    refine ⟨_, rfl, rfl, _, rfl, ?_⟩
    cases e with
    | is x =>
      obtain ⟨rfl, rfl⟩ := hE
      have hev : some ((.ok x : Except Str Str), l) = some (r, l') := hev
      cases hev
      rw [decide_eq_true rfl]
      exact iteT ⟨_, rfl, D, _, 0, .str x, rfl, rfl, .inl (.inl eD), atI_nat (j := 0) rfl, tell.1 _ rfl H1 lv (.same s1) hV1⟩
    | pl pk nm ps =>
      obtain ⟨rfl, hP⟩ := hE
      obtain ⟨rp, lp, hp, hcase⟩ : ∃ rp lp, evP (evE v.eo v.s.es n) false pk nm ps l = some (rp, lp) ∧ ((∃ wd, rp = .error wd ∧ r = .error wd ∧ lp = l') ∨ ∃ rf, rp = .ok rf ∧ r = worthE (v.side pk) rf ∧ lp = l') := by
        rcases bindX_some hev with ⟨wd, e1, e2⟩ | ⟨rf, l1, e1, e2⟩
        · exact ⟨_, _, e1, .inl ⟨wd, rfl, e2, rfl⟩⟩
        · cases e2; exact ⟨_, _, e1, .inr ⟨rf, rfl, rfl, rfl⟩⟩
      have pr := (evP_ok evg hp hg.1 hg.2.2 hV.lok).2
      rw [ones_ne (show pk.t ≠ Str.ofString "is" by cases pk <;> decide +kernel)]
      refine iteF ⟨_, rfl, A.t_PLACES, _, rfl, .inr (T.q_PLACES _), rfl, rfl, _, rfl, ?_⟩
      rw [if_neg Bool.false_ne_true, show inV (.str pk.t) [V.str (Str.ofString "var"), V.str (Str.ofString "at"), V.str (Str.ofString "short")] = true from inW_yes (x := pk.t) (ys := plW) (by cases pk <;> decide +kernel)]
      refine iteT ⟨_, rfl, v.sc, _, _, rfl, hV1.at, rfl, _, rfl, v.sc, _, _, rfl, hV1.at, rfl, _, rfl, v, lv, l, lp, t, false, pk, nm, ps, rp, rfl, hV1, hP.keep (.same s1), hg.1, hg.2.1, hg.2.2, hp, fun rf erf H2 lv2 p a c2 hv2 ep hR => ?_, fun wd ewd H2 lv2 d c2 hv2 ed => ?_⟩
      · rcases hcase with ⟨wd, e, _⟩ | ⟨rf2, e, rfl, rfl⟩
        · rw [e] at erf; cases erf
        rw [erf] at e
        cases e
        refine ⟨v, lv2, lp, p, a, pk, rf, rfl, hv2, ep, hR, (pr _ erf).ref, fun H3 s3 => ?_⟩
        have c3 : Chg v.sc H H3 := (Chg.same s1).trans (c2.trans (.same s3))
        have hv3 := hv2.same s3
        rcases worth_none hV pk rf with ⟨e1, e2⟩ | ⟨x, e1, e2⟩
        · rw [e1]
          rw [e2] at tell
          exact ⟨_, rfl, rfl, _, rfl, iteT (err_k (tell_err (tell_chg tell c3) hv3))⟩
        · rw [e1]
          rw [e2] at tell
          refine ⟨_, rfl, rfl, _, rfl, ?_⟩
          rw [decide_eq_false (show ¬ V.str x = V.non from fun z => nomatch z)]
          exact iteF ⟨_, rfl, tell.1 _ rfl H3 lv2 c3 hv3⟩
      · rcases hcase with ⟨wd2, e, rfl, rfl⟩ | ⟨rf2, e, _⟩
        · rw [ewd] at e
          cases e
          exact tell.2 wd rfl H2 lv2 d ((Chg.same s1).trans c2) hv2 ed
        · rw [ewd] at e; cases e
    | nxt b pk nm ps =>
      obtain ⟨rfl, p, rfl, hP⟩ := hE
      rw [ones_ne (show nxtW b ≠ Str.ofString "is" by cases b <;> decide +kernel)]
      refine iteF ⟨_, rfl, A.t_PLACES, _, rfl, .inr (T.q_PLACES _), rfl, rfl, _, rfl, ?_⟩
      rw [if_neg Bool.false_ne_true, show inV (.str (nxtW b)) [V.str (Str.ofString "var"), V.str (Str.ofString "at"), V.str (Str.ofString "short")] = false from inW_no (x := nxtW b) (ys := plW) (by cases b <;> decide +kernel)]
      refine iteF ⟨_, rfl, Evl.sz_of (by show 2 ≤ 100000; decide), fun q hq => ?_⟩
      have s2 : Same H1 (upd H1 q (.tup [.str (Str.ofString "order"), .str (Str.ofString "back")])) := same_new hq
      have e2 : upd H1 q (.tup [.str (Str.ofString "order"), .str (Str.ofString "back")]) q = some (.tup [.str (Str.ofString "order"), .str (Str.ofString "back")]) := upd_same
      generalize upd H1 q (.tup [.str (Str.ofString "order"), .str (Str.ofString "back")]) = H2 at s2 e2 ⊢
      refine ⟨q, _, rfl, .inr (.inl (.inl e2)), rfl, rfl, _, rfl, ?_⟩
      rw [if_neg Bool.false_ne_true, show inV (.str (nxtW b)) [V.str (Str.ofString "order"), V.str (Str.ofString "back")] = true from inW_yes (x := nxtW b) (ys := obW) (by cases b <;> decide +kernel)]
      have hV2 := hV1.same s2
      refine iteT ⟨_, rfl, v.sc, _, _, rfl, hV2.at, rfl, _, rfl, D, _, 0, .ref p, rfl, rfl, .inl (.inl (s2 _ _ eD)), atI_nat (j := 0) rfl, _, rfl, rfl, ?_⟩
      rw [show decide (V.str (nxtW b) = V.str (Str.ofString "back")) = b by cases b <;> decide +kernel]
      exact ⟨v, lv, l, l', p, b, pk, nm, ps, r, rfl, hV2, hP.keep (.same (s1.trans s2)), hg.1, hg.2.1, hg.2.2, hev, tell_chg tell (.same (s1.trans s2))⟩
    | data pk nm ps =>
      obtain ⟨rfl, p, rfl, hP⟩ := hE
      obtain ⟨rp, lp, hp, hcase⟩ : ∃ rp lp, evP (evE v.eo v.s.es n) false pk nm ps l = some (rp, lp) ∧ ((∃ wd, rp = .error wd ∧ r = .error wd ∧ lp = l') ∨ ∃ rf, rp = .ok rf ∧ r = .ok (intS (dataN (v.side pk) rf)) ∧ lp = l') := by
        rcases bindX_some hev with ⟨wd, e1, e2⟩ | ⟨rf, l1, e1, e2⟩
        · exact ⟨_, _, e1, .inl ⟨wd, rfl, e2, rfl⟩⟩
        · cases e2; exact ⟨_, _, e1, .inr ⟨rf, rfl, rfl, rfl⟩⟩
      have pr := (evP_ok evg hp hg.1 hg.2.2 hV.lok).2
      rw [ones_ne (show Str.ofString "data" ≠ Str.ofString "is" by decide +kernel)]
      refine iteF ⟨_, rfl, A.t_PLACES, _, rfl, .inr (T.q_PLACES _), rfl, rfl, _, rfl, ?_⟩
      rw [if_neg Bool.false_ne_true, show inV (.str (Str.ofString "data")) [V.str (Str.ofString "var"), V.str (Str.ofString "at"), V.str (Str.ofString "short")] = false from inW_no (x := Str.ofString "data") (ys := plW) (by decide +kernel)]
      refine iteF ⟨_, rfl, Evl.sz_of (by show 2 ≤ 100000; decide), fun q hq => ?_⟩
      have s2 : Same H1 (upd H1 q (.tup [.str (Str.ofString "order"), .str (Str.ofString "back")])) := same_new hq
      have e2 : upd H1 q (.tup [.str (Str.ofString "order"), .str (Str.ofString "back")]) q = some (.tup [.str (Str.ofString "order"), .str (Str.ofString "back")]) := upd_same
      generalize upd H1 q (.tup [.str (Str.ofString "order"), .str (Str.ofString "back")]) = H2 at s2 e2 ⊢
      refine ⟨q, _, rfl, .inr (.inl (.inl e2)), rfl, rfl, _, rfl, ?_⟩
      rw [if_neg Bool.false_ne_true, show inV (.str (Str.ofString "data")) [V.str (Str.ofString "order"), V.str (Str.ofString "back")] = false from inW_no (x := Str.ofString "data") (ys := obW) (by decide +kernel)]
      have hV2 := hV1.same s2
      have s12 := s1.trans s2
      have eD2 := s2 _ _ eD
      refine iteF ⟨_, rfl, rfl, _, rfl, ?_⟩
      rw [decide_eq_true rfl]
      refine iteT ⟨_, rfl, v.sc, _, _, rfl, hV2.at, rfl, _, rfl, D, _, 0, .ref p, rfl, rfl, .inl (.inl eD2), atI_nat (j := 0) rfl, v, lv, l, lp, p, false, pk, nm, ps, rp, rfl, hV2, hP.keep (.same s12), hg.1, hg.2.1, hg.2.2, hp, fun rf erf H3 lv3 p3 a c3 hv3 ep hR => ?_, fun wd ewd H3 lv3 d c3 hv3 ed => ?_⟩
      · rcases hcase with ⟨wd, e, _⟩ | ⟨rf2, e, rfl, rfl⟩
        · rw [e] at erf; cases erf
        rw [erf] at e
        cases e
        have hS := (pr _ erf).ref
        refine ⟨p3, _, rfl, .inl (.inl ep), rfl, _, _, rfl, _, _, rfl, rfl, ?_⟩
        have fin : ∀ H4, Same H3 H4 → (dataN (v.side pk) rf).natAbs.log2 < 1920 ∧ Q (.str (intS (dataN (v.side pk) rf))) H4 := fun H4 s4 => by
          refine ⟨?_, tell.1 _ rfl H4 lv3 ((Chg.same s12).trans (c3.trans (.same s4))) (hv3.same s4)⟩
          have hb : (dataN (v.side pk) rf).natAbs < 2 ^ 5 := by
            have h := ownN_le (v.side pk) rf
            unfold dataN
            split <;> omega
          exact Nat.lt_of_lt_of_le (PySem.Flt.log2_lt_of (k := 5) (by decide) hb) (by decide)
        refine ⟨_, rfl, _, rfl, ?_⟩
        by_cases hk : pk = .var
        · rw [side_var hk] at fin
          rw [decide_eq_true hk]
          obtain ⟨⟨dxp, epo⟩, _⟩ := id hv3.ar
          exact iteT ⟨_, rfl, v.sc, A.c_Scene, v.dx, _, _, rfl, hv3.at, T.cl_Scene, T.na_Scene_own, rfl, v.po, dxp, _, rfl, epo, rfl, _, rfl, v.po, v.d0, a, v.eo, rf, rfl, hv3.ar, hR, hS, hv3.le, hv3.ge.refs, fun H4 s4 => ⟨_, rfl, fin H4 s4⟩⟩
        · rw [side_not hk] at fin
          rw [decide_eq_false hk]
          exact iteF ⟨_, rfl, v.sc, A.c_Scene, v.dx, _, _, rfl, hv3.at, T.cl_Scene, T.na_Scene_dealings, rfl, v.s.g, v.s.dg, _, rfl, hv3.dl.cg, rfl, _, rfl, v.sc, A.c_Scene, v.dx, _, _, rfl, hv3.at, T.cl_Scene, T.na_Scene_job, rfl, _, rfl, v.s, _, v.U, v.J, v.Bd, v.j, a, rf, rfl, hv3.j0, hv3.dl, hR, hS, free_none hv3.tc _ _, fun H4 s4 => ⟨_, rfl, fin H4 s4⟩⟩
      · rcases hcase with ⟨wd2, e, rfl, rfl⟩ | ⟨rf2, e, _⟩
        · rw [ewd] at e
          cases e
          exact tell.2 wd rfl H3 lv3 d ((Chg.same s12).trans c3) hv3 ed
        · rw [ewd] at e; cases e
    | oth pk nm ps e =>
      obtain ⟨rfl, p, u, rfl, hP, hu⟩ := hE
      obtain ⟨rp, lp, hp, hcase⟩ : ∃ rp lp, evP (evE v.eo v.s.es n) false pk nm ps l = some (rp, lp) ∧ ((∃ wd, rp = .error wd ∧ r = .error wd ∧ lp = l') ∨ ∃ rf, rp = .ok rf ∧ (match worthE (v.side pk) rf with
          | .ok x => some ((.ok x : Except Str Str), lp)
          | .error _ => evE v.eo v.s.es n e lp) = some (r, l')) := by
        rcases bindX_some hev with ⟨wd, e1, e2⟩ | ⟨rf, l1, e1, e2⟩
        · exact ⟨_, _, e1, .inl ⟨wd, rfl, e2, rfl⟩⟩
        · exact ⟨_, _, e1, .inr ⟨rf, rfl, e2⟩⟩
      have pr := (evP_ok evg hp hg.1.1 hg.1.2.2 hV.lok).2
      rw [ones_ne (show Str.ofString "other" ≠ Str.ofString "is" by decide +kernel)]
      refine iteF ⟨_, rfl, A.t_PLACES, _, rfl, .inr (T.q_PLACES _), rfl, rfl, _, rfl, ?_⟩
      rw [if_neg Bool.false_ne_true, show inV (.str (Str.ofString "other")) [V.str (Str.ofString "var"), V.str (Str.ofString "at"), V.str (Str.ofString "short")] = false from inW_no (x := Str.ofString "other") (ys := plW) (by decide +kernel)]
      refine iteF ⟨_, rfl, Evl.sz_of (by show 2 ≤ 100000; decide), fun q hq => ?_⟩
      have s2 : Same H1 (upd H1 q (.tup [.str (Str.ofString "order"), .str (Str.ofString "back")])) := same_new hq
      have e2 : upd H1 q (.tup [.str (Str.ofString "order"), .str (Str.ofString "back")]) q = some (.tup [.str (Str.ofString "order"), .str (Str.ofString "back")]) := upd_same
      generalize upd H1 q (.tup [.str (Str.ofString "order"), .str (Str.ofString "back")]) = H2 at s2 e2 ⊢
      refine ⟨q, _, rfl, .inr (.inl (.inl e2)), rfl, rfl, _, rfl, ?_⟩
      rw [if_neg Bool.false_ne_true, show inV (.str (Str.ofString "other")) [V.str (Str.ofString "order"), V.str (Str.ofString "back")] = false from inW_no (x := Str.ofString "other") (ys := obW) (by decide +kernel)]
      have hV2 := hV1.same s2
      have s12 := s1.trans s2
      have eD2 := s2 _ _ eD
      refine iteF ⟨_, rfl, rfl, _, rfl, ?_⟩
      rw [ones_ne (show Str.ofString "other" ≠ Str.ofString "data" by decide +kernel)]
      refine iteF ⟨_, rfl, rfl, _, rfl, ?_⟩
      rw [decide_eq_true rfl]
      refine iteT ⟨_, rfl, v.sc, _, _, rfl, hV2.at, rfl, _, rfl, v.sc, _, _, rfl, hV2.at, rfl, _, rfl, D, _, 0, .ref p, rfl, rfl, .inl (.inl eD2), atI_nat (j := 0) rfl, v, lv, l, lp, p, false, pk, nm, ps, rp, rfl, hV2, hP.keep (.same s12), hg.1.1, hg.1.2.1, hg.1.2.2, hp, fun rf erf H3 lv3 p3 a c3 hv3 ep hR => ?_, fun wd ewd H3 lv3 d c3 hv3 ed => ?_⟩
      · rcases hcase with ⟨wd, e, _⟩ | ⟨rf2, e, hm⟩
        · rw [e] at erf; cases erf
        rw [erf] at e
        cases e
        have nsD : D ≠ v.sc := ne_of eD2 hV2.at fun z => nomatch z
        refine ⟨v, lv3, lp, p3, a, pk, rf, rfl, hv3, ep, hR, (pr _ erf).ref, fun H4 s4 => ?_⟩
        have c4 : Chg v.sc H H4 := (Chg.same s12).trans (c3.trans (.same s4))
        have hv4 := hv3.same s4
        have eD4 := s4 _ _ (c3 _ _ nsD eD2)
        rcases worth_none hV pk rf with ⟨e1, e2⟩ | ⟨x, e1, e2⟩
        · rw [e1]
          rw [e2] at hm
          refine ⟨_, rfl, rfl, _, rfl, iteT ⟨_, rfl, v.sc, _, _, rfl, hv4.at, rfl, _, rfl, D, _, 1, .ref u, rfl, rfl, .inl (.inl eD4), atI_nat (j := 1) rfl, v, lv3, lp, l', u, e, r, rfl, hv4, hu.keep (keep_sc hV c4), hg.2, hm, tell_chg tell c4⟩⟩
        · rw [e1]
          rw [e2] at hm
          cases hm
          refine ⟨_, rfl, rfl, _, rfl, ?_⟩
          rw [decide_eq_false (show ¬ V.str x = V.non from fun z => nomatch z)]
          exact iteF ⟨_, rfl, tell.1 _ rfl H4 lv3 c4 hv4⟩
      · rcases hcase with ⟨wd2, e, rfl, rfl⟩ | ⟨rf2, e, _⟩
        · rw [ewd] at e
          cases e
          exact tell.2 wd rfl H3 lv3 d ((Chg.same s12).trans c3) hv3 ed
        · rw [ewd] at e; cases e
    | op g a b => exact hg.elim
    | fn f as => exact hg.elim
theorem rk_all (T : Txt K mg A) (M : Md P w K A) : ∀ n : Nat, FnOk P w K mg base (L2.CX P w) (20 + 3 * n) A.a_Scene_reckoned A.d_Scene_reckoned ["self", "expression"] (spRkE w A.c_Scene A.c_Arrays A.c_Dealings A.c_Erring n)
  | 0 => ⟨fun vs H Q E h => by
      obtain ⟨v, lv, l, l', t, e, r, rfl, _⟩ := h
      rfl, fun _ _ _ _ _ _ _ _ _ _ _ _ _ h => by
      obtain ⟨v, lv, l, l', t, e, r, _, _, hx, _⟩ := h
      exact hx.elim⟩
  | n + 1 => rk_step T M n (20 + 3 * n) (Nat.le_add_right _ _) (rk_all T M n)
theorem ok_Scene_reckon (T : Txt K mg A) (M : Md P w K A) : FnOk P w K mg base (L2.CX P w) 70 A.a_Scene_reckon A.d_Scene_reckon ["self", "expression"] (spReckE w A.c_Scene A.c_Arrays A.c_Dealings A.c_Erring fuelN) := by
  have G_Scene_reckoned : FnOk P w K mg base (L2.CX P w) 56 A.a_Scene_reckoned A.d_Scene_reckoned ["self", "expression"] (spRkE w A.c_Scene A.c_Arrays A.c_Dealings A.c_Erring fuelN) := rk_all (P := P) (w := w) (base := base) T M fuelN
  refine T.F_Scene_reckon.okX sc_Scene_reckon (fun vs H Q E h => ?_) (fun cdv Ar outer s' H vs Q E hr h => ?_)
  · obtain ⟨v, lv, l, l', t, e, r, rfl, _⟩ := h
    rfl
  · obtain ⟨v, lv, l, l', t, e, r, rfl, hV, hx, hg, hev, hok, herr⟩ := h
    refine ⟨_, (pss_cons (ps_set (i := 2) sc_Scene_reckon.nd rfl (.inl rfl) (pe_fld (pv 0) rfl))
      (pss_cons (ps_set (i := 3) sc_Scene_reckon.nd rfl (.inl rfl) pe_non)
      (pss_cons (ps_finX rfl rfl rfl (takes_of (E := E) rfl rfl rfl rfl) (fun W pn xe tk => (pss_one (ps_set (i := 3) sc_Scene_reckon.nd rfl (.inl rfl) (by exact (pe_methX (pv 0) T.cl_Scene T.M_Scene_reckoned G_Scene_reckoned (hr.mono (by omega)) T.b_Scene_reckoned .nil (fun σ => passAt tk σ) (pa_cons (pv 1) pa_nil))))))
      (pss_one (ps_if (pt_cmpR op_isN (pv 3) pe_non (nomark _))
      (pss_one (ps_fld (pv 0) (pv 2) rfl))
      pss_nil))
      (fun a pn => (pss_one (ps_if (pt_cmpR op_isN (pv 3) pe_non (nomark _))
      (pss_one (k_psfld K (pv 0) (pv 2) rfl))
      pss_nil))))
      (pss_one (ps_ret (pv 3)))))), ?_⟩
    refine ⟨_, rfl, v.sc, A.c_Scene, v.dx, _, lv, rfl, hV.at, T.cl_Scene, T.na_Scene_latest, rfl, ?_⟩
    dsimp only [gName]
    refine seq_abs (fun σ' H' => H' = H ∧ σ' = [some (.ref v.sc), some (.ref t), some lv, some .non]) (fun Nn hNn => hNn _ _ ⟨rfl, rfl⟩) ?_
    rintro σ H2 ⟨rfl, rfl⟩
    refine ⟨_, rfl, v.sc, _, _, rfl, hV.at, rfl, _, rfl, v, lv, l, l', t, e, r, rfl, hV, hx, hg, hev, ⟨fun x ex H1 lv1 c1 hv1 => ?_, fun wd ewd H1 lv1 d c1 hv1 ed => ?_⟩⟩
    · refine ⟨_, rfl, rfl, _, rfl, ?_⟩
      rw [decide_eq_false (show ¬ V.str x = V.non from fun z => nomatch z)]
      exact iteF ⟨_, rfl, hok x ex H1 lv1 c1 hv1⟩
    · refine ⟨_, rfl, rfl, _, rfl, iteT ⟨_, rfl, _, rfl, v.sc, A.c_Scene, v.dx, _, rfl, hv1.at, T.cl_Scene, T.na_Scene_latest, (by show 4 < 1000; decide), ?_⟩⟩
      obtain ⟨q1, q2⟩ := hv1.set (lv' := lv) (l' := l) (hV.la.chgT c1 hV.at fun _ z => nomatch z)
      exact herr wd ewd _ lv d (c1.trans q2) q1 (q2 _ _ (ne_of ed hv1.at fun z => nomatch z) ed)
theorem ok_Scene_place (T : Txt K mg A) (M : Md P w K A) : FnOk P w K mg base (L2.CX P w) 64 A.a_Scene_place A.d_Scene_place ["self", "expression", "empty"] (spPlaceE w A.c_Scene A.c_Arrays A.c_Dealings A.c_Erring fuelN) := by
  have G_Scene_place_of : FnOk P w K mg base (L2.CX P w) 57 A.a_Scene_place_of A.d_Scene_place_of ["self", "expression", "empty"] (spPlE w A.c_Scene A.c_Arrays A.c_Dealings A.c_Erring fuelN) := place_body (P := P) (w := w) (base := base) T fuelN (20 + 3 * fuelN) (by decide) (rk_all T M fuelN)
  refine T.F_Scene_place.okX sc_Scene_place (fun vs H Q E h => ?_) (fun cdv Ar outer s' H vs Q E hr h => ?_)
  · obtain ⟨v, lv, l, l', t, em, k, nm, ps, r, rfl, _⟩ := h
    rfl
  · obtain ⟨v, lv, l, l', t, em, k, nm, ps, r, rfl, hV, hP, hnm, hlen, hg, hev, hok, herr⟩ := h
    refine ⟨_, (pss_cons (ps_set (i := 3) sc_Scene_place.nd rfl (.inl rfl) (pe_fld (pv 0) rfl))
      (pss_cons (ps_set (i := 4) sc_Scene_place.nd rfl (.inl rfl) pe_non)
      (pss_cons (ps_finX rfl rfl rfl (takes_of (E := E) rfl rfl rfl rfl) (fun W pn xe tk => (pss_one (ps_set (i := 4) sc_Scene_place.nd rfl (.inl rfl) (by exact (pe_methX (pv 0) T.cl_Scene T.M_Scene_place_of G_Scene_place_of (hr.mono (by omega)) T.b_Scene_place_of .nil (fun σ => passAt tk σ) (pa_cons (pv 1) (pa_cons (pv 2) pa_nil)))))))
      (pss_one (ps_if (pt_cmpR op_isN (pv 4) pe_non (nomark _))
      (pss_one (ps_fld (pv 0) (pv 3) rfl))
      pss_nil))
      (fun a pn => (pss_one (ps_if (pt_cmpR op_isN (pv 4) pe_non (nomark _))
      (pss_one (k_psfld K (pv 0) (pv 3) rfl))
      pss_nil))))
      (pss_one (ps_ret (pv 4)))))), ?_⟩
    refine ⟨_, rfl, v.sc, A.c_Scene, v.dx, _, lv, rfl, hV.at, T.cl_Scene, T.na_Scene_latest, rfl, ?_⟩
    dsimp only [gName]
    refine seq_abs (fun σ' H' => H' = H ∧ σ' = [some (.ref v.sc), some (.ref t), some (.bl em), some lv, some .non]) (fun Nn hNn => hNn _ _ ⟨rfl, rfl⟩) ?_
    rintro σ H2 ⟨rfl, rfl⟩
    refine ⟨_, rfl, v.sc, _, _, rfl, hV.at, rfl, _, rfl, _, rfl, v, lv, l, l', t, em, k, nm, ps, r, rfl, hV, hP, hnm, hlen, hg, hev, fun rf erf H1 lv1 p a c1 hv1 ep hR => ?_, fun wd ewd H1 lv1 d c1 hv1 ed => ?_⟩
    · refine ⟨_, rfl, rfl, _, rfl, ?_⟩
      rw [decide_eq_false (show ¬ V.ref p = V.non from fun z => nomatch z)]
      exact iteF ⟨_, rfl, hok rf erf H1 lv1 p a c1 hv1 ep hR⟩
    · refine ⟨_, rfl, rfl, _, rfl, iteT ⟨_, rfl, _, rfl, v.sc, A.c_Scene, v.dx, _, rfl, hv1.at, T.cl_Scene, T.na_Scene_latest, (by show 4 < 1000; decide), ?_⟩⟩
      obtain ⟨q1, q2⟩ := hv1.set (lv' := lv) (l' := l) (hV.la.chgT c1 hV.at fun _ z => nomatch z)
      exact herr wd ewd _ lv d (c1.trans q2) q1 (q2 _ _ (ne_of ed hv1.at fun z => nomatch z) ed)
theorem ok_Scene_last (T : Txt K mg A) : FnOk P w K mg base CX0 1 A.a_Scene_last A.d_Scene_last ["self"] (spScLast w A.c_Scene A.c_Arrays A.c_Dealings) := by
  refine T.F_Scene_last.ok sc_Scene_last (fun vs H Q E h => ?_) (fun cdv Ar outer s' H vs Q E hr h => ?_)
  · obtain ⟨v, lv, l, rfl, _⟩ := h
    rfl
  · obtain ⟨v, lv, l, rfl, hV, q⟩ := h
    refine ⟨_, (pss_one (ps_ret (pe_fld (pv 0) rfl))), ?_⟩
    exact ⟨_, rfl, v.sc, A.c_Scene, v.dx, _, lv, rfl, hV.at, T.cl_Scene, T.na_Scene_latest, rfl, q⟩
theorem countP_key {es : List Ent} (g : (es.map (·.1)).Nodup) (r : Rf) : ((es.countP fun e => decide (e.1 = r)) : Int) = ownN es r := by
  unfold ownN ndGet
  induction es with
  | nil => rfl
  | cons e es ih =>
    rw [List.map_cons, List.nodup_cons] at g
    have ih := ih g.2
    by_cases h : e.1 = r
    · rw [List.countP_cons_of_pos (by exact decide_eq_true h), List.find?_cons_of_pos (by exact decide_eq_true h)]
      have z : es.countP (fun e => decide (e.1 = r)) = 0 := List.countP_eq_zero.mpr fun x hx hd => g.1 (List.mem_map.mpr ⟨x, hx, by rw [of_decide_eq_true hd, h]⟩)
      rw [z]
      rfl
    · rw [List.countP_cons_of_neg (by exact fun z => h (of_decide_eq_true z)), List.find?_cons_of_neg (by exact fun z => h (of_decide_eq_true z))]
      exact ih
theorem data_more {es : List Ent} (g : GoodEs es) (r : Rf) : decide (ownN es r < (((ndBelow es r.1 r.2).map fun e => V.ref e.2.1).length : Int)) = !(es.filter fun e => stemB r.1 r.2 e.1.1 e.1.2 && decide (r.2.length < e.1.2.length)).isEmpty := by
  rw [List.length_map]
  have hc : (ndBelow es r.1 r.2).length = (es.countP fun e => decide (e.1 = r)) + (es.filter fun e => stemB r.1 r.2 e.1.1 e.1.2 && decide (r.2.length < e.1.2.length)).length := by
    unfold ndBelow
    rw [← List.countP_eq_length_filter, ← List.countP_eq_length_filter]
    clear g
    induction es with
    | nil => rfl
    | cons e es ih =>
      rw [List.countP_cons, List.countP_cons, List.countP_cons, ih]
      have k : (if stemB r.1 r.2 e.1.1 e.1.2 = true then 1 else 0) = (if decide (e.1 = r) = true then 1 else 0) + (if (stemB r.1 r.2 e.1.1 e.1.2 && decide (r.2.length < e.1.2.length)) = true then 1 else 0) := by
        unfold stemB
        by_cases h1 : r.1 = e.1.1
        · by_cases h2 : e.1.2.take r.2.length = r.2
          · by_cases h3 : r.2.length < e.1.2.length
            · have h4 : ¬ e.1 = r := fun z => by rw [z] at h3; omega
              simp [h1, h2, h3, h4]
            · have h4 : e.1 = r := by
                rw [List.take_of_length_le (by omega)] at h2
                exact Prod.ext h1.symm h2
              simp [h1, h2, h3, h4]
          · have h4 : ¬ e.1 = r := fun z => h2 (by rw [z, List.take_length])
            simp [h1, h2, h4]
        · have h4 : ¬ e.1 = r := fun z => h1 (by rw [z])
          simp [h1, h4]
      omega
  have ho := countP_key g.nd r
  rw [hc]
  cases hf : es.filter fun e => stemB r.1 r.2 e.1.1 e.1.2 && decide (r.2.length < e.1.2.length) with
  | nil =>
    rw [decide_eq_false (by rw [List.length_nil]; omega)]
    rfl
  | cons x xs =>
    rw [decide_eq_true (by rw [List.length_cons]; omega)]
    rfl
theorem ok_law_data (T : Txt K mg A) : FnOk P w K mg base CX0 1 A.a_law_data A.d_law_data ["nodes", "ref"] (spLData w) := by
  refine T.F_law_data.ok sc_law_data (fun vs H Q E h => ?_) (fun cdv Ar outer s H vs Q E hr h => ?_)
  · obtain ⟨m, a, es, r, rfl, _⟩ := h
    rfl
  · obtain ⟨m, a, es, r, rfl, hM, hG, hl, hR, hS, q⟩ := h
    obtain ⟨a', k, ea, e1, e2⟩ := id hR
    cases ea
    refine ⟨_, (pss_cons (ps_set (i := 2) sc_law_data.nd rfl (.inr rfl) (pe_callB (k_len K) (by rfl) T.n_len PySem.boot_len (pa_cons (pe_ix (k_ix_tup K) (pv 1) pe_int (fun _ _ => rfl)) pa_nil)))
      (pss_cons (ps_lock (ps_setLc (i := 3) (own := [("name", 4), ("row", 5)])   rfl sc_law_data.nd rfl rfl (sw_true rfl rfl rfl (by decide +kernel)) (k_pi_nd w (pv 0)) (blkOk_by (own := [("name", 4), ("row", 5)]) (N := N_law_data) (sc := defScope s_law_data) (by decide +kernel)) (fun _ _ _ _ _ => (k_pg_tup (n := 2) K rfl (pgs_cons (pg_name (i := 4) sc_law_data.nd rfl (.inl rfl)) (pgs_cons (pg_name (i := 5) sc_law_data.nd rfl (.inl rfl)) pgs_nil)))) (fun _ _ _ _ _ => pts_one (PW.pt (pw_and (pt_cmpR op_eq (pv 4) (pe_ix (k_ix_tup K) (pv 1) pe_int (fun _ _ => rfl)) (nomark _)) (pw_and (pt_cmpR op_gt (pe_callB (k_len K) (by rfl) T.n_len PySem.boot_len (pa_cons (pv 5) pa_nil)) (pv 2) (nomark _)) (pw_and1 (pt_cmpR (k_eqP K hr.units) (pe_slice (k_sl_tup K) (pv 5) po_none (po_some (pv 2))) (pe_ix (k_ix_tup K) (pv 1) pe_int (fun _ _ => rfl)) (nomark _))))))) (fun _ _ _ _ _ => pe_int)))
      (pss_one (ps_ret (pe_callTy call_str_int (by rfl) T.n_str (by decide +kernel) (pa_cons (pe_op op_add (pe_callTy call_int1 (by rfl) T.n_int (by decide +kernel) (pa_cons (pe_cmpR (k_inN w hr.units) (pv 1) (pv 0) (by rfl)) pa_nil)) (pe_op op_mulW pe_int (pe_callTy call_int1 (by rfl) T.n_int (by decide +kernel) (pa_cons (pe_cmpR (k_neE K hr.units) (pv 3) (pe_lst pa_nil) (nomark _)) pa_nil)))) pa_nil)))))), ?_⟩
    refine ⟨_, rfl, a, _, 1, .ref k, rfl, rfl, .inl (.inl e1), atI_nat (j := 1) rfl, k, _, rfl, .inr (.inl (.inl e2)), ?_⟩
    rw [List.length_map]
    have eL : ∀ od, upd H m (.frz od (ndO w m es)) m = some (.frz od (ndO w m es)) := fun od => upd_same
    have ntup : ∀ {c : Addr} {xs : List V} (od : Obj), H c = some (.tup xs) → upd H m (.frz od (ndO w m es)) c = some (.tup xs) := fun {c xs} od z => by rw [upd_ne (ne_of z hM.1 (fun z => nomatch z))]; exact z
    dsimp only [gName]
    refine ⟨m, ndO w m es, hM.1, True.intro, fun od => ⟨_, rfl, m, od, es, rfl, eL od, fun D hD => ?_⟩⟩
    have e1 := ntup od e1
    have e2 := ntup od e2
    have eL := eL od
    have rL : ∀ e ∈ es, RefAt (upd H m (.frz od (ndO w m es))) (.ref e.2.1) e.1.1 e.1.2 := fun e he => (hM.2 e he).frz hM.1
    have back : ∀ H', Same (upd H m (.frz od (ndO w m es))) H' → Same H (upd H' m (ndO w m es)) := fun H' s => lock_same hM.1 s
    have hDm : D ≠ m := fun z => by rw [z, upd_same] at hD; cases hD
    generalize upd H m (.frz od (ndO w m es)) = HL at e1 e2 eL rL back hD ⊢
    refine lc_gen walk_ndY (fun e => stemB r.1 r.2 e.1.1 e.1.2 && decide (r.2.length < e.1.2.length)) (fun _ _ y => y = .int 1) (fr_same hD) (fun _ h => h) (fun _ h => h) (by omega) (fun H' s => s _ _ eL) (fun e H3 x H4 ⟨e4, _⟩ => by rw [e4]; exact .refl _) ?_ ?_
    · rintro e H0 v H2 he s2 ⟨rfl, rfl⟩ R S hR2 hS2
      obtain ⟨x1, ke, ex, h1, h2⟩ := (rL e he).same s2
      cases ex
      have f1 := s2 _ _ e1
      have f2 := s2 _ _ e2
      refine ⟨_, _, rfl, .inl (.inl h1), rfl, _, _, rfl, _, _, rfl, rfl, rfl, ?_⟩
      refine ⟨_, rfl, _, rfl, a, _, 0, .str r.1, rfl, rfl, .inl (.inl f1), atI_nat (j := 0) rfl, rfl, _, rfl, ?_⟩
      rw [show decide (V.str e.1.1 = V.str r.1) = decide (e.1.1 = r.1) from decide_eq_decide.mpr ⟨fun z => V.str.inj z, fun z => congrArg V.str z⟩]
      have stem : stemB r.1 r.2 e.1.1 e.1.2 = (decide (r.1 = e.1.1) && decide (e.1.2.take r.2.length = r.2)) := rfl
      by_cases en : e.1.1 = r.1
      case neg =>
        refine iteF' (decide_eq_false en) (iteF (hS2 _ ?_ (.refl _)))
        rw [stem, decide_eq_false (fun z => en z.symm)]
        rfl
      refine iteT' (decide_eq_true en) ⟨_, rfl, ke, _, rfl, .inr (.inl (.inl h2)), _, rfl, _, _, rfl, rfl, _, rfl, ?_⟩
      rw [List.length_map]
      by_cases hlt : r.2.length < e.1.2.length
      case neg =>
        refine iteF' (decide_eq_false (by omega)) (iteF (hS2 _ ?_ (.refl _)))
        rw [decide_eq_false hlt, Bool.and_false]
      refine iteT' (decide_eq_true (by omega)) ⟨_, rfl, _, rfl, _, rfl, ?_⟩
      refine rd_takeI (n := r.2.length) rfl h2 fun p1 H4 s4 hp1 => ?_
      rw [← List.map_take] at hp1
      refine ⟨_, rfl, a, _, 1, .ref k, rfl, rfl, .inl (.inl (s4 _ _ f1)), atI_nat (j := 1) rfl, ?_⟩
      refine rd_eqP (dv_strs (.inl (.inl hp1))) (dv_strs (.inl (.inl (s4 _ _ f2)))) (by decide) ⟨_, rfl, ?_⟩
      by_cases ep : e.1.2.take r.2.length = r.2
      case neg =>
        refine iteF' (decide_eq_false (fun z => ep (PySem.W.Tup.mk.inj z))) (hS2 _ ?_ s4)
        rw [stem, decide_eq_false ep, Bool.and_false, Bool.false_and]
      refine iteT' (decide_eq_true (by rw [ep])) (hR2 _ _ ?_ s4 rfl)
      rw [stem, decide_eq_true en.symm, decide_eq_true ep, decide_eq_true hlt]
      rfl
    · intro H2 ys s2 eD p2
      rw [paired_fn p2] at eD
      have bk := back H2 s2
      have hDn : upd H2 m (ndO w m es) D = some (.lst ((es.filter fun e => stemB r.1 r.2 e.1.1 e.1.2 && decide (r.2.length < e.1.2.length)).map fun _ => V.int 1)) := by rw [upd_ne hDm]; exact eD
      refine ⟨s2 _ _ eL, ?_⟩
      generalize upd H2 m (ndO w m es) = H3 at bk hDn
      have hM3 := hM.sameN bk
      have hR3 := hR.same bk
      dsimp only [gName]
      refine ⟨_, rfl, _, rfl, a, m, es, r, rfl, rfl, hR3, hM3.rd, .inr ⟨_, rfl, ?_⟩⟩
      refine ⟨_, rfl, Evl.sz_of (by show 0 ≤ 100000; decide), fun em hem => ⟨D, em, _, rfl, rfl, .inl (.inl (same_new hem _ _ hDn)), .inl (.inl upd_same), .inr ⟨_, rfl, ?_⟩⟩⟩
      have b4 := bk.trans (same_new (o := .lst []) hem)
      have ed : dataN es r = (if (ndGet es r).isSome = true then 1 else 0) + 10 * (if (!(List.map (fun _ => V.int 1) (es.filter fun e => stemB r.1 r.2 e.1.1 e.1.2 && decide (r.2.length < e.1.2.length))).isEmpty) = true then 1 else 0) := by
        unfold dataN
        rw [data_more hG r, List.isEmpty_map]
        rfl
      refine ⟨_, _, rfl, rfl, mul_ok (by decide) (by split <;> decide), _, _, rfl, rfl, _, rfl, ?_, ?_⟩
      · rw [← ed]
        have hb : (dataN es r).natAbs < 2 ^ 5 := by
          have h := ownN_le es r
          unfold dataN
          split <;> omega
        exact Nat.lt_of_lt_of_le (PySem.Flt.log2_lt_of (k := 5) (by decide) hb) (by decide)
      · rw [← ed]
        exact q _ b4
theorem cand_self (L : List Str) (t : Bool) : cand L (Str.ofString "") t = L := by
  unfold cand
  rw [List.filter_eq_self]
  intro x _
  rw [decide_eq_true rfl]
  rfl
theorem ok_law_next (T : Txt K mg A) : FnOk P w K mg base CX0 4 A.a_law_next A.d_law_next ["nodes", "ref", "is_back"] (spLNext w) := by
  have G_law_rank := ok_law_rank (P := P) (w := w) (base := base) T
  refine T.F_law_next.ok sc_law_next (fun vs H Q E h => ?_) (fun cdv Ar outer s H vs Q E hr h => ?_)
  · obtain ⟨m, a, es, n, ks, last, t, rfl, _⟩ := h
    rfl
  · obtain ⟨m, a, es, n, ks, last, t, rfl, hM, hG, hl, hR, hS, q⟩ := h
    obtain ⟨a', k, ea, e1, e2⟩ := id hR
    cases ea
    rw [List.map_append, List.map_singleton] at e2
    have eA := e1
    have eB := e2
    refine ⟨_, (pss_cons (ps_set (i := 3) sc_law_next.nd rfl (.inl rfl) (pe_callB (k_len K) (by rfl) T.n_len PySem.boot_len (pa_cons (pe_ix (k_ix_tup K) (pv 1) pe_int (fun _ _ => rfl)) pa_nil)))
      (pss_cons (ps_set (i := 4) sc_law_next.nd rfl (.inl rfl) pe_dnewK)
      (pss_cons (ps_lock (ps_for PassesOwn.never rfl (k_pi_nd w (pv 0)) (pg_tup rfl (pgs_cons (pg_name (i := 5) sc_law_next.nd rfl (.inl rfl)) (pgs_cons (pg_name (i := 6) sc_law_next.nd rfl (.inl rfl)) pgs_nil)))
      (pss_one (ps_if (PW.pt (pw_and (pt_cmpR op_eq (pv 5) (pe_ix (k_ix_tup K) (pv 1) pe_int (fun _ _ => rfl)) (nomark _)) (pw_and (pt_cmpR op_ge (pe_callB (k_len K) (by rfl) T.n_len PySem.boot_len (pa_cons (pv 6) pa_nil)) (pv 3) (nomark _)) (pw_and1 (pt_cmpR (k_eqP K hr.units) (pe_slice (k_sl_tup K) (pv 6) po_none (po_some (pe_op op_sub (pv 3) pe_int))) (pe_slice (k_sl_tup K) (pe_ix (k_ix_tup K) (pv 1) pe_int (fun _ _ => rfl)) po_none (po_some (pe_un un_neg pe_int))) (nomark _))))))
      (pss_one (ps_dput (hu_of hr) (pv 4) (pe_ix (k_ix_tup K) (pv 6) (pe_op op_sub (pv 3) pe_int) (fun _ _ => rfl)) pe_bl rfl))
      pss_nil))))
      (pss_cons (ps_set (i := 7) sc_law_next.nd rfl (.inl rfl) (pe_ix (k_ix_tup K) (pe_ix (k_ix_tup K) (pv 1) pe_int (fun _ _ => rfl)) (pe_un un_neg pe_int) (fun _ _ => rfl)))
      (pss_cons (ps_set (i := 8) sc_law_next.nd rfl (.inl rfl) (pe_callBK (cr_sortKeyD G_law_rank (hr.mono (by omega)) T.b_law_rank) (by rfl) T.n_sorted (by decide +kernel) (pa_cons (pv 4) pa_nil) (pk_cons (pe_glob (v := .ref A.a_law_rank) rfl T.g_law_rank rfl) pk_nil)))
      (pss_cons (ps_if (pt_cmpR op_ne (pv 7) pe_str (nomark _))
      (pss_cons (ps_set (i := 9) sc_law_next.nd rfl (.inr rfl) (pe_call G_law_rank (hr.mono (by omega)) (by rfl) T.g_law_rank T.F_law_rank.kp T.b_law_rank .nil pass0 (pa_cons (pv 7) pa_nil)))
      (pss_one (ps_setLc (i := 8) (own := [("text", 10)]) (g := gName 10)  rfl sc_law_next.nd rfl rfl (sw_true rfl rfl rfl (by decide +kernel)) (k_pi_list K (pv 8)) (blkOk_by (own := [("text", 10)]) (N := N_law_next) (sc := defScope s_law_next) (by decide +kernel)) (fun _ _ _ _ _ => (pg_name (i := 10) sc_law_next.nd rfl (.inl rfl))) (fun _ _ _ _ _ => pts_one (pt_val (pe_ix (k_ix_list K) (pe_lst (pa_cons (pe_cmpR (k_gtP K hr.units) (pe_call G_law_rank (hr.mono (by omega)) (by rfl) T.g_law_rank T.F_law_rank.kp T.b_law_rank .nil pass0 (pa_cons (pv 10) pa_nil)) (pv 9) (nomark _)) (pa_cons (pe_cmpR (k_ltP K hr.units) (pe_call G_law_rank (hr.mono (by omega)) (by rfl) T.g_law_rank T.F_law_rank.kp T.b_law_rank .nil pass0 (pa_cons (pv 10) pa_nil)) (pv 9) (nomark _)) pa_nil))) (pe_callTy call_int1 (by rfl) T.n_int (by decide +kernel) (pa_cons (pv 2) pa_nil)) (fun _ _ => rfl)))) (fun _ _ _ _ _ => (pv 10)))))
      pss_nil)
      (pss_one (ps_ret (pe_ifExp (pt_val (pv 2)) (pe_ix (k_ix_list K) (pe_op op_cat (pe_lst (pa_cons pe_str pa_nil)) (pv 8)) (pe_un un_neg pe_int) (fun _ _ => rfl)) (pe_ix (k_ix_list K) (pe_op op_cat (pv 8) (pe_lst (pa_cons pe_str pa_nil))) pe_int (fun _ _ => rfl))))))))))), ?_⟩
    have l5 := hS.len
    have lk : (((ks.map V.str ++ [V.str last]).length : Nat) : Int) = (ks.length : Int) + 1 := by rw [List.length_append, List.length_map]; rfl
    have l40 : last.length ≤ 640 := by
      rcases hS.last with e | e
      · rw [e]; decide +kernel
      · exact Nat.le_trans e.2.1 (by decide)
    refine ⟨_, rfl, a, _, 1, .ref k, rfl, rfl, .inl (.inl e1), atI_nat (j := 1) rfl, k, _, rfl, .inr (.inl (.inl e2)), ?_⟩
    rw [lk]
    dsimp only [gName]
    refine fun D hD => ?_
    have s1 : Same H (upd H D (.dK [])) := same_new hD
    have eD : upd H D (.dK []) D = some (.dK []) := upd_same
    generalize upd H D (.dK []) = H1 at s1 eD ⊢
    have hM1 := hM.sameN s1
    have hDm : D ≠ m := ne_of eD hM1.1 fun z => nomatch z
    have e1 := s1 _ _ e1
    have e2 := s1 _ _ e2
    dsimp only [gName]
    refine seq_abs (fun σ' H' => Same H H' ∧ ∃ (kvs : List (L2.Key × V)) (U : List Str) (y5 y6 : Option V), H' D = some (.dK kvs) ∧ kvs.map (·.1) = U.map Sum.inr ∧ U.length ≤ 1000 ∧ (∀ x, x ∈ U ↔ x ∈ behOf es n ks) ∧ σ' = [some (.ref m), some (.ref a), some (.bl t), some (.int ((ks.length : Int) + 1)), some (.ref D), y5, y6, none, none, none, none]) (fun Nx hN => ?_) ?_
    · have eL : ∀ od, upd H1 m (.frz od (ndO w m es)) m = some (.frz od (ndO w m es)) := fun od => upd_same
      have ntup : ∀ {c : Addr} {xs : List V} (od : Obj), H1 c = some (.tup xs) → upd H1 m (.frz od (ndO w m es)) c = some (.tup xs) := fun {c xs} od z => by rw [upd_ne (ne_of z hM1.1 (fun z => nomatch z))]; exact z
      refine ⟨m, ndO w m es, hM1.1, True.intro, fun od => ⟨_, rfl, m, od, es, rfl, eL od, ?_⟩⟩
      have e1 := ntup od e1
      have e2 := ntup od e2
      have eL := eL od
      have eDL : upd H1 m (.frz od (ndO w m es)) D = some (.dK []) := by rw [upd_ne hDm]; exact eD
      have rL : ∀ e ∈ es, RefAt (upd H1 m (.frz od (ndO w m es))) (.ref e.2.1) e.1.1 e.1.2 := fun e he => (hM1.2 e he).frz hM1.1
      have unl : ∀ H', Chg D (upd H1 m (.frz od (ndO w m es))) H' → H' m = some (.frz od (ndO w m es)) → Same H (upd H' m (ndO w m es)) := fun H' c em b o e => by
        by_cases hb : b = m
        · subst hb
          rw [upd_same]
          rw [hM.1] at e
          exact e
        · rw [upd_ne hb]
          have e' := s1 _ _ e
          have nb : b ≠ D := ne_of_none e hD
          exact c b o nb (by rw [upd_ne hb]; exact e')
      generalize upd H1 m (.frz od (ndO w m es)) = HL at e1 e2 eL eDL rL unl
      refine for_nd (fun i σ' H' => Chg D HL H' ∧ ∃ (kvs : List (L2.Key × V)) (U : List Str) (y5 y6 : Option V), H' D = some (.dK kvs) ∧ kvs.map (·.1) = U.map Sum.inr ∧ U.length ≤ i ∧ (∀ x, x ∈ U ↔ x ∈ behOf (es.take i) n ks) ∧ σ' = [some (.ref m), some (.ref a), some (.bl t), some (.int ((ks.length : Int) + 1)), some (.ref D), y5, y6, none, none, none, none]) ⟨fun _ _ _ z => z, [], [], _, _, eDL, rfl, Nat.le_refl _, fun x => by rw [List.take_zero]; exact Iff.rfl, rfl⟩ (fun i σ' H' _ h => h.1 _ _ hDm.symm eL) ?_ ?_
      · rintro i e σ' H' he ⟨c1, kvs, U, y5, y6, eD', hk, hU, hm, rfl⟩
        have hin : e ∈ es := List.mem_of_getElem? he
        have keepT : ∀ {c : Addr} {xs : List V}, HL c = some (.tup xs) → H' c = some (.tup xs) := fun {c xs} z => c1 _ _ (ne_of z eDL fun z => nomatch z) z
        obtain ⟨x1, ke, ex, h1, h2⟩ := rL e hin
        cases ex
        have h1 := keepT h1
        have h2 := keepT h2
        have f1 := keepT e1
        have f2 := keepT e2
        have snoc := beh_snoc he n ks
        have stem : stemB n ks e.1.1 e.1.2 = (decide (n = e.1.1) && decide (e.1.2.take ks.length = ks)) := rfl
        have stay : (stemB n ks e.1.1 e.1.2 && decide (ks.length < e.1.2.length)) = false → ∀ (H2 : Hp) (y5 y6 : Option V), Same H' H2 → (Chg D HL H2 ∧ ∃ (kvs : List (L2.Key × V)) (U : List Str) (z5 z6 : Option V), H2 D = some (.dK kvs) ∧ kvs.map (·.1) = U.map Sum.inr ∧ U.length ≤ i + 1 ∧ (∀ x, x ∈ U ↔ x ∈ behOf (es.take (i + 1)) n ks) ∧ ([some (.ref m), some (.ref a), some (.bl t), some (.int ((ks.length : Int) + 1)), some (.ref D), y5, y6, none, none, none, none] : L2.St) = [some (.ref m), some (.ref a), some (.bl t), some (.int ((ks.length : Int) + 1)), some (.ref D), z5, z6, none, none, none, none]) := fun c H2 y5 y6 s2 => ⟨c1.trans (.same s2), kvs, U, _, _, s2 _ _ eD', hk, by omega, by rw [snoc, if_neg (by rw [c]; exact Bool.false_ne_true)]; exact hm, rfl⟩
        refine ⟨_, _, rfl, .inl (.inl h1), rfl, _, _, rfl, _, _, rfl, rfl, ?_⟩
        refine ⟨_, rfl, _, rfl, a, _, 0, .str n, rfl, rfl, .inl (.inl f1), atI_nat (j := 0) rfl, rfl, _, rfl, ?_⟩
        rw [show decide (V.str e.1.1 = V.str n) = decide (e.1.1 = n) from decide_eq_decide.mpr ⟨fun z => V.str.inj z, fun z => congrArg V.str z⟩]
        by_cases en : e.1.1 = n
        case neg =>
          exact iteF' (decide_eq_false en) (iteF (stay (by rw [stem, decide_eq_false (fun z => en z.symm)]; rfl) _ _ _ (.refl _)))
        refine iteT' (decide_eq_true en) ⟨_, rfl, ke, _, rfl, .inr (.inl (.inl h2)), _, rfl, _, _, rfl, rfl, _, rfl, ?_⟩
        rw [List.length_map]
        by_cases hlt : ks.length < e.1.2.length
        case neg =>
          exact iteF' (decide_eq_false (by omega)) (iteF (stay (by rw [decide_eq_false hlt, Bool.and_false]) _ _ _ (.refl _)))
        refine iteT' (decide_eq_true (by omega)) ⟨_, rfl, _, rfl, _, _, rfl, rfl, _, rfl, ?_⟩
        refine rd_takeI (n := ks.length) (by omega) h2 fun p1 H2 s2 hp1 => ?_
        rw [← List.map_take] at hp1
        refine ⟨_, rfl, a, _, 1, .ref k, rfl, rfl, .inl (.inl (s2 _ _ f1)), atI_nat (j := 1) rfl, 1, rfl, -1, rfl, ?_⟩
        refine rd_initT (s2 _ _ f2) fun p2 H3 s3 hp2 => ?_
        refine rd_eqP (dv_strs (.inl (.inl (s3 _ _ hp1)))) (dv_strs (.inl (.inl hp2))) (by decide) ⟨_, rfl, ?_⟩
        have t3 := s2.trans s3
        by_cases ep : e.1.2.take ks.length = ks
        case neg =>
          exact iteF' (decide_eq_false (fun z => ep (PySem.W.Tup.mk.inj z))) (stay (by rw [stem, decide_eq_false ep, Bool.and_false, Bool.false_and]) _ _ _ t3)
        have cnd : (stemB n ks e.1.1 e.1.2 && decide (ks.length < e.1.2.length)) = true := by rw [stem, decide_eq_true en.symm, decide_eq_true ep, decide_eq_true hlt]; rfl
        have hv : e.1.2[ks.length]? = some (e.1.2.getD ks.length (Str.ofString "")) := by rw [List.getD_eq_getElem?_getD, List.getElem?_eq_getElem hlt]; rfl
        rw [if_pos cnd] at snoc
        have eD3 := t3 _ _ eD'
        refine iteT' (decide_eq_true (by rw [ep])) ?_
        refine ⟨_, rfl, _, rfl, _, rfl, _, _, rfl, rfl, ke, _, _, .str (e.1.2.getD ks.length (Str.ofString "")), rfl, rfl, .inl (.inl (t3 _ _ h2)), at_strs (by omega) hv, D, _, rfl, .inl ⟨kvs, .inr (e.1.2.getD ks.length (Str.ofString "")), eD3, rfl, ?_, rfl⟩, ?_⟩
        · have := congrArg List.length hk
          rw [List.length_map, List.length_map] at this
          have hi : i < es.length := (List.getElem?_eq_some_iff.mp he).1
          exact Evl.sz_lt (by omega)
        · obtain ⟨W, w1, w2, w3⟩ := putK_keys kvs (e.1.2.getD ks.length (Str.ofString "")) (V.bl true) hk
          refine ⟨(c1.trans (.same t3)).trans .upd, _, W, _, _, upd_same, w1, by omega, fun y => ?_, rfl⟩
          rw [w3, hm, snoc]
          exact ⟨fun z => z.elim (fun z => List.mem_append_left _ z) fun z => List.mem_append_right _ (by rw [z]; exact List.mem_cons_self), fun z => (List.mem_append.mp z).imp id List.mem_singleton.mp⟩
      · rintro σ' H' ⟨c1, kvs, U, y5, y6, eD', hk, hU, hm, rfl⟩
        rw [List.take_length] at hm
        refine ⟨c1 _ _ hDm.symm eL, hN _ _ ⟨unl H' c1 (c1 _ _ hDm.symm eL), kvs, U, y5, y6, by rw [upd_ne hDm]; exact eD', hk, by omega, hm, rfl⟩⟩
    rintro σ' H5 ⟨s5, kvs, U, y5, y6, eD, hk, hU, hm, rfl⟩
    have eA5 := s5 _ _ eA
    have eB5 := s5 _ _ eB
    have hm : ∀ x, x ∈ U ↔ x ∈ behOf es n ks := hm
    have u40 : ∀ x ∈ U, x.length ≤ 640 := fun x hx => by
      obtain ⟨e, he, rfl⟩ := List.mem_map.mp ((hm x).mp hx)
      obtain ⟨he, hlt⟩ := List.mem_filter.mp he
      have hlt := of_decide_eq_true hlt
      have he := (List.mem_filter.mp he).1
      have hv : e.1.2.getD ks.length (Str.ofString "") ∈ e.1.2 := by
        rw [List.getD_eq_getElem?_getD, List.getElem?_eq_getElem hlt]
        exact List.getElem_mem hlt
      exact Nat.le_trans ((hG.refs e he).keys _ hv).2.1 (by decide)
    refine ⟨_, rfl, a, _, 1, .ref k, rfl, rfl, .inl (.inl eA5), atI_nat (j := 1) rfl, 1, rfl, k, _, -1, .str last, rfl, rfl, .inl (.inl eB5), at_last, ?_⟩
    refine ⟨_, rfl, ?_⟩
    refine ⟨D, kvs, U, keyOf, rfl, rfl, .inl eD, hk, by omega, alikeK U, sortableK U, fun x hx => ?_, fun x hx H6 s6 R h6 => ?_, fun r H6 hr6 s6 e6 => ?_⟩
    · obtain ⟨y, _, rfl⟩ := List.mem_map.mp hx
      exact Nat.le_trans (PySem.W.Datum.depth_le (rankT y)) (by decide)
    · obtain ⟨y, hy, rfl⟩ := List.mem_map.mp hx
      exact ⟨y, rfl, u40 y hy, fun v H7 s7 d7 => h6 v H7 s7 d7⟩
    rw [sortK_map] at e6
    have t6 := s5.trans s6
    have sl : (sortK U).length ≤ 1000 := by rw [(sortK_perm U).length_eq]; exact hU
    have eB6 := s6 _ _ eB5
    dsimp only [gName]
    refine seq_abs (fun σ' H' => Same H H' ∧ ∃ r2 y9 y10, H' r2 = some (.lst ((cand (sortK U) last t).map V.str)) ∧ σ' = [some (.ref m), some (.ref a), some (.bl t), some (.int ((ks.length : Int) + 1)), some (.ref D), y5, y6, some (.str last), some (.ref r2), y9, y10]) (fun Nx hN => ?_) ?_
    · refine ⟨_, rfl, rfl, _, rfl, ?_⟩
      rw [show decide (V.str last = V.str (Str.ofString "")) = decide (last = Str.ofString "") from decide_eq_decide.mpr ⟨fun z => V.str.inj z, fun z => congrArg V.str z⟩]
      by_cases el : last = Str.ofString ""
      · refine iteF' (by rw [decide_eq_true el]; rfl) (hN _ _ ⟨t6, r, _, _, ?_, rfl⟩)
        rw [el, cand_self]
        exact e6
      · refine iteT' (by rw [decide_eq_false el]; rfl) ⟨_, rfl, last, rfl, l40, fun v1 H7 s7 d1 => ⟨_, rfl, r, rfl, ⟨_, .inl (.inl (s7 _ _ e6))⟩, fun D2 hD2 => ?_⟩⟩
        refine lc_pure_list (K := K) (xs := (sortK U).map V.str) (onStrB fun x => decide (last = Str.ofString "") || (if t = true then ltK x last else ltK last x)) (onStr fun x => V.str x) (by rw [List.length_map]; omega) hD2 (.inl (.inl (s7 _ _ e6))) (fun v H8 hv s8 R q8 => ?_) (fun v H8 hv _ s8 R q8 => ?_) (fun H8 s8 e8 => ?_)
        · obtain ⟨x, hx, rfl⟩ := List.mem_map.mp hv
          have hxU : x ∈ U := (sortK_perm U).mem_iff.mp hx
          have eon : onStrB (fun x => decide (last = Str.ofString "") || (if t = true then ltK x last else ltK last x)) (V.str x) = if t = true then ltK x last else ltK last x := by
            show (decide (last = Str.ofString "") || _) = _
            rw [decide_eq_false el]; rfl
          rw [eon] at q8
          refine ⟨_, rfl, x, rfl, u40 x hxU, fun v2 H9 s9 d2 => ⟨_, rfl, rd_gtP d2 (dp_same (s8.trans s9) d1) (by decide) ⟨_, rfl, x, rfl, u40 x hxU, fun v3 H10 s10 d3 => ⟨_, rfl, rd_ltP d3 (dp_same ((s8.trans s9).trans s10) d1) (by decide) ⟨Evl.sz_of (by show 2 ≤ 100000; decide), fun L hL => ⟨_, rfl, .inr ⟨_, rfl, ?_⟩⟩⟩⟩⟩⟩⟩
          refine ⟨L, _, _, .bl (if t = true then ltK x last else ltK last x), rfl, rfl, .inl (.inl upd_same), by cases t <;> rfl, _, rfl, q8 _ ((s9.trans s10).trans (same_new hL))⟩
        · obtain ⟨x, hx, rfl⟩ := List.mem_map.mp hv
          exact ⟨_, rfl, q8 _ (.refl _)⟩
        · rw [strs_filter, List.map_id'] at e8
          exact hN _ _ ⟨(t6.trans s7).trans s8, D2, _, _, e8, rfl⟩
    rintro σ' H7 ⟨t7, r2, y9, y10, e7, rfl⟩
    have cl : (cand (sortK U) last t).length ≤ 1000 := Nat.le_trans (List.length_filter_le _ _) sl
    have fin : ∀ H' res, Same H H' → res = headS (if t = true then (cand (sortK U) last t).reverse else cand (sortK U) last t) → Q (.str res) H' := fun H' res s8 hres => by
      refine q H' res s8 (IsNext.congr hm ?_)
      cases t with
      | true => exact next_last (by rw [hres, if_pos rfl])
      | false => exact next_head (by rw [hres, if_neg Bool.false_ne_true])
    generalize cand (sortK U) last t = row at e7 cl fin
    refine ⟨_, rfl, _, rfl, ?_⟩
    cases t with
    | true =>
      refine iteT ⟨Evl.sz_of (by show 1 ≤ 100000; decide), fun l1 hl1 => ?_⟩
      have s8 : Same H7 (upd H7 l1 (.lst [.str (Str.ofString "")])) := same_new hl1
      have e8 : upd H7 l1 (.lst [.str (Str.ofString "")]) l1 = some (.lst [.str (Str.ofString "")]) := upd_same
      generalize upd H7 l1 (.lst [.str (Str.ofString "")]) = H8 at s8 e8 ⊢
      refine ⟨_, rfl, l1, r2, _, _, rfl, rfl, e8, s8 _ _ e7, Evl.sz_of (by rw [List.length_map]; show 1 + _ ≤ 100000; omega), fun l2 hl2 => ⟨1, rfl, l2, _, -1, .str (headS row.reverse), rfl, rfl, .inl (.inl upd_same), ?_, fin _ _ ((t7.trans s8).trans (same_new hl2)) (by rw [if_pos rfl])⟩⟩
      rcases List.eq_nil_or_concat row with e | ⟨xs, x, e⟩
      · rw [e]; rfl
      · rw [List.concat_eq_append] at e
        rw [e, List.reverse_append, List.map_append, ← List.append_assoc]
        exact at_last
    | false =>
      refine iteF ⟨_, rfl, Evl.sz_of (by show 1 ≤ 100000; decide), fun l1 hl1 => ?_⟩
      have s8 : Same H7 (upd H7 l1 (.lst [.str (Str.ofString "")])) := same_new hl1
      have e8 : upd H7 l1 (.lst [.str (Str.ofString "")]) l1 = some (.lst [.str (Str.ofString "")]) := upd_same
      generalize upd H7 l1 (.lst [.str (Str.ofString "")]) = H8 at s8 e8 ⊢
      refine ⟨r2, l1, _, _, rfl, rfl, s8 _ _ e7, e8, Evl.sz_of (by rw [List.length_map]; show _ + 1 ≤ 100000; omega), fun l2 hl2 => ⟨l2, _, 0, .str (headS row), rfl, rfl, .inl (.inl upd_same), ?_, fin _ _ ((t7.trans s8).trans (same_new hl2)) (by rw [if_neg Bool.false_ne_true])⟩⟩
      cases row with
      | nil => rfl
      | cons x xs => exact atI_nat (j := 0) rfl
theorem hdP_idx (k : PK) (nm : Str) (ls : Addr) : ∃ x, atI (hdP k nm ls) 1 = some x ∧ (k ≠ .short → x = .str nm) := by
  cases k
  · exact ⟨_, rfl, fun _ => rfl⟩
  · exact ⟨_, rfl, fun _ => rfl⟩
  · exact ⟨_, rfl, fun z => absurd rfl z⟩
theorem hdP_last (k : PK) (nm : Str) (ls : Addr) : atI (hdP k nm ls) (-1) = some (.ref ls) := by cases k <;> rfl
theorem hdP_zero (k : PK) (nm : Str) (ls : Addr) : atI (hdP k nm ls) 0 = some (.str k.t) := by cases k <;> rfl
theorem lplace_body (T : Txt K mg A) (n k : Nat) (G_law_told : FnOk P w K mg base CX0 k A.a_law_told A.d_law_told ["m", "one"] (spLTold w n)) :
    FnOk P w K mg base CX0 (k + 1) A.a_law_place A.d_law_place ["m", "one", "is_open"] (spLPlace w n) := by
  refine T.F_law_place.ok sc_law_place (fun vs H Q E h => ?_) (fun cdv Ar outer s H vs Q E hr h => ?_)
  · obtain ⟨u, lv, l, l', t, em, pk, nm, ps, r, rfl, _⟩ := h
    rfl
  · obtain ⟨u, lv, l, l', t, em, pk, nm, ps, r, rfl, hV, ⟨ls, us, et, el, hus⟩, hnm, hlen, hg, hev, hok, herr⟩ := h
    refine ⟨_, (pss_cons (ps_set (i := 3) sc_law_place.nd rfl (.inl rfl) (pe_lst pa_nil))
      (pss_cons (ps_for PassesOwn.never rfl (k_pi_list K (pe_ix (k_ix_tup K) (pv 1) (pe_un un_neg pe_int) (fun _ _ => rfl))) (pg_name (i := 4) sc_law_place.nd rfl (.inl rfl))
      (pss_cons (ps_set (i := 5) sc_law_place.nd rfl (.inl rfl) (pe_call G_law_told (hr.mono (by omega)) (by rfl) T.g_law_told T.F_law_told.kp T.b_law_told .nil pass0 (pa_cons (pv 0) (pa_cons (pv 4) pa_nil))))
      (pss_cons (ps_if (pt_val (pe_callB (k_isi K) (by rfl) T.n_isinstance (by decide +kernel) (pa_cons (pv 5) (pa_cons (pe_bltn (v := .ty "tuple") (by rfl) T.n_tuple (by decide +kernel) rfl) pa_nil))))
      (pss_one (ps_ret (pv 5)))
      pss_nil)
      (pss_one (ps_expr (k_bm K PySem.F.plainAttrs_list PySem.F.slot_list_append PySem.F.type_list_append mt_append (pv 3) (pa_cons (pv 5) pa_nil)))))))
      (pss_cons (ps_par (i := 6) (j := 7) rfl sc_law_place.nd rfl rfl (by decide) rfl rfl (pa_cons (pe_ix (k_ix_tup K) (pv 1) pe_int (fun _ _ => rfl)) (pa_cons (pe_tup pa_nil) pa_nil)) (by rfl))
      (pss_cons (ps_if (pt_cmpR op_eq (pe_ix (k_ix_tup K) (pv 1) pe_int (fun _ _ => rfl)) pe_str (nomark _))
      (pss_cons (ps_if (pt_cmpR op_isN (pe_dget (hu_of hr) (pv 0) pe_str (fun _ _ => rfl)) pe_non (nomark _))
      (pss_one (ps_ret (pe_tup (pa_cons pe_str pa_nil))))
      pss_nil)
      (pss_one (ps_par (i := 6) (j := 7) rfl sc_law_place.nd rfl rfl (by decide) rfl rfl (pa_cons (pe_ix (k_ix_tup K) (pe_dget (hu_of hr) (pv 0) pe_str (fun _ _ => rfl)) pe_int (fun _ _ => rfl)) (pa_cons (pe_slice (k_sl_tup K) (pe_ix (k_ix_tup K) (pe_dget (hu_of hr) (pv 0) pe_str (fun _ _ => rfl)) pe_int (fun _ _ => rfl)) po_none (po_some (pe_un un_neg pe_int))) pa_nil)) (by rfl))))
      pss_nil)
      (pss_cons (ps_if (pt_cmpR op_gt (pe_op op_add (pe_callB (k_len K) (by rfl) T.n_len PySem.boot_len (pa_cons (pv 7) pa_nil)) (pe_callB (k_len K) (by rfl) T.n_len PySem.boot_len (pa_cons (pv 3) pa_nil))) pe_int (nomark _))
      (pss_one (ps_ret (pe_tup (pa_cons pe_str pa_nil))))
      pss_nil)
      (pss_cons (ps_for PassesOwn.never rfl (pi_range1 (by rfl) T.n_range (pa_cons (pe_callB (k_len K) (by rfl) T.n_len PySem.boot_len (pa_cons (pv 3) pa_nil)) pa_nil)) (pg_name (i := 8) sc_law_place.nd rfl (.inl rfl))
      (pss_one (ps_if (PW.pt (pw_and (pt_not (pt_chain op_le op_le pe_int (pe_callB call_len_str (by rfl) T.n_len PySem.boot_len (pa_cons (pe_ix (k_ix_list K) (pv 3) (pv 8) (fun _ _ => rfl)) pa_nil)) pe_int)) (pw_and1 (pt_not (PW.pt (pw_and (pt_val (pv 2)) (pw_and (pt_cmpR op_eq (pe_ix (k_ix_list K) (pv 3) (pv 8) (fun _ _ => rfl)) pe_str (nomark _)) (pw_and1 (pt_cmpR op_eq (pv 8) (pe_op op_sub (pe_callB (k_len K) (by rfl) T.n_len PySem.boot_len (pa_cons (pv 3) pa_nil)) pe_int) (nomark _))))))))))
      (pss_one (ps_ret (pe_tup (pa_cons pe_str pa_nil))))
      pss_nil)))
      (pss_cons (ps_set (i := 9) sc_law_place.nd rfl (.inl rfl) (pe_tup (pa_cons (pv 6) (pa_cons (pe_op (k_catA K) (pv 7) (pe_callTy (k_tuple K) (by rfl) T.n_tuple (by decide +kernel) (pa_cons (pv 3) pa_nil))) pa_nil))))
      (pss_cons (ps_if (pt_cmpR op_ne (pe_ix (k_ix_tup K) (pv 1) pe_int (fun _ _ => rfl)) pe_str (nomark _))
      (pss_one (ps_dput (hu_of hr) (pv 0) pe_str (pe_ix (k_ix_list K) (pe_lst (pa_cons (pv 9) (pa_cons pe_non pa_nil))) (pe_callTy call_int1 (by rfl) T.n_int (by decide +kernel) (pa_cons (pe_cmpR (k_eqP K hr.units) (pe_ix (k_ix_tup K) (pv 9) pe_int (fun _ _ => rfl)) (pe_tup pa_nil) (nomark _)) pa_nil)) (fun _ _ => rfl)) rfl))
      pss_nil)
      (pss_one (ps_ret (pe_lst (pa_cons (pe_cmpR op_eq (pe_ix (k_ix_tup K) (pv 1) pe_int (fun _ _ => rfl)) pe_str (nomark _)) (pa_cons (pv 9) pa_nil))))))))))))), ?_⟩
    have lps : us.length = ps.length := Paired.length hus
    have evg := evE_ok hV.go hV.gs hV.wo hV.ws n
    refine ⟨Evl.sz_of (by show 0 ≤ 100000; decide), fun D hD => ?_⟩
    have s1 : Same H (upd H D (.lst [])) := same_new hD
    have eD : upd H D (.lst []) D = some (.lst (([] : List Str).map V.str)) := upd_same
    generalize upd H D (.lst []) = H1 at s1 eD ⊢
    have hV1 := hV.same s1
    obtain ⟨R, l1, hR⟩ : ∃ R l1, evAll (evE u.eo u.es n) ps l = some (R, l1) := by
      rcases bindX_some hev with ⟨wd, e1, _⟩ | ⟨ks, l1, e1, _⟩
      · exact ⟨_, _, e1⟩
      · exact ⟨_, _, e1⟩
    have evErr : ∀ wd, R = .error wd → r = .error wd ∧ l1 = l' := fun wd e => by
      have e2 : evP (evE u.eo u.es n) em pk nm ps l = some (.error wd, l1) := by
        unfold evP
        rw [hR, e]
        rfl
      rw [e2] at hev
      cases hev
      exact ⟨rfl, rfl⟩
    have nDm : D ≠ u.m := ne_of eD hV1.em fun z => nomatch z
    dsimp only [gName]
    refine seq_abs (fun σ' H' => (∀ a o, H a = some o → a ≠ u.m → H' a = some o) ∧ ∃ (ks : List Str) (lv2 : V) (y4 y5 : Option V), R = .ok ks ∧ LwS w H' u lv2 l1 ∧ H' D = some (.lst (ks.map V.str)) ∧ σ' = [some (.ref u.m), some (.ref t), some (.bl em), some (.ref D), y4, y5, none, none, none, none]) (fun Nn hNn => ?_) ?_
    · refine ⟨_, rfl, 1, rfl, t, _, -1, .ref ls, rfl, rfl, .inl (.inl (s1 _ _ et)), hdP_last pk nm ls, ls, rfl, ⟨_, .inl (.inl (s1 _ _ el))⟩, ?_⟩
      refine for_it (walk_itl (K := K) (its := us) (a := ls) fun e => V.ref e) (fun i σ' H' => (∀ a o, H a = some o → a ≠ u.m → H' a = some o) ∧ ∃ (ks : List Str) (lv2 : V) (l2 : Option Rf) (y4 y5 : Option V), ks.length = i ∧ H' D = some (.lst (ks.map V.str)) ∧ LwS w H' u lv2 l2 ∧ (bindX (evAll (evE u.eo u.es n) (ps.drop i) l2) fun xs l3 => some (.ok (ks ++ xs), l3)) = some (R, l1) ∧ σ' = [some (.ref u.m), some (.ref t), some (.bl em), some (.ref D), y4, y5, none, none, none, none]) ?_ (fun i σ' H' _ h => .inl (.inl (h.1 _ _ el (ne_of el hV.em fun z => nomatch z)))) ?_ ?_
      · refine ⟨fun a o e _ => s1 _ _ e, [], lv, l, _, _, rfl, eD, hV1, ?_, rfl⟩
        rw [List.drop_zero, hR]
        cases R <;> rfl
      · rintro i x σ H0 Ha hi ⟨ka, ks, lv2, l2, y4, y5, hl, eDa, hva, hev2, rfl⟩ ⟨v, hu, rfl, rfl⟩
        obtain ⟨p, hp, hup⟩ := pairedAt hus hu
        have hip : i < ps.length := by omega
        have epd : ps.drop i = p :: ps.drop (i + 1) := by
          rw [List.drop_eq_getElem_cons hip]
          rw [List.getElem?_eq_getElem hip] at hp
          injection hp with hp
          rw [hp]
        rw [epd] at hev2
        have mp : p ∈ ps := List.mem_of_getElem? hp
        have kp : KeepE H Ha := fun a o e kk => ka a o e (ne_of e hV.em fun z => by
          rcases kk with ⟨xs, rfl⟩ | ⟨us, rfl⟩ <;> cases z)
        have tot : ∃ r2 l3, evE u.eo u.es n p l2 = some (r2, l3) ∧ (∀ wd, r2 = .error wd → R = .error wd ∧ l3 = l1) ∧ ∀ y, r2 = .ok y → (bindX (evAll (evE u.eo u.es n) (ps.drop (i + 1)) l3) fun xs l4 => some (.ok (ks ++ [y] ++ xs), l4)) = some (R, l1) := by
          rcases bindX_some hev2 with ⟨wd, h1, rfl⟩ | ⟨xs, l4, h1, h2⟩
          · rcases evAll_cons h1 with ⟨w2, h3, h4⟩ | ⟨y, l3, h3, h4⟩
            · cases h4
              exact ⟨_, _, h3, fun wd e => by cases e; exact ⟨rfl, rfl⟩, fun y e => nomatch e⟩
            · refine ⟨_, _, h3, (fun wd e => nomatch e), fun y2 e => ?_⟩
              cases e
              rcases h4 with ⟨w2, h5, h6⟩ | ⟨xs, h5, h6⟩
              · cases h6
                rw [h5]; rfl
              · cases h6
          · cases h2
            rcases evAll_cons h1 with ⟨w2, h3, h4⟩ | ⟨y, l3, h3, h4⟩
            · cases h4
            · refine ⟨_, _, h3, (fun wd e => nomatch e), fun y2 e => ?_⟩
              cases e
              rcases h4 with ⟨w2, h5, h6⟩ | ⟨xs2, h5, h6⟩
              · cases h6
              · cases h6
                rw [h5]
                show some (Except.ok (ks ++ [y] ++ xs2), l1) = _
                rw [List.append_assoc]; rfl
        obtain ⟨r2, l3, hr2, hre, hro⟩ := tot
        refine ⟨_, rfl, _, rfl, u, lv2, l2, l3, v, p, r2, rfl, hva, hup.keep kp, hg p mp, hr2, ⟨fun y e Hc lvc cc hvc => ?_, fun wd e Hc lvc pp cc hvc ep => ?_⟩⟩
        · have eDc := cc _ _ nDm eDa
          refine ⟨_, rfl, ?_⟩
          dsimp only [tNil, tCons, tC]
          refine tup_no_str ⟨_, rfl, iteF ⟨_, rfl, .inl ⟨rfl, _, .inl (.inl eDc)⟩, _, rfl, D, _, _, rfl, rfl, eDc, by rw [List.length_map]; exact Evl.sz_lt (by omega), ?_⟩⟩
          refine ⟨fun a o e2 ne => ?_, ks ++ [y], lvc, l3, _, _, by rw [List.length_append, List.length_singleton]; omega, by rw [upd_same, List.map_append]; rfl, hvc.chg .upd eDc (fun _ z => nomatch z) (fun _ z => nomatch z) (fun _ _ z => nomatch z), hro y e, rfl⟩
          rw [upd_ne (fun z => by rw [z, hD] at e2; cases e2)]
          exact cc _ _ ne (ka _ _ e2 ne)
        · obtain ⟨e1, e2⟩ := hre wd e
          obtain ⟨e3, e4⟩ := evErr wd e1
          subst e2
          subst e4
          refine ⟨_, rfl, ?_⟩
          dsimp only [tNil, tCons, tC]
          exact tup_yes ep ⟨_, rfl, iteT ⟨_, rfl, herr wd e3 Hc lvc pp (fun a o ne e => cc a o ne (ka a o e ne)) hvc ep⟩⟩
      · rintro σ H2 ⟨c2, ks, lv2, l2, y4, y5, hl, eD2, hv2, hev2, rfl⟩
        rw [List.drop_of_length_le (by omega)] at hev2
        have hev3 : some ((Except.ok (ks ++ []) : Except Str (List Str)), l2) = some (R, l1) := hev2
        rw [List.append_nil] at hev3
        cases hev3
        exact hNn _ _ ⟨c2, ks, lv2, _, _, rfl, hv2, eD2, rfl⟩
    rintro σ H2 ⟨k2, ks, lv2, y4, y5, rfl, hv2, ek, rfl⟩
    have c2 : Chg u.m H H2 := fun a o ne e => k2 a o e ne
    obtain ⟨hl1, hks⟩ := evAll_ok evg hR hg hV.lok
    obtain ⟨lks, hks⟩ := hks ks rfl
    have hpl : plK em pk nm ks l1 = (r, l') := by
      have e2 : evP (evE u.eo u.es n) em pk nm ps l = some (plK em pk nm ks l1) := by
        unfold evP
        rw [hR]
        rfl
      rw [e2] at hev
      injection hev
    have et2 := c2 _ _ (ne_of et hV.em fun z => nomatch z) et
    clear hev hR hus el evg hV1 s1 eD hD evErr
    have raise : ∀ (wd : Str) (H3 : Hp) (p : Addr), plK em pk nm ks l1 = (.error wd, l1) → Same H2 H3 → H3 p = none → Q (.ref p) (upd H3 p (.tup [.str wd])) := fun wd H3 p e s3 hp => by
      rw [e] at hpl
      cases hpl
      have s4 := s3.trans (same_new (o := .tup [.str wd]) hp)
      exact herr wd rfl _ lv2 p (c2.trans (.same s4)) (hv2.same s4) upd_same
    have dgl : ∀ {H3 : Hp} {lv3 : V} {l3 : Option Rf}, LwS w H3 u lv3 l3 → DGet H3 u.m (.str (Str.ofString "last")) (some lv3) := fun h => .inl ⟨_, KX "last", .inl h.em, rfl, gx_last.symm⟩
    obtain ⟨x1, hx1, hx1n⟩ := hdP_idx pk nm ls
    refine ⟨_, rfl, t, _, 1, x1, rfl, rfl, .inl (.inl et2), hx1, Evl.sz_of (by show 0 ≤ 100000; decide), fun p0 hp0 => ?_⟩
    have s3 : Same H2 (upd H2 p0 (.tup [])) := same_new hp0
    have e0 : (upd H2 p0 (.tup [])) p0 = some (.tup (([] : List Str).map V.str)) := upd_same
    generalize upd H2 p0 (.tup []) = H3 at s3 e0 ⊢
    refine ⟨_, _, rfl, ?_⟩
    dsimp only
    refine seq_abs (fun σ' H' => Same H2 H' ∧ ∃ (n0 : Str) (hd : List Str) (p1 : Addr), plHead pk nm l1 = some (n0, hd) ∧ hd.length ≤ 6 ∧ H' p1 = some (.tup (hd.map V.str)) ∧ σ' = [some (.ref u.m), some (.ref t), some (.bl em), some (.ref D), y4, y5, some (.str n0), some (.ref p1), none, none]) (fun Nn hNn => ?_) ?_
    · refine ⟨_, rfl, t, _, 0, .str pk.t, rfl, rfl, .inl (.inl (s3 _ _ et2)), hdP_zero pk nm ls, rfl, _, rfl, ?_⟩
      rw [show Str.ofString "short" = PK.short.t from rfl, kt_dec]
      by_cases hsh : pk = .short
      · subst hsh
        have hv3 := hv2.same s3
        refine iteT ⟨_, rfl, u.m, lv2, rfl, dgl hv3, rfl, _, rfl, ?_⟩
        have la := hv3.la
        cases l1 with
        | none =>
          have la : lv2 = .non := la
          rw [decide_eq_true la]
          exact iteT ⟨Evl.sz_of (by show 1 ≤ 100000; decide), fun p hp => raise eHead H3 p rfl s3 hp⟩
        | some rr =>
          obtain ⟨⟨a1, k1, rfl, h1, h2⟩, hr1⟩ := la
          rw [decide_eq_false (fun z => nomatch z)]
          refine iteF ⟨_, rfl, u.m, _, rfl, dgl hv3, a1, _, 0, .str rr.1, rfl, rfl, .inl (.inl h1), atI_nat (j := 0) rfl, _, rfl, u.m, _, rfl, dgl hv3, a1, _, 1, .ref k1, rfl, rfl, .inl (.inl h1), atI_nat (j := 1) rfl, 1, rfl, -1, rfl, ?_⟩
          obtain ⟨js, x, ejs⟩ : ∃ js x, rr.2 = js ++ [x] := by
            rcases List.eq_nil_or_concat rr.2 with h | ⟨js, x, h⟩
            · exact absurd h hr1.ne
            · exact ⟨js, x, by rw [h, List.concat_eq_append]⟩
          rw [ejs, List.map_append, List.map_singleton] at h2
          refine rd_initT h2 fun p2 H4 s4 e4 => ?_
          have l6 := hr1.len
          exact ⟨_, _, rfl, hNn _ _ ⟨s3.trans s4, rr.1, rr.2.dropLast, p2, rfl, by rw [List.length_dropLast]; omega, by rw [ejs, List.dropLast_concat]; exact e4, rfl⟩⟩
      · rw [decide_eq_false hsh]
        have ph : plHead pk nm l1 = some (nm, []) := by cases pk <;> first | rfl | exact absurd rfl hsh
        refine iteF (hNn _ _ ⟨s3, nm, [], p0, ph, by decide, e0, ?_⟩)
        rw [hx1n hsh]
        rfl
    rintro σ H4 ⟨s4, n0, hd, p1, hph, hd6, e1, rfl⟩
    have epl : plK em pk nm ks l1 = if hd.length + ks.length > 6 then (.error eDeep, l1) else if keysOk em ks = true then (.ok (n0, hd ++ ks), if pk = .var then l1 else lastOf (n0, hd ++ ks)) else (.error eKey, l1) := by
      unfold plK
      rw [hph]
    have ek4 := s4 _ _ ek
    have lks2 : ks.length ≤ 100 := by omega
    refine ⟨_, rfl, p1, _, rfl, .inr (.inl (.inl e1)), _, rfl, D, _, rfl, .inl (.inl (.inl ek4)), _, _, rfl, rfl, _, _, rfl, rfl, _, rfl, ?_⟩
    rw [List.length_map, List.length_map]
    refine ite2 (fun h6 => ?_) (fun h6 => ?_)
    · have h6 := of_decide_eq_true h6
      exact ⟨Evl.sz_of (by show 1 ≤ 100000; decide), fun p hp => raise eDeep H4 p (by rw [epl, if_pos (by omega)]) s4 hp⟩
    have h6 : ¬ hd.length + ks.length > 6 := fun z => h6 (decide_eq_true (by omega))
    rw [if_neg h6] at epl
    dsimp only [tNext]
    refine seq_abs (fun σ' H' => Same H2 H' ∧ keysOk em ks = true ∧ H' p1 = some (.tup (hd.map V.str)) ∧ ∃ y8, σ' = [some (.ref u.m), some (.ref t), some (.bl em), some (.ref D), y4, y5, some (.str n0), some (.ref p1), y8, none]) (fun Nn hNn => ?_) ?_
    · refine ⟨_, rfl, D, _, rfl, .inl (.inl (.inl ek4)), _, rfl, by rw [List.length_map]; omega, by rw [List.length_map]; omega, ?_⟩
      rw [List.length_map]
      refine for_range (lo := 0) (n := ((ks.length : Nat) : Int).toNat) (fun i σ' H' => Same H4 H' ∧ (∀ j k, j < i → ks[j]? = some k → keyL em ks.length j k = true) ∧ ∃ y8, σ' = [some (.ref u.m), some (.ref t), some (.bl em), some (.ref D), y4, y5, some (.str n0), some (.ref p1), y8, none]) ⟨.refl H4, (fun j k z _ => absurd z (Nat.not_lt_zero _)), _, rfl⟩ ?_ ?_
      · rintro i σ H5 hi ⟨s5, hj, y8, rfl⟩
        have hi2 : i < ks.length := by omega
        obtain ⟨key, hkey⟩ : ∃ key, ks[i]? = some key := ⟨_, List.getElem?_eq_getElem hi2⟩
        have ek5 := s5 _ _ ek4
        have s25 := s4.trans s5
        obtain ⟨kw, kln⟩ := hks key (List.mem_of_getElem? hkey)
        have nxt : keyL em ks.length i key = true → ∀ j k, j < i + 1 → ks[j]? = some k → keyL em ks.length j k = true := fun g j k z e => by
          rcases Nat.lt_succ_iff_lt_or_eq.mp z with h | rfl
          · exact hj j k h e
          · rw [hkey] at e
            cases e
            exact g
        have rk : keyL em ks.length i key = false → ∀ p, H5 p = none → Q (.ref p) (upd H5 p (.tup [.str eKey])) := fun g p hp => raise eKey H5 p (by rw [epl, if_neg (keysOk_not hkey g)]) s25 hp
        have ekey : atI (ks.map V.str) ((0 : Int) + (i : Int)) = some (.str key) := by
          rw [show (0 : Int) + (i : Int) = (i : Int) by omega]
          exact atI_nat (by rw [List.getElem?_map, hkey]; rfl)
        refine ⟨_, rfl, _, rfl, D, _, _, .str key, rfl, rfl, .inl (.inl ek5), ekey, key, rfl, Evl.sz_of (by omega), ?_⟩
        have ki : keyL em ks.length i key = ((decide (1 ≤ key.length) && decide (key.length ≤ 40)) || (em && (decide (key = Str.ofString "") && decide (i + 1 = ks.length)))) := rfl
        refine ⟨_, _, rfl, rfl, _, rfl, ?_⟩
        by_cases h1 : 1 ≤ key.length
        · rw [decide_eq_true (show (1 : Int) ≤ (key.length : Int) by omega)]
          rw [decide_eq_true h1, Bool.true_and] at ki
          refine iteT ⟨_, _, rfl, rfl, _, rfl, ?_⟩
          by_cases h2 : key.length ≤ 40
          · rw [decide_eq_true (show (key.length : Int) ≤ 40 by omega)]
            rw [decide_eq_true h2, Bool.true_or] at ki
            exact iteF (iteF ⟨s5, nxt ki, _, rfl⟩)
          · rw [decide_eq_false (show ¬ (key.length : Int) ≤ 40 by omega)]
            rw [decide_eq_false h2, Bool.false_or] at ki
            refine iteT ⟨_, rfl, _, rfl, ?_⟩
            cases em with
            | false =>
              rw [Bool.false_and] at ki
              exact iteF (iteT ⟨Evl.sz_of (by show 1 ≤ 100000; decide), fun p hp => rk ki p hp⟩)
            | true =>
              rw [Bool.true_and] at ki
              refine iteT ⟨_, rfl, _, rfl, D, _, _, .str key, rfl, rfl, .inl (.inl ek5), ekey, rfl, _, rfl, ?_⟩
              rw [show decide (V.str key = V.str (Str.ofString "")) = decide (key = Str.ofString "") from decide_eq_decide.mpr ⟨V.str.inj, congrArg V.str⟩]
              by_cases he : key = Str.ofString ""
              · rw [decide_eq_true he]
                rw [decide_eq_true he, Bool.true_and] at ki
                refine iteT ⟨_, rfl, _, rfl, D, _, rfl, .inl (.inl (.inl ek5)), _, _, rfl, rfl, rfl, _, rfl, ?_⟩
                rw [List.length_map]
                by_cases h2 : i + 1 = ks.length
                · rw [decide_eq_true (show V.int ((0 : Int) + (i : Int)) = V.int ((ks.length : Int) - 1) from congrArg V.int (by omega))]
                  rw [decide_eq_true h2] at ki
                  exact iteF ⟨s5, nxt ki, _, rfl⟩
                · rw [decide_eq_false (show ¬ V.int ((0 : Int) + (i : Int)) = V.int ((ks.length : Int) - 1) from fun z => h2 (by have := V.int.inj z; omega))]
                  rw [decide_eq_false h2] at ki
                  exact iteT ⟨Evl.sz_of (by show 1 ≤ 100000; decide), fun p hp => rk ki p hp⟩
              · rw [decide_eq_false he]
                rw [decide_eq_false he, Bool.false_and] at ki
                exact iteF (iteT ⟨Evl.sz_of (by show 1 ≤ 100000; decide), fun p hp => rk ki p hp⟩)
        · rw [decide_eq_false (show ¬ (1 : Int) ≤ (key.length : Int) by omega)]
          rw [decide_eq_false h1, Bool.false_and, Bool.false_or] at ki
          refine iteF ⟨_, rfl, ?_⟩
          refine iteT ⟨_, rfl, _, rfl, ?_⟩
          cases em with
          | false =>
            rw [Bool.false_and] at ki
            exact iteF (iteT ⟨Evl.sz_of (by show 1 ≤ 100000; decide), fun p hp => rk ki p hp⟩)
          | true =>
            rw [Bool.true_and] at ki
            refine iteT ⟨_, rfl, _, rfl, D, _, _, .str key, rfl, rfl, .inl (.inl ek5), ekey, rfl, _, rfl, ?_⟩
            rw [show decide (V.str key = V.str (Str.ofString "")) = decide (key = Str.ofString "") from decide_eq_decide.mpr ⟨V.str.inj, congrArg V.str⟩]
            by_cases he : key = Str.ofString ""
            · rw [decide_eq_true he]
              rw [decide_eq_true he, Bool.true_and] at ki
              refine iteT ⟨_, rfl, _, rfl, D, _, rfl, .inl (.inl (.inl ek5)), _, _, rfl, rfl, rfl, _, rfl, ?_⟩
              rw [List.length_map]
              by_cases h2 : i + 1 = ks.length
              · rw [decide_eq_true (show V.int ((0 : Int) + (i : Int)) = V.int ((ks.length : Int) - 1) from congrArg V.int (by omega))]
                rw [decide_eq_true h2] at ki
                exact iteF ⟨s5, nxt ki, _, rfl⟩
              · rw [decide_eq_false (show ¬ V.int ((0 : Int) + (i : Int)) = V.int ((ks.length : Int) - 1) from fun z => h2 (by have := V.int.inj z; omega))]
                rw [decide_eq_false h2] at ki
                exact iteT ⟨Evl.sz_of (by show 1 ≤ 100000; decide), fun p hp => rk ki p hp⟩
            · rw [decide_eq_false he]
              rw [decide_eq_false he, Bool.false_and] at ki
              exact iteF (iteT ⟨Evl.sz_of (by show 1 ≤ 100000; decide), fun p hp => rk ki p hp⟩)
      · rintro σ H5 ⟨s5, hj, y8, rfl⟩
        refine hNn _ _ ⟨s4.trans s5, keysOk_of fun j k e => hj j k ?_ e, s5 _ _ e1, y8, rfl⟩
        have := (List.getElem?_eq_some_iff.mp e).1
        omega
    rintro σ H5 ⟨s5, hko, e15, y8, rfl⟩
    rw [if_pos hko] at epl
    rw [epl] at hpl
    obtain ⟨er, el'⟩ := Prod.mk.inj hpl
    have hok := hok _ er.symm
    have hl' : LOk l' := (plK_ok (epl.trans (congrArg (Prod.mk _) el')) hnm (fun x hx => (hks x hx).1) hl1).2.1
    have hv5 := hv2.same s5
    have ek5 := s5 _ _ ek
    refine ⟨_, rfl, _, rfl, _, rfl, D, _, rfl, .inl ⟨.inl (.inl ek5), fun kt hkt => ?_⟩⟩
    have s6 : Same H5 (upd H5 kt (.tup (ks.map V.str))) := same_new hkt
    refine rd_catH (s6 _ _ e15) upd_same (by rw [List.length_map, List.length_map]; omega) fun p3 H7 s7 e7 => ⟨Evl.sz_of (by show 2 ≤ 100000; decide), fun p4 hp4 => ?_⟩
    rw [← List.map_append] at e7
    have s58 := (s6.trans s7).trans (same_new (o := .tup [.str n0, .ref p3]) hp4)
    have hR : RefAt (upd H7 p4 (.tup [.str n0, .ref p3])) (.ref p4) n0 (hd ++ ks) := ⟨p4, p3, rfl, upd_same, (same_new hp4) _ _ e7⟩
    clear s6 s7 e7 hkt
    generalize upd H7 p4 (.tup [.str n0, .ref p3]) = H8 at s58 hR ⊢
    have hv8 := hv5.same s58
    have s28 := s5.trans s58
    obtain ⟨_, k9, ea, eA, eB⟩ := id hR
    cases ea
    have et8 := s28 _ _ et2
    dsimp only [gName]
    refine seq_abs (fun σ' H' => ∃ lv9, Chg u.m H8 H' ∧ LwS w H' u lv9 l' ∧ σ' = [some (.ref u.m), some (.ref t), some (.bl em), some (.ref D), y4, y5, some (.str n0), some (.ref p1), y8, some (.ref p4)]) (fun Nn hNn => ?_) ?_
    · refine ⟨_, rfl, t, _, 0, .str pk.t, rfl, rfl, .inl (.inl et8), hdP_zero pk nm ls, rfl, _, rfl, ?_⟩
      rw [show Str.ofString "var" = PK.var.t from rfl, kt_dec]
      by_cases hvar : pk = .var
      · rw [decide_eq_true hvar]
        refine iteF (hNn _ _ ⟨lv2, fun _ _ _ z => z, ?_, rfl⟩)
        rw [if_pos hvar] at el'
        rw [← el']
        exact hv8
      · rw [decide_eq_false hvar]
        rw [if_neg hvar] at el'
        refine iteT ⟨_, rfl, Evl.sz_of (by show 2 ≤ 100000; decide), fun L hL => ?_⟩
        have s9 : Same H8 (upd H8 L (.lst [.ref p4, .non])) := same_new hL
        have eL : upd H8 L (.lst [.ref p4, .non]) L = some (.lst [.ref p4, .non]) := upd_same
        generalize upd H8 L (.lst [.ref p4, .non]) = H9 at s9 eL ⊢
        refine ⟨_, rfl, _, _, 1, .ref k9, rfl, rfl, .inl (.inl (s9 _ _ eA)), atI_nat (j := 1) rfl, Evl.sz_of (by show 0 ≤ 100000; decide), fun p5 hp5 => ?_⟩
        have s10 : Same H9 (upd H9 p5 (.tup [])) := same_new hp5
        have f0 : upd H9 p5 (.tup []) p5 = some (.tup []) := upd_same
        generalize upd H9 p5 (.tup []) = H10 at s10 f0 ⊢
        have d0 : DV K H10 (.ref p5) (PySem.W.Tup.mk ([] : List Str)) := dv_strs (.inl (.inl f0))
        have s910 := s9.trans s10
        refine rd_eqP (dv_strs (.inl (.inl (s910 _ _ eB)))) d0 (by decide) (.inr ⟨_, rfl, ?_⟩)
        have dd : decide (PySem.W.Tup.mk (hd ++ ks) = PySem.W.Tup.mk ([] : List Str)) = decide (hd ++ ks = []) := decide_eq_decide.mpr ⟨fun z => congrArg PySem.W.Tup.items z, fun z => by rw [z]⟩
        rw [dd]
        have hv10 := hv8.same s910
        have hR10 := hR.same s910
        unfold lastOf at el'
        have fin : ∀ (x : V), LastAt H10 x l' → ∃ lv9, Chg u.m H8 (upd H10 u.m (.dK (recM (.ref u.mo) (.ref u.ms) x))) ∧ LwS w (upd H10 u.m (.dK (recM (.ref u.mo) (.ref u.ms) x))) u lv9 l' := fun x hx => ⟨x, (Chg.same s910).trans .upd, hv10.set hx⟩
        by_cases hz : hd ++ ks = []
        · rw [if_pos hz] at el'
          obtain ⟨lv9, f1, f2⟩ := fin .non (by rw [← el']; exact rfl)
          refine ⟨L, _, _, .non, rfl, rfl, .inl (.inl (s10 _ _ eL)), by rw [decide_eq_true hz]; rfl, _, rfl, u.m, _, rfl, .inl ⟨_, KX "last", hv10.em, rfl, (by show 3 < sizeLine; exact Evl.sz_lt (by decide)), rfl⟩, ?_⟩
          rw [px_last]
          exact hNn _ _ ⟨lv9, f1, f2, rfl⟩
        · rw [if_neg hz] at el'
          obtain ⟨lv9, f1, f2⟩ := fin (.ref p4) (by rw [← el']; exact ⟨hR10, hl' _ el'.symm⟩)
          refine ⟨L, _, _, .ref p4, rfl, rfl, .inl (.inl (s10 _ _ eL)), by rw [decide_eq_false hz]; rfl, _, rfl, u.m, _, rfl, .inl ⟨_, KX "last", hv10.em, rfl, (by show 3 < sizeLine; exact Evl.sz_lt (by decide)), rfl⟩, ?_⟩
          rw [px_last]
          exact hNn _ _ ⟨lv9, f1, f2, rfl⟩
    rintro σ H9 ⟨lv9, c9, hv9, rfl⟩
    have et9 := c9 _ _ (ne_of et8 hv8.em fun z => nomatch z) et8
    refine ⟨_, rfl, t, _, 0, .str pk.t, rfl, rfl, .inl (.inl et9), hdP_zero pk nm ls, rfl, _, rfl, Evl.sz_of (by show 2 ≤ 100000; decide), fun p6 hp6 => ?_⟩
    rw [show Str.ofString "var" = PK.var.t from rfl, kt_dec]
    have s10 : Same H9 (upd H9 p6 (.lst [.bl (decide (pk = .var)), .ref p4])) := same_new hp6
    refine hok _ lv9 p6 p4 ((c2.trans (.same s28)).trans (c9.trans (.same s10))) (hv9.same s10) upd_same ?_
    exact (hR.chgT c9 hv8.em (fun _ z => nomatch z)).same s10
def wdE : Ex → Str
  | .nxt b .. => nxtW b
  | .data .. => Str.ofString "data"
  | .oth .. => Str.ofString "other"
  | _ => Str.ofString ""
def emE : Ex → Bool
  | .nxt .. => true
  | _ => false
def plOf : Ex → PK × Str × List Ex
  | .nxt _ k nm ps => (k, nm, ps)
  | .data k nm ps => (k, nm, ps)
  | .oth k nm ps _ => (k, nm, ps)
  | _ => (.var, Str.ofString "", [])
theorem wdE_in {e : Ex} (h : isOfP e = true) : inV (.str (wdE e)) [V.str (Str.ofString "order"), V.str (Str.ofString "back")] = emE e := by
  cases e with
  | nxt b k nm ps => exact inW_yes (x := nxtW b) (ys := obW) (by cases b <;> decide +kernel)
  | data k nm ps => exact inW_no (x := Str.ofString "data") (ys := obW) (by decide +kernel)
  | oth k nm ps e => exact inW_no (x := Str.ofString "other") (ys := obW) (by decide +kernel)
  | _ => cases h
def sideW (k : PK) : Str := if k = .var then Str.ofString "own" else Str.ofString "shared"
def sideA (u : UW) (k : PK) : Addr := if k = .var then u.mo else u.ms
theorem lw_none {H : Hp} {u : UW} {lv : V} {l : Option Rf} (h : LwS w H u lv l) (k : PK) (r : Rf) : ((ndGet (u.side k) r).getD .non = .non ∧ worthE (u.side k) r = .error eMissing ∧ ndGet (u.side k) r = none) ∨ ∃ x, (ndGet (u.side k) r).getD .non = .str x ∧ worthE (u.side k) r = .ok x ∧ ndGet (u.side k) r = some (.str x) := by
  obtain ⟨_, _, _, _, _, hw⟩ := h.nd k
  cases e : worthE (u.side k) r with
  | error wd =>
    obtain ⟨e1, e2⟩ := worthE_err hw e
    exact .inl ⟨by rw [e1]; rfl, by rw [e2], e1⟩
  | ok x => exact .inr ⟨x, by rw [worthE_ok e]; rfl, rfl, worthE_ok e⟩
theorem side_get {H : Hp} {u : UW} {lv : V} {l : Option Rf} (h : LwS w H u lv l) (k : PK) : DGet H u.m (.str (sideW k)) (some (.ref (sideA u k))) := by
  unfold sideW sideA
  split
  · exact .inl ⟨_, KX "own", .inl h.em, rfl, gx_own.symm⟩
  · exact .inl ⟨_, KX "shared", .inl h.em, rfl, gx_shared.symm⟩
theorem side_at (k : PK) : atI [V.str (Str.ofString "shared"), V.str (Str.ofString "own")] (if decide (k = .var) = true then 1 else 0) = some (.str (sideW k)) := by cases k <;> rfl
theorem side_nd {H : Hp} {u : UW} {lv : V} {l : Option Rf} (h : LwS w H u lv l) (k : PK) : NdAt w H (sideA u k) (u.side k) ∧ GoodEs (u.side k) ∧ (u.side k).length ≤ 1000 := by
  obtain ⟨d, rfl, h1, h2, h3, _⟩ := h.nd k
  exact ⟨h1, h2, h3⟩
theorem said_chg {u : UW} {l' : Option Rf} {r : Except Str Str} {H H1 : Hp} {Q : VK} (h : SaidV w u l' r H Q) (c : Chg u.m H H1) : SaidV w u l' r H1 Q := ⟨fun x e H' lv' c' hv => h.1 x e H' lv' (c.trans c') hv, fun wd e H' lv' p c' hv => h.2 wd e H' lv' p (c.trans c') hv⟩
theorem lofp_body (T : Txt K mg A) (n k : Nat) (hk : 10 ≤ k) (G_law_told : FnOk P w K mg base CX0 k A.a_law_told A.d_law_told ["m", "one"] (spLTold w n)) :
    FnOk P w K mg base CX0 (k + 2) A.a_law_of_place A.d_law_of_place ["m", "one"] (spLOfP w n) := by
  have G_law_place := lplace_body (P := P) (w := w) (base := base) T n k G_law_told
  have G_law_data := ok_law_data (P := P) (w := w) (base := base) T
  have G_law_next := ok_law_next (P := P) (w := w) (base := base) T
  refine T.F_law_of_place.ok sc_law_of_place (fun vs H Q E h => ?_) (fun cdv Ar outer s H vs Q E hr h => ?_)
  · obtain ⟨u, lv, l, l', t, e, r, rfl, _⟩ := h
    rfl
  · obtain ⟨u, lv, l, l', t, e, r, rfl, hof, hV, hx, hg, hev, said⟩ := h
    refine ⟨_, (pss_cons (ps_set (i := 2) sc_law_of_place.nd rfl (.inl rfl) (pe_call G_law_place (hr.mono (by omega)) (by rfl) T.g_law_place T.F_law_place.kp T.b_law_place .nil pass0 (pa_cons (pv 0) (pa_cons (pe_ix (k_ix_tup K) (pv 1) pe_int (fun _ _ => rfl)) (pa_cons (pe_cmpR (k_in K) (pe_ix (k_ix_tup K) (pv 1) pe_int (fun _ _ => rfl)) (pe_lst (pa_cons pe_str (pa_cons pe_str pa_nil))) (by rfl)) pa_nil)))))
      (pss_cons (ps_if (pt_val (pe_callB (k_isi K) (by rfl) T.n_isinstance (by decide +kernel) (pa_cons (pv 2) (pa_cons (pe_bltn (v := .ty "tuple") (by rfl) T.n_tuple (by decide +kernel) rfl) pa_nil))))
      (pss_one (ps_ret (pv 2)))
      pss_nil)
      (pss_cons (ps_set (i := 3) sc_law_of_place.nd rfl (.inl rfl) (pe_dget (hu_of hr) (pv 0) (pe_ix (k_ix_list K) (pe_lst (pa_cons pe_str (pa_cons pe_str pa_nil))) (pe_callTy call_int1 (by rfl) T.n_int (by decide +kernel) (pa_cons (pe_ix (k_ix_list K) (pv 2) pe_int (fun _ _ => rfl)) pa_nil)) (fun _ _ => rfl)) (fun _ _ => rfl)))
      (pss_cons (ps_if (pt_cmpR op_eq (pe_ix (k_ix_tup K) (pv 1) pe_int (fun _ _ => rfl)) pe_str (nomark _))
      (pss_one (ps_ret (pe_call G_law_data (hr.mono (by omega)) (by rfl) T.g_law_data T.F_law_data.kp T.b_law_data .nil pass0 (pa_cons (pv 3) (pa_cons (pe_ix (k_ix_list K) (pv 2) pe_int (fun _ _ => rfl)) pa_nil)))))
      pss_nil)
      (pss_cons (ps_if (pt_cmpR op_eq (pe_ix (k_ix_tup K) (pv 1) pe_int (fun _ _ => rfl)) pe_str (nomark _))
      (pss_cons (ps_set (i := 4) sc_law_of_place.nd rfl (.inl rfl) (k_mN w PySem.F.slot_dict_get PySem.F.type_dict_get (k_getN1 w hr.units) (pv 3) (pa_cons (pe_ix (k_ix_list K) (pv 2) pe_int (fun _ _ => rfl)) pa_nil)))
      (pss_one (ps_ret (pe_ifExp (pt_cmpR op_isN (pv 4) pe_non (nomark _)) (pe_call G_law_told (hr.mono (by omega)) (by rfl) T.g_law_told T.F_law_told.kp T.b_law_told .nil pass0 (pa_cons (pv 0) (pa_cons (pe_ix (k_ix_tup K) (pv 1) pe_int (fun _ _ => rfl)) pa_nil))) (pv 4)))))
      pss_nil)
      (pss_cons (ps_if (pt_cmpR (k_eqP K hr.units) (pe_ix (k_ix_any K) (pe_ix (k_ix_list K) (pv 2) pe_int (fun _ _ => rfl)) pe_int (fun _ _ => rfl)) (pe_tup pa_nil) (nomark _))
      (pss_one (ps_ret (pe_tup (pa_cons pe_str pa_nil))))
      pss_nil)
      (pss_one (ps_ret (pe_call G_law_next (hr.mono (by omega)) (by rfl) T.g_law_next T.F_law_next.kp T.b_law_next .nil pass0 (pa_cons (pv 3) (pa_cons (pe_ix (k_ix_list K) (pv 2) pe_int (fun _ _ => rfl)) (pa_cons (pe_cmpR op_eq (pe_ix (k_ix_tup K) (pv 1) pe_int (fun _ _ => rfl)) pe_str (nomark _)) pa_nil)))))))))))), ?_⟩
    have evg := evE_ok hV.go hV.gs hV.wo hV.ws n
    obtain ⟨p, rest, et, hP, hgp⟩ : ∃ p rest, H t = some (.tup (.str (wdE e) :: .ref p :: rest)) ∧ PlG (ExAt H n) H p (plOf e).1 (plOf e).2.1 (plOf e).2.2 ∧ (((plOf e).1 ≠ .short → NameS (plOf e).2.1) ∧ (plOf e).2.2.length ≤ 100 ∧ ∀ p ∈ (plOf e).2.2, ExG n p) := by
      cases e with
      | nxt b k nm ps => obtain ⟨p, h1, h2⟩ := hx; exact ⟨p, _, h1, h2, hg⟩
      | data k nm ps => obtain ⟨p, h1, h2⟩ := hx; exact ⟨p, _, h1, h2, hg⟩
      | oth k nm ps e => obtain ⟨p, v, h1, h2, h3⟩ := hx; exact ⟨p, _, h1, h2, hg.1⟩
      | _ => cases hof
    obtain ⟨rp, lp, hp, herrp⟩ : ∃ rp lp, evP (evE u.eo u.es n) (emE e) (plOf e).1 (plOf e).2.1 (plOf e).2.2 l = some (rp, lp) ∧ ∀ w2, rp = .error w2 → r = .error w2 ∧ lp = l' := by
      cases e with
      | nxt b k nm ps =>
        rcases bindX_some hev with ⟨wd, e1, e2⟩ | ⟨rf, l1, e1, e2⟩
        · exact ⟨_, _, e1, fun w2 z => by cases z; exact ⟨e2, rfl⟩⟩
        · exact ⟨_, _, e1, fun w2 z => nomatch z⟩
      | data k nm ps =>
        rcases bindX_some hev with ⟨wd, e1, e2⟩ | ⟨rf, l1, e1, e2⟩
        · exact ⟨_, _, e1, fun w2 z => by cases z; exact ⟨e2, rfl⟩⟩
        · exact ⟨_, _, e1, fun w2 z => nomatch z⟩
      | oth k nm ps e =>
        rcases bindX_some hev with ⟨wd, e1, e2⟩ | ⟨rf, l1, e1, e2⟩
        · exact ⟨_, _, e1, fun w2 z => by cases z; exact ⟨e2, rfl⟩⟩
        · exact ⟨_, _, e1, fun w2 z => nomatch z⟩
      | _ => cases hof
    have pr := (evP_ok evg hp hgp.1 hgp.2.2 hV.lok).2
    refine ⟨_, rfl, _, rfl, t, _, 1, .ref p, rfl, rfl, .inl (.inl et), atI_nat (j := 1) rfl, _, rfl, t, _, 0, .str (wdE e), rfl, rfl, .inl (.inl et), atI_nat (j := 0) rfl, Evl.sz_of (by show 2 ≤ 100000; decide), fun L hL => ?_⟩
    have s1 : Same H (upd H L (.lst [.str (Str.ofString "order"), .str (Str.ofString "back")])) := same_new hL
    have eL : upd H L (.lst [.str (Str.ofString "order"), .str (Str.ofString "back")]) L = some (.lst [.str (Str.ofString "order"), .str (Str.ofString "back")]) := upd_same
    generalize upd H L (.lst [.str (Str.ofString "order"), .str (Str.ofString "back")]) = H1 at s1 eL ⊢
    refine ⟨L, _, rfl, .inl (.inl (.inl eL)), rfl, rfl, ?_⟩
    rw [if_neg Bool.false_ne_true, wdE_in hof]
    have hV1 := hV.same s1
    refine ⟨u, lv, l, lp, p, emE e, (plOf e).1, (plOf e).2.1, (plOf e).2.2, rp, rfl, hV1, hP.keep (.same s1), hgp.1, hgp.2.1, hgp.2.2, hp, fun rf erf H3 lv3 p3 a c3 hv3 ep hR => ?_, fun wd ewd H3 lv3 p3 c3 hv3 ep => ?_⟩
    · have c13 : Chg u.m H H3 := (Chg.same s1).trans c3
      have pr := pr _ erf
      have et3 := c13 _ _ (ne_of et hV.em fun z => nomatch z) et
      refine ⟨_, rfl, ?_⟩
      dsimp only [tNil, tCons, tC]
      refine tup_no_lst ep ⟨_, rfl, iteF ⟨_, rfl, Evl.sz_of (by show 2 ≤ 100000; decide), fun L2 hL2 => ?_⟩⟩
      have s4 : Same H3 (upd H3 L2 (.lst [.str (Str.ofString "shared"), .str (Str.ofString "own")])) := same_new hL2
      have eL2 : upd H3 L2 (.lst [.str (Str.ofString "shared"), .str (Str.ofString "own")]) L2 = some (.lst [.str (Str.ofString "shared"), .str (Str.ofString "own")]) := upd_same
      generalize upd H3 L2 (.lst [.str (Str.ofString "shared"), .str (Str.ofString "own")]) = H4 at s4 eL2 ⊢
      have hv4 := hv3.same s4
      have ep4 := s4 _ _ ep
      have hR4 := hR.same s4
      have et4 := s4 _ _ et3
      have c14 : Chg u.m H H4 := c13.trans (.same s4)
      have said4 := said_chg said c14
      refine ⟨_, rfl, p3, _, 0, .bl (decide ((plOf e).1 = .var)), rfl, rfl, .inl (.inl ep4), atI_nat (j := 0) rfl, .inr ⟨_, rfl, L2, _, _, .str (sideW (plOf e).1), rfl, rfl, .inl (.inl eL2), side_at _, u.m, _, rfl, side_get hv4 _, ?_⟩⟩
      obtain ⟨nd, gd, ld⟩ := side_nd hv4 (plOf e).1
      dsimp only [gName]
      refine ⟨_, rfl, t, _, 0, .str (wdE e), rfl, rfl, .inl (.inl et4), atI_nat (j := 0) rfl, rfl, _, rfl, ?_⟩
      cases e with
      | nxt b k nm ps =>
        rw [show wdE (Ex.nxt b k nm ps) = nxtW b from rfl, ones_ne (show nxtW b ≠ Str.ofString "data" by cases b <;> decide +kernel)]
        refine iteF ⟨_, rfl, t, _, 0, .str _, rfl, rfl, .inl (.inl et4), atI_nat (j := 0) rfl, rfl, _, rfl, ?_⟩
        rw [show wdE (Ex.nxt b k nm ps) = nxtW b from rfl, ones_ne (show nxtW b ≠ Str.ofString "other" by cases b <;> decide +kernel)]
        obtain ⟨_, kt, ea, eA, eB⟩ := id hR4
        cases ea
        refine iteF ⟨_, rfl, p3, _, 1, .ref a, rfl, rfl, .inl (.inl ep4), atI_nat (j := 1) rfl, .inr ⟨_, _, 1, .ref kt, rfl, rfl, .inl (.inl eA), atI_nat (j := 1) rfl, Evl.sz_of (by show 0 ≤ 100000; decide), fun p5 hp5 => ?_⟩⟩
        have s5 : Same H4 (upd H4 p5 (.tup [])) := same_new hp5
        have f0 : upd H4 p5 (.tup []) p5 = some (.tup []) := upd_same
        generalize upd H4 p5 (.tup []) = H5 at s5 f0 ⊢
        have d0 : DV K H5 (.ref p5) (PySem.W.Tup.mk ([] : List Str)) := dv_strs (.inl (.inl f0))
        refine rd_eqP (dv_strs (.inl (.inl (s5 _ _ eB)))) d0 (by decide) ⟨_, rfl, ?_⟩
        have dd : decide (PySem.W.Tup.mk rf.2 = PySem.W.Tup.mk ([] : List Str)) = decide (rf.2 = []) := decide_eq_decide.mpr ⟨fun z => congrArg PySem.W.Tup.items z, fun z => by rw [z]⟩
        rw [dd]
        have hev2 : (if rf.2 = [] then some ((.error eKey : Except Str Str), lp) else some (.ok (nextV (u.side k) rf.1 rf.2.dropLast (rf.2.getLastD (Str.ofString "")) b), lp)) = some (r, l') := by
          have e2 := bindX_some hev
          rcases e2 with ⟨wd, e1, e2⟩ | ⟨rf2, l1, e1, e2⟩
          · rw [show evP (evE u.eo u.es n) true k nm ps l = some (rp, lp) from hp, erf] at e1; cases e1
          · rw [show evP (evE u.eo u.es n) true k nm ps l = some (rp, lp) from hp, erf] at e1
            cases e1
            exact e2
        have said5 := said_chg said4 (.same s5)
        have hv5 := hv4.same s5
        by_cases hz : rf.2 = []
        · rw [if_pos hz] at hev2
          cases hev2
          refine iteT' (decide_eq_true hz) ⟨Evl.sz_of (by show 1 ≤ 100000; decide), fun p6 hp6 => said5.2 _ rfl _ lv3 p6 (.same (same_new hp6)) (hv5.same (same_new hp6)) upd_same⟩
        · rw [if_neg hz] at hev2
          cases hev2
          obtain ⟨ks, last, ek⟩ : ∃ ks last, rf.2 = ks ++ [last] := by
            rcases List.eq_nil_or_concat rf.2 with h | ⟨js, x, h⟩
            · exact absurd h hz
            · exact ⟨js, x, by rw [h, List.concat_eq_append]⟩
          have ho := pr.ord ek
          have hR5 := hR4.same s5
          rw [ek] at hR5
          refine iteF' (decide_eq_false hz) ⟨_, rfl, _, rfl, p3, _, 1, .ref _, rfl, rfl, .inl (.inl (s5 _ _ ep4)), atI_nat (j := 1) rfl, _, rfl, t, _, 0, .str _, rfl, rfl, .inl (.inl (s5 _ _ et4)), atI_nat (j := 0) rfl, rfl, ?_⟩
          rw [show wdE (Ex.nxt b k nm ps) = nxtW b from rfl, show decide (V.str (nxtW b) = V.str (Str.ofString "back")) = b by cases b <;> decide +kernel]
          refine ⟨_, _, _, rf.1, ks, last, b, rfl, nd.sameN s5, gd, ld, hR5, ho, fun H6 z s6 hz => ?_⟩
          refine said5.1 z ?_ H6 lv3 (.same s6) (hv5.same s6)
          rw [← nextV_eq hz, ek, List.dropLast_concat, List.getLastD_concat]
          rfl
      | data k nm ps =>
        rw [show wdE (Ex.data k nm ps) = Str.ofString "data" from rfl, decide_eq_true rfl]
        have er : r = .ok (intS (dataN (u.side k) rf)) ∧ lp = l' := by
          rcases bindX_some hev with ⟨wd, e1, e2⟩ | ⟨rf2, l1, e1, e2⟩
          · rw [show evP (evE u.eo u.es n) false k nm ps l = some (rp, lp) from hp, erf] at e1; cases e1
          · rw [show evP (evE u.eo u.es n) false k nm ps l = some (rp, lp) from hp, erf] at e1
            cases e1
            cases e2
            exact ⟨rfl, rfl⟩
        obtain ⟨rfl, rfl⟩ := er
        exact iteT ⟨_, rfl, _, rfl, p3, _, 1, .ref a, rfl, rfl, .inl (.inl ep4), atI_nat (j := 1) rfl, _, a, _, rf, rfl, nd, gd, ld, hR4, pr.ref, fun H5 s5 => said4.1 _ rfl H5 lv3 (.same s5) (hv4.same s5)⟩
      | oth k nm ps e =>
        rw [show wdE (Ex.oth k nm ps e) = Str.ofString "other" from rfl, ones_ne (show Str.ofString "other" ≠ Str.ofString "data" by decide +kernel)]
        refine iteF ⟨_, rfl, t, _, 0, .str _, rfl, rfl, .inl (.inl et4), atI_nat (j := 0) rfl, rfl, _, rfl, ?_⟩
        rw [show wdE (Ex.oth k nm ps e) = Str.ofString "other" from rfl, decide_eq_true rfl]
        obtain ⟨p', v, h1, _, hv⟩ := hx
        rw [h1] at et
        cases et
        have hev2 : (match worthE (u.side k) rf with
          | .ok x => some ((.ok x : Except Str Str), lp)
          | .error _ => evE u.eo u.es n e lp) = some (r, l') := by
          rcases bindX_some hev with ⟨wd, e1, e2⟩ | ⟨rf2, l1, e1, e2⟩
          · rw [show evP (evE u.eo u.es n) false k nm ps l = some (rp, lp) from hp, erf] at e1; cases e1
          · rw [show evP (evE u.eo u.es n) false k nm ps l = some (rp, lp) from hp, erf] at e1
            cases e1
            exact e2
        refine iteT ⟨_, rfl, ⟨_, _, rfl, nd.rd⟩, _, rfl, p3, _, 1, .ref a, rfl, rfl, .inl (.inl ep4), atI_nat (j := 1) rfl, _, a, _, rf, rfl, rfl, hR4, nd.rd, ?_⟩
        rcases lw_none hV k rf with ⟨e1, e2, _⟩ | ⟨x, e1, e2, _⟩
        · rw [show (plOf (.oth k nm ps e)).1 = k from rfl, e1]
          rw [e2] at hev2
          exact ⟨_, rfl, rfl, _, rfl, iteT ⟨_, rfl, _, rfl, t, _, 2, .ref v, rfl, rfl, .inl (.inl et4), atI_nat (j := 2) rfl, u, lv3, lp, l', v, e, r, rfl, hv4, hv.keep (keep_m hV c14), hg.2, hev2, said4⟩⟩
        · rw [show (plOf (.oth k nm ps e)).1 = k from rfl, e1]
          rw [e2] at hev2
          cases hev2
          refine ⟨_, rfl, rfl, _, rfl, ?_⟩
          rw [decide_eq_false (show ¬ V.str x = V.non from fun z => nomatch z)]
          exact iteF ⟨_, rfl, said4.1 _ rfl H4 lv3 (fun _ _ _ z => z) hv4⟩
      | _ => cases hof
    · obtain ⟨rfl, rfl⟩ := herrp wd ewd
      refine ⟨_, rfl, ?_⟩
      dsimp only [tNil, tCons, tC]
      exact tup_yes ep ⟨_, rfl, iteT ⟨_, rfl, said.2 wd rfl H3 lv3 p3 ((Chg.same s1).trans c3) hv3 ep⟩⟩
abbrev dpW : List Str := [Str.ofString "order", Str.ofString "back", Str.ofString "data", Str.ofString "other"]
theorem told_step (T : Txt K mg A) (n k : Nat) (hk : 20 ≤ k) (G_law_told : FnOk P w K mg base CX0 k A.a_law_told A.d_law_told ["m", "one"] (spLTold w n)) :
    FnOk P w K mg base CX0 (k + 3) A.a_law_told A.d_law_told ["m", "one"] (spLTold w (n + 1)) := by
  have G_law_place := lplace_body (P := P) (w := w) (base := base) T n k G_law_told
  have G_law_of_place := lofp_body (P := P) (w := w) (base := base) T n k (by omega) G_law_told
  have G_law_of_two : FnOk P w K mg base CX0 1 A.a_law_of_two A.d_law_of_two ["sign", "one", "other"] spNo := fn_no
  have G_law_of_worths : FnOk P w K mg base CX0 1 A.a_law_of_worths A.d_law_of_worths ["word", "worths"] spNo := fn_no
  refine T.F_law_told.ok sc_law_told (fun vs H Q E h => ?_) (fun cdv Ar outer s H vs Q E hr h => ?_)
  · obtain ⟨u, lv, l, l', t, e, r, rfl, _⟩ := h
    rfl
  · obtain ⟨u, lv, l, l', t, e, r, rfl, hV, hx, hg, hev, said⟩ := h
    refine ⟨_, (pss_cons (ps_if (pt_cmpR op_eq (pe_ix (k_ix_tup K) (pv 1) pe_int (fun _ _ => rfl)) pe_str (nomark _))
      (pss_one (ps_ret (pe_ix (k_ix_tup K) (pv 1) pe_int (fun _ _ => rfl))))
      pss_nil)
      (pss_cons (ps_if (pt_cmpR (k_in K) (pe_ix (k_ix_tup K) (pv 1) pe_int (fun _ _ => rfl)) (pe_lst (pa_cons pe_str (pa_cons pe_str (pa_cons pe_str pa_nil)))) (by rfl))
      (pss_cons (ps_set (i := 2) sc_law_told.nd rfl (.inl rfl) (pe_call G_law_place (hr.mono (by omega)) (by rfl) T.g_law_place T.F_law_place.kp T.b_law_place .nil pass0 (pa_cons (pv 0) (pa_cons (pv 1) (pa_cons pe_bl pa_nil)))))
      (pss_cons (ps_if (pt_val (pe_callB (k_isi K) (by rfl) T.n_isinstance (by decide +kernel) (pa_cons (pv 2) (pa_cons (pe_bltn (v := .ty "tuple") (by rfl) T.n_tuple (by decide +kernel) rfl) pa_nil))))
      (pss_one (ps_ret (pv 2)))
      pss_nil)
      (pss_one (ps_ret (k_mN w PySem.F.slot_dict_get PySem.F.type_dict_get (k_getN w hr.units) (pe_dget (hu_of hr) (pv 0) (pe_ix (k_ix_list K) (pe_lst (pa_cons pe_str (pa_cons pe_str pa_nil))) (pe_callTy call_int1 (by rfl) T.n_int (by decide +kernel) (pa_cons (pe_ix (k_ix_list K) (pv 2) pe_int (fun _ _ => rfl)) pa_nil)) (fun _ _ => rfl)) (fun _ _ => rfl)) (pa_cons (pe_ix (k_ix_list K) (pv 2) pe_int (fun _ _ => rfl)) (pa_cons (pe_tup (pa_cons pe_str pa_nil)) pa_nil)))))))
      pss_nil)
      (pss_cons (ps_if (pt_cmpR (k_in K) (pe_ix (k_ix_tup K) (pv 1) pe_int (fun _ _ => rfl)) (pe_lst (pa_cons pe_str (pa_cons pe_str (pa_cons pe_str (pa_cons pe_str pa_nil))))) (by rfl))
      (pss_one (ps_ret (pe_call G_law_of_place (hr.mono (by omega)) (by rfl) T.g_law_of_place T.F_law_of_place.kp T.b_law_of_place .nil pass0 (pa_cons (pv 0) (pa_cons (pv 1) pa_nil)))))
      pss_nil)
      (pss_cons (ps_set (i := 3) sc_law_told.nd rfl (.inl rfl) (pe_lst pa_nil))
      (pss_cons (ps_for PassesOwn.never rfl (k_pi_tup K (pe_slice (k_sl_tup K) (pv 1) (po_some (pe_op op_add pe_int (pe_callTy call_int1 (by rfl) T.n_int (by decide +kernel) (pa_cons (pe_cmpR op_eq (pe_ix (k_ix_tup K) (pv 1) pe_int (fun _ _ => rfl)) pe_str (nomark _)) pa_nil)))) po_none)) (pg_name (i := 4) sc_law_told.nd rfl (.inl rfl))
      (pss_cons (ps_set (i := 5) sc_law_told.nd rfl (.inl rfl) (pe_call G_law_told (hr.mono (by omega)) (by rfl) T.g_law_told T.F_law_told.kp T.b_law_told .nil pass0 (pa_cons (pv 0) (pa_cons (pv 4) pa_nil))))
      (pss_cons (ps_if (pt_val (pe_callB (k_isi K) (by rfl) T.n_isinstance (by decide +kernel) (pa_cons (pv 5) (pa_cons (pe_bltn (v := .ty "tuple") (by rfl) T.n_tuple (by decide +kernel) rfl) pa_nil))))
      (pss_one (ps_ret (pv 5)))
      pss_nil)
      (pss_one (ps_expr (k_bm K PySem.F.plainAttrs_list PySem.F.slot_list_append PySem.F.type_list_append mt_append (pv 3) (pa_cons (pv 5) pa_nil)))))))
      (pss_cons (ps_if (pt_cmpR op_eq (pe_ix (k_ix_tup K) (pv 1) pe_int (fun _ _ => rfl)) pe_str (nomark _))
      (pss_one (ps_set (i := 5) sc_law_told.nd rfl (.inl rfl) (pe_call G_law_of_two (hr.mono (by omega)) (by rfl) T.g_law_of_two T.F_law_of_two.kp T.b_law_of_two .nil pass0 (pa_cons (pe_ix (k_ix_tup K) (pv 1) pe_int (fun _ _ => rfl)) (pa_cons (pe_ix (k_ix_list K) (pv 3) pe_int (fun _ _ => rfl)) (pa_cons (pe_ix (k_ix_list K) (pv 3) pe_int (fun _ _ => rfl)) pa_nil))))))
      (pss_one (ps_set (i := 5) sc_law_told.nd rfl (.inl rfl) (pe_call G_law_of_worths (hr.mono (by omega)) (by rfl) T.g_law_of_worths T.F_law_of_worths.kp T.b_law_of_worths .nil pass0 (pa_cons (pe_ix (k_ix_tup K) (pv 1) pe_int (fun _ _ => rfl)) (pa_cons (pv 3) pa_nil))))))
      (pss_one (ps_ret (pe_ifExp (pt_cmpR op_gt (pe_callB (k_lenX K) (by rfl) T.n_len PySem.boot_len (pa_cons (pv 5) pa_nil)) pe_int (nomark _)) (pe_tup (pa_cons pe_str pa_nil)) (pv 5)))))))))), ?_⟩
    have evg := evE_ok hV.go hV.gs hV.wo hV.ws n
    obtain ⟨wd, xs, et, hE⟩ : ∃ wd xs, H t = some (.tup (.str wd :: xs)) ∧ exParts H n t wd xs e := by
      cases e with
      | is x => exact ⟨_, _, hx, rfl, rfl⟩
      | pl k nm ps =>
        obtain ⟨ls, us, h1, h2, h3⟩ := id hx
        rw [hdP_eq] at h1
        exact ⟨_, _, h1, rfl, hx⟩
      | nxt b k nm ps => obtain ⟨p, h1, h2⟩ := id hx; exact ⟨_, _, h1, rfl, p, rfl, h2⟩
      | data k nm ps => obtain ⟨p, h1, h2⟩ := id hx; exact ⟨_, _, h1, rfl, p, rfl, h2⟩
      | oth k nm ps e => obtain ⟨p, u, h1, h2, h3⟩ := id hx; exact ⟨_, _, h1, rfl, p, u, rfl, h2, h3⟩
      | op g a b => obtain ⟨u, v, h1, h2, h3⟩ := id hx; exact ⟨_, _, h1, rfl, u, v, rfl, h2, h3⟩
      | fn f as => obtain ⟨us, h1, h2⟩ := id hx; exact ⟨_, _, h1, rfl, us, rfl, h2⟩
    refine ⟨_, rfl, t, _, 0, .str wd, rfl, rfl, .inl (.inl et), atI_nat (j := 0) rfl, rfl, _, rfl, ?_⟩
    -- the words behind is
    have word1 : wd ≠ Str.ofString "is" → ∀ {A B : Prop}, B → (if decide (V.str wd = V.str (Str.ofString "is")) = true then A else B) := fun h A B b => iteF' (ones_ne h) b
    have inList : ∀ (ys : List Str) {A B : Prop} (L : Addr) (H1 : Hp), (wd ∈ ys → A) → (wd ∉ ys → B) → (if (if false = true then !inV (.str wd) (ys.map V.str) else inV (.str wd) (ys.map V.str)) = true then A else B) := fun ys A B L H1 a b => by
      rw [if_neg Bool.false_ne_true]
      by_cases h : wd ∈ ys
      · rw [inW_yes h, if_pos rfl]; exact a h
      · rw [inW_no h, if_neg Bool.false_ne_true]; exact b h
    have ntm : ∀ {H1 : Hp}, Chg u.m H H1 → H1 t = some (.tup (.str wd :: xs)) := fun c => c _ _ (ne_of et hV.em fun z => nomatch z) et
    by_cases his : wd = Str.ofString "is"
    · cases e with
      | is x =>
        obtain ⟨rfl, rfl⟩ := hE
        have hev : some ((.ok x : Except Str Str), l) = some (r, l') := hev
        cases hev
        exact iteT' (decide_eq_true rfl) ⟨_, rfl, t, _, 1, .str x, rfl, rfl, .inl (.inl et), atI_nat (j := 1) rfl, said.1 _ rfl H lv (fun _ _ _ z => z) hV⟩
      | pl pk nm ps => exact absurd (hE.1.symm.trans his) (by cases pk <;> decide +kernel)
      | nxt b pk nm ps => exact absurd (hE.1.symm.trans his) (by cases b <;> decide +kernel)
      | data pk nm ps => exact absurd (hE.1.symm.trans his) (by decide +kernel)
      | oth pk nm ps e => exact absurd (hE.1.symm.trans his) (by decide +kernel)
      | op g a b => exact absurd (hE.1.symm.trans his) (by decide +kernel)
      | fn f as => exact absurd (hE.1.symm.trans his) (by cases f <;> decide +kernel)
    refine word1 his ⟨_, rfl, t, _, 0, .str wd, rfl, rfl, .inl (.inl et), atI_nat (j := 0) rfl, Evl.sz_of (by show 3 ≤ 100000; decide), fun L hL => ?_⟩
    have s1 : Same H (upd H L (.lst (plW.map V.str))) := same_new hL
    have eL : upd H L (.lst (plW.map V.str)) L = some (.lst (plW.map V.str)) := upd_same
    show rIn K false (.str wd) (.ref L) (upd H L (.lst (plW.map V.str))) _
    generalize upd H L (.lst (plW.map V.str)) = H1 at s1 eL ⊢
    have hV1 := hV.same s1
    refine ⟨L, _, rfl, .inl (.inl (.inl eL)), rfl, rfl, _, rfl, inList plW L H1 (fun hpl => ?_) (fun hpl => ?_)⟩
    · cases e with
      | pl pk nm ps =>
        obtain ⟨rfl, hP⟩ := hE
        obtain ⟨rp, lp, hp, hcase⟩ : ∃ rp lp, evP (evE u.eo u.es n) false pk nm ps l = some (rp, lp) ∧ ((∃ wd, rp = .error wd ∧ r = .error wd ∧ lp = l') ∨ ∃ rf, rp = .ok rf ∧ r = worthE (u.side pk) rf ∧ lp = l') := by
          rcases bindX_some hev with ⟨wd, e1, e2⟩ | ⟨rf, l1, e1, e2⟩
          · exact ⟨_, _, e1, .inl ⟨wd, rfl, e2, rfl⟩⟩
          · cases e2; exact ⟨_, _, e1, .inr ⟨rf, rfl, rfl, rfl⟩⟩
        refine ⟨_, rfl, _, rfl, u, lv, l, lp, t, false, pk, nm, ps, rp, rfl, hV1, hP.keep (.same s1), hg.1, hg.2.1, hg.2.2, hp, fun rf erf H3 lv3 p3 a c3 hv3 ep hR => ?_, fun wd ewd H3 lv3 p3 c3 hv3 ep => ?_⟩
        · rcases hcase with ⟨wd, e, _⟩ | ⟨rf2, e, rfl, rfl⟩
          · rw [e] at erf; cases erf
          rw [erf] at e
          cases e
          refine ⟨_, rfl, ?_⟩
          dsimp only [tNil, tCons, tC]
          refine tup_no_lst ep ⟨_, rfl, iteF ⟨_, rfl, Evl.sz_of (by show 2 ≤ 100000; decide), fun Lq hLq => ?_⟩⟩
          have s4 : Same H3 (upd H3 Lq (.lst [.str (Str.ofString "shared"), .str (Str.ofString "own")])) := same_new hLq
          have eLq : upd H3 Lq (.lst [.str (Str.ofString "shared"), .str (Str.ofString "own")]) Lq = some (.lst [.str (Str.ofString "shared"), .str (Str.ofString "own")]) := upd_same
          generalize upd H3 Lq (.lst [.str (Str.ofString "shared"), .str (Str.ofString "own")]) = H4 at s4 eLq ⊢
          have hv4 := hv3.same s4
          have ep4 := s4 _ _ ep
          have hR4 := hR.same s4
          have said4 := said_chg said ((Chg.same s1).trans (c3.trans (.same s4)))
          obtain ⟨nd, gd, ld⟩ := side_nd hv4 pk
          refine ⟨_, rfl, p3, _, 0, .bl (decide (pk = .var)), rfl, rfl, .inl (.inl ep4), atI_nat (j := 0) rfl, .inr ⟨_, rfl, Lq, _, _, .str (sideW pk), rfl, rfl, .inl (.inl eLq), side_at _, u.m, _, rfl, side_get hv4 _, ⟨_, _, rfl, nd.rd⟩, _, rfl, p3, _, 1, .ref a, rfl, rfl, .inl (.inl ep4), atI_nat (j := 1) rfl, Evl.sz_of (by show 1 ≤ 100000; decide), fun pm hpm => ?_⟩⟩
          have s5 : Same H4 (upd H4 pm (.tup [.str (Str.ofString "missing")])) := same_new hpm
          refine ⟨_, a, _, rf, .ref pm, rfl, rfl, hR4.same s5, (nd.sameN s5).rd, ?_⟩
          rcases lw_none hV pk rf with ⟨_, e2, e3⟩ | ⟨x, _, e2, e3⟩
          · rw [e2] at said4
            rw [e3]
            exact said4.2 _ rfl _ lv3 pm (.same s5) (hv4.same s5) upd_same
          · rw [e2] at said4
            rw [e3]
            exact said4.1 _ rfl _ lv3 (.same s5) (hv4.same s5)
        · rcases hcase with ⟨wd2, e, rfl, rfl⟩ | ⟨rf2, e, _⟩
          · rw [ewd] at e
            cases e
            refine ⟨_, rfl, ?_⟩
            dsimp only [tNil, tCons, tC]
            exact tup_yes ep ⟨_, rfl, iteT ⟨_, rfl, said.2 wd rfl H3 lv3 p3 ((Chg.same s1).trans c3) hv3 ep⟩⟩
          · rw [ewd] at e; cases e
      | is x => exact absurd hE.1 his
      | nxt b pk nm ps => exact absurd hpl (by rw [hE.1]; cases b <;> decide +kernel)
      | data pk nm ps => exact absurd hpl (by rw [hE.1]; decide +kernel)
      | oth pk nm ps e => exact absurd hpl (by rw [hE.1]; decide +kernel)
      | op g a b => exact absurd hpl (by rw [hE.1]; decide +kernel)
      | fn f as => exact absurd hpl (by rw [hE.1]; cases f <;> decide +kernel)
    refine ⟨_, rfl, t, _, 0, .str wd, rfl, rfl, .inl (.inl (s1 _ _ et)), atI_nat (j := 0) rfl, Evl.sz_of (by show 4 ≤ 100000; decide), fun Lq hLq => ?_⟩
    have s2 : Same H1 (upd H1 Lq (.lst (dpW.map V.str))) := same_new hLq
    have eLq : upd H1 Lq (.lst (dpW.map V.str)) Lq = some (.lst (dpW.map V.str)) := upd_same
    show rIn K false (.str wd) (.ref Lq) (upd H1 Lq (.lst (dpW.map V.str))) _
    generalize upd H1 Lq (.lst (dpW.map V.str)) = H2 at s2 eLq ⊢
    have s12 := s1.trans s2
    have hV2 := hV.same s12
    refine ⟨Lq, _, rfl, .inl (.inl (.inl eLq)), rfl, rfl, _, rfl, inList dpW Lq H2 (fun hdp => ?_) (fun hdp => ?_)⟩
    · have hof : isOfP e = true := by
        cases e with
        | nxt b pk nm ps => rfl
        | data pk nm ps => rfl
        | oth pk nm ps e => rfl
        | is x => exact absurd hE.1 his
        | pl pk nm ps => exact absurd hpl (fun z => z (by rw [hE.1]; cases pk <;> decide +kernel))
        | op g a b => exact absurd hdp (by rw [hE.1]; decide +kernel)
        | fn f as => exact absurd hdp (by rw [hE.1]; cases f <;> decide +kernel)
      exact ⟨_, rfl, _, rfl, u, lv, l, l', t, e, r, rfl, hof, hV2, hx.keep (.same s12), hg, hev, said_chg said (.same s12)⟩
    cases e with
    | is x => exact absurd hE.1 his
    | pl pk nm ps => exact absurd (by rw [hE.1]; cases pk <;> decide +kernel) hpl
    | nxt b pk nm ps => exact absurd (by rw [hE.1]; cases b <;> decide +kernel) hdp
    | data pk nm ps => exact absurd (by rw [hE.1]; decide +kernel) hdp
    | oth pk nm ps e => exact absurd (by rw [hE.1]; decide +kernel) hdp
    | op g a b => exact hg.elim
    | fn f as => exact hg.elim
theorem told_all (T : Txt K mg A) : ∀ n : Nat, FnOk P w K mg base CX0 (20 + 3 * n) A.a_law_told A.d_law_told ["m", "one"] (spLTold w n)
  | 0 => ⟨fun vs H Q E h => by
      obtain ⟨u, lv, l, l', t, e, r, rfl, _⟩ := h
      rfl, fun _ _ _ _ _ _ _ _ _ _ _ _ _ h => by
      obtain ⟨u, lv, l, l', t, e, r, _, _, hx, _⟩ := h
      exact hx.elim⟩
  | n + 1 => told_step T n (20 + 3 * n) (Nat.le_add_right _ _) (told_all T n)
theorem ok_law_due (T : Txt K mg A) : FnOk P w K mg base CX0 119 A.a_law_due A.d_law_due ["m", "one"] (spLDue w fuelN) := by
  have G_law_told : FnOk P w K mg base CX0 56 A.a_law_told A.d_law_told ["m", "one"] (spLTold w fuelN) := told_all (P := P) (w := w) (base := base) T fuelN
  refine T.F_law_due.ok sc_law_due (fun vs H Q E h => ?_) (fun cdv Ar outer s H vs Q E hr h => ?_)
  · obtain ⟨u, lv, l, l', t, e, r, rfl, _⟩ := h
    rfl
  · obtain ⟨u, lv, l, l', t, e, r, rfl, hV, hx, hg, hev, hok, herr⟩ := h
    refine ⟨_, (pss_cons (ps_set (i := 2) sc_law_due.nd rfl (.inl rfl) (pe_dget (hu_of hr) (pv 0) pe_str (fun _ _ => rfl)))
      (pss_cons (ps_set (i := 3) sc_law_due.nd rfl (.inl rfl) (pe_call G_law_told (hr.mono (by omega)) (by rfl) T.g_law_told T.F_law_told.kp T.b_law_told .nil pass0 (pa_cons (pv 0) (pa_cons (pv 1) pa_nil))))
      (pss_cons (ps_if (pt_val (pe_callB (k_isi K) (by rfl) T.n_isinstance (by decide +kernel) (pa_cons (pv 3) (pa_cons (pe_bltn (v := .ty "tuple") (by rfl) T.n_tuple (by decide +kernel) rfl) pa_nil))))
      (pss_one (ps_dput (hu_of hr) (pv 0) pe_str (pv 2) rfl))
      pss_nil)
      (pss_one (ps_ret (pv 3)))))), ?_⟩
    refine ⟨_, rfl, u.m, _, rfl, .inl ⟨_, KX "last", .inl hV.em, rfl, gx_last.symm⟩, _, rfl, _, rfl, u, lv, l, l', t, e, r, rfl, hV, hx, hg, hev, ⟨fun x ex H1 lv1 c1 hv1 => ?_, fun wd ewd H1 lv1 p c1 hv1 ep => ?_⟩⟩
    · refine ⟨_, rfl, ?_⟩
      dsimp only [tNil, tCons, tC]
      refine tup_no_str ⟨_, rfl, iteF ⟨_, rfl, hok x ex H1 lv1 c1 hv1⟩⟩
    · refine ⟨_, rfl, ?_⟩
      dsimp only [tNil, tCons, tC]
      refine tup_yes ep ⟨_, rfl, iteT ⟨_, rfl, _, rfl, u.m, _, rfl, .inl ⟨_, KX "last", hv1.em, rfl, (by show 3 < sizeLine; exact Evl.sz_lt (by decide)), rfl⟩, ?_⟩⟩
      rw [px_last]
      have ep1 : H1 p ≠ none := fun z => by rw [ep] at z; cases z
      exact ⟨_, rfl, herr wd ewd _ lv p (c1.trans .upd) (hv1.set (hV.la.chgT c1 hV.em fun _ z => nomatch z)) (by rw [upd_ne (ne_of ep hv1.em fun z => nomatch z)]; exact ep)⟩
theorem ok_law_said (T : Txt K mg A) (M : Md P w K A) : FnOk P w K mg base CX0 71 A.a_law_said A.d_law_said ["scene", "one"] (spSaidE w A.c_Scene A.c_Arrays A.c_Dealings fuelN) := by
  have G_Scene_reckon := ok_Scene_reckon (P := P) (w := w) (base := base) T M
  refine T.F_law_said.ok sc_law_said (fun vs H Q E h => ?_) (fun cdv Ar outer s' H vs Q E hr h => ?_)
  · obtain ⟨v, lv, l, l', t, e, r, rfl, _⟩ := h
    rfl
  · obtain ⟨v, lv, l, l', t, e, r, rfl, hV, hx, hg, hev, hok, herr⟩ := h
    refine ⟨_, (pss_cons (ps_set (i := 2) sc_law_said.nd rfl (.inl rfl) pe_non)
      (pss_cons (ps_try_as (i := 3) rfl rfl sc_law_said.nd rfl rfl ⟨rfl, by decide, Or.inl T.g_Erring⟩ takes0 (fun W pn xe tk _ => (pss_one (ps_set (i := 2) sc_law_said.nd rfl (.inl rfl) (by exact (pe_methX (pv 0) T.cl_Scene T.M_Scene_reckon G_Scene_reckon (hr.mono (by omega)) T.b_Scene_reckon .nil (fun σ => passAt tk σ) (pa_cons (pv 1) pa_nil))))))
      (fun a oe cls d pn hz hf => (pss_one (ps_set (i := 2) sc_law_said.nd rfl (.inl rfl) (pe_tup (pa_cons (by exact (pe_xf T.xf_Erring T.na_Erring_word hz hf (pv 3))) pa_nil))))))
      (pss_one (ps_ret (pv 2))))), ?_⟩
    refine seq_abs (fun σ' H' => H' = H ∧ σ' = [some (.ref v.sc), some (.ref t), some .non, none]) (fun Nn hNn => hNn _ _ ⟨rfl, rfl⟩) ?_
    rintro σ H2 ⟨rfl, rfl⟩
    refine ⟨_, rfl, v.sc, _, _, rfl, hV.at, rfl, _, rfl, v, lv, l, l', t, e, r, rfl, hV, hx, hg, hev, ⟨fun x e H1 lv1 c1 hv1 => ⟨_, rfl, hok x e H1 lv1 c1 hv1⟩, fun wd e H1 lv1 d1 c1 hv1 ed => ?_⟩⟩
    refine ⟨true, T.te_Erring, fun _ a0 ha0 => ?_, fun z => Bool.noConfusion z⟩
    exact ⟨_, rfl, rfl, rfl, d1, _, .str wd, rfl, ed, rfl, Evl.sz_of (by show 1 ≤ 100000; decide), fun p hp => ⟨_, rfl, herr wd e _ lv1 p (c1.trans (.same (same_new hp))) (hv1.same (same_new hp)) upd_same⟩⟩
theorem ok_law_worthW (T : Txt K mg A) : FnOk P w K mg base CX0 3 A.a_law_worth A.d_law_worth ["bag"] (spWorW) := by
  have G_law_draw := ok_law_draw (P := P) (w := w) (base := base) T
  have G_law_key := ok_law_key (P := P) (w := w) (base := base) T
  refine T.F_law_worth.ok sc_law_worth (fun vs H Q E h => ?_) (fun cdv Ar outer s' H vs Q E hr h => ?_)
  · obtain ⟨b, N, rfl, _⟩ := h
    rfl
  · obtain ⟨b, N, rfl, hN, hB, q⟩ := h
    refine ⟨_, (pss_cons (ps_set (i := 1) sc_law_worth.nd rfl (.inl rfl) (pe_lst (pa_cons pe_str (pa_cons pe_str (pa_cons pe_str (pa_cons pe_str (pa_cons pe_str (pa_cons pe_str (pa_cons pe_str (pa_cons pe_str (pa_cons pe_str (pa_cons pe_str (pa_cons pe_str (pa_cons pe_str (pa_cons pe_str (pa_cons pe_str (pa_cons (pe_op op_repS pe_str pe_int) (pa_cons pe_str pa_nil))))))))))))))))))
      (pss_cons (ps_set (i := 2) sc_law_worth.nd rfl (.inl rfl) (pe_call G_law_draw (hr.mono (by omega)) (by rfl) T.g_law_draw T.F_law_draw.kp T.b_law_draw .nil pass0 (pa_cons (pv 0) (pa_cons pe_int pa_nil))))
      (pss_cons (ps_if (pt_cmpR op_lt (pv 2) pe_int (nomark _))
      (pss_one (ps_ret (pe_ix (k_ix_list K) (pv 1) (pe_call G_law_draw (hr.mono (by omega)) (by rfl) T.g_law_draw T.F_law_draw.kp T.b_law_draw .nil pass0 (pa_cons (pv 0) (pa_cons pe_int pa_nil))) (fun _ _ => rfl))))
      pss_nil)
      (pss_cons (ps_if (pt_cmpR op_eq (pv 2) pe_int (nomark _))
      (pss_one (ps_ret (pe_callTy call_str_int (by rfl) T.n_str (by decide +kernel) (pa_cons (pe_op op_sub (pe_call G_law_draw (hr.mono (by omega)) (by rfl) T.g_law_draw T.F_law_draw.kp T.b_law_draw .nil pass0 (pa_cons (pv 0) (pa_cons (pe_ix (k_ix_list K) (pe_lst (pa_cons pe_int (pa_cons (pe_op op_powW pe_int pe_int) (pa_cons (pe_op op_powW pe_int pe_int) pa_nil)))) (pe_call G_law_draw (hr.mono (by omega)) (by rfl) T.g_law_draw T.F_law_draw.kp T.b_law_draw .nil pass0 (pa_cons (pv 0) (pa_cons pe_int pa_nil))) (fun _ _ => rfl)) pa_nil))) pe_int) pa_nil))))
      pss_nil)
      (pss_one (ps_ret (pe_op op_add_str (pe_slice sl_str (pe_call G_law_key (hr.mono (by omega)) (by rfl) T.g_law_key T.F_law_key.kp T.b_law_key .nil pass0 (pa_cons (pv 0) pa_nil)) po_none (po_some pe_int)) (pe_call G_law_key (hr.mono (by omega)) (by rfl) T.g_law_key T.F_law_key.kp T.b_law_key .nil pass0 (pa_cons (pv 0) pa_nil))))))))), ?_⟩
    refine ⟨Str.ofString "a", 50, rfl, rfl, by decide, by decide, (by decide +kernel), fun r1 hr1 hc1 => ?_⟩
    have l1 : (Str.ofString "a").length = 1 := by decide +kernel
    rw [l1] at hr1
    refine ⟨Evl.sz_of (by show 16 ≤ 100000; decide), fun p hp => ?_⟩
    generalize eH0 : upd H p _ = H0
    obtain ⟨xs, hxs, hxl, hxk, hxw⟩ : ∃ xs : List Str, H0 p = some (.lst (xs.map V.str)) ∧ xs.length = 16 ∧ (∀ x ∈ xs, x.length ≤ 80) ∧ ∀ x ∈ xs, WorthS x := by
      refine ⟨[Str.ofString "", Str.ofString "0", Str.ofString "1", Str.ofString "5", Str.ofString "-3", Str.ofString "12", Str.ofString "007", Str.ofString "-0", Str.ofString "+4x", Str.ofString "--2", Str.ofString "abc", Str.ofString "a,b,,c", Str.ofString "1e3", Str.ofString " 1", r1, Str.ofString "-"], by rw [← eH0]; exact upd_same, rfl, fun x hx => ?_, fun x hx => ?_⟩
      all_goals simp only [List.mem_cons, List.not_mem_nil, or_false] at hx
      · rcases hx with rfl | rfl | rfl | rfl | rfl | rfl | rfl | rfl | rfl | rfl | rfl | rfl | rfl | rfl | rfl | rfl
        all_goals first | decide +kernel | omega
      · have wr : WorthS r1 := fun d hd => (show WorthS (Str.ofString "a") by decide +kernel) d (hc1 d hd)
        rcases hx with rfl | rfl | rfl | rfl | rfl | rfl | rfl | rfl | rfl | rfl | rfl | rfl | rfl | rfl | rfl | rfl
        all_goals first | exact wr | decide +kernel
    have s0 : Same H H0 := by rw [← eH0]; exact same_new hp
    have B0 := hB.same s0
    have pb : p ≠ b := (hB.ne hp).symm
    clear eH0
    dsimp only [gName]
    refine ⟨_, rfl, b, 4, _, rfl, by decide, by decide, by omega, B0, fun H1 lot c1 B1 lo0 lo1 => ?_⟩
    have c01 : Chg b H H1 := (Chg.same s0).trans c1
    dsimp only [gName]
    refine ⟨_, rfl, _, _, rfl, rfl, _, rfl, ite2 (fun _ => ?_) (fun _ => ?_)⟩
    · refine ⟨_, rfl, _, rfl, b, 16, _, rfl, by decide, by decide, by omega, B1, fun H2 r c2 B2 r0 r1' => ?_⟩
      obtain ⟨v, hv, ev⟩ := at_map V.str (xs := xs) r0 (by omega)
      exact ⟨p, _, r, _, rfl, rfl, .inl (.inl (c2 _ _ pb (c1 _ _ pb hxs))), ev, q _ _ (c01.trans c2) (B2.mono (by omega)) (hxk v hv) (hxw v hv)⟩
    · refine ⟨_, rfl, rfl, _, rfl, ite2 (fun _ => ?_) (fun _ => ?_)⟩
      · refine ⟨_, rfl, ?_⟩
        refine rd_menu (xs := [.int 10, .int (10 ^ (6 : Int).toNat), .int (10 ^ (19 : Int).toNat)]) (N := N + 1) (fun R h => ⟨_, _, rfl, rfl, ⟨by decide, by decide, by decide⟩, _, _, rfl, rfl, ⟨by decide, by decide, by decide⟩, h⟩) rfl rfl (by decide) (by decide) (by omega) B1 fun H2 v hv c2 B2 => ?_
        obtain ⟨n, rfl, n0, n1⟩ : ∃ n : Int, v = .int n ∧ 0 < n ∧ n ≤ 10 ^ 19 := by
          simp only [List.mem_cons, List.not_mem_nil, or_false] at hv
          rcases hv with rfl | rfl | rfl <;> exact ⟨_, rfl, by decide, by decide⟩
        refine ⟨b, n, N + 2, rfl, n0, by omega, by omega, B2, fun H3 r c3 B3 r0 r1' => ?_⟩
        refine ⟨_, _, rfl, rfl, r - 4, rfl, str_fits (by omega), ?_⟩
        have hl := len_intS (r - 4) (k := 20) (by decide) (by omega)
        exact q _ _ ((c01.trans c2).trans c3) (B3.mono (by omega)) (by omega) (worth_int _)
      · refine ⟨_, rfl, b, _, rfl, by omega, B1, fun H2 k1 c2 B2 hk1 => ?_⟩
        refine ⟨_, rfl, k1, rfl, Evl.sz_of (by have := hk1.2.1; omega), ?_⟩
        refine ⟨_, rfl, b, _, rfl, by omega, B2, fun H3 k2 c3 B3 hk2 => ?_⟩
        have a1 := hk1.2.1
        have a2 := hk2.2.1
        have e : ((cutS k1 none (some 40)).length : Int) ≤ 40 := len_cut _ (by decide)
        refine ⟨_, _, rfl, rfl, Evl.sz_of (by omega), q _ _ ((c01.trans c2).trans c3) (B3.mono (by omega)) ?_ ?_⟩
        · rw [len_appS]
          omega
        · exact worth_cat (fun d hd => by rw [cut_to k1 (m := 40) (by decide)] at hd; exact hk1.2.2 d (List.mem_of_mem_take hd)) hk2.2.2
theorem ok_law_filled (T : Txt K mg A) : FnOk P w K mg base CX0 6 A.a_law_filled A.d_law_filled ["bag", "pool", "arrays"] (spFilledE w A.c_Arrays) := by
  have G_law_draw := ok_law_draw (P := P) (w := w) (base := base) T
  have G_law_spot := ok_law_spot (P := P) (w := w) (base := base) T
  have G_law_worth := ok_law_worthW (P := P) (w := w) (base := base) T
  have G_Arrays_put := ok_Arrays_put (P := P) (w := w) (base := base) T
  refine T.F_law_filled.ok sc_law_filled (fun vs H Q E h => ?_) (fun cdv Ar outer s H vs Q E hr h => ?_)
  · obtain ⟨b, p, l1, l2, po, d, ns, ks, N, rfl, _⟩ := h
    rfl
  · obtain ⟨b, p, l1, l2, po, d, ns, ks, N, rfl, hN, hB, hP, hA, q⟩ := h
    refine ⟨_, (pss_cons (ps_set (i := 3) sc_law_filled.nd rfl (.inl rfl) (k_newN w))
      (pss_cons (ps_for PassesOwn.never rfl (pi_range1 (by rfl) T.n_range (pa_cons (pe_call G_law_draw (hr.mono (by omega)) (by rfl) T.g_law_draw T.F_law_draw.kp T.b_law_draw .nil pass0 (pa_cons (pv 0) (pa_cons pe_int pa_nil))) pa_nil)) (pg_name (i := 4) sc_law_filled.nd rfl (.inl rfl))
      (pss_cons (ps_set (i := 5) sc_law_filled.nd rfl (.inl rfl) (pe_call G_law_spot (hr.mono (by omega)) (by rfl) T.g_law_spot T.F_law_spot.kp T.b_law_spot .nil pass0 (pa_cons (pv 0) (pa_cons (pv 1) (pa_cons (pe_ix (k_ix_list K) (pe_lst (pa_cons pe_int (pa_cons pe_int pa_nil))) (pe_call G_law_draw (hr.mono (by omega)) (by rfl) T.g_law_draw T.F_law_draw.kp T.b_law_draw .nil pass0 (pa_cons (pv 0) (pa_cons pe_int pa_nil))) (fun _ _ => rfl)) pa_nil)))))
      (pss_cons (ps_set (i := 6) sc_law_filled.nd rfl (.inl rfl) (pe_call G_law_worth (hr.mono (by omega)) (by rfl) T.g_law_worth T.F_law_worth.kp T.b_law_worth .nil pass0 (pa_cons (pv 0) pa_nil)))
      (pss_cons (ps_expr (pe_meth (pv 2) T.cl_Arrays T.M_Arrays_put G_Arrays_put (hr.mono (by omega)) T.b_Arrays_put .nil pass0 (pa_cons (pv 5) (pa_cons (pv 6) pa_nil))))
      (pss_one (ps_asg (pv 6) (pg_sub (pv 3) (pv 5) (k_setN w hr.units))))))))
      (pss_one (ps_ret (pv 3))))), ?_⟩
    intro D hD
    have s1 : Same H (upd H D (ndO w D [])) := same_new hD
    have eD : upd H D (ndO w D []) D = some (ndO w D []) := upd_same
    generalize upd H D (ndO w D []) = H1 at s1 eD ⊢
    have B1 := hB.same s1
    have hA1 := hA.same s1
    have hP1 := hP.chg (.same s1) hB
    have nDb : D ≠ b := (hB.ne hD).symm
    have nDd : D ≠ d := fun z => by rw [z] at hD; have := hA.2.1; rw [hD] at this; cases this
    refine ⟨_, rfl, b, 13, N, rfl, by decide, by decide, by omega, B1, fun H2 r c2 B2 r0 r1 => ?_⟩
    have hAd := hA.2.1
    refine ⟨r, rfl, by omega, by omega, ?_⟩
    have PK : ∀ H', (∀ a o, H a = some o → a ≠ b → a ≠ d → H' a = some o) → PoolL H' p l1 l2 ns ks := fun H' k => ⟨k _ _ hP.ep (hB.neL hP.ep) (ne_of hP.ep hAd fun z => nomatch z), k _ _ hP.e1 (hB.neS hP.e1) (ne_of hP.e1 hAd fun z => nomatch z), k _ _ hP.e2 (hB.neS hP.e2) (ne_of hP.e2 hAd fun z => nomatch z), hP.n0, hP.n1, hP.k0, hP.k1, hP.nm, hP.ky, hP.nn, hP.kn⟩
    refine for_range (lo := 0) (n := r.toNat) (fun i σ' H' => (∀ a o, H a = some o → a ≠ b → a ≠ d → H' a = some o) ∧ BagAt (N + 1 + 5000 * i) b H' ∧ (∃ es, ArAt w A.c_Arrays H' po d es ∧ NdAt w H' D es ∧ GoodEs es ∧ (∀ e ∈ es, WorV e.2.2) ∧ es.length ≤ i) ∧ ∃ y4 y5 y6, σ' = [some (.ref b), some (.ref p), some (.ref po), some (.ref D), y4, y5, y6])
      ⟨fun a o e n1 _ => c2 _ _ n1 (s1 _ _ e), B2, ⟨[], ?_, ⟨c2 _ _ nDb eD, fun e z => nomatch z⟩, .nil, (fun e z => nomatch z), Nat.le_refl _⟩, _, _, _, rfl⟩ ?_ ?_
    · exact hA1.chg c2 B1
    · rintro i σ H3 hi ⟨k3, B3, ⟨es, A3, D3, g3, w3, n3⟩, y4, y5, y6, rfl⟩
      have P3 := PK _ k3
      refine ⟨_, rfl, _, rfl, ?_⟩
      refine rd_menu (xs := [.int 2, .int 4]) (N := N + 1 + 5000 * i) (fun R h => h) rfl rfl (by decide) (by decide) (by omega) B3 fun H4 v hv c4 B4 => ?_
      obtain ⟨m, rfl, m0, m1⟩ : ∃ m : Int, v = .int m ∧ 0 ≤ m ∧ m ≤ 6 := by
        simp only [List.mem_cons, List.not_mem_nil, or_false] at hv
        rcases hv with rfl | rfl <;> exact ⟨_, rfl, by decide, by decide⟩
      refine ⟨b, p, l1, l2, ns, ks, m, _, rfl, m0, m1, by omega, B4, P3.chg c4 B3, fun H5 a n js c5 B5 hR hS _ _ _ => ?_⟩
      refine ⟨_, rfl, b, _, rfl, by omega, B5, fun H6 x c6 B6 lx hx => ?_⟩
      have c46 := (c4.trans c5).trans c6
      have A6 : ArAt w A.c_Arrays H6 po d es := A3.chg c46 B3
      have D6 : NdAt w H6 D es := D3.chg c46 B3
      have R6 := hR.chg c6 B5
      obtain ⟨⟨dx, ep⟩, en⟩ := id A6
      refine ⟨_, rfl, po, dx, _, rfl, ep, rfl, _, rfl, _, rfl, po, d, a, es, (n, js), x, rfl, A6, R6, hS, hx, by omega, by omega, fun H7 s7 => ?_⟩
      have A7 := A6.same s7
      have M7 := D6.sameN s7
      have R7 := R6.same s7
      have B7 := (B6.same s7).mut (o := ndO w d (ndPut es (n, js) a (.str x))) ((B6.same s7).neN A7.2.1)
      have k7 : ∀ a1 o, H a1 = some o → a1 ≠ b → a1 ≠ d → upd H7 d (ndO w d (ndPut es (n, js) a (.str x))) a1 = some o := fun a1 o e n1 n2 => by rw [upd_ne n2]; exact s7 _ _ (c46 _ _ n1 (k3 _ _ e n1 n2))
      have M8 := M7.upd (gs := ndPut es (n, js) a (.str x)) A7.2.1 nDd
      have R8 : RefAt (upd H7 d (ndO w d (ndPut es (n, js) a (.str x)))) (.ref a) n js := R7.nd A7.2.1
      have A8 := A7.put (put_refs (r := (n, js)) A7.2.2 R7 (.str x))
      generalize upd H7 d (ndO w d (ndPut es (n, js) a (.str x))) = H8 at A8 M8 R8 B7 k7 ⊢
      refine ⟨_, rfl, _, rfl, _, rfl, D, a, es, (n, js), rfl, rfl, R8, M8, Evl.sz_lt (by omega), ?_⟩
      refine ⟨fun a1 o e n1 n2 => ?_, (B7.mut (B7.neN M8.1)).mono (by omega), ⟨_, A8.upd M8.1 nDd.symm, M8.put (put_refs (r := (n, js)) M8.2 R8 _), g3.put hS a (by omega), fun e he => ?_, ?_⟩, _, _, _, rfl⟩
      · rw [upd_ne (ne_of_none e hD)]
        exact k7 _ _ e n1 n2
      · rcases ndPut_mem he with z | z
        · rw [z.2]; exact ⟨x, rfl, hx, by omega⟩
        · exact w3 e z
      · have := put_len es (n, js) a (.str x)
        omega
    · rintro σ H3 ⟨k3, B3, ⟨es, A3, D3, g3, w3, n3⟩, y4, y5, y6, rfl⟩
      exact ⟨_, rfl, q H3 D es k3 (B3.mono (by omega)) A3 D3 hD g3 w3 (by omega)⟩
theorem fill_holds {M1 M2 R : Mem} {H H' : Hp} {d b : Addr} {o1 o1' ob : HO} {N : Nat} (h : Holds (M1 ++ (d, o1) :: (M2 ++ (b, ob) :: R)) H) (k : ∀ a o, H a = some o → a ≠ b → a ≠ d → H' a = some o) (e1 : H' d = some o1') (m1 : Mob d o1') (B : BagAt N b H') :
    ∃ ob', Holds (M1 ++ (d, o1') :: (M2 ++ (b, ob') :: R)) H' ∧ IsBag N ob' := by
  have h1 := h.updA (o' := o1') m1
  have c : Chg b (upd H d o1') H' := fun a o n e => by
    by_cases z : a = d
    · subst z
      rw [upd_same] at e
      cases e
      exact e1
    · rw [upd_ne z] at e
      exact k _ _ e n z
  have h2 : Holds ((M1 ++ (d, o1') :: M2) ++ (b, ob) :: R) (upd H d o1') := by simpa only [List.append_assoc, List.cons_append] using h1
  obtain ⟨ob', q, hb⟩ := h2.draw c B
  exact ⟨ob', by simpa only [List.append_assoc, List.cons_append] using q, hb⟩
theorem fill_pers {T : List (Addr × Str)} {H H' : Hp} {b d : Addr} {N : Nat} {es : List Ent} (kp : ∀ a o, H a = some o → a ≠ b → a ≠ d → H' a = some o) (B : BagAt N b H) (ed : H d = some (ndO w d es)) : Pers T H H' :=
  ⟨fun t xs e => kp _ _ e (B.neT e) (ne_of e ed fun z => nomatch z), fun h => tabs_kp h (fun c o n1 n2 _ z => kp c o z n1 n2) B ed ed, fun a o u e => kp _ _ e (by
    obtain ⟨x, y, z, eb, _⟩ := B
    exact ne_of e eb fun z => nomatch z) (ne_of e ed fun z => nomatch z)⟩
theorem Holds.addA {M1 M2 : Mem} {H H' : Hp} {a : Addr} {o : HO} (q : Holds (M1 ++ M2) H) (n : H a = none) (q' : Holds (M1 ++ M2) H') (e : H' a = some o) (m : Mob a o) : Holds (M1 ++ (a, o) :: M2) H' := (q'.cons (fun x hx => ne_of_none (q.has x hx) n) e m).perm List.perm_middle.symm
theorem Holds.add2 {M1 M2 : Mem} {H H' : Hp} {a c : Addr} {o u : HO} (q : Holds (M1 ++ M2) H) (na : H a = none) (nc : H c = none) (ne : a ≠ c) (q' : Holds (M1 ++ M2) H') (e : H' a = some o) (m : Mob a o) (e2 : H' c = some u) (m2 : Mob c u) : Holds (M1 ++ (a, o) :: (c, u) :: M2) H' := by
  have h1 : Holds ((c, u) :: (M1 ++ M2)) H' := q'.cons (fun x hx => ne_of_none (q.has x hx) nc) e2 m2
  have h2 : Holds ((a, o) :: (c, u) :: (M1 ++ M2)) H' := h1.cons (fun x hx => by
    rcases List.mem_cons.mp hx with rfl | hx
    · exact ne.symm
    · exact ne_of_none (q.has x hx) na) e m
  exact h2.perm (((List.Perm.cons _ List.perm_middle.symm)).trans List.perm_middle.symm)
theorem Holds.addN {M1 M2 : Mem} {H' : Hp} {a : Addr} {o : HO} (n : ∀ x ∈ (M1 ++ M2).map (·.1), x ≠ a) (q' : Holds (M1 ++ M2) H') (e : H' a = some o) (m : Mob a o) : Holds (M1 ++ (a, o) :: M2) H' := (q'.cons (fun x hx => n _ (List.mem_map.mpr ⟨x, hx, rfl⟩)) e m).perm List.perm_middle.symm
theorem Holds.non {M : Mem} {H : Hp} {a : Addr} (q : Holds M H) (n : H a = none) : ∀ x ∈ M.map (·.1), x ≠ a := fun x hx => by
  obtain ⟨y, hy, rfl⟩ := List.mem_map.mp hx
  exact ne_of_none (q.has y hy) n
theorem merge3 {k1 k2 k3 : Key} (h12 : decide (k1 = k2) = false) (h13 : decide (k1 = k3) = false) (h23 : decide (k2 = k3) = false) (a b c : V) : mergeK [] [(k1, a), (k2, b), (k3, c)] = [(k1, a), (k2, b), (k3, c)] := by
  show putK (putK [(k1, a)] k2 b) k3 c = _
  have e1 : putK [(k1, a)] k2 b = [(k1, a), (k2, b)] := by
    unfold putK
    rw [if_neg (by rw [List.any_cons, List.any_nil]; show ¬ (decide (k1 = k2) || false) = true; rw [h12]; exact Bool.false_ne_true)]
    rfl
  rw [e1]
  unfold putK
  rw [if_neg (by rw [List.any_cons, List.any_cons, List.any_nil]; show ¬ (decide (k1 = k3) || (decide (k2 = k3) || false)) = true; rw [h13, h23]; exact Bool.false_ne_true)]
  rfl
theorem dl_start35 {w : World} {C D : Addr} {U : List Rf} {J : List Int} {H : Hp} {s : DlS} {R : Mem} (e2 : s.bg = []) (e3 : s.tc = []) (q : Holds (memOf w C D s ++ R) H) (hr : Refs H s.es) (hg : GoodEs s.es) (hw : ∀ e ∈ s.es, WorV e.2.2) (hu : ∀ e ∈ s.es, e.1 ∈ U) (ul : U.length ≤ 1000) (jl : J.length ≤ 50) : DlIn w C D U J 0 H s R := by
  refine ⟨q, hr, hg, hw, ?_, ?_, ?_, ?_, ?_, ?_, hu, ul, jl, ?_, Nat.zero_le _⟩
  · rw [e2]; exact List.nodup_nil
  · rw [e3]; exact List.nodup_nil
  · rw [e2]; exact fun _ z => nomatch z
  · rw [e3]; exact fun _ z => nomatch z
  · rw [e2]; exact fun _ z => nomatch z
  · rw [e3]; exact fun _ z => nomatch z
  · rw [e2]; exact fun _ z => nomatch z
theorem RefAt.keep {H H' : Hp} {a : Addr} {n : Str} {ks : List Str} (h : RefAt H (.ref a) n ks) (k : ∀ t xs, H t = some (.tup xs) → H' t = some (.tup xs)) : RefAt H' (.ref a) n ks := by
  obtain ⟨x, kt, ex, h1, h2⟩ := h
  exact ⟨x, kt, ex, k _ _ h1, k _ _ h2⟩
theorem ok_law_stage (T : Txt K mg A) : FnOk P w K mg base CX0 7 A.a_law_stage A.d_law_stage ["bag", "pool"] (spStageE w A.c_Scene A.c_Arrays A.c_Dealings (tabsOf A)) := by
  have G_law_filled := ok_law_filled (P := P) (w := w) (base := base) T
  have G_Arrays___init := ok_Arrays_init (P := P) (w := w) (base := base) T
  have G_Dealings___init := ok_Dealings_init (P := P) (w := w) (base := base) T
  have G_Scene___init := ok_Scene_init (P := P) (w := w) (base := base) T
  refine T.F_law_stage.ok sc_law_stage (fun vs H Q E h => ?_) (fun cdv Ar outer s H vs Q E hr h => ?_)
  · obtain ⟨b, p, k1, k2, ns, ks, M0, H0, N, ob, rfl, _⟩ := h
    rfl
  · obtain ⟨b, p, k1, k2, ns, ks, M0, H0, N, ob, rfl, hN, hb, hq, hP, hT, hps, q⟩ := h
    refine ⟨_, (pss_cons (ps_set (i := 2) sc_law_stage.nd rfl (.inl rfl) (pe_make0 T.Mk_Arrays G_Arrays___init (hr.mono (by omega)) (by rfl) T.g_Arrays T.b_Arrays___init .nil pass0))
      (pss_cons (ps_set (i := 3) sc_law_stage.nd rfl (.inl rfl) (pe_make0 T.Mk_Arrays G_Arrays___init (hr.mono (by omega)) (by rfl) T.g_Arrays T.b_Arrays___init .nil pass0))
      (pss_cons (ps_set (i := 4) sc_law_stage.nd rfl (.inl rfl) (pe_disp (pps_cons pe_str (pe_call G_law_filled (hr.mono (by omega)) (by rfl) T.g_law_filled T.F_law_filled.kp T.b_law_filled .nil pass0 (pa_cons (pv 0) (pa_cons (pv 1) (pa_cons (pv 3) pa_nil)))) (pps_cons pe_str (pe_call G_law_filled (hr.mono (by omega)) (by rfl) T.g_law_filled T.F_law_filled.kp T.b_law_filled .nil pass0 (pa_cons (pv 0) (pa_cons (pv 1) (pa_cons (pv 2) pa_nil)))) (pps_cons pe_str pe_non pps_nil))) rfl rfl (by intro z; cases z) (by decide)))
      (pss_cons (ps_set (i := 5) sc_law_stage.nd rfl (.inl rfl) (pe_make T.Mk_Dealings G_Dealings___init (hr.mono (by omega)) (by rfl) T.g_Dealings T.b_Dealings___init .nil pass0 (pa_cons (pv 2) pa_nil)))
      (pss_one (ps_ret (pe_disp (pps_cons pe_str (pe_make T.Mk_Scene G_Scene___init (hr.mono (by omega)) (by rfl) T.g_Scene T.bd_Scene___init T.dv_Scene___init pass0 (pa_cons (pv 3) (pa_cons (pv 5) pa_nil))) (pps_cons pe_str (pv 4) (pps_cons pe_str (pv 5) pps_nil))) rfl rfl (by intro z; cases z) (by decide)))))))), ?_⟩
    generalize eR : plMem p k1 k2 ns ks ++ M0 = R at hq
    have hB : BagAt N b H := hb.at (hq.get List.mem_cons_self)
    -- shared
    refine fun p1 x1 np1 nx1 n1 => ⟨p1, x1, rfl, upd_same, fun d1 H3 nd1 A1 kk1 => ⟨rfl, ?_⟩⟩
    have u1 : Same H (upd (upd H x1 (.own p1)) p1 (.ins A.c_Arrays x1 [])) := (same_new nx1).trans (same_new (by rw [upd_ne n1.symm]; exact np1))
    have s3 : Same H H3 := fun c o z => kk1 c o (u1 _ _ z) (ne_of_none z np1)
    have fd1 : H d1 = none := none_of_same u1 nd1
    obtain ⟨⟨y1, ep1⟩, ed1, _⟩ := id A1
    have q3 : Holds ((p1, .ins A.c_Arrays y1 [(Str.ofString "nodes", .ref d1)]) :: (d1, ndO w d1 []) :: (b, ob) :: R) H3 := Holds.add2 (M1 := []) hq np1 fd1 (ne_of ep1 ed1 fun z => nomatch z) (hq.same s3) ep1 (.ins _ _ _) ed1 (.nd w [])
    dsimp only [gName]
    -- its own
    refine fun p2 x2 np2 nx2 n2 => ⟨p2, x2, rfl, upd_same, fun d2 H4 nd2 A2 kk2 => ⟨rfl, ?_⟩⟩
    have u2 : Same H3 (upd (upd H3 x2 (.own p2)) p2 (.ins A.c_Arrays x2 [])) := (same_new nx2).trans (same_new (by rw [upd_ne n2.symm]; exact np2))
    have s4 : Same H3 H4 := fun c o z => kk2 c o (u2 _ _ z) (ne_of_none z np2)
    have fd2 : H3 d2 = none := none_of_same u2 nd2
    obtain ⟨⟨y2, ep2⟩, ed2, _⟩ := id A2
    have q4 : Holds ((p1, .ins A.c_Arrays y1 [(Str.ofString "nodes", .ref d1)]) :: (d1, ndO w d1 []) :: (p2, .ins A.c_Arrays y2 [(Str.ofString "nodes", .ref d2)]) :: (d2, ndO w d2 []) :: (b, ob) :: R) H4 := Holds.add2 (M1 := [(p1, .ins A.c_Arrays y1 [(Str.ofString "nodes", .ref d1)]), (d1, ndO w d1 [])]) q3 np2 fd2 (ne_of ep2 ed2 fun z => nomatch z) (q3.same s4) ep2 (.ins _ _ _) ed2 (.nd w [])
    have s04 := s3.trans s4
    have P4 := hP.chg (.same s04) hB
    have B4 := hB.same s04
    dsimp only [gName]
    refine fun m hm => ?_
    have s5 : Same H4 (upd H4 m (.dK [])) := same_new hm
    have em : upd H4 m (.dK []) m = some (.dK []) := upd_same
    have q5 : Holds ((p1, .ins A.c_Arrays y1 [(Str.ofString "nodes", .ref d1)]) :: (d1, ndO w d1 []) :: (p2, .ins A.c_Arrays y2 [(Str.ofString "nodes", .ref d2)]) :: (d2, ndO w d2 []) :: (m, .dK []) :: (b, ob) :: R) (upd H4 m (.dK [])) := Holds.addA (M1 := [(p1, .ins A.c_Arrays y1 [(Str.ofString "nodes", .ref d1)]), (d1, ndO w d1 []), (p2, .ins A.c_Arrays y2 [(Str.ofString "nodes", .ref d2)]), (d2, ndO w d2 [])]) q4 hm (q4.same s5) em (.dK _)
    generalize upd H4 m (.dK []) = H5 at s5 em q5 ⊢
    have P5 := P4.chg (.same s5) B4
    have B5 := B4.same s5
    have A52 := A2.same s5
    refine ⟨_, rfl, _, rfl, _, rfl, b, p, k1, k2, p2, d2, ns, ks, N, rfl, by omega, B5, P5, A52, fun H6 mo eo kp6 B6 A6 M6 fmo g6 w6 l6 => ?_⟩
    obtain ⟨ob6, q6, hb6⟩ := fill_holds (M1 := [(p1, .ins A.c_Arrays y1 [(Str.ofString "nodes", .ref d1)]), (d1, ndO w d1 []), (p2, .ins A.c_Arrays y2 [(Str.ofString "nodes", .ref d2)])]) (M2 := [(m, .dK [])]) q5 kp6 A6.2.1 (.nd w _) B6
    have q6 : Holds ((p1, .ins A.c_Arrays y1 [(Str.ofString "nodes", .ref d1)]) :: (d1, ndO w d1 []) :: (p2, .ins A.c_Arrays y2 [(Str.ofString "nodes", .ref d2)]) :: (d2, ndO w d2 eo) :: (m, .dK []) :: (mo, ndO w mo eo) :: (b, ob6) :: R) H6 := Holds.addN (M1 := [(p1, .ins A.c_Arrays y1 [(Str.ofString "nodes", .ref d1)]), (d1, ndO w d1 []), (p2, .ins A.c_Arrays y2 [(Str.ofString "nodes", .ref d2)]), (d2, ndO w d2 eo), (m, .dK [])]) (q5.non fmo) q6 M6.1 (.nd w _)
    have P6 : PoolL H6 p k1 k2 ns ks := hP.hold q6 fun x hx => by
      rw [← eR]
      exact .tail _ (.tail _ (.tail _ (.tail _ (.tail _ (.tail _ (.tail _ (List.mem_append_left _ hx)))))))
    have A61 : ArAt w A.c_Arrays H6 p1 d1 [] := ⟨⟨y1, q6.get List.mem_cons_self⟩, q6.get (.tail _ List.mem_cons_self), fun e z => nomatch z⟩
    have kt6 : ∀ t xs, H5 t = some (.tup xs) → H6 t = some (.tup xs) := fun t xs e => kp6 _ _ e (B5.neT e) (ne_of e A52.2.1 fun z => nomatch z)
    refine ⟨_, rfl, _, rfl, _, rfl, b, p, k1, k2, p1, d1, ns, ks, _, rfl, by omega, B6, P6, A61, fun H7 ms es kp7 B7 A7 M7 fms g7 w7 l7 => ?_⟩
    obtain ⟨ob7, q7, hb7⟩ := fill_holds (M1 := [(p1, .ins A.c_Arrays y1 [(Str.ofString "nodes", .ref d1)])]) (M2 := [(p2, .ins A.c_Arrays y2 [(Str.ofString "nodes", .ref d2)]), (d2, ndO w d2 eo), (m, .dK []), (mo, ndO w mo eo)]) q6 kp7 A7.2.1 (.nd w _) B7
    have q7 : Holds ((p1, .ins A.c_Arrays y1 [(Str.ofString "nodes", .ref d1)]) :: (d1, ndO w d1 es) :: (p2, .ins A.c_Arrays y2 [(Str.ofString "nodes", .ref d2)]) :: (d2, ndO w d2 eo) :: (m, .dK []) :: (mo, ndO w mo eo) :: (ms, ndO w ms es) :: (b, ob7) :: R) H7 := Holds.addN (M1 := [(p1, .ins A.c_Arrays y1 [(Str.ofString "nodes", .ref d1)]), (d1, ndO w d1 es), (p2, .ins A.c_Arrays y2 [(Str.ofString "nodes", .ref d2)]), (d2, ndO w d2 eo), (m, .dK []), (mo, ndO w mo eo)]) (q6.non fms) q7 M7.1 (.nd w _)
    have kt7 : ∀ t xs, H6 t = some (.tup xs) → H7 t = some (.tup xs) := fun t xs e => kp7 _ _ e (B6.neT e) (ne_of e A61.2.1 fun z => nomatch z)
    refine ⟨q7.get (.tail _ (.tail _ (.tail _ (.tail _ List.mem_cons_self)))), [(KX "own", V.ref mo), (KX "shared", V.ref ms), (KX "last", V.non)], rfl, by show 3 ≤ 15; decide, ?_⟩
    rw [merge3 kx12 kx13 kx23]
    have q8 : Holds ((p1, .ins A.c_Arrays y1 [(Str.ofString "nodes", .ref d1)]) :: (d1, ndO w d1 es) :: (p2, .ins A.c_Arrays y2 [(Str.ofString "nodes", .ref d2)]) :: (d2, ndO w d2 eo) :: (m, .dK (recM (.ref mo) (.ref ms) .non)) :: (mo, ndO w mo eo) :: (ms, ndO w ms es) :: (b, ob7) :: R) (upd H7 m (.dK (recM (.ref mo) (.ref ms) .non))) := Holds.updA (M1 := [(p1, .ins A.c_Arrays y1 [(Str.ofString "nodes", .ref d1)]), (d1, ndO w d1 es), (p2, .ins A.c_Arrays y2 [(Str.ofString "nodes", .ref d2)]), (d2, ndO w d2 eo)]) q7 (.dK _)
    have kt8 : ∀ t xs, H7 t = some (.tup xs) → upd H7 m (.dK (recM (.ref mo) (.ref ms) .non)) t = some (.tup xs) := fun t xs e => by
      rw [upd_ne (ne_of e (q7.get (.tail _ (.tail _ (.tail _ (.tail _ List.mem_cons_self))))) fun z => nomatch z)]; exact e
    have T8 : Pers (tabsOf A) H (upd H7 m (.dK (recM (.ref mo) (.ref ms) .non))) := ((Pers.same (s04.trans s5)).trans ((fill_pers kp6 B5 A52.2.1).trans (fill_pers kp7 B6 A61.2.1))).trans (pers_mob (q7.get (.tail _ (.tail _ (.tail _ (.tail _ List.mem_cons_self))))) (.dK _) .upd)
    show gName 4 (V.ref m) _ (upd H7 m (.dK (recM (.ref mo) (.ref ms) .non))) _
    generalize upd H7 m (.dK (recM (.ref mo) (.ref ms) .non)) = H8 at q8 kt8 T8 ⊢
    have kt58 : ∀ t xs, H5 t = some (.tup xs) → H8 t = some (.tup xs) := fun t xs e => kt8 _ _ (kt7 _ _ (kt6 _ _ e))
    have ro : ∀ e ∈ eo, RefAt H8 (.ref e.2.1) e.1.1 e.1.2 := fun e he => (A6.2.2 e he).keep fun t xs z => kt8 _ _ (kt7 _ _ z)
    have rs : ∀ e ∈ es, RefAt H8 (.ref e.2.1) e.1.1 e.1.2 := fun e he => (A7.2.2 e he).keep kt8
    have ro2 : ∀ e ∈ eo, RefAt H8 (.ref e.2.1) e.1.1 e.1.2 := ro
    dsimp only [gName]
    -- dealings
    refine ⟨_, rfl, fun g x3 ng nx3 n3 => ⟨g, p1, x3, rfl, upd_same, fun H9 bd td nbd ntd nbt k9 eg ebd etd => ⟨rfl, ?_⟩⟩⟩
    have u9 : Same H8 (upd (upd H8 x3 (.own g)) g (.ins A.c_Dealings x3 [])) := (same_new nx3).trans (same_new (by rw [upd_ne n3.symm]; exact ng))
    have s9 : Same H8 H9 := fun c o z => k9 c o (u9 _ _ z) (ne_of_none z ng)
    have fbd : H8 bd = none := none_of_same u9 nbd
    have ftd : H8 td = none := none_of_same u9 ntd
    have ngb : g ≠ bd := ne_of eg ebd fun z => nomatch z
    have ngt : g ≠ td := ne_of eg etd fun z => nomatch z
    have qg : Holds ((g, .ins A.c_Dealings x3 [(Str.ofString "shelf", .ref p1), (Str.ofString "begun", .ref bd), (Str.ofString "touches", .ref td)]) :: (p1, .ins A.c_Arrays y1 [(Str.ofString "nodes", .ref d1)]) :: (d1, ndO w d1 es) :: (p2, .ins A.c_Arrays y2 [(Str.ofString "nodes", .ref d2)]) :: (d2, ndO w d2 eo) :: (m, .dK (recM (.ref mo) (.ref ms) .non)) :: (mo, ndO w mo eo) :: (ms, ndO w ms es) :: (b, ob7) :: R) H9 := Holds.addA (M1 := []) q8 ng (q8.same s9) eg (.ins _ _ _)
    have qb : Holds ((g, .ins A.c_Dealings x3 [(Str.ofString "shelf", .ref p1), (Str.ofString "begun", .ref bd), (Str.ofString "touches", .ref td)]) :: (p1, .ins A.c_Arrays y1 [(Str.ofString "nodes", .ref d1)]) :: (d1, ndO w d1 es) :: (bd, .dK []) :: (p2, .ins A.c_Arrays y2 [(Str.ofString "nodes", .ref d2)]) :: (d2, ndO w d2 eo) :: (m, .dK (recM (.ref mo) (.ref ms) .non)) :: (mo, ndO w mo eo) :: (ms, ndO w ms es) :: (b, ob7) :: R) H9 := Holds.addN (M1 := [(g, .ins A.c_Dealings x3 [(Str.ofString "shelf", .ref p1), (Str.ofString "begun", .ref bd), (Str.ofString "touches", .ref td)]), (p1, .ins A.c_Arrays y1 [(Str.ofString "nodes", .ref d1)]), (d1, ndO w d1 es)]) (fun x hx => by
      rcases List.mem_cons.mp hx with rfl | hx
      · exact ngb
      · exact q8.non fbd x hx) qg ebd (.dK _)
    have qt : Holds ((g, .ins A.c_Dealings x3 [(Str.ofString "shelf", .ref p1), (Str.ofString "begun", .ref bd), (Str.ofString "touches", .ref td)]) :: (p1, .ins A.c_Arrays y1 [(Str.ofString "nodes", .ref d1)]) :: (d1, ndO w d1 es) :: (bd, .dK []) :: (td, .dK []) :: (p2, .ins A.c_Arrays y2 [(Str.ofString "nodes", .ref d2)]) :: (d2, ndO w d2 eo) :: (m, .dK (recM (.ref mo) (.ref ms) .non)) :: (mo, ndO w mo eo) :: (ms, ndO w ms es) :: (b, ob7) :: R) H9 := Holds.addN (M1 := [(g, .ins A.c_Dealings x3 [(Str.ofString "shelf", .ref p1), (Str.ofString "begun", .ref bd), (Str.ofString "touches", .ref td)]), (p1, .ins A.c_Arrays y1 [(Str.ofString "nodes", .ref d1)]), (d1, ndO w d1 es), (bd, .dK [])]) (fun x hx => by
      rcases List.mem_cons.mp hx with rfl | hx
      · exact ngt
      rcases List.mem_cons.mp hx with rfl | hx
      · exact q8.non ftd _ List.mem_cons_self
      rcases List.mem_cons.mp hx with rfl | hx
      · exact q8.non ftd _ (.tail _ List.mem_cons_self)
      rcases List.mem_cons.mp hx with rfl | hx
      · exact nbt
      · exact q8.non ftd x (.tail _ (.tail _ hx))) qb etd (.dK _)
    dsimp only [gName]
    -- the record, the scene
    refine fun ss hss => ?_
    have s10 : Same H9 (upd H9 ss (.dK [])) := same_new hss
    have es10 : upd H9 ss (.dK []) ss = some (.dK []) := upd_same
    generalize upd H9 ss (.dK []) = H10 at s10 es10 ⊢
    refine ⟨_, rfl, _, rfl, fun sc x4 nsc nx4 n4 => ⟨sc, x4, p2, g, rfl, upd_same, rfl, ?_⟩⟩
    rw [upd_upd]
    have s11 : Same H10 (upd (upd H10 x4 (.own sc)) sc (.ins A.c_Scene x4 (scF p2 g))) := (same_new nx4).trans (same_new (by rw [upd_ne n4.symm]; exact nsc))
    have esc : upd (upd H10 x4 (.own sc)) sc (.ins A.c_Scene x4 (scF p2 g)) sc = some (.ins A.c_Scene x4 (scF p2 g)) := upd_same
    generalize upd (upd H10 x4 (.own sc)) sc (.ins A.c_Scene x4 (scF p2 g)) = H11 at s11 esc ⊢
    refine ⟨_, rfl, _, rfl, s11 _ _ es10, [(KX "scene", V.ref sc), (KX "m", V.ref m), (KX "dealings", V.ref g)], rfl, by show 3 ≤ 15; decide, ?_⟩
    rw [merge3 (by decide +kernel) (by decide +kernel) (by decide +kernel)]
    have q10 : Holds ((g, .ins A.c_Dealings x3 [(Str.ofString "shelf", .ref p1), (Str.ofString "begun", .ref bd), (Str.ofString "touches", .ref td)]) :: (p1, .ins A.c_Arrays y1 [(Str.ofString "nodes", .ref d1)]) :: (d1, ndO w d1 es) :: (bd, .dK []) :: (td, .dK []) :: (p2, .ins A.c_Arrays y2 [(Str.ofString "nodes", .ref d2)]) :: (d2, ndO w d2 eo) :: (m, .dK (recM (.ref mo) (.ref ms) .non)) :: (mo, ndO w mo eo) :: (ms, ndO w ms es) :: (ss, .dK []) :: (b, ob7) :: R) H10 := Holds.addA (M1 := [(g, .ins A.c_Dealings x3 [(Str.ofString "shelf", .ref p1), (Str.ofString "begun", .ref bd), (Str.ofString "touches", .ref td)]), (p1, .ins A.c_Arrays y1 [(Str.ofString "nodes", .ref d1)]), (d1, ndO w d1 es), (bd, .dK []), (td, .dK []), (p2, .ins A.c_Arrays y2 [(Str.ofString "nodes", .ref d2)]), (d2, ndO w d2 eo), (m, .dK (recM (.ref mo) (.ref ms) .non)), (mo, ndO w mo eo), (ms, ndO w ms es)]) qt hss (qt.same s10) es10 (.dK _)
    have q11 : Holds ((g, .ins A.c_Dealings x3 [(Str.ofString "shelf", .ref p1), (Str.ofString "begun", .ref bd), (Str.ofString "touches", .ref td)]) :: (p1, .ins A.c_Arrays y1 [(Str.ofString "nodes", .ref d1)]) :: (d1, ndO w d1 es) :: (bd, .dK []) :: (td, .dK []) :: (sc, .ins A.c_Scene x4 (scF p2 g)) :: (p2, .ins A.c_Arrays y2 [(Str.ofString "nodes", .ref d2)]) :: (d2, ndO w d2 eo) :: (m, .dK (recM (.ref mo) (.ref ms) .non)) :: (mo, ndO w mo eo) :: (ms, ndO w ms es) :: (ss, .dK []) :: (b, ob7) :: R) H11 := Holds.addA (M1 := [(g, .ins A.c_Dealings x3 [(Str.ofString "shelf", .ref p1), (Str.ofString "begun", .ref bd), (Str.ofString "touches", .ref td)]), (p1, .ins A.c_Arrays y1 [(Str.ofString "nodes", .ref d1)]), (d1, ndO w d1 es), (bd, .dK []), (td, .dK [])]) q10 nsc (q10.same s11) esc (.ins _ _ _)
    have q12 : Holds ((g, .ins A.c_Dealings x3 [(Str.ofString "shelf", .ref p1), (Str.ofString "begun", .ref bd), (Str.ofString "touches", .ref td)]) :: (p1, .ins A.c_Arrays y1 [(Str.ofString "nodes", .ref d1)]) :: (d1, ndO w d1 es) :: (bd, .dK []) :: (td, .dK []) :: (sc, .ins A.c_Scene x4 (scF p2 g)) :: (p2, .ins A.c_Arrays y2 [(Str.ofString "nodes", .ref d2)]) :: (d2, ndO w d2 eo) :: (m, .dK (recM (.ref mo) (.ref ms) .non)) :: (mo, ndO w mo eo) :: (ms, ndO w ms es) :: (ss, .dK (recS sc m g)) :: (b, ob7) :: R) (upd H11 ss (.dK (recS sc m g))) := Holds.updA (M1 := [(g, .ins A.c_Dealings x3 [(Str.ofString "shelf", .ref p1), (Str.ofString "begun", .ref bd), (Str.ofString "touches", .ref td)]), (p1, .ins A.c_Arrays y1 [(Str.ofString "nodes", .ref d1)]), (d1, ndO w d1 es), (bd, .dK []), (td, .dK []), (sc, .ins A.c_Scene x4 (scF p2 g)), (p2, .ins A.c_Arrays y2 [(Str.ofString "nodes", .ref d2)]), (d2, ndO w d2 eo), (m, .dK (recM (.ref mo) (.ref ms) .non)), (mo, ndO w mo eo), (ms, ndO w ms es)]) q11 (.dK _)
    have es11 : H11 ss = some (.dK []) := s11 _ _ es10
    have s811 : Same H8 H11 := (s9.trans s10).trans s11
    have T12 : Pers (tabsOf A) H (upd H11 ss (.dK (recS sc m g))) := (T8.trans (.same s811)).trans (pers_mob es11 (.dK _) .upd)
    have kt12 : ∀ t xs, H8 t = some (.tup xs) → upd H11 ss (.dK (recS sc m g)) t = some (.tup xs) := fun t xs e => by
      rw [upd_ne (ne_of (s811 _ _ e) es11 fun z => nomatch z)]; exact s811 _ _ e
    show Q (V.ref ss) (upd H11 ss (.dK (recS sc m g)))
    generalize upd H11 ss (.dK (recS sc m g)) = H12 at q12 T12 kt12 ⊢
    have ro := fun e he => (ro e he).keep kt12
    have rs := fun e he => (rs e he).keep kt12
    refine q H12 ss ⟨⟨sc, x4, p2, d2, 0, ⟨g, x3, p1, y1, d1, bd, td, es, [], []⟩, es.map (·.1), [0], 0, (p2, .ins A.c_Arrays y2 [(Str.ofString "nodes", .ref d2)]) :: (d2, ndO w d2 eo) :: (m, .dK (recM (.ref mo) (.ref ms) .non)) :: (mo, ndO w mo eo) :: (ms, ndO w ms es) :: (ss, .dK (recS sc m g)) :: (b, ob7) :: R, eo⟩, ⟨m, mo, ms, eo, es⟩, .non, .non, none, ⟨y2, ss, (b, ob7) :: R⟩, ⟨⟨⟨?_, Int.le_refl 0, fun i => rfl, ⟨⟨y2, ?_⟩, ?_, ro⟩, g6, by show eo.length ≤ 1000; omega, w6, rfl⟩, ⟨?_, ⟨?_, ro⟩, ⟨?_, rs⟩, g6, g7, by show eo.length ≤ 1000; omega, by show es.length ≤ 1000; omega, w6, w7, rfl⟩, rfl, rfl, rfl, rfl, rfl⟩, rfl, ⟨ob7, by rw [← eR], hb7⟩, ?_, T12.tabs hT, ?_, Nat.le_refl _, ?_, rfl, hps.trans T12⟩⟩
    · exact dl_start35 rfl rfl q12 rs g7 w7 (fun e he => List.mem_map.mpr ⟨e, he, rfl⟩) (by rw [List.length_map]; omega) (by show 1 ≤ 50; decide)
    · exact q12.get (.tail _ (.tail _ (.tail _ (.tail _ (.tail _ (.tail _ List.mem_cons_self))))))
    · exact q12.get (.tail _ (.tail _ (.tail _ (.tail _ (.tail _ (.tail _ (.tail _ List.mem_cons_self)))))))
    · exact q12.get (.tail _ (.tail _ (.tail _ (.tail _ (.tail _ (.tail _ (.tail _ (.tail _ List.mem_cons_self))))))))
    · exact q12.get (.tail _ (.tail _ (.tail _ (.tail _ (.tail _ (.tail _ (.tail _ (.tail _ (.tail _ List.mem_cons_self)))))))))
    · exact q12.get (.tail _ (.tail _ (.tail _ (.tail _ (.tail _ (.tail _ (.tail _ (.tail _ (.tail _ (.tail _ List.mem_cons_self))))))))))
    · exact hP.hold q12 fun x hx => by
        rw [← eR]
        exact List.mem_append_right [(g, .ins A.c_Dealings x3 [(Str.ofString "shelf", .ref p1), (Str.ofString "begun", .ref bd), (Str.ofString "touches", .ref td)]), (p1, .ins A.c_Arrays y1 [(Str.ofString "nodes", .ref d1)]), (d1, ndO w d1 es), (bd, .dK []), (td, .dK []), (sc, .ins A.c_Scene x4 (scF p2 g)), (p2, .ins A.c_Arrays y2 [(Str.ofString "nodes", .ref d2)]), (d2, ndO w d2 eo), (m, .dK (recM (.ref mo) (.ref ms) .non)), (mo, ndO w mo eo), (ms, ndO w ms es), (ss, .dK (recS sc m g)), (b, ob7)] (List.mem_append_left _ hx)
    · show (es.map (·.1)).length ≤ 20 + 0
      rw [List.length_map]; omega
    · show es.length ≤ 20 + 0
      omega
theorem ok_law_shown (T : Txt K mg A) : FnOk P w K mg base CX0 2 A.a_law_shown A.d_law_shown ["bag", "pool"] spShownE := by
  have G_law_draw := ok_law_draw (P := P) (w := w) (base := base) T
  refine T.F_law_shown.ok sc_law_shown (fun vs H Q E h => ?_) (fun cdv Ar outer s H vs Q E hr h => ?_)
  · obtain ⟨b, p, k1, k2, ns, ks, N, rfl, _⟩ := h
    rfl
  · obtain ⟨b, p, l1, l2, ns, ks, N, rfl, hN, hB, hP, q⟩ := h
    refine ⟨_, (pss_cons (ps_setLc (i := 2) (own := [("k", 3)]) (g := gName 3) (tt := tYes) rfl sc_law_shown.nd rfl rfl (sw_true rfl rfl rfl (by decide +kernel)) (pi_range1 (by rfl) T.n_range (pa_cons (pe_call G_law_draw (hr.mono (by omega)) (by rfl) T.g_law_draw T.F_law_draw.kp T.b_law_draw .nil pass0 (pa_cons (pv 0) (pa_cons pe_int pa_nil))) pa_nil)) (blkOk_by (own := [("k", 3)]) (N := N_law_shown) (sc := defScope s_law_shown) (by decide +kernel)) (fun _ _ _ _ _ => (pg_name (i := 3) sc_law_shown.nd rfl (.inl rfl))) (fun _ _ _ _ _ => pts_nil) (fun _ _ _ _ _ => (pe_tup (pa_cons pe_str (pa_cons (pe_ix (k_ix_list K) (pe_ix (k_ix_list K) (pv 1) pe_int (fun _ _ => rfl)) (pe_call G_law_draw (hr.mono (by omega)) (by rfl) T.g_law_draw T.F_law_draw.kp T.b_law_draw .nil pass0 (pa_cons (pv 0) (pa_cons (pe_callB (k_len K) (by rfl) T.n_len PySem.boot_len (pa_cons (pe_ix (k_ix_list K) (pv 1) pe_int (fun _ _ => rfl)) pa_nil)) pa_nil))) (fun _ _ => rfl)) pa_nil)))))
      (pss_one (ps_ret (pe_tup (pa_cons (pe_ix (k_ix_list K) (pe_lst (pa_cons pe_str (pa_cons pe_str pa_nil))) (pe_call G_law_draw (hr.mono (by omega)) (by rfl) T.g_law_draw T.F_law_draw.kp T.b_law_draw .nil pass0 (pa_cons (pv 0) (pa_cons pe_int pa_nil))) (fun _ _ => rfl)) (pa_cons (pe_ix (k_ix_list K) (pe_ix (k_ix_list K) (pv 1) pe_int (fun _ _ => rfl)) (pe_call G_law_draw (hr.mono (by omega)) (by rfl) T.g_law_draw T.F_law_draw.kp T.b_law_draw .nil pass0 (pa_cons (pv 0) (pa_cons (pe_callB (k_len K) (by rfl) T.n_len PySem.boot_len (pa_cons (pe_ix (k_ix_list K) (pv 1) pe_int (fun _ _ => rfl)) pa_nil)) pa_nil))) (fun _ _ => rfl)) (pa_cons (pv 2) pa_nil))))))), ?_⟩
    have k0 := hP.k0
    have k1 := hP.k1
    refine ⟨_, rfl, b, 4, N, rfl, by decide, by decide, by omega, hB, fun H1 r c1 B1 r0 r1 => ⟨r, rfl, by omega, by omega, fun D hD => ?_⟩⟩
    have P1 := hP.chg c1 hB
    have nD : D ≠ b := (B1.ne hD).symm
    refine lc_range (lo := 0) (n := r.toNat) (fun i H2 => ∃ (us : List Addr) (js : List Str), us.length = i ∧ js.length = i ∧ Paired (fun a e => ∃ x, e = Ex.is x ∧ IsAt H2 a x) us (IsK js) ∧ (∀ j ∈ js, KeyS j) ∧ Chg b H1 H2 ∧ BagAt (N + 1 + 1 * i) b H2 ∧ H2 D = some (.lst (us.map V.ref))) ?_ ?_ ?_
    · exact ⟨[], [], rfl, rfl, .nil, (fun _ z => nomatch z), .new hD, B1.new hD, upd_same⟩
    · rintro i H2 hi ⟨us, js, lu, lj, hp, hk, c2, B2, e2⟩
      refine ⟨wipe1, ?_⟩
      have P2 := P1.chg c2 B1
      unfold tYes
      dsimp only
      rw [if_pos rfl]
      refine ⟨_, rfl, p, _, 1, .ref l2, rfl, rfl, .inl (.inl P2.ep), atI_nat (j := 1) rfl, ?_⟩
      refine rd_draw (m := ((ks.map V.str).length : Int)) (N := N + 1 + 1 * i) rfl (fun R h => ⟨_, rfl, p, _, 1, .ref l2, rfl, rfl, .inl (.inl P2.ep), atI_nat (j := 1) rfl, l2, _, rfl, .inl (.inl (.inl P2.e2)), h⟩) (by rw [List.length_map]; omega) (by rw [List.length_map]; omega) (by omega) B2 fun H5 r5 c5 B5 r50 r51 => ?_
      rw [List.length_map] at r51
      obtain ⟨k, hkm, ek⟩ := at_map V.str r50 r51
      have P5 := P2.chg c5 B2
      refine ⟨l2, _, r5, .str k, rfl, rfl, .inl (.inl P5.e2), ek, Evl.sz_of (by show 2 ≤ 100000; decide), fun a ha => ?_⟩
      have eD5 : H5 D = some (.lst (us.map V.ref)) := c5 _ _ nD e2
      have nDa : D ≠ a := ne_of_none eD5 ha
      have s6 : Same H5 (upd H5 a (.tup [.str (Str.ofString "is"), .str k])) := same_new ha
      have ea : upd H5 a (.tup [.str (Str.ofString "is"), .str k]) a = some (.tup [.str (Str.ofString "is"), .str k]) := upd_same
      generalize upd H5 a (.tup [.str (Str.ofString "is"), .str k]) = H6 at s6 ea ⊢
      have eD6 := s6 _ _ eD5
      have cD : Chg D H6 (upd H6 D (.lst (us.map V.ref ++ [.ref a]))) := .upd
      refine ⟨us.map V.ref, eD6, Evl.sz_lt (by rw [List.length_map]; omega), us ++ [a], js ++ [k], by rw [List.length_append, List.length_singleton]; omega, by rw [List.length_append, List.length_singleton]; omega, ?_, fun j hj => ?_, ((c2.trans c5).trans (.same s6)).mut hD, ((B5.same s6).mut nD.symm).mono (by omega), by rw [upd_same, List.map_append]; rfl⟩
      · unfold IsK
        rw [List.map_append]
        refine Paired.snoc (L2.Paired.mapP hp fun a2 e2 h => ?_) ⟨k, rfl, cD _ _ (ne_of ea eD6 fun z => nomatch z) ea⟩
        obtain ⟨x, rfl, h⟩ := h
        have h6 := s6 _ _ (c5 _ _ (B2.neT h) h)
        exact ⟨x, rfl, cD _ _ (ne_of h6 eD6 fun z => nomatch z) h6⟩
      · rcases List.mem_append.mp hj with z | z
        · exact hk j z
        · rw [List.mem_singleton.mp z]; exact hP.ky k hkm
    · rintro H2 ⟨us, js, lu, lj, hp, hk, c2, B2, e2⟩
      have P2 := P1.chg c2 B1
      have n0 := hP.n0
      have n1 := hP.n1
      refine ⟨Evl.sz_of (by show 2 ≤ 100000; decide), fun p3 hp3 => ?_⟩
      have s3 : Same H2 (upd H2 p3 (.lst [.str (Str.ofString "var"), .str (Str.ofString "at")])) := same_new hp3
      have e3 : upd H2 p3 (.lst [.str (Str.ofString "var"), .str (Str.ofString "at")]) p3 = some (.lst [.str (Str.ofString "var"), .str (Str.ofString "at")]) := upd_same
      have n3 : p3 ≠ b := (B2.ne hp3).symm
      generalize upd H2 p3 (.lst [.str (Str.ofString "var"), .str (Str.ofString "at")]) = H3 at s3 e3 ⊢
      have B3 := B2.same s3
      refine ⟨_, rfl, b, 2, _, rfl, by decide, by decide, by omega, B3, fun H4 r4 c4 B4 r40 r41 => ?_⟩
      obtain ⟨kd, hkd, ekd⟩ : ∃ kd : PK, kd ≠ .short ∧ atI [V.str (Str.ofString "var"), .str (Str.ofString "at")] r4 = some (.str kd.t) := by
        have : r4 = 0 ∨ r4 = 1 := by omega
        rcases this with rfl | rfl
        · exact ⟨.var, (fun z => nomatch z), rfl⟩
        · exact ⟨.at, (fun z => nomatch z), rfl⟩
      have P4 := (P2.chg (.same s3) B2).chg c4 B3
      refine ⟨p3, _, r4, _, rfl, rfl, .inl (.inl (c4 _ _ n3 e3)), ekd, ?_⟩
      refine ⟨_, rfl, p, _, 0, .ref l1, rfl, rfl, .inl (.inl P4.ep), atI_nat (j := 0) rfl, ?_⟩
      refine rd_draw (m := ((ns.map V.str).length : Int)) rfl (fun R h => ⟨_, rfl, p, _, 0, .ref l1, rfl, rfl, .inl (.inl P4.ep), atI_nat (j := 0) rfl, l1, _, rfl, .inl (.inl (.inl P4.e1)), h⟩) (by rw [List.length_map]; omega) (by rw [List.length_map]; omega) (by omega) B4 fun H5 r5 c5 B5 r50 r51 => ?_
      rw [List.length_map] at r51
      obtain ⟨nm, hnm, en⟩ := at_map V.str r50 r51
      have P5 := P4.chg c5 B4
      have c25 : Chg b H2 H5 := ((Chg.same s3).trans c4).trans c5
      refine ⟨l1, _, r5, .str nm, rfl, rfl, .inl (.inl P5.e1), en, _, rfl, Evl.sz_of (by show 3 ≤ 100000; decide), fun t ht => ?_⟩
      have s6 : Same H5 (upd H5 t (.tup [.str kd.t, .str nm, .ref D])) := same_new ht
      refine q _ t kd nm js ((c1.trans (c2.trans c25)).trans (.same s6)) ((B5.same s6).mono (by omega)) hkd (hP.nm nm hnm) hk (by omega) ⟨D, us, ?_, s6 _ _ (c25 _ _ nD e2), L2.Paired.mapP hp fun a2 e2 h => ?_⟩
      · rw [upd_same]
        cases kd with
        | short => exact absurd rfl hkd
        | var => rfl
        | «at» => rfl
      · obtain ⟨x, rfl, h⟩ := h
        exact ⟨x, rfl, s6 _ _ (c25 _ _ (B2.neT h) h)⟩
theorem Inv35.mono {cS cA cD : Addr} {Tb0 : List (Addr × Str)} {b ss p k1 k2 : Addr} {ns ks : List Str} {M0 : Mem} {H0 : Hp} {N N' k : Nat} {H : Hp} {v : V35} {u : UW} {lv lu : V} {l1 l2 : Option Rf} {X : Xt} (h : Inv35 w cS cA cD Tb0 b ss p k1 k2 ns ks M0 H0 N k H v u lv lu l1 l2 X) (le : N ≤ N') : Inv35 w cS cA cD Tb0 b ss p k1 k2 ns ks M0 H0 N' k H v u lv lu l1 l2 X := by
  obtain ⟨ob, eM, x, y, z, rfl, r1, r2, r3, r4⟩ := h.mm
  exact ⟨h.st, h.ss, ⟨_, eM, x, y, z, rfl, r1, r2, r3, by omega⟩, h.pl, h.tb, h.ul, h.bd, h.ln, h.sk, h.ps⟩
theorem paired_zk {H : Hp} : ∀ {us : List Addr} {ks : List Str}, Paired (fun a e => ∃ y, e = Ex.is y ∧ IsAt H a y) us (IsK ks) → ∃ zk : List (Addr × Str), zk.map (·.1) = us ∧ zk.map (·.2) = ks ∧ ∀ z ∈ zk, IsAt H z.1 z.2
  | [], [], _ => ⟨[], rfl, rfl, fun _ z => nomatch z⟩
  | [], _ :: _, h => nomatch h
  | _ :: _, [], h => nomatch h
  | a :: us, k :: ks, .cons h t => by
    obtain ⟨zk, e1, e2, e3⟩ := paired_zk t
    obtain ⟨y, ey, hy⟩ := h
    cases ey
    exact ⟨(a, k) :: zk, by rw [List.map_cons, e1], by rw [List.map_cons, e2], fun z hz => by
      rcases List.mem_cons.mp hz with rfl | hz
      · exact hy
      · exact e3 z hz⟩
theorem gs_scene {sc m g : Addr} : valV (recS sc m g) (KX "scene") = some (.ref sc) := by
  unfold valV recS
  rw [List.find?_cons_of_pos (by exact decide_eq_true rfl)]
  rfl
theorem gs_m {sc m g : Addr} : valV (recS sc m g) (KX "m") = some (.ref m) := by
  unfold valV recS
  rw [List.find?_cons_of_neg (by show ¬ decide (KX "scene" = KX "m") = true; decide +kernel), List.find?_cons_of_pos (by exact decide_eq_true rfl)]
  rfl
theorem gs_dealings {sc m g : Addr} : valV (recS sc m g) (KX "dealings") = some (.ref g) := by
  unfold valV recS
  rw [List.find?_cons_of_neg (by show ¬ decide (KX "scene" = KX "dealings") = true; decide +kernel), List.find?_cons_of_neg (by show ¬ decide (KX "m" = KX "dealings") = true; decide +kernel), List.find?_cons_of_pos (by exact decide_eq_true rfl)]
  rfl
theorem ok_law_place_right (T : Txt K mg A) (M : Md P w K A) : FnOk P w K mg base CX0 120 A.a_law_place_right A.d_law_place_right ["bag", "s", "pool"] (spRightE w A.c_Scene A.c_Arrays A.c_Dealings (tabsOf A)) := by
  have G_law_shown := ok_law_shown (P := P) (w := w) (base := base) T
  have G_law_worth := ok_law_worthW (P := P) (w := w) (base := base) T
  have G_law_due := ok_law_due (P := P) (w := w) (base := base) T
  have G_law_said := ok_law_said (P := P) (w := w) (base := base) T M
  have G_Scene_last := ok_Scene_last (P := P) (w := w) (base := base) T
  have G_Scene_place := ok_Scene_place (P := P) (w := w) (base := base) T M
  refine T.F_law_place_right.ok sc_law_place_right (fun vs H Q E h => ?_) (fun cdv Ar outer s H vs Q E hr h => ?_)
  · obtain ⟨b, ss, p, k1, k2, ns, ks, M0, H0, N, k, rfl, _⟩ := h
    rfl
  · obtain ⟨b, ss, p, k1, k2, ns, ks, M0, H0, N, k, rfl, hN, hI, q⟩ := h
    refine ⟨_, (pss_cons (ps_set (i := 3) sc_law_place_right.nd rfl (.inl rfl) (pe_call G_law_shown (hr.mono (by omega)) (by rfl) T.g_law_shown T.F_law_shown.kp T.b_law_shown .nil pass0 (pa_cons (pv 0) (pa_cons (pv 2) pa_nil))))
      (pss_cons (ps_set (i := 4) sc_law_place_right.nd rfl (.inl rfl) (pe_tup (pa_cons pe_str (pa_cons (pe_call G_law_worth (hr.mono (by omega)) (by rfl) T.g_law_worth T.F_law_worth.kp T.b_law_worth .nil pass0 (pa_cons (pv 0) pa_nil)) pa_nil))))
      (pss_cons (ps_set (i := 5) sc_law_place_right.nd rfl (.inl rfl) (pe_lst (pa_cons (pv 3) (pa_cons (pe_op (k_catA K) (pe_slice (k_sl_tup K) (pv 3) po_none (po_some pe_int)) (pe_tup (pa_cons (pe_op op_cat (pe_ix (k_ix_tup K) (pv 3) pe_int (fun _ _ => rfl)) (pe_lst (pa_cons (pe_tup (pa_cons pe_str (pa_cons pe_str pa_nil))) pa_nil))) pa_nil))) pa_nil))))
      (pss_cons (ps_set (i := 6) sc_law_place_right.nd rfl (.inl rfl) (pe_lst (pa_cons (pv 3) (pa_cons (pe_tup (pa_cons pe_str (pa_cons (pv 3) pa_nil))) (pa_cons (pe_tup (pa_cons pe_str (pa_cons (pv 3) (pa_cons (pv 4) pa_nil)))) (pa_cons (pe_tup (pa_cons pe_str (pa_cons (pv 3) pa_nil))) (pa_cons (pe_tup (pa_cons pe_str (pa_cons (pv 3) pa_nil))) pa_nil)))))))
      (pss_cons (ps_set (i := 6) sc_law_place_right.nd rfl (.inl rfl) (pe_op op_cat (pv 6) (pe_lst (pa_cons (pe_tup (pa_cons pe_str (pa_cons (pe_ix (k_ix_list K) (pv 5) pe_int (fun _ _ => rfl)) pa_nil))) (pa_cons (pe_tup (pa_cons pe_str (pa_cons (pe_ix (k_ix_list K) (pv 5) pe_int (fun _ _ => rfl)) pa_nil))) pa_nil)))))
      (pss_cons (ps_for PassesOwn.never rfl (pi_range1 (by rfl) T.n_range (pa_cons (pe_callB (k_len K) (by rfl) T.n_len PySem.boot_len (pa_cons (pv 6) pa_nil)) pa_nil)) (pg_name (i := 7) sc_law_place_right.nd rfl (.inl rfl))
      (pss_cons (ps_set (i := 8) sc_law_place_right.nd rfl (.inl rfl) (pe_call G_law_due (hr.mono (by omega)) (by rfl) T.g_law_due T.F_law_due.kp T.b_law_due .nil pass0 (pa_cons (pe_dget (hu_of hr) (pv 1) pe_str (fun _ _ => rfl)) (pa_cons (pe_ix (k_ix_list K) (pv 6) (pv 7) (fun _ _ => rfl)) pa_nil))))
      (pss_cons (ps_set (i := 9) sc_law_place_right.nd rfl (.inl rfl) (pe_call G_law_said (hr.mono (by omega)) (by rfl) T.g_law_said T.F_law_said.kp T.b_law_said .nil pass0 (pa_cons (pe_dget (hu_of hr) (pv 1) pe_str (fun _ _ => rfl)) (pa_cons (pe_ix (k_ix_list K) (pv 6) (pv 7) (fun _ _ => rfl)) pa_nil))))
      (pss_one (ps_if (PW.pt (pw_or (pt_cmpR (k_neP K hr.units) (pv 9) (pv 8) (nomark _)) (pw_or1 (pt_cmpR (k_neP K hr.units) (pe_meth0 (pe_dget (hu_of hr) (pv 1) pe_str (fun _ _ => rfl)) T.cl_Scene T.M_Scene_last G_Scene_last (hr.mono (by omega)) T.b_Scene_last .nil pass0) (pe_dget (hu_of hr) (pe_dget (hu_of hr) (pv 1) pe_str (fun _ _ => rfl)) pe_str (fun _ _ => rfl)) (nomark _)))))
      (pss_one (ps_ret pe_bl))
      pss_nil)))))
      (pss_cons (ps_for PassesOwn.never rfl (pi_range1 (by rfl) T.n_range (pa_cons pe_int pa_nil)) (pg_name (i := 7) sc_law_place_right.nd rfl (.inl rfl))
      (pss_cons (ps_set (i := 10) sc_law_place_right.nd rfl (.inl rfl) (pe_callTy (k_tuple K) (by rfl) T.n_tuple (by decide +kernel) (pa_cons (pe_lc (own := [("part", 11)]) (g := gName 11) (tt := tYes) rfl sc_law_place_right.nd (k_pi_list K (pe_ix (k_ix_tup K) (pe_ix (k_ix_list K) (pv 5) (pv 7) (fun _ _ => rfl)) pe_int (fun _ _ => rfl))) (blkOk_by (own := [("part", 11)]) (N := N_law_place_right) (sc := defScope s_law_place_right) (by decide +kernel)) (fun _ _ _ _ _ => (pg_name (i := 11) sc_law_place_right.nd rfl (.inl rfl))) (fun _ _ _ _ _ => pts_nil) (fun _ _ _ _ _ => (pe_ix (k_ix_tup K) (pv 11) pe_int (fun _ _ => rfl)))) pa_nil)))
      (pss_cons (ps_set (i := 8) sc_law_place_right.nd rfl (.inl rfl) (pe_tup (pa_cons (pe_cmpR op_eq (pe_ix (k_ix_tup K) (pv 3) pe_int (fun _ _ => rfl)) pe_str (nomark _)) (pa_cons (pe_tup (pa_cons (pe_ix (k_ix_tup K) (pv 3) pe_int (fun _ _ => rfl)) (pa_cons (pv 10) pa_nil))) pa_nil))))
      (pss_one (ps_if (pt_cmpR (k_neP K hr.units) (pe_methN (pe_dget (hu_of hr) (pv 1) pe_str (fun _ _ => rfl)) T.cl_Scene T.M_Scene_place G_Scene_place (hr.mono (by omega)) T.kb_Scene_place__2_empty passL (pa_cons (pe_ix (k_ix_list K) (pv 5) (pv 7) (fun _ _ => rfl)) pa_nil) (pk_cons (pe_cmpR op_eq (pv 7) pe_int (nomark _)) pk_nil)) (pv 8) (nomark _))
      (pss_one (ps_ret pe_bl))
      pss_nil)))))
      (pss_cons (ps_if (pt_cmpR op_eq (pe_ix (k_ix_tup K) (pv 3) pe_int (fun _ _ => rfl)) pe_str (nomark _))
      (pss_one (ps_dput (hu_of hr) (pe_dget (hu_of hr) (pv 1) pe_str (fun _ _ => rfl)) pe_str (pe_tup (pa_cons (pe_ix (k_ix_tup K) (pv 3) pe_int (fun _ _ => rfl)) (pa_cons (pv 10) pa_nil))) rfl))
      pss_nil)
      (pss_one (ps_ret (pe_cmpR (k_eqP K hr.units) (pe_meth0 (pe_dget (hu_of hr) (pv 1) pe_str (fun _ _ => rfl)) T.cl_Scene T.M_Scene_last G_Scene_last (hr.mono (by omega)) T.b_Scene_last .nil pass0) (pe_dget (hu_of hr) (pe_dget (hu_of hr) (pv 1) pe_str (fun _ _ => rfl)) pe_str (fun _ _ => rfl)) (nomark _)))))))))))), ?_⟩
    obtain ⟨v, u, lv, lu, l, X, I⟩ := hI
    have B0 := I.bag
    refine ⟨_, rfl, _, rfl, b, p, k1, k2, ns, ks, N, rfl, by omega, B0, I.pl, fun H1 t kd nm js c1 B1 hkd hnm hj lj hp1 => ?_⟩
    obtain ⟨v1, X1, I1, -, -, -⟩ := I.draw c1 B1
    dsimp only [gName]
    refine ⟨_, rfl, b, _, rfl, by omega, B1, fun H2 x c2 B2 lx hx => ?_⟩
    obtain ⟨v2, X2, I2, -, -, -⟩ := I1.draw c2 B2
    have hp2 := hp1.imp (G := fun a e => ∃ x, e = Ex.is x ∧ IsAt H2 a x) (KeepE.bag B1 c2) fun a e ⟨x, r, h⟩ => ⟨x, r, c2 _ _ (B1.neT h) h⟩
    clear hp1 I I1 B0
    obtain ⟨ls, us, et, el, hpr⟩ := hp2
    have et : H2 t = some (.tup [.str kd.t, .str nm, .ref ls]) := by
      cases kd with
      | short => exact absurd rfl hkd
      | var => exact et
      | «at» => exact et
    have lus : us.length = js.length := by
      have := Paired.length hpr
      unfold IsK at this
      rwa [List.length_map] at this
    refine ⟨Evl.sz_of (by show 2 ≤ 100000; decide), fun o1 ho1 => ?_⟩
    have s3 : Same H2 (upd H2 o1 (.tup [.str (Str.ofString "is"), .str x])) := same_new ho1
    have eo1 : upd H2 o1 (.tup [.str (Str.ofString "is"), .str x]) o1 = some (.tup [.str (Str.ofString "is"), .str x]) := upd_same
    dsimp only [gName]
    generalize upd H2 o1 (.tup [.str (Str.ofString "is"), .str x]) = H3 at s3 eo1 ⊢
    refine ⟨_, rfl, _, rfl, ?_⟩
    dsimp only [tNoPart]
    refine ⟨2, rfl, ?_⟩
    refine rd_takeT (n := 2) (.inl (.inl (s3 _ _ et))) fun pt H4 s4 ept => ?_
    have s34 := s3.trans s4
    refine ⟨_, rfl, t, _, 2, .ref ls, rfl, rfl, .inl (.inl (s34 _ _ et)), atI_nat (j := 2) rfl, Evl.sz_of (by show 2 ≤ 100000; decide), fun e0 he0 => ?_⟩
    have s5 : Same H4 (upd H4 e0 (.tup [.str (Str.ofString "is"), .str (Str.ofString "")])) := same_new he0
    have ee0 : upd H4 e0 (.tup [.str (Str.ofString "is"), .str (Str.ofString "")]) e0 = some (.tup [.str (Str.ofString "is"), .str (Str.ofString "")]) := upd_same
    generalize upd H4 e0 (.tup [.str (Str.ofString "is"), .str (Str.ofString "")]) = H5 at s5 ee0 ⊢
    refine ⟨Evl.sz_of (by show 1 ≤ 100000; decide), fun l5 hl5 => ?_⟩
    have s6 : Same H5 (upd H5 l5 (.lst [.ref e0])) := same_new hl5
    have el5 : upd H5 l5 (.lst [.ref e0]) l5 = some (.lst [.ref e0]) := upd_same
    generalize upd H5 l5 (.lst [.ref e0]) = H6 at s6 el5 ⊢
    have s36 := s34.trans (s5.trans s6)
    refine ⟨ls, l5, _, _, rfl, rfl, s36 _ _ el, el5, by rw [List.length_map]; exact Evl.sz_of (by show us.length + 1 ≤ 100000; omega), fun ls2 hls2 => ?_⟩
    have s7 : Same H6 (upd H6 ls2 (.lst (us.map V.ref ++ [.ref e0]))) := same_new hls2
    have els2 : upd H6 ls2 (.lst (us.map V.ref ++ [.ref e0])) ls2 = some (.lst ((us ++ [e0]).map V.ref)) := by rw [upd_same, List.map_append]; rfl
    generalize upd H6 ls2 (.lst (us.map V.ref ++ [.ref e0])) = H7 at s7 els2 ⊢
    refine ⟨Evl.sz_of (by show 1 ≤ 100000; decide), fun p8 hp8 => ?_⟩
    have s8 : Same H7 (upd H7 p8 (.tup [.ref ls2])) := same_new hp8
    have ep8 : upd H7 p8 (.tup [.ref ls2]) p8 = some (.tup [.ref ls2]) := upd_same
    generalize upd H7 p8 (.tup [.ref ls2]) = H8 at s8 ep8 ⊢
    have s48 := (s5.trans s6).trans (s7.trans s8)
    have ept8 : SqT K H8 pt [.str kd.t, .str nm] := by
      rcases ept with (q1 | ⟨o, q2⟩) | q3
      · exact .inl (.inl (s48 _ _ q1))
      · exact .inl (.inr ⟨o, s48 _ _ q2⟩)
      · exact .inr q3
    refine ⟨pt, p8, _, _, rfl, rfl, ept8, .inl (.inl ep8), Evl.sz_of (by show 3 ≤ 100000; decide), (fun z => nomatch z), (fun _ z => nomatch z), fun _ _ t2 ht2 => ?_⟩
    have s9 : Same H8 (upd H8 t2 (.tup [.str kd.t, .str nm, .ref ls2])) := same_new ht2
    have et2 : upd H8 t2 (.tup [.str kd.t, .str nm, .ref ls2]) t2 = some (.tup [.str kd.t, .str nm, .ref ls2]) := upd_same
    show tNil _ (upd H8 t2 (.tup [.str kd.t, .str nm, .ref ls2])) _
    generalize upd H8 t2 (.tup [.str kd.t, .str nm, .ref ls2]) = H9 at s9 et2 ⊢
    refine ⟨Evl.sz_of (by show 2 ≤ 100000; decide), fun eE heE => ?_⟩
    have s10 : Same H9 (upd H9 eE (.lst [.ref t, .ref t2])) := same_new heE
    have eeE : upd H9 eE (.lst [.ref t, .ref t2]) eE = some (.lst ([t, t2].map V.ref)) := upd_same
    dsimp only [gName]
    generalize upd H9 eE (.lst [.ref t, .ref t2]) = H10 at s10 eeE ⊢
    have s210 : Same H2 H10 := s36.trans ((s7.trans s8).trans (s9.trans s10))
    -- what is asked
    refine ⟨_, rfl, _, rfl, Evl.sz_of (by show 2 ≤ 100000; decide), fun a1 ha1 => ?_⟩
    have s11 : Same H10 (upd H10 a1 (.tup [.str (Str.ofString "data"), .ref t])) := same_new ha1
    have ea1 : upd H10 a1 (.tup [.str (Str.ofString "data"), .ref t]) a1 = some (.tup [.str (Str.ofString "data"), .ref t]) := upd_same
    dsimp only
    generalize upd H10 a1 (.tup [.str (Str.ofString "data"), .ref t]) = H11 at s11 ea1 ⊢
    refine ⟨_, rfl, _, rfl, Evl.sz_of (by show 3 ≤ 100000; decide), fun a2 ha2 => ?_⟩
    have s12 : Same H11 (upd H11 a2 (.tup [.str (Str.ofString "other"), .ref t, .ref o1])) := same_new ha2
    have ea2 : upd H11 a2 (.tup [.str (Str.ofString "other"), .ref t, .ref o1]) a2 = some (.tup [.str (Str.ofString "other"), .ref t, .ref o1]) := upd_same
    dsimp only
    generalize upd H11 a2 (.tup [.str (Str.ofString "other"), .ref t, .ref o1]) = H12 at s12 ea2 ⊢
    refine ⟨_, rfl, Evl.sz_of (by show 2 ≤ 100000; decide), fun a3 ha3 => ?_⟩
    have s13 : Same H12 (upd H12 a3 (.tup [.str (Str.ofString "order"), .ref t])) := same_new ha3
    have ea3 : upd H12 a3 (.tup [.str (Str.ofString "order"), .ref t]) a3 = some (.tup [.str (Str.ofString "order"), .ref t]) := upd_same
    dsimp only
    generalize upd H12 a3 (.tup [.str (Str.ofString "order"), .ref t]) = H13 at s13 ea3 ⊢
    refine ⟨_, rfl, Evl.sz_of (by show 2 ≤ 100000; decide), fun a4 ha4 => ?_⟩
    have s14 : Same H13 (upd H13 a4 (.tup [.str (Str.ofString "back"), .ref t])) := same_new ha4
    have ea4 : upd H13 a4 (.tup [.str (Str.ofString "back"), .ref t]) a4 = some (.tup [.str (Str.ofString "back"), .ref t]) := upd_same
    dsimp only [tNil]
    generalize upd H13 a4 (.tup [.str (Str.ofString "back"), .ref t]) = H14 at s14 ea4 ⊢
    refine ⟨Evl.sz_of (by show 5 ≤ 100000; decide), fun l15 hl15 => ?_⟩
    have s15 : Same H14 (upd H14 l15 (.lst ([t, a1, a2, a3, a4].map V.ref))) := same_new hl15
    have el15 : upd H14 l15 (.lst ([t, a1, a2, a3, a4].map V.ref)) l15 = some (.lst ([t, a1, a2, a3, a4].map V.ref)) := upd_same
    show gName 6 (V.ref l15) _ (upd H14 l15 (.lst ([t, a1, a2, a3, a4].map V.ref))) _
    generalize upd H14 l15 (.lst ([t, a1, a2, a3, a4].map V.ref)) = H15 at s15 el15 ⊢
    have s1015 : Same H10 H15 := (s11.trans s12).trans ((s13.trans s14).trans s15)
    dsimp only [gName]
    refine ⟨_, rfl, _, rfl, eE, _, _, .ref t2, rfl, rfl, .inl (.inl (s1015 _ _ eeE)), atI_nat (j := 1) rfl, Evl.sz_of (by show 2 ≤ 100000; decide), fun a5 ha5 => ?_⟩
    have s16 : Same H15 (upd H15 a5 (.tup [.str (Str.ofString "order"), .ref t2])) := same_new ha5
    have ea5 : upd H15 a5 (.tup [.str (Str.ofString "order"), .ref t2]) a5 = some (.tup [.str (Str.ofString "order"), .ref t2]) := upd_same
    dsimp only
    generalize upd H15 a5 (.tup [.str (Str.ofString "order"), .ref t2]) = H16 at s16 ea5 ⊢
    refine ⟨_, rfl, eE, _, _, .ref t2, rfl, rfl, .inl (.inl (s16 _ _ (s1015 _ _ eeE))), atI_nat (j := 1) rfl, Evl.sz_of (by show 2 ≤ 100000; decide), fun a6 ha6 => ?_⟩
    have s17 : Same H16 (upd H16 a6 (.tup [.str (Str.ofString "back"), .ref t2])) := same_new ha6
    have ea6 : upd H16 a6 (.tup [.str (Str.ofString "back"), .ref t2]) a6 = some (.tup [.str (Str.ofString "back"), .ref t2]) := upd_same
    dsimp only [tNil]
    generalize upd H16 a6 (.tup [.str (Str.ofString "back"), .ref t2]) = H17 at s17 ea6 ⊢
    refine ⟨Evl.sz_of (by show 2 ≤ 100000; decide), fun l18 hl18 => ?_⟩
    have s18 : Same H17 (upd H17 l18 (.lst ([a5, a6].map V.ref))) := same_new hl18
    have el18 : upd H17 l18 (.lst ([a5, a6].map V.ref)) l18 = some (.lst ([a5, a6].map V.ref)) := upd_same
    show rCat (.ref l15) (.ref l18) (upd H17 l18 (.lst ([a5, a6].map V.ref))) _
    generalize upd H17 l18 (.lst ([a5, a6].map V.ref)) = H18 at s18 el18 ⊢
    have s1518 := s16.trans (s17.trans s18)
    refine ⟨l15, l18, _, _, rfl, rfl, s1518 _ _ el15, el18, Evl.sz_of (by show 7 ≤ 100000; decide), fun S hS => ?_⟩
    have s19 : Same H18 (upd H18 S (.lst ([t, a1, a2, a3, a4, a5, a6].map V.ref))) := same_new hS
    have eS : upd H18 S (.lst ([t, a1, a2, a3, a4, a5, a6].map V.ref)) S = some (.lst ([t, a1, a2, a3, a4, a5, a6].map V.ref)) := upd_same
    show gName 6 (V.ref S) _ (upd H18 S (.lst ([t, a1, a2, a3, a4, a5, a6].map V.ref))) _
    generalize upd H18 S (.lst ([t, a1, a2, a3, a4, a5, a6].map V.ref)) = H19 at s19 eS ⊢
    dsimp only [gName]
    have s219 : Same H2 H19 := s210.trans (s1015.trans (s1518.trans s19))
    have I19 := I2.same s219
    have hP1 : PlG (ExAt H19 11) H19 t kd nm (IsK js) := by
      refine ⟨ls, us, ?_, s219 _ _ el, L2.Paired.mapP hpr fun a e h => ?_⟩
      · rw [s219 _ _ et]
        cases kd with
        | short => exact absurd rfl hkd
        | var => rfl
        | «at» => rfl
      · obtain ⟨y, rfl, h⟩ := h
        exact s219 _ _ h
    have s519 : Same H5 H19 := s6.trans ((s7.trans (s8.trans (s9.trans s10))).trans (s1015.trans (s1518.trans s19)))
    have hP2 : PlG (ExAt H19 11) H19 t2 kd nm (IsK (js ++ [Str.ofString ""])) := by
      refine ⟨ls2, us ++ [e0], ?_, ((s8.trans (s9.trans s10)).trans (s1015.trans (s1518.trans s19))) _ _ els2, ?_⟩
      · rw [(s10.trans (s1015.trans (s1518.trans s19))) _ _ et2]
        cases kd with
        | short => exact absurd rfl hkd
        | var => rfl
        | «at» => rfl
      · unfold IsK
        rw [List.map_append]
        refine Paired.snoc (L2.Paired.mapP hpr fun a e h => ?_) (s519 _ _ ee0)
        obtain ⟨y, rfl, h⟩ := h
        exact s219 _ _ h
    have pr1 : Paired (fun a e => ∃ y, e = Ex.is y ∧ IsAt H19 a y) us (IsK js) := L2.Paired.mapP hpr fun a e h => by
      obtain ⟨y, rfl, h⟩ := h
      exact ⟨y, rfl, s219 _ _ h⟩
    have pr2 : Paired (fun a e => ∃ y, e = Ex.is y ∧ IsAt H19 a y) (us ++ [e0]) (IsK (js ++ [Str.ofString ""])) := by
      unfold IsK
      rw [List.map_append]
      exact Paired.snoc pr1 ⟨_, rfl, s519 _ _ ee0⟩
    have hrow : ∀ i : Nat, i < 2 → ∃ (ti lsi : Addr) (usi : List Addr) (ki : List Str), [t, t2][i]? = some ti ∧ H19 ti = some (.tup [.str kd.t, .str nm, .ref lsi]) ∧ H19 lsi = some (.lst (usi.map V.ref)) ∧ Paired (fun a e => ∃ y, e = Ex.is y ∧ IsAt H19 a y) usi (IsK ki) ∧ (∀ k ∈ ki, WorthS k ∧ k.length ≤ 2000) ∧ ki.length ≤ 4 ∧ (∀ l, plK (decide ((i : Int) = 1)) kd nm ki l = (.ok (nm, ki), if kd = .var then l else lastOf (nm, ki))) ∧ (i = 1 → ki = js ++ [Str.ofString ""]) := fun i hi => by
      have : i = 0 ∨ i = 1 := by omega
      rcases this with rfl | rfl
      · exact ⟨t, ls, us, js, rfl, s219 _ _ et, s219 _ _ el, pr1, fun k hk => key_txt (hj k hk), by omega, fun l => (pl_shown (em := false) hkd hj lj).1, fun z => by omega⟩
      · refine ⟨t2, ls2, us ++ [e0], js ++ [Str.ofString ""], rfl, (s10.trans (s1015.trans (s1518.trans s19))) _ _ et2, ((s8.trans (s9.trans s10)).trans (s1015.trans (s1518.trans s19))) _ _ els2, pr2, fun k hk => ?_, by rw [List.length_append, List.length_singleton]; omega, fun l => (pl_shown (em := true) hkd hj lj).2, fun _ => rfl⟩
        rcases List.mem_append.mp hk with hk | hk
        · exact key_txt (hj k hk)
        · rw [List.mem_singleton.mp hk]; exact ⟨by decide +kernel, by decide +kernel⟩
    have hxs : Paired (ExAt H19 fuelN) [t, a1, a2, a3, a4, a5, a6] (exs35 kd nm js x) := .cons hP1 (.cons ⟨t, ((s12.trans s13).trans (s14.trans s15)).trans (s1518.trans s19) _ _ ea1, hP1⟩ (.cons ⟨t, o1, (s13.trans (s14.trans s15)).trans (s1518.trans s19) _ _ ea2, hP1, (((s4.trans s5).trans s519) _ _ eo1)⟩ (.cons ⟨t, (s14.trans s15).trans (s1518.trans s19) _ _ ea3, hP1⟩ (.cons ⟨t, s15.trans (s1518.trans s19) _ _ ea4, hP1⟩ (.cons ⟨t2, (s17.trans s18).trans s19 _ _ ea5, hP2⟩ (.cons ⟨t2, s18.trans s19 _ _ ea6, hP2⟩ .nil))))))
    have eE19 : H19 eE = some (.lst ([t, t2].map V.ref)) := (s1015.trans (s1518.trans s19)) _ _ eeE
    have et19 : H19 t = some (.tup [.str kd.t, .str nm, .ref ls]) := s219 _ _ et
    have eS19 := eS
    have hgs := exg35 (n := 10) (kd := kd) (x := x) hnm hj lj hx (by omega)
    clear I2 s3 s4 s5 s6 s7 s8 s9 s10 s11 s12 s13 s14 s15 s16 s17 s18 s19
    -- asked one by one
    refine seq_abs (fun σ' H' => KeepE H19 H' ∧ (∃ v lv lu l X, Inv35 w A.c_Scene A.c_Arrays A.c_Dealings (tabsOf A) b ss p k1 k2 ns ks M0 H0 (N + 100 + 4010) k H' v u lv lu l l X) ∧ ∃ y7 y8 y9 y10 y11, σ' = [some (.ref b), some (.ref ss), some (.ref p), some (.ref t), some (.ref o1), some (.ref eE), some (.ref S), y7, y8, y9, y10, y11]) (fun Nn hNn => ?_) ?_
    · refine ⟨_, rfl, S, _, rfl, .inl (.inl (.inl eS19)), 7, rfl, by decide, by decide, ?_⟩
      refine for_range (lo := 0) (n := 7) (D := ({ nx := Nn, rt := Q } : L2.Ends)) (fun i σ' H' => KeepE H19 H' ∧ (∃ v lv lu l X, Inv35 w A.c_Scene A.c_Arrays A.c_Dealings (tabsOf A) b ss p k1 k2 ns ks M0 H0 (N + 100 + 4010) k H' v u lv lu l l X) ∧ ∃ y7 y8 y9 y10 y11, σ' = [some (.ref b), some (.ref ss), some (.ref p), some (.ref t), some (.ref o1), some (.ref eE), some (.ref S), y7, y8, y9, y10, y11]) ⟨.refl _, ⟨_, _, _, _, _, I19⟩, _, _, _, _, _, rfl⟩ ?_ (fun σ' H' h => hNn _ _ h)
      rintro i σ H20 hi ⟨k20, ⟨v, lv, lu, l, X, I⟩, y7, y8, y9, y10, y11, rfl⟩
      obtain ⟨a, ha⟩ : ∃ a, [t, a1, a2, a3, a4, a5, a6][i]? = some a := ⟨_, List.getElem?_eq_getElem (by show i < 7; exact hi)⟩
      obtain ⟨e, he, hxe⟩ := pairedAt hxs ha
      have me : e ∈ exs35 kd nm js x := List.mem_of_getElem? he
      have hx20 := hxe.keep k20
      obtain ⟨r, l', hev⟩ := ev_some (eo := u.eo) (es := u.es) (n := 10) me l
      have ata : atI ([t, a1, a2, a3, a4, a5, a6].map V.ref) (0 + (i : Int)) = some (.ref a) := by
        rw [Int.zero_add]
        exact atI_nat (by rw [List.getElem?_map, ha]; rfl)
      have ess20 := I.st.ess
      rw [I.ss] at ess20
      have eS20 := k20 _ _ eS19 (.inr ⟨_, rfl⟩)
      dsimp only [gName]
      refine seq_abs (fun σ' H' => ∃ lu1 dv, Chg u.m H20 H' ∧ LwS w H' u lu1 (lr r l l') ∧ ResW H' dv r ∧ σ' = [some (.ref b), some (.ref ss), some (.ref p), some (.ref t), some (.ref o1), some (.ref eE), some (.ref S), some (.int (0 + (i : Int))), some dv, y9, y10, y11]) (fun Nn hNn => ?_) ?_
      · exact ⟨_, rfl, ss, _, rfl, .inl ⟨_, KX "m", .inl ess20, rfl, gs_m.symm⟩, _, rfl, _, rfl, S, _, _, .ref a, rfl, rfl, .inl (.inl eS20), ata, u, lu, l, l', a, e, r, rfl, I.st.lw, hx20, hgs e me, hev, fun y ey H21 lu1 c hv => hNn _ _ ⟨lu1, _, c, by rw [ey]; exact hv, .inl ⟨y, ey, rfl⟩, rfl⟩, fun wd ew H21 lu1 p1 c hv ep => hNn _ _ ⟨lu1, _, c, by rw [ew]; exact hv, .inr ⟨wd, p1, ew, rfl, ep⟩, rfl⟩⟩
      rintro σ H21 ⟨lu1, dv, c21, lw21, rw21, rfl⟩
      have I21 := I.law c21 lw21
      have k21 := keep_m I.st.lw c21
      have ess21 := I21.st.ess
      rw [I21.ss] at ess21
      refine seq_abs (fun σ' H' => ∃ lv1 fv, Chg v.sc H21 H' ∧ VwS w A.c_Scene A.c_Arrays A.c_Dealings H' { v with R := rest35 w A.c_Arrays v u lu1 X } lv1 (lr r l l') ∧ ResW H' fv r ∧ σ' = [some (.ref b), some (.ref ss), some (.ref p), some (.ref t), some (.ref o1), some (.ref eE), some (.ref S), some (.int (0 + (i : Int))), some dv, some fv, y10, y11]) (fun Nn hNn => ?_) ?_
      · exact ⟨_, rfl, ss, _, rfl, .inl ⟨_, KX "scene", .inl ess21, rfl, gs_scene.symm⟩, _, rfl, _, rfl, S, _, _, .ref a, rfl, rfl, .inl (.inl (k21 _ _ eS20 (.inr ⟨_, rfl⟩))), ata, { v with R := rest35 w A.c_Arrays v u lu1 X }, lv, l, l', a, e, r, rfl, I21.st.vw, hx20.keep k21, hgs e me, by rw [I21.st.ev]; exact hev, fun y ey H22 lv1 c hv => hNn _ _ ⟨lv1, _, c, by rw [ey]; exact hv, .inl ⟨y, ey, rfl⟩, rfl⟩, fun wd ew H22 lv1 p1 c hv ep => hNn _ _ ⟨lv1, _, c, by rw [ew]; exact hv, .inr ⟨wd, p1, ew, rfl, ep⟩, rfl⟩⟩
      rintro σ H22 ⟨lv1, fv, c22, vw22, rw22, rfl⟩
      have I22 := I21.scene c22 vw22
      have k22 := keep_sc I21.st.vw c22
      have ess22 := I22.st.ess
      rw [I22.ss] at ess22
      obtain ⟨hpl, hdp⟩ := resW_ok r
      obtain ⟨hpl2, hdp2⟩ := lastP_ok (lr r l l')
      refine ⟨_, rfl, _, rfl, rd_sameNe rw22.dp (rw21.keep k22).dp hpl hdp ⟨_, rfl, iteF ?_⟩⟩
      refine ⟨_, rfl, ss, _, rfl, .inl ⟨_, KX "scene", .inl ess22, rfl, gs_scene.symm⟩, v.sc, _, _, rfl, vw22.at, rfl, { v with R := rest35 w A.c_Arrays v u lu1 X }, lv1, lr r l l', rfl, vw22, ?_⟩
      refine ⟨_, rfl, ss, _, rfl, .inl ⟨_, KX "m", .inl ess22, rfl, gs_m.symm⟩, u.m, _, rfl, .inl ⟨_, KX "last", .inl I22.st.lw.em, rfl, gx_last.symm⟩, rd_sameNe (dp_last vw22.la) (dp_last I22.st.lw.la) hpl2 hdp2 ⟨_, rfl, iteF ?_⟩⟩
      exact ⟨k20.trans (k21.trans k22), ⟨_, _, _, _, _, I22⟩, _, _, _, _, _, rfl⟩
    rintro σ H20 ⟨k20, ⟨v, lv, lu, l, X, I⟩, y7, y8, y9, y10, y11, rfl⟩
    -- place
    refine seq_abs (fun σ' H' => KeepE H19 H' ∧ (∃ v lv ls X, Inv35 w A.c_Scene A.c_Arrays A.c_Dealings (tabsOf A) b ss p k1 k2 ns ks M0 H0 (N + 100 + 4010) k H' v u lv lu ls l X ∧ (kd = .var → ls = l) ∧ (kd ≠ .var → ls = lastOf (nm, js ++ [Str.ofString ""]))) ∧ ∃ y7 y8 y9 row y11, H' row = some (.tup ((js ++ [Str.ofString ""]).map V.str)) ∧ σ' = [some (.ref b), some (.ref ss), some (.ref p), some (.ref t), some (.ref o1), some (.ref eE), some (.ref S), y7, y8, y9, some (.ref row), y11]) (fun Nn hNn => ?_) ?_
    · refine ⟨2, rfl, by decide, by decide, ?_⟩
      refine for_range (lo := 0) (n := 2) (D := ({ nx := Nn, rt := Q } : L2.Ends)) (fun i σ' H' => KeepE H19 H' ∧ (∃ v lv ls X, Inv35 w A.c_Scene A.c_Arrays A.c_Dealings (tabsOf A) b ss p k1 k2 ns ks M0 H0 (N + 100 + 4010) k H' v u lv lu ls l X ∧ (kd = .var → ls = l) ∧ (i = 2 → kd ≠ .var → ls = lastOf (nm, js ++ [Str.ofString ""]))) ∧ ∃ y7 y8 y9 y10 y11, (i = 2 → ∃ row, y10 = some (.ref row) ∧ H' row = some (.tup ((js ++ [Str.ofString ""]).map V.str))) ∧ σ' = [some (.ref b), some (.ref ss), some (.ref p), some (.ref t), some (.ref o1), some (.ref eE), some (.ref S), y7, y8, y9, y10, y11]) ⟨k20, ⟨_, _, _, _, I, fun _ => rfl, fun z => by omega⟩, _, _, _, _, _, fun z => by omega, rfl⟩ ?_ ?_
      · rintro i σ H21 hi ⟨k21, ⟨v, lv, l1, X, I, hv1, -⟩, y7, y8, y9, y10, y11, -, rfl⟩
        obtain ⟨ti, lsi, usi, ki, hti, eti, elsi, pri, wki, lki, hpl, hki⟩ := hrow i hi
        obtain ⟨zk, z1, z2, z3⟩ := paired_zk pri
        have eE21 := k21 _ _ eE19 (.inr ⟨_, rfl⟩)
        have eti21 := k21 _ _ eti (.inl ⟨_, rfl⟩)
        have elsi21 := k21 _ _ elsi (.inr ⟨_, rfl⟩)
        have et21 := k21 _ _ et19 (.inl ⟨_, rfl⟩)
        have ati : atI ([t, t2].map V.ref) (0 + (i : Int)) = some (.ref ti) := by
          rw [Int.zero_add]
          exact atI_nat (by rw [List.getElem?_map, hti]; rfl)
        dsimp only [gName]
        refine seq_abs (fun σ' H' => Same H21 H' ∧ ∃ row y11, H' row = some (.tup (ki.map V.str)) ∧ σ' = [some (.ref b), some (.ref ss), some (.ref p), some (.ref t), some (.ref o1), some (.ref eE), some (.ref S), some (.int (0 + (i : Int))), y8, y9, some (.ref row), y11]) (fun Nn hNn => ?_) ?_
        · refine ⟨_, rfl, _, rfl, eE, _, _, .ref ti, rfl, rfl, .inl (.inl eE21), ati, ti, _, 2, .ref lsi, rfl, rfl, .inl (.inl eti21), atI_nat (j := 2) rfl, lsi, rfl, ⟨_, .inl (.inl elsi21)⟩, fun D hD => ?_⟩
          have ezk : usi.map V.ref = zk.map fun e => V.ref e.1 := by rw [← z1, List.map_map]; rfl
          rw [ezk] at elsi21
          have lzk : zk.length = ki.length := by rw [← z2, List.length_map]
          refine lc_gen (walk_itl (its := zk) fun e => V.ref e.1) (fun _ => true) (fun _ e y => y = .str e.2) (fr_same hD) (fun _ h => h) (fun _ h => h) (by omega) (fun H4 s4 => .inl (.inl (s4 _ _ elsi21))) (fun e H3 x H4 ⟨e4, _⟩ => by rw [e4]; exact .refl _) ?_ ?_
          · rintro z H0 v H4 hz s4 ⟨rfl, rfl⟩ R S hR hS'
            refine ⟨rfl, ?_⟩
            dsimp only [tYes]
            rw [if_pos rfl]
            exact ⟨_, rfl, z.1, _, 1, .str z.2, rfl, rfl, .inl (.inl (s4 _ _ (k21 _ _ (z3 z hz) (.inl ⟨_, rfl⟩)))), atI_nat (j := 1) rfl, hR _ _ rfl (.refl _) rfl⟩
          · intro H4 ys s4 e4 p4
            rw [List.filter_eq_self.mpr fun _ _ => rfl] at p4
            have ez : ys = ki.map V.str := by rw [← z2, List.map_map]; exact paired_fn p4
            rw [ez] at e4
            exact ⟨D, _, rfl, .inl ⟨.inl (.inl e4), fun row hrow => hNn _ _ ⟨s4.trans (same_new hrow), row, _, upd_same, rfl⟩⟩⟩
        rintro σ H22 ⟨s22, row, y11, erow, rfl⟩
        refine seq_abs (fun σ' H' => Same H22 H' ∧ ∃ dv, Dp K H' (.ref dv) (.tuple [.bool (decide (kd = .var)), refD nm ki]) ∧ (∀ H2, KeepE H' H2 → Dp K H2 (.ref dv) (.tuple [.bool (decide (kd = .var)), refD nm ki])) ∧ σ' = [some (.ref b), some (.ref ss), some (.ref p), some (.ref t), some (.ref o1), some (.ref eE), some (.ref S), some (.int (0 + (i : Int))), some (.ref dv), y9, some (.ref row), y11]) (fun Nn hNn => ?_) ?_
        · refine ⟨_, rfl, t, _, 0, .str kd.t, rfl, rfl, .inl (.inl (s22 _ _ et21)), atI_nat (j := 0) rfl, rfl, _, rfl, t, _, 1, .str nm, rfl, rfl, .inl (.inl (s22 _ _ et21)), atI_nat (j := 1) rfl, _, rfl, Evl.sz_of (by show 2 ≤ 100000; decide), fun q1 hq1 => ⟨Evl.sz_of (by show 2 ≤ 100000; decide), fun dv hdv => ?_⟩⟩
          have eb : decide (V.str kd.t = V.str (Str.ofString "var")) = decide (kd = PK.var) := by rw [show Str.ofString "var" = PK.var.t from rfl, kt_dec]
          rw [eb]
          have sa : Same H22 (upd H22 q1 (.tup [.str nm, .ref row])) := same_new hq1
          have eq1 : upd H22 q1 (.tup [.str nm, .ref row]) q1 = some (.tup [.str nm, .ref row]) := upd_same
          generalize upd H22 q1 (.tup [.str nm, .ref row]) = Ha at sa eq1 hdv ⊢
          have sb : Same Ha (upd Ha dv (.tup [.bl (decide (kd = PK.var)), .ref q1])) := same_new hdv
          have edv : upd Ha dv (.tup [.bl (decide (kd = PK.var)), .ref q1]) dv = some (.tup [.bl (decide (kd = PK.var)), .ref q1]) := upd_same
          have dpd : ∀ H2 : Hp, H2 dv = some (.tup [.bl (decide (kd = PK.var)), .ref q1]) → H2 q1 = some (.tup [.str nm, .ref row]) → H2 row = some (.tup (ki.map V.str)) → Dp K H2 (.ref dv) (.tuple [.bool (decide (kd = .var)), refD nm ki]) := fun H2 f1 f2 f3 => .tup (.inl (.inl f1)) (.cons (.bl _) (.cons (.tup (.inl (.inl f2)) (.cons (.str nm) (.cons (.tup (.inl (.inl f3)) (dpa_strs ki)) .nil))) .nil))
          have g2 := sb _ _ eq1
          have g3 := sb _ _ (sa _ _ erow)
          exact hNn _ _ ⟨sa.trans sb, dv, dpd _ edv g2 g3, fun H2 kk => dpd _ (kk _ _ edv (.inl ⟨_, rfl⟩)) (kk _ _ g2 (.inl ⟨_, rfl⟩)) (kk _ _ g3 (.inl ⟨_, rfl⟩)), rfl⟩
        rintro σ H23 ⟨s23, dv, ddv, kdv, rfl⟩
        have s2123 := s22.trans s23
        have I23 := I.same s2123
        have ess23 := I23.st.ess
        rw [I23.ss] at ess23
        have eb : decide (V.int (0 + (i : Int)) = V.int 1) = decide ((i : Int) = 1) := decide_eq_decide.mpr ⟨fun z => by injection z with z; omega, fun z => by rw [z]; rfl⟩
        have hPl : PlG (ExAt H23 fuelN) H23 ti kd nm (IsK ki) := by
          refine ⟨lsi, usi, ?_, s2123 _ _ elsi21, L2.Paired.mapP pri fun a e h => ?_⟩
          · rw [s2123 _ _ eti21]
            cases kd with
            | short => exact absurd rfl hkd
            | var => rfl
            | «at» => rfl
          · obtain ⟨y, rfl, h⟩ := h
            exact s2123 _ _ (k21 _ _ h (.inl ⟨_, rfl⟩))
        refine ⟨_, rfl, ss, _, rfl, .inl ⟨_, KX "scene", .inl ess23, rfl, gs_scene.symm⟩, v.sc, _, _, rfl, I23.st.vw.at, rfl, _, rfl, _, rfl, eE, _, _, .ref ti, rfl, rfl, .inl (.inl (s2123 _ _ eE21)), ati, _, rfl, rfl, rfl, rfl, v, lv, l1, if kd = .var then l1 else lastOf (nm, ki), ti, decide (V.int (0 + (i : Int)) = V.int 1), kd, nm, IsK ki, .ok (nm, ki), rfl, I23.st.vw, hPl, (fun _ => hnm), by unfold IsK; rw [List.length_map]; omega, exg_isk (n := 11) wki, by rw [evP_is (n := 11), eb, hpl], fun rf erf H24 lv2 p1 a c24 vw24 ep hR => ?_, fun wd ewd => nomatch ewd⟩
        cases erf
        have I24 := I23.scene c24 vw24
        have k24 := keep_sc I23.st.vw c24
        have hpd : (PyData.tuple [.bool (decide (kd = .var)), refD nm ki]).plain = true ∧ (PyData.tuple [.bool (decide (kd = .var)), refD nm ki]).depth ≤ 64 :=
          ⟨PySem.W.Datum.plain ((decide (kd = .var), (nm, PySem.W.Tup.mk ki)) : Bool × Str × PySem.W.Tup Str), Nat.le_trans (PySem.W.Datum.depth_le ((decide (kd = .var), (nm, PySem.W.Tup.mk ki)) : Bool × Str × PySem.W.Tup Str)) (by decide)⟩
        refine ⟨_, rfl, rd_sameNe (.tup (.inl (.inl ep)) (.cons (.bl _) (.cons (dp_ref hR) .nil))) (kdv _ k24) hpd.1 hpd.2 ⟨_, rfl, iteF ?_⟩⟩
        refine ⟨(k21.trans (.same s2123)).trans k24, ⟨v, lv2, _, X, I24, fun z => by rw [if_pos z]; exact hv1 z, fun z zz => by rw [if_neg zz, hki (by omega)]⟩, _, _, _, _, _, fun z => ⟨row, rfl, ?_⟩, rfl⟩
        rw [← hki (by omega)]
        exact k24 _ _ (s23 _ _ erow) (.inl ⟨_, rfl⟩)
      · rintro σ' H' ⟨k21, ⟨v, lv, l1, X, I, hv1, hv2⟩, y7, y8, y9, y10, y11, h10, rfl⟩
        obtain ⟨row, rfl, erow⟩ := h10 rfl
        exact hNn _ _ ⟨k21, ⟨v, lv, l1, X, I, hv1, hv2 rfl⟩, y7, y8, y9, row, y11, erow, rfl⟩
    rintro σ H21 ⟨k21, ⟨v, lv, l1, X, I, hv1, hv2⟩, y7, y8, y9, row, y11, erow, rfl⟩
    have et21 := k21 _ _ et19 (.inl ⟨_, rfl⟩)
    refine seq_abs (fun σ' H' => ∃ v lv lu ls X, Inv35 w A.c_Scene A.c_Arrays A.c_Dealings (tabsOf A) b ss p k1 k2 ns ks M0 H0 (N + 100 + 4010) k H' v u lv lu ls ls X ∧ ∃ y3 y4 y5 y6 y7 y8 y9 y10 y11, σ' = [some (.ref b), some (.ref ss), some (.ref p), y3, y4, y5, y6, y7, y8, y9, y10, y11]) (fun Nn hNn => ?_) ?_
    · refine ⟨_, rfl, t, _, 0, .str kd.t, rfl, rfl, .inl (.inl et21), atI_nat (j := 0) rfl, rfl, _, rfl, ?_⟩
      by_cases hvr : kd = .var
      · have e1 := hv1 hvr
        subst e1
        refine iteF' (ones_ne (show kd.t ≠ Str.ofString "at" by rw [hvr]; decide +kernel)) (hNn _ _ ⟨v, lv, lu, _, X, I, _, _, _, _, _, _, _, _, _, rfl⟩)
      · have hat : kd = .at := by
          cases kd with
          | short => exact absurd rfl hkd
          | var => exact absurd rfl hvr
          | «at» => rfl
        have e2 := hv2 hvr
        refine iteT' (decide_eq_true (by rw [hat]; rfl)) ⟨_, rfl, t, _, 1, .str nm, rfl, rfl, .inl (.inl et21), atI_nat (j := 1) rfl, _, rfl, Evl.sz_of (by show 2 ≤ 100000; decide), fun q1 hq1 => ?_⟩
        have sa : Same H21 (upd H21 q1 (.tup [.str nm, .ref row])) := same_new hq1
        have eq1 : upd H21 q1 (.tup [.str nm, .ref row]) q1 = some (.tup [.str nm, .ref row]) := upd_same
        dsimp only
        generalize upd H21 q1 (.tup [.str nm, .ref row]) = H22 at sa eq1 ⊢
        have I22 := I.same sa
        have ess22 := I22.st.ess
        rw [I22.ss] at ess22
        have hlast : LastAt H22 (.ref q1) l1 := by
          have : l1 = some (nm, js ++ [Str.ofString ""]) := by
            rw [e2]
            unfold lastOf
            rw [if_neg (by exact fun z => by simp at z)]
          rw [this]
          refine ⟨⟨q1, row, rfl, eq1, sa _ _ erow⟩, ⟨hnm, by rw [List.length_append, List.length_singleton]; omega, (by exact fun z => by simp at z), fun z hz => ?_⟩⟩
          rw [List.dropLast_concat] at hz
          exact hj z hz
        refine ⟨_, rfl, ss, _, rfl, .inl ⟨_, KX "m", .inl ess22, rfl, gs_m.symm⟩, u.m, _, rfl, .inl ⟨_, KX "last", I22.st.lw.em, rfl, (by show 3 < sizeLine; exact Evl.sz_lt (by decide)), rfl⟩, ?_⟩
        rw [px_last]
        exact hNn _ _ ⟨_, _, _, _, _, I22.law .upd (I22.st.lw.set hlast), _, _, _, _, _, _, _, _, _, rfl⟩
    rintro σ H22 ⟨v, lv, lu2, ls, X, I22, y3, y4, y5, y6, y7, y8, y9, y10, y11, rfl⟩
    have ess22 := I22.st.ess
    rw [I22.ss] at ess22
    obtain ⟨hpl2, hdp2⟩ := lastP_ok ls
    refine ⟨_, rfl, ss, _, rfl, .inl ⟨_, KX "scene", .inl ess22, rfl, gs_scene.symm⟩, v.sc, _, _, rfl, I22.st.vw.at, rfl, v, lv, ls, rfl, I22.st.vw, ?_⟩
    refine ⟨_, rfl, ss, _, rfl, .inl ⟨_, KX "m", .inl ess22, rfl, gs_m.symm⟩, u.m, _, rfl, .inl ⟨_, KX "last", .inl I22.st.lw.em, rfl, gx_last.symm⟩, rd_sameEq (dp_last I22.st.vw.la) (dp_last I22.st.lw.la) hpl2 hdp2 ?_⟩
    exact q _ ⟨_, _, _, _, _, _, I22.mono (by omega)⟩
theorem ok_law_changed (T : Txt K mg A) (B : Tb base mg A) : FnOk P w K mg base CX0 11 A.a_law_changed A.d_law_changed ["bag", "s", "pool"] (spChangedE w A.c_Scene A.c_Arrays A.c_Dealings (tabsOf A)) := by
  have G_law_spot := ok_law_spot (P := P) (w := w) (base := base) T
  have G_law_worth := ok_law_worthW (P := P) (w := w) (base := base) T
  have G_law_draw := ok_law_draw (P := P) (w := w) (base := base) T
  have G_Dealings_put := ok_Dealings_put (P := P) (w := w) (base := base) T
  have G_Dealings_kill := ok_Dealings_kill (P := P) (w := w) T B
  refine T.F_law_changed.ok sc_law_changed (fun vs H Q E h => ?_) (fun cdv Ar outer s H vs Q E hr h => ?_)
  · obtain ⟨b, ss, p, k1, k2, ns, ks, M0, H0, N, k, rfl, _⟩ := h
    rfl
  · obtain ⟨b, ss, p, k1, k2, ns, ks, M0, H0, N, k, rfl, hN, hk, hI, q⟩ := h
    refine ⟨_, (pss_cons (ps_set (i := 3) sc_law_changed.nd rfl (.inl rfl) (pe_call G_law_spot (hr.mono (by omega)) (by rfl) T.g_law_spot T.F_law_spot.kp T.b_law_spot .nil pass0 (pa_cons (pv 0) (pa_cons (pv 2) (pa_cons pe_int pa_nil)))))
      (pss_cons (ps_set (i := 4) sc_law_changed.nd rfl (.inl rfl) (pe_call G_law_worth (hr.mono (by omega)) (by rfl) T.g_law_worth T.F_law_worth.kp T.b_law_worth .nil pass0 (pa_cons (pv 0) pa_nil)))
      (pss_cons (ps_if (pt_cmpR op_eq (pe_call G_law_draw (hr.mono (by omega)) (by rfl) T.g_law_draw T.F_law_draw.kp T.b_law_draw .nil pass0 (pa_cons (pv 0) (pa_cons pe_int pa_nil))) pe_int (nomark _))
      (pss_cons (ps_expr (pe_meth (pe_dget (hu_of hr) (pv 1) pe_str (fun _ _ => rfl)) T.cl_Dealings T.M_Dealings_put G_Dealings_put (hr.mono (by omega)) T.b_Dealings_put .nil pass0 (pa_cons pe_int (pa_cons (pv 3) (pa_cons (pv 4) pa_nil)))))
      (pss_cons (ps_asg (pv 4) (pg_sub (pe_dget (hu_of hr) (pe_dget (hu_of hr) (pv 1) pe_str (fun _ _ => rfl)) pe_str (fun _ _ => rfl)) (pv 3) (k_setN w hr.units)))
      (pss_one ps_retN)))
      pss_nil)
      (pss_cons (ps_expr (pe_meth (pe_dget (hu_of hr) (pv 1) pe_str (fun _ _ => rfl)) T.cl_Dealings T.M_Dealings_kill G_Dealings_kill (hr.mono (by omega)) T.b_Dealings_kill .nil pass0 (pa_cons pe_int (pa_cons (pv 3) pa_nil))))
      (pss_one (ps_for PassesOwn.never rfl (k_pi_list K (pe_callTy (k_listN w) (by rfl) T.n_list (by decide +kernel) (pa_cons (pe_dget (hu_of hr) (pe_dget (hu_of hr) (pv 1) pe_str (fun _ _ => rfl)) pe_str (fun _ _ => rfl)) pa_nil))) (pg_tup rfl (pgs_cons (pg_name (i := 5) sc_law_changed.nd rfl (.inl rfl)) (pgs_cons (pg_name (i := 6) sc_law_changed.nd rfl (.inl rfl)) pgs_nil)))
      (pss_one (ps_if (PW.pt (pw_and (pt_cmpR op_eq (pv 5) (pe_ix (k_ix_tup K) (pv 3) pe_int (fun _ _ => rfl)) (nomark _)) (pw_and1 (pt_cmpR (k_eqP K hr.units) (pe_slice (k_sl_tup K) (pv 6) po_none (po_some (pe_callB (k_len K) (by rfl) T.n_len PySem.boot_len (pa_cons (pe_ix (k_ix_tup K) (pv 3) pe_int (fun _ _ => rfl)) pa_nil)))) (pe_ix (k_ix_tup K) (pv 3) pe_int (fun _ _ => rfl)) (nomark _)))))
      (pss_one (ps_expr (k_mN w PySem.F.slot_dict_pop PySem.F.type_dict_pop (k_popN w hr.units) (pe_dget (hu_of hr) (pe_dget (hu_of hr) (pv 1) pe_str (fun _ _ => rfl)) pe_str (fun _ _ => rfl)) (pa_cons (pe_tup (pa_cons (pv 5) (pa_cons (pv 6) pa_nil))) pa_nil))))
      pss_nil)))))))), ?_⟩
    obtain ⟨v, u, lv, lu, l, X, I⟩ := hI
    have B0 := I.bag
    refine ⟨_, rfl, _, rfl, b, p, k1, k2, ns, ks, 3, N, rfl, by decide, by decide, by omega, B0, I.pl, fun H1 a n js c1 B1 hR1 hS _ _ _ => ?_⟩
    obtain ⟨v1, X1, I1, -, -, -⟩ := I.draw c1 B1
    dsimp only [gName]
    refine ⟨_, rfl, b, _, rfl, by omega, B1, fun H2 x c2 B2 lx hx => ?_⟩
    obtain ⟨v2, X2, I2, -, -, -⟩ := I1.draw c2 B2
    have hR2 := hR1.chg c2 B1
    dsimp only [gName]
    refine ⟨_, rfl, b, 2, _, rfl, by decide, by decide, by omega, B2, fun H3 r c3 B3 r0 r1 => ?_⟩
    obtain ⟨v3, X3, I3, -, -, -⟩ := I2.draw c3 B3
    have hR3 := hR2.chg c3 B2
    have ess3 := I3.st.ess
    rw [I3.ss] at ess3
    have dl := I3.st.vw.dl
    have hrs := I3.st.rs
    have hJ : (0 : Int) ∈ v3.J := by rw [I3.st.jj]; exact List.mem_cons_self
    have hU : ∀ r0 ∈ v3.U, r0 ∈ v3.U ++ [(n, js)] := fun r0 h => List.mem_append_left _ h
    have lU : (v3.U ++ [(n, js)]).length ≤ 1000 := by
      have := I3.ul
      rw [List.length_append, List.length_singleton]; omega
    have mU : (n, js) ∈ v3.U ++ [(n, js)] := List.mem_append_right _ List.mem_cons_self
    have fr : FreeOf v3.s 0 (n, js) := fun i _ y hy => by rw [I3.st.vw.tc] at hy; cases hy
    have hbd := I3.bd
    have lU' : (v3.U ++ [(n, js)]).length ≤ 20 + (k + 1) := by
      have := I3.ul
      rw [List.length_append, List.length_singleton]; omega
    have tch0 : ∀ {s' : DlS}, (∀ i, tch s' i = if i = 0 then noteT (stk v3.s 0) (tch v3.s 0) (n, js) else tch v3.s i) → ∀ i, tch s' i = [] := fun h i => by
      rw [h]
      split
      · unfold noteT
        rw [if_pos I3.sk]
        exact I3.st.vw.tc 0
      · exact I3.st.vw.tc i
    have stk0 : ∀ {s' : DlS} {m : Rows}, (∀ i, stk s' i = if i = 0 then noteS (stk v3.s 0) m else stk v3.s i) → stk s' 0 = [] := fun h => by
      rw [h, if_pos rfl, I3.sk]; rfl
    refine ⟨rfl, _, rfl, ite2 (fun _ => ?_) (fun _ => ?_)⟩
    · refine ⟨_, rfl, ss, _, rfl, .inl ⟨_, KX "dealings", .inl ess3, rfl, gs_dealings.symm⟩, v3.s.g, _, _, rfl, dl.cg, rfl, _, rfl, _, rfl, v3.s, _, v3.U ++ [(n, js)], v3.J, v3.Bd, 0, a, (n, js), x, rfl, Int.le_refl 0, hJ, dl.monoU hU lU, hR3, hS, mU, fr, hx, by omega, by omega, fun H4 s' kt F D hes hsk htc => ?_⟩
      have hh := D.hold
      rw [hrs] at hh
      have em4 : H4 u.m = _ := hh.get (List.mem_append_right _ (.tail _ (.tail _ (.tail _ List.mem_cons_self))))
      have en4 : H4 u.ms = some (ndO w u.ms u.es) := hh.get (List.mem_append_right _ (.tail _ (.tail _ (.tail _ (.tail _ (.tail _ List.mem_cons_self))))))
      have ess4 : H4 X3.ss = _ := hh.get (List.mem_append_right _ (.tail _ (.tail _ (.tail _ (.tail _ (.tail _ (.tail _ List.mem_cons_self)))))))
      rw [I3.ss] at ess4
      have M4 : NdAt w H4 u.ms u.es := ⟨en4, fun e he => (I3.st.lw.ns.2 e he).pers kt⟩
      have R4 := hR3.pers kt
      have ln := I3.ln
      have es2 : (ndPut u.es (n, js) a (.str x)).length ≤ 20 + (k + 1) := by
        have := put_len u.es (n, js) a (.str x)
        omega
      refine ⟨_, rfl, _, rfl, ss, _, rfl, .inl ⟨_, KX "m", .inl ess4, rfl, gs_m.symm⟩, u.m, _, rfl, .inl ⟨_, KX "shared", .inl em4, rfl, gx_shared.symm⟩, _, rfl, u.ms, a, u.es, (n, js), rfl, rfl, R4, M4, Evl.sz_lt (by omega), ?_⟩
      have M5 := M4.put (gs := ndPut u.es (n, js) a (.str x)) (put_refs (r := (n, js)) M4.2 R4 _)
      have st := I3.st.deal kt F D (tch0 htc) .upd M5.1 (I3.st.lw.gs.put hS a (by omega)) (by omega) (fun e he => by
        rcases ndPut_mem he with z | z
        · rw [z.2]; exact ⟨x, rfl, hx, by omega⟩
        · exact I3.st.lw.ws e z) M5.2 (by rw [put_pr, hes, I3.st.es])
      obtain ⟨ob, eM, hb⟩ := I3.mm
      exact q _ ⟨_, _, _, _, _, _, ⟨st, I3.ss, ⟨ob, eM, by
        obtain ⟨x, y, z, e, r1, r2, r3, r4⟩ := hb
        exact ⟨x, y, z, e, r1, r2, r3, by omega⟩⟩, st.pool eM I3.pl, tabs_mob en4 (.nd _ _) .upd (kt.tabs I3.tb), lU', by show v3.Bd + 1 ≤ 1000 * (k + 1); omega, es2, stk0 hsk, (I3.ps.trans kt).trans (pers_mob en4 (.nd _ _) .upd)⟩⟩
    · refine ⟨_, rfl, ss, _, rfl, .inl ⟨_, KX "dealings", .inl ess3, rfl, gs_dealings.symm⟩, v3.s.g, _, _, rfl, dl.cg, rfl, _, rfl, v3.s, _, v3.U ++ [(n, js)], v3.J, v3.Bd, 0, a, (n, js), rfl, Int.le_refl 0, hJ, dl.monoU hU lU, hR3, hS, mU, fr, by omega, I3.tb, fun H4 s' kt F D hes hsk htc => ?_⟩
      have hh := D.hold
      rw [hrs] at hh
      have em4 : H4 u.m = _ := hh.get (List.mem_append_right _ (.tail _ (.tail _ (.tail _ List.mem_cons_self))))
      have en4 : H4 u.ms = some (ndO w u.ms u.es) := hh.get (List.mem_append_right _ (.tail _ (.tail _ (.tail _ (.tail _ (.tail _ List.mem_cons_self))))))
      have ess4 : H4 X3.ss = _ := hh.get (List.mem_append_right _ (.tail _ (.tail _ (.tail _ (.tail _ (.tail _ (.tail _ List.mem_cons_self)))))))
      rw [I3.ss] at ess4
      have M4 : NdAt w H4 u.ms u.es := ⟨en4, fun e he => (I3.st.lw.ns.2 e he).pers kt⟩
      have R4 := hR3.pers kt
      have ln := I3.ln
      have hnd := I3.st.lw.gs.nd
      refine ⟨_, rfl, ss, _, rfl, .inl ⟨_, KX "m", .inl ess4, rfl, gs_m.symm⟩, u.m, _, rfl, .inl ⟨_, KX "shared", .inl em4, rfl, gx_shared.symm⟩, u.ms, u.es, rfl, M4.rd, fun D5 hD5 => ⟨D5, rfl, ⟨_, .inl (.inl upd_same)⟩, ?_⟩⟩
      have s5 : Same H4 (upd H4 D5 (.lst (u.es.map fun e => .ref e.2.1))) := same_new hD5
      have eD5 : upd H4 D5 (.lst (u.es.map fun e => .ref e.2.1)) D5 = some (.lst (u.es.map fun e => .ref e.2.1)) := upd_same
      generalize upd H4 D5 (.lst (u.es.map fun e => .ref e.2.1)) = H5 at s5 eD5 ⊢
      have nD : D5 ≠ u.ms := ne_of eD5 (s5 _ _ en4) fun z => nomatch z
      refine for_list (K := K) (a := D5) (xs := u.es.map fun e => V.ref e.2.1) (fun i σ' H' => Chg u.ms H5 H' ∧ H' u.ms = some (ndO w u.ms (ndBut u.es (((u.es.take i).filter fun e => stemB n js e.1.1 e.1.2).map (·.1)))) ∧ ∃ y5 y6, σ' = [some (.ref b), some (.ref ss), some (.ref p), some (.ref a), some (.str x), y5, y6]) ⟨.same (.refl _), ?_, _, _, rfl⟩ (fun i σ' H' _ ⟨c, _⟩ => .inl (.inl (c _ _ nD eD5))) ?_ ?_
      · rw [List.take_zero]
        show H5 u.ms = some (ndO w u.ms (ndBut u.es []))
        rw [but_nil]
        exact s5 _ _ en4
      · rintro i v0 σ' H6 hv ⟨c6, e6, y5, y6, rfl⟩
        rw [List.getElem?_map] at hv
        obtain ⟨e, he, rfl⟩ := Option.map_eq_some_iff.mp hv
        have me : e ∈ u.es := List.mem_of_getElem? he
        have kt6 : ∀ t xs, H4 t = some (.tup xs) → H6 t = some (.tup xs) := fun t xs z => c6 _ _ (ne_of (s5 _ _ z) (s5 _ _ en4) fun z => nomatch z) (s5 _ _ z)
        obtain ⟨et, ek, ee, f1, f2⟩ := M4.2 e me
        cases ee
        have f1 := kt6 _ _ f1
        have f2 := kt6 _ _ f2
        obtain ⟨at', ak, ea, g1, g2⟩ := R4
        cases ea
        have g1 := kt6 _ _ g1
        have g2 := kt6 _ _ g2
        have bn : (((u.es.take (i + 1)).filter fun e => stemB n js e.1.1 e.1.2).map (·.1)) = (((u.es.take i).filter fun e => stemB n js e.1.1 e.1.2).map (·.1)) ++ (if stemB n js e.1.1 e.1.2 = true then [e.1] else []) := by
          rw [List.take_succ, he, Option.toList_some, List.filter_append, List.map_append]
          congr 1
          by_cases z : stemB n js e.1.1 e.1.2 = true
          · rw [if_pos z, List.filter_cons_of_pos (by exact z)]; rfl
          · rw [if_neg z, List.filter_cons_of_neg (by exact z)]; rfl
        have hno : ∀ {H7 : Hp}, Same H6 H7 → ¬ stemB n js e.1.1 e.1.2 = true → Chg u.ms H5 H7 ∧ H7 u.ms = some (ndO w u.ms (ndBut u.es (((u.es.take (i + 1)).filter fun e => stemB n js e.1.1 e.1.2).map (·.1)))) := fun s7 z => ⟨c6.trans (.same s7), by rw [bn, if_neg z, List.append_nil]; exact s7 _ _ e6⟩
        have hnot : e.1 ∉ ((u.es.take i).filter fun e => stemB n js e.1.1 e.1.2).map (·.1) := by
          intro h
          obtain ⟨y, hy, ey⟩ := List.mem_map.mp h
          obtain ⟨j, hj, ej⟩ := List.getElem_of_mem (List.mem_filter.mp hy).1
          rw [List.length_take] at hj
          rw [List.getElem_take] at ej
          have hil := (List.getElem?_eq_some_iff.mp he).1
          have h2 : (u.es.map (·.1))[i]? = some e.1 := by rw [List.getElem?_map, he]; rfl
          have h1 : (u.es.map (·.1))[j]? = some e.1 := by rw [List.getElem?_map, List.getElem?_eq_getElem (by omega), ej, ← ey]; rfl
          have := (List.getElem?_inj (by rw [List.length_map]; omega) hnd).mp (h1.trans h2.symm)
          omega
        refine ⟨_, _, rfl, .inl (.inl f1), rfl, _, _, rfl, _, _, rfl, rfl, ?_⟩
        refine ⟨_, rfl, _, rfl, a, _, 0, .str n, rfl, rfl, .inl (.inl g1), atI_nat (j := 0) rfl, rfl, _, rfl, ?_⟩
        by_cases en : e.1.1 = n
        case neg =>
          refine iteF' (decide_eq_false fun z => en (V.str.inj z)) (iteF ?_)
          obtain ⟨z1, z2⟩ := hno (.refl _) fun z => en (of_decide_eq_true (Bool.and_eq_true_iff.mp z).1).symm
          exact ⟨z1, z2, _, _, rfl⟩
        refine iteT' (decide_eq_true (congrArg V.str en)) ⟨_, rfl, _, rfl, a, _, 1, .ref ak, rfl, rfl, .inl (.inl g1), atI_nat (j := 1) rfl, ak, _, rfl, .inr (.inl (.inl g2)), _, rfl, ?_⟩
        rw [List.length_map]
        refine rd_takeI (n := js.length) rfl f2 fun p1 H7 s7 hp1 => ?_
        rw [← List.map_take] at hp1
        refine ⟨_, rfl, a, _, 1, .ref ak, rfl, rfl, .inl (.inl (s7 _ _ g1)), atI_nat (j := 1) rfl, ?_⟩
        refine rd_eqP (dv_strs (.inl (.inl hp1))) (dv_strs (.inl (.inl (s7 _ _ g2)))) (by decide) ⟨_, rfl, ?_⟩
        have stem : stemB n js e.1.1 e.1.2 = (decide (n = e.1.1) && decide (e.1.2.take js.length = js)) := rfl
        by_cases ep : e.1.2.take js.length = js
        case neg =>
          refine iteF' (decide_eq_false (fun z => ep (PySem.W.Tup.mk.inj z))) ?_
          obtain ⟨z1, z2⟩ := hno s7 (by rw [stem, decide_eq_false ep, Bool.and_false]; exact Bool.false_ne_true)
          exact ⟨z1, z2, _, _, rfl⟩
        have hst : stemB n js e.1.1 e.1.2 = true := by rw [stem, decide_eq_true en.symm, decide_eq_true ep]; rfl
        have em7 := s7 _ _ (c6 _ _ (ne_of (s5 _ _ em4) (s5 _ _ en4) fun z => nomatch z) (s5 _ _ em4))
        have ess7 := s7 _ _ (c6 _ _ (ne_of (s5 _ _ ess4) (s5 _ _ en4) fun z => nomatch z) (s5 _ _ ess4))
        have rk : ∀ {H8 : Hp}, Same H7 H8 → ∀ y ∈ u.es, RefAt H8 (.ref y.2.1) y.1.1 y.1.2 := fun s8 y hy => (M4.2 y hy).keep fun t xs z => s8 _ _ (s7 _ _ (kt6 _ _ z))
        have N7 : NdAt w H7 u.ms _ := ⟨s7 _ _ e6, fun y hy => rk (.refl _) y (List.mem_filter.mp hy).1⟩
        refine iteT' (decide_eq_true (by rw [ep])) ⟨_, rfl, ss, _, rfl, .inl ⟨_, KX "m", .inl ess7, rfl, gs_m.symm⟩, u.m, _, rfl, .inl ⟨_, KX "shared", .inl em7, rfl, gx_shared.symm⟩, ⟨_, _, rfl, N7.rd⟩, _, rfl, _, rfl, Evl.sz_of (by show 2 ≤ 100000; decide), fun q8 hq8 => ?_⟩
        have s8 : Same H7 (upd H7 q8 (.tup [.str e.1.1, .ref ek])) := same_new hq8
        have eq8 : upd H7 q8 (.tup [.str e.1.1, .ref ek]) q8 = some (.tup [.str e.1.1, .ref ek]) := upd_same
        dsimp only [tNil]
        generalize upd H7 q8 (.tup [.str e.1.1, .ref ek]) = H8 at s8 eq8 ⊢
        have N8 : NdAt w H8 u.ms _ := ⟨s8 _ _ (s7 _ _ e6), fun y hy => rk s8 y (List.mem_filter.mp hy).1⟩
        refine ⟨u.ms, q8, _, e.1, e.2.2, rfl, rfl, ⟨q8, ek, rfl, eq8, s8 _ _ (s7 _ _ f2)⟩, N8, but_get hnd me hnot, (c6.trans ((Chg.same s7).trans (.same s8))).trans .upd, ?_, _, _, rfl⟩
        rw [upd_same, but_drop, bn, if_pos hst]
      · rintro σ' H6 ⟨c6, e6, y5, y6, rfl⟩
        rw [List.length_map, List.take_length, but_all hnd] at e6
        have c46 : Chg u.ms H4 H6 := (Chg.same s5).trans c6
        have kt6 : ∀ t xs, H4 t = some (.tup xs) → H6 t = some (.tup xs) := fun t xs z => c46 _ _ (ne_of z en4 fun z => nomatch z) z
        have lr := rest_len u.es n js
        have st := I3.st.deal (es2 := ndRest u.es n js) kt F D (tch0 htc) c46 e6 (I3.st.lw.gs.rest n js) (by omega) (fun e he => I3.st.lw.ws e (List.mem_filter.mp he).1) (fun e he => (M4.2 e (List.mem_filter.mp he).1).keep kt6) (by rw [rest_pr u.es (n, js), hes, I3.st.es])
        obtain ⟨ob, eM, hb⟩ := I3.mm
        exact q _ ⟨_, _, _, _, _, _, ⟨st, I3.ss, ⟨ob, eM, by
          obtain ⟨x, y, z, e, r1, r2, r3, r4⟩ := hb
          exact ⟨x, y, z, e, r1, r2, r3, by omega⟩⟩, st.pool eM I3.pl, tabs_mob en4 (.nd _ _) c46 (kt.tabs I3.tb), lU', by show v3.Bd + 1000 ≤ 1000 * (k + 1); omega, by show (ndRest u.es n js).length ≤ 20 + (k + 1); omega, stk0 hsk, (I3.ps.trans kt).trans (pers_mob en4 (.nd _ _) c46)⟩⟩
theorem InvE.mono {cS cA cD : Addr} {Tb0 : List (Addr × Str)} {b ss p k1 k2 : Addr} {ns ks : List Str} {M0 : Mem} {H0 : Hp} {N N' k k' : Nat} {H : Hp} (h : InvE w cS cA cD Tb0 b ss p k1 k2 ns ks M0 H0 N k H) (le : N ≤ N') (lk : k ≤ k') : InvE w cS cA cD Tb0 b ss p k1 k2 ns ks M0 H0 N' k' H := by
  obtain ⟨v, u, lv, lu, l, X, h⟩ := h
  obtain ⟨ob, eM, x, y, z, rfl, r1, r2, r3, r4⟩ := h.mm
  have h1 := h.ul
  have h2 := h.bd
  have h3 := h.ln
  exact ⟨v, u, lv, lu, l, X, ⟨h.st, h.ss, ⟨_, eM, x, y, z, rfl, r1, r2, r3, by omega⟩, h.pl, h.tb, by omega, by omega, by omega, h.sk, h.ps⟩⟩
theorem InvE.draw {cS cA cD : Addr} {Tb0 : List (Addr × Str)} {b ss p k1 k2 : Addr} {ns ks : List Str} {M0 : Mem} {H0 : Hp} {N N' k : Nat} {H H' : Hp} (h : InvE w cS cA cD Tb0 b ss p k1 k2 ns ks M0 H0 N k H) (c : Chg b H H') (B : BagAt N' b H') : InvE w cS cA cD Tb0 b ss p k1 k2 ns ks M0 H0 N' k H' := by
  obtain ⟨v, u, lv, lu, l, X, h⟩ := h
  obtain ⟨v', X', h', _⟩ := h.draw c B
  exact ⟨_, _, _, _, _, _, h'⟩
theorem InvE.bag {cS cA cD : Addr} {Tb0 : List (Addr × Str)} {b ss p k1 k2 : Addr} {ns ks : List Str} {M0 : Mem} {H0 : Hp} {N k : Nat} {H : Hp} (h : InvE w cS cA cD Tb0 b ss p k1 k2 ns ks M0 H0 N k H) : BagAt N b H := by
  obtain ⟨v, u, lv, lu, l, X, h⟩ := h
  exact h.bag
theorem InvE.out {cS cA cD : Addr} {Tb0 : List (Addr × Str)} {b ss p k1 k2 : Addr} {ns ks : List Str} {M0 : Mem} {H0 : Hp} {N k : Nat} {H : Hp} (h : InvE w cS cA cD Tb0 b ss p k1 k2 ns ks M0 H0 N k H) : Pers Tb0 H0 H ∧ LamX.Tabs Tb0 H ∧ ∀ x ∈ M0, H x.1 = some x.2 := by
  obtain ⟨v, u, lv, lu, l, X, h⟩ := h
  obtain ⟨ob, eM, _⟩ := h.mm
  exact ⟨h.ps, h.tb, fun x hx => h.st.has (by rw [eM]; exact .tail _ (List.mem_append_right _ hx))⟩
theorem ok_law (T : Txt K mg A) (M : Md P w K A) (B : Tb base mg A) : FnOk P w K mg base CX0 121 A.a_law A.d_law ["script"] (spLawT K (tabsOf A)) := by
  have G_law_bag := ok_law_bag (P := P) (w := w) (base := base) T
  have G_law_cell_at := ok_law_cell_at (P := P) (w := w) (base := base) T
  have G_law_pool := ok_law_pool (P := P) (w := w) (base := base) T
  have G_law_draw := ok_law_draw (P := P) (w := w) (base := base) T
  have G_law_stage := ok_law_stage (P := P) (w := w) (base := base) T
  have G_law_place_right := ok_law_place_right (P := P) (w := w) (base := base) T M
  have G_law_changed := ok_law_changed (P := P) (w := w) T B
  refine T.F_law.ok sc_law (fun vs H Q E h => ?_) (fun cdv Ar outer s H vs Q E hr h => ?_)
  · obtain ⟨a, ns, rfl, _⟩ := h
    rfl
  · obtain ⟨a, nz, rfl, hS, hl, hb, hT, qL⟩ := h
    refine ⟨_, (pss_cons (ps_for PassesOwn.never rfl (pi_range1 (by rfl) T.n_range (pa_cons (pe_callB (call_max2 rfl) (by rfl) T.n_max (by decide +kernel) (pa_cons pe_int (pa_cons (pe_callB (call_min2 rfl) (by rfl) T.n_min (by decide +kernel) (pa_cons pe_int (pa_cons (pe_callB (k_len K) (by rfl) T.n_len PySem.boot_len (pa_cons (pv 0) pa_nil)) pa_nil))) pa_nil))) pa_nil)) (pg_name (i := 1) sc_law.nd rfl (.inl rfl))
      (pss_cons (ps_set (i := 2) sc_law.nd rfl (.inl rfl) (pe_call G_law_bag (hr.mono (by omega)) (by rfl) T.g_law_bag T.F_law_bag.kp T.b_law_bag .nil pass0 (pa_cons (pe_op op_add (pe_call G_law_cell_at (hr.mono (by omega)) (by rfl) T.g_law_cell_at T.F_law_cell_at.kp T.b_law_cell_at .nil pass0 (pa_cons (pv 0) (pa_cons (pv 1) pa_nil))) pe_int) pa_nil)))
      (pss_cons (ps_set (i := 3) sc_law.nd rfl (.inl rfl) (pe_call G_law_pool (hr.mono (by omega)) (by rfl) T.g_law_pool T.F_law_pool.kp T.b_law_pool .nil pass0 (pa_cons (pv 2) pa_nil)))
      (pss_cons (ps_set (i := 4) sc_law.nd rfl (.inl rfl) (pe_call G_law_stage (hr.mono (by omega)) (by rfl) T.g_law_stage T.F_law_stage.kp T.b_law_stage .nil pass0 (pa_cons (pv 2) (pa_cons (pv 3) pa_nil))))
      (pss_one (ps_for PassesOwn.never rfl (pi_range1 (by rfl) T.n_range (pa_cons pe_int pa_nil)) (pg_name (i := 5) sc_law.nd rfl (.inl rfl))
      (pss_cons (ps_if (pt_not (pt_val (pe_call G_law_place_right (hr.mono (by omega)) (by rfl) T.g_law_place_right T.F_law_place_right.kp T.b_law_place_right .nil pass0 (pa_cons (pv 2) (pa_cons (pv 4) (pa_cons (pv 3) pa_nil))))))
      (pss_one (ps_ret pe_bl))
      pss_nil)
      (pss_one (ps_if (pt_cmpR op_eq (pe_call G_law_draw (hr.mono (by omega)) (by rfl) T.g_law_draw T.F_law_draw.kp T.b_law_draw .nil pass0 (pa_cons (pv 2) (pa_cons pe_int pa_nil))) pe_int (nomark _))
      (pss_one (ps_expr (pe_call G_law_changed (hr.mono (by omega)) (by rfl) T.g_law_changed T.F_law_changed.kp T.b_law_changed .nil pass0 (pa_cons (pv 2) (pa_cons (pv 4) (pa_cons (pv 3) pa_nil))))))
      pss_nil)))))))))
      (pss_one (ps_ret pe_bl))), ?_⟩
    obtain ⟨m, hm, m0, m1⟩ := turns_of ((nz.map V.int).length : Int) 3 (by decide) (by decide)
    refine seq_abs (fun σ' H' => True) (fun Nn hNn => ?_) ?_
    · refine ⟨_, rfl, a, _, rfl, .inl hS, 3, _, rfl, 1, _, rfl, m, congrArg (fun z => [V.int z]) hm, by omega, by omega, ?_⟩
      refine for_range (lo := 0) (n := m.toNat) (D := ({ nx := Nn, rt := Q } : L2.Ends)) (fun i σ H' => SqL K H' a (nz.map V.int) ∧ LamX.Tabs (tabsOf A) H' ∧ ∃ y1 y2 y3 y4 y5, σ = [some (.ref a), y1, y2, y3, y4, y5]) ⟨hS, hT, _, _, _, _, _, rfl⟩ ?_ (fun σ H' h => hNn _ _ True.intro)
      rintro i σ H0 hi ⟨hS0, hT0, y1, y2, y3, y4, y5, rfl⟩
      obtain ⟨Ra, qa, -, sqa⟩ := sql_cells hS0
      dsimp only [gName]
      refine ⟨_, rfl, _, rfl, a, nz, _, rfl, hS0, by omega, fun cell => ⟨_, _, rfl, rfl, _, rfl, fun H1 bg nbg s1 B1 => ?_⟩⟩
      obtain ⟨x1, x2, x3, eb1, br1⟩ := id B1
      have q1 := (qa.same s1).cons (qa.fresh nbg) eb1 (.lst _)
      dsimp only [gName]
      refine ⟨_, rfl, bg, 0, rfl, by decide, B1, fun H2 p l1 l2 ns ks c2 B2 P2 fp f1 f2 n12 => ?_⟩
      obtain ⟨ob2, q2, hb2⟩ := Holds.draw (M1 := []) q1 c2 B2
      have k2 : Pers (tabsOf A) H0 H2 := (Pers.same s1).trans (.chg c2 B1)
      have np1 : p ≠ l1 := ne_of P2.ep P2.e1 fun z => by
        injection z with z
        rcases ns with _ | ⟨x, r⟩
        · cases z
        · injection z with z; cases z
      have np2 : p ≠ l2 := ne_of P2.ep P2.e2 fun z => by
        injection z with z
        rcases ks with _ | ⟨x, r⟩
        · cases z
        · injection z with z; cases z
      have q3 : Holds ((bg, ob2) :: (l2, .lst (ks.map V.str)) :: Ra) H2 := Holds.addN (M1 := [(bg, ob2)]) (q1.non f2) q2 P2.e2 (.lst _)
      have q4 : Holds ((bg, ob2) :: (l1, .lst (ns.map V.str)) :: (l2, .lst (ks.map V.str)) :: Ra) H2 := Holds.addN (M1 := [(bg, ob2)]) (fun x hx => by
        rcases List.mem_cons.mp hx with rfl | hx
        · exact q1.non f1 _ List.mem_cons_self
        rcases List.mem_cons.mp hx with rfl | hx
        · exact n12.symm
        · exact q1.non f1 _ (.tail _ hx)) q3 P2.e1 (.lst _)
      have q5 : Holds ((bg, ob2) :: (plMem p l1 l2 ns ks ++ Ra)) H2 := Holds.addN (M1 := [(bg, ob2)]) (fun x hx => by
        rcases List.mem_cons.mp hx with rfl | hx
        · exact q1.non fp _ List.mem_cons_self
        rcases List.mem_cons.mp hx with rfl | hx
        · exact np1.symm
        rcases List.mem_cons.mp hx with rfl | hx
        · exact np2.symm
        · exact q1.non fp _ (.tail _ hx)) q4 P2.ep (.lst _)
      dsimp only [gName]
      refine ⟨_, rfl, _, rfl, bg, p, l1, l2, ns, ks, Ra, H0, _, ob2, rfl, by decide, hb2, q5, P2, k2.tabs hT0, k2, fun H3 ss hI => ?_⟩
      dsimp only [gName]
      refine ⟨6, rfl, by decide, by decide, ?_⟩
      refine for_range (lo := 0) (n := 6) (fun j σ' H' => InvE w A.c_Scene A.c_Arrays A.c_Dealings (tabsOf A) bg ss p l1 l2 ns ks Ra H0 (220000 + 30000 * j) j H' ∧ ∃ y1 y5, σ' = [some (.ref a), y1, some (.ref bg), some (.ref p), some (.ref ss), y5]) ⟨hI.mono (by omega) (Nat.le_refl _), _, _, rfl⟩ ?_ ?_
      · rintro j σ' H4 hj ⟨hI4, z1, z5, rfl⟩
        dsimp only [gName]
        refine ⟨_, rfl, _, rfl, _, rfl, bg, ss, p, l1, l2, ns, ks, Ra, H0, _, j, rfl, by omega, hI4, fun H5 hI5 => ⟨true, rfl, ?_⟩⟩
        refine iteF ?_
        refine ⟨_, rfl, bg, 3, _, rfl, by decide, by decide, by omega, hI5.bag, fun H6 r c6 B6 r0 r1 => ?_⟩
        have hI6 := hI5.draw c6 B6
        refine ⟨rfl, _, rfl, ite2 (fun _ => ?_) (fun _ => ?_)⟩
        · exact ⟨_, rfl, _, rfl, _, rfl, bg, ss, p, l1, l2, ns, ks, Ra, H0, _, j, rfl, by omega, by omega, hI6, fun H7 hI7 => ⟨hI7.mono (by omega) (Nat.le_refl _), _, _, rfl⟩⟩
        · exact ⟨hI6.mono (by omega) (Nat.le_succ _), _, _, rfl⟩
      · rintro σ' H4 ⟨hI4, z1, z5, rfl⟩
        obtain ⟨o1, o2, o3⟩ := hI4.out
        exact ⟨sqa _ _ o1 o3, o2, _, _, _, _, _, rfl⟩
    · rintro σ H' _
      exact qL H'
end
theorem fn_is {K : PySem.W.Frag} {f : Addr} {o : Option Addr} {d : Data} {sl : Array (Option Value)} (l : K.lookup f = some ⟨.type "function", o, d, sl⟩) : PySem.W.isFn K (.ref f) = true := by
  show ((K.lookup f).map (·.cls) == some (.type "function")) = true
  rw [l]
  rfl
theorem fn_type {K : PySem.W.Frag} {f : Addr} {o : Option Addr} {d : Data} {sl : Array (Option Value)} (l : K.lookup f = some ⟨.type "function", o, d, sl⟩) : PySem.W.typeIn K (.ref f) = some (.type "function") := by
  show (K.lookup f).map (·.cls) = _
  rw [l]
  rfl
theorem fn_keeps {K : PySem.W.Frag} {f : Addr} {c : Value} {o : Option Addr} {q : FuncData} {sl : Array (Option Value)} (l : K.lookup f = some ⟨c, o, .func q, sl⟩) : PySem.W.keepIn K (.ref f) = true := by
  unfold PySem.W.keepIn
  dsimp only
  rw [l]
theorem all_mk {l : PySem.W.OpenLaw} {w : World} {K : PySem.W.Frag} {h : Heap} {mg : Str → Option Value} {fa : Addr} (X : K.In h) (G : h.Ns mainGlobals mg) (hfa : mg "law" = some (.ref fa))
    {C_Scene : Addr} (aC_Scene : PySem.W.nsIn K mainGlobals "Scene" = some (some (.ref C_Scene))) (pg_Scene : PySem.W.plainGet K C_Scene Str.empty = true) (hd_Scene : PySem.W.hasDictIn K C_Scene = true) (po_Scene : PySem.W.plainOver K C_Scene = true) (sa_Scene : PySem.W.findIn K (.ref C_Scene) "__setattr__" = some (some (.builtin "object.__setattr__"))) (mk_Scene : PySem.W.makesIn K C_Scene = true) (kp_Scene : PySem.W.keepIn K (.ref C_Scene) = true)
    (na_Scene_own : PySem.W.findIn K (.ref C_Scene) "own" = some none)
    (na_Scene_dealings : PySem.W.findIn K (.ref C_Scene) "dealings" = some none)
    (na_Scene_job : PySem.W.findIn K (.ref C_Scene) "job" = some none)
    (na_Scene_latest : PySem.W.findIn K (.ref C_Scene) "latest" = some none)
    {C_Arrays : Addr} (aC_Arrays : PySem.W.nsIn K mainGlobals "Arrays" = some (some (.ref C_Arrays))) (pg_Arrays : PySem.W.plainGet K C_Arrays Str.empty = true) (hd_Arrays : PySem.W.hasDictIn K C_Arrays = true) (po_Arrays : PySem.W.plainOver K C_Arrays = true) (sa_Arrays : PySem.W.findIn K (.ref C_Arrays) "__setattr__" = some (some (.builtin "object.__setattr__"))) (mk_Arrays : PySem.W.makesIn K C_Arrays = true) (kp_Arrays : PySem.W.keepIn K (.ref C_Arrays) = true)
    (na_Arrays_nodes : PySem.W.findIn K (.ref C_Arrays) "nodes" = some none)
    {C_Dealings : Addr} (aC_Dealings : PySem.W.nsIn K mainGlobals "Dealings" = some (some (.ref C_Dealings))) (pg_Dealings : PySem.W.plainGet K C_Dealings Str.empty = true) (hd_Dealings : PySem.W.hasDictIn K C_Dealings = true) (po_Dealings : PySem.W.plainOver K C_Dealings = true) (sa_Dealings : PySem.W.findIn K (.ref C_Dealings) "__setattr__" = some (some (.builtin "object.__setattr__"))) (mk_Dealings : PySem.W.makesIn K C_Dealings = true) (kp_Dealings : PySem.W.keepIn K (.ref C_Dealings) = true)
    (na_Dealings_shelf : PySem.W.findIn K (.ref C_Dealings) "shelf" = some none)
    (na_Dealings_begun : PySem.W.findIn K (.ref C_Dealings) "begun" = some none)
    (na_Dealings_touches : PySem.W.findIn K (.ref C_Dealings) "touches" = some none)
    {C_Erring N_Erring : Addr} {nm_Erring q_Erring : Str} {bs_Erring bm_Erring sub_Erring : List Value} {sn_Erring : List Str} {ab_Erring : Bool} {col_Erring : Option Bool} {dd_Erring : Option Addr} {m0_Erring m1_Erring m2_Erring m3_Erring m5_Erring : Option Value}
    (aX_Erring : PySem.W.nsIn K mainGlobals "Erring" = some (some (.ref C_Erring))) (xL_Erring : K.lookup C_Erring = some (excClassObj nm_Erring q_Erring C_Erring N_Erring bs_Erring bm_Erring true sn_Erring sub_Erring ab_Erring col_Erring dd_Erring m0_Erring m1_Erring m2_Erring m3_Erring m5_Erring "ValueError.__new__")) (rv_Erring : PySem.HandSPX.refsVE bm_Erring = true) (sa_Erring : PySem.W.findIn K (.ref C_Erring) "__setattr__" = some (some (.builtin "object.__setattr__"))) (ga_Erring : PySem.W.findIn K (.ref C_Erring) "__getattribute__" = some (some (.builtin "BaseException.__getattribute__"))) (gg_Erring : PySem.W.findIn K (.ref C_Erring) "__getattr__" = some none)
    (kC_Erring : PySem.W.keepIn K (.ref C_Erring) = true) (eC_Erring : PySem.W.subIn K (.ref C_Erring) (.type "BaseException") = some true) (tC_Erring : PySem.W.typeIn K (.ref C_Erring) = some (.type "type")) (hC_Erring : PySem.W.hasDictIn K C_Erring = true) (iC_Erring : PySem.W.isClsIn K C_Erring = true) (sC_Erring : PySem.W.subIn K (.ref C_Erring) (.ref C_Erring) = some true)
    (nx_Erring_word : PySem.W.findIn K (.ref C_Erring) "word" = some none)
    {f0 : Addr} {od0 an0 : Option Addr} {sl0 : Array (Option Value)} {kV0 dc0 pm0 cd0 ct0 : Value}
    (a0 : PySem.W.nsIn K mainGlobals "is_worth" = some (some (.ref f0))) (l0 : K.lookup f0 = some ⟨.type "function", od0, .func (PySem.W.fnOf "is_worth" "is_worth" (defArgs s_is_worth) (defBody s_is_worth) (defScope s_is_worth) .none kV0 dc0 pm0 an0 cd0 ct0), sl0⟩) (c0 : PySem.W.codeIn K cd0 "is_worth" = true)
    {f1 : Addr} {od1 an1 : Option Addr} {sl1 : Array (Option Value)} {kV1 dc1 pm1 cd1 ct1 : Value}
    (a1 : PySem.W.nsIn K mainGlobals "is_name" = some (some (.ref f1))) (l1 : K.lookup f1 = some ⟨.type "function", od1, .func (PySem.W.fnOf "is_name" "is_name" (defArgs s_is_name) (defBody s_is_name) (defScope s_is_name) .none kV1 dc1 pm1 an1 cd1 ct1), sl1⟩) (c1 : PySem.W.codeIn K cd1 "is_name" = true)
    {f2 : Addr} {od2 an2 : Option Addr} {sl2 : Array (Option Value)} {kV2 dc2 pm2 cd2 ct2 : Value}
    (a2 : PySem.W.nsIn K mainGlobals "is_key" = some (some (.ref f2))) (l2 : K.lookup f2 = some ⟨.type "function", od2, .func (PySem.W.fnOf "is_key" "is_key" (defArgs s_is_key) (defBody s_is_key) (defScope s_is_key) .none kV2 dc2 pm2 an2 cd2 ct2), sl2⟩) (c2 : PySem.W.codeIn K cd2 "is_key" = true)
    {f3 : Addr} {od3 an3 : Option Addr} {sl3 : Array (Option Value)} {kV3 dc3 pm3 cd3 ct3 : Value}
    (a3 : PySem.W.nsIn K mainGlobals "is_reference" = some (some (.ref f3))) (l3 : K.lookup f3 = some ⟨.type "function", od3, .func (PySem.W.fnOf "is_reference" "is_reference" (defArgs s_is_reference) (defBody s_is_reference) (defScope s_is_reference) .none kV3 dc3 pm3 an3 cd3 ct3), sl3⟩) (c3 : PySem.W.codeIn K cd3 "is_reference" = true)
    {f4 : Addr} {od4 an4 : Option Addr} {sl4 : Array (Option Value)} {kV4 dc4 pm4 cd4 ct4 : Value}
    (a4 : PySem.W.nsIn K mainGlobals "signs_ahead" = some (some (.ref f4))) (l4 : K.lookup f4 = some ⟨.type "function", od4, .func (PySem.W.fnOf "signs_ahead" "signs_ahead" (defArgs s_signs_ahead) (defBody s_signs_ahead) (defScope s_signs_ahead) .none kV4 dc4 pm4 an4 cd4 ct4), sl4⟩) (c4 : PySem.W.codeIn K cd4 "signs_ahead" = true)
    {f5 : Addr} {od5 an5 : Option Addr} {sl5 : Array (Option Value)} {kV5 dc5 pm5 cd5 ct5 : Value}
    (a5 : PySem.W.nsIn K mainGlobals "number_of" = some (some (.ref f5))) (l5 : K.lookup f5 = some ⟨.type "function", od5, .func (PySem.W.fnOf "number_of" "number_of" (defArgs s_number_of) (defBody s_number_of) (defScope s_number_of) .none kV5 dc5 pm5 an5 cd5 ct5), sl5⟩) (c5 : PySem.W.codeIn K cd5 "number_of" = true)
    {f6 : Addr} {od6 an6 : Option Addr} {sl6 : Array (Option Value)} {kV6 dc6 pm6 cd6 ct6 : Value}
    (a6 : PySem.W.nsIn K mainGlobals "number_text" = some (some (.ref f6))) (l6 : K.lookup f6 = some ⟨.type "function", od6, .func (PySem.W.fnOf "number_text" "number_text" (defArgs s_number_text) (defBody s_number_text) (defScope s_number_text) .none kV6 dc6 pm6 an6 cd6 ct6), sl6⟩) (c6 : PySem.W.codeIn K cd6 "number_text" = true)
    {f7 : Addr} {od7 an7 : Option Addr} {sl7 : Array (Option Value)} {kV7 dc7 pm7 cd7 ct7 : Value}
    (a7 : PySem.W.nsIn K mainGlobals "is_number_text" = some (some (.ref f7))) (l7 : K.lookup f7 = some ⟨.type "function", od7, .func (PySem.W.fnOf "is_number_text" "is_number_text" (defArgs s_is_number_text) (defBody s_is_number_text) (defScope s_is_number_text) .none kV7 dc7 pm7 an7 cd7 ct7), sl7⟩) (c7 : PySem.W.codeIn K cd7 "is_number_text" = true)
    {f8 : Addr} {od8 an8 : Option Addr} {sl8 : Array (Option Value)} {kV8 dc8 pm8 cd8 ct8 : Value}
    (a8 : PySem.W.nsIn K mainGlobals "rank" = some (some (.ref f8))) (l8 : K.lookup f8 = some ⟨.type "function", od8, .func (PySem.W.fnOf "rank" "rank" (defArgs s_rank) (defBody s_rank) (defScope s_rank) .none kV8 dc8 pm8 an8 cd8 ct8), sl8⟩) (c8 : PySem.W.codeIn K cd8 "rank" = true)
    {f9 : Addr} {od9 an9 : Option Addr} {sl9 : Array (Option Value)} {kV9 dc9 pm9 cd9 ct9 : Value}
    (a9 : PySem.W.nsIn K mainGlobals "is_stem" = some (some (.ref f9))) (l9 : K.lookup f9 = some ⟨.type "function", od9, .func (PySem.W.fnOf "is_stem" "is_stem" (defArgs s_is_stem) (defBody s_is_stem) (defScope s_is_stem) .none kV9 dc9 pm9 an9 cd9 ct9), sl9⟩) (c9 : PySem.W.codeIn K cd9 "is_stem" = true)
    {f10 : Addr} {od10 an10 : Option Addr} {sl10 : Array (Option Value)} {kV10 dc10 pm10 cd10 ct10 : Value}
    (a10 : PySem.W.nsIn K mainGlobals "meet" = some (some (.ref f10))) (l10 : K.lookup f10 = some ⟨.type "function", od10, .func (PySem.W.fnOf "meet" "meet" (defArgs s_meet) (defBody s_meet) (defScope s_meet) .none kV10 dc10 pm10 an10 cd10 ct10), sl10⟩) (c10 : PySem.W.codeIn K cd10 "meet" = true)
    {f11 : Addr} {od11 an11 : Option Addr} {sl11 : Array (Option Value)} {kV11 dc11 pm11 cd11 ct11 : Value}
    (a11 : PySem.W.nsIn K mainGlobals "truth_text" = some (some (.ref f11))) (l11 : K.lookup f11 = some ⟨.type "function", od11, .func (PySem.W.fnOf "truth_text" "truth_text" (defArgs s_truth_text) (defBody s_truth_text) (defScope s_truth_text) .none kV11 dc11 pm11 an11 cd11 ct11), sl11⟩) (c11 : PySem.W.codeIn K cd11 "truth_text" = true)
    {f12 : Addr} {od12 an12 : Option Addr} {sl12 : Array (Option Value)} {kV12 dc12 pm12 cd12 ct12 : Value}
    (a12 : PySem.W.nsIn K mainGlobals "quotient" = some (some (.ref f12))) (l12 : K.lookup f12 = some ⟨.type "function", od12, .func (PySem.W.fnOf "quotient" "quotient" (defArgs s_quotient) (defBody s_quotient) (defScope s_quotient) .none kV12 dc12 pm12 an12 cd12 ct12), sl12⟩) (c12 : PySem.W.codeIn K cd12 "quotient" = true)
    {f13 : Addr} {od13 an13 : Option Addr} {sl13 : Array (Option Value)} {kV13 dc13 pm13 cd13 ct13 : Value}
    (a13 : PySem.W.nsIn K mainGlobals "by_numbers" = some (some (.ref f13))) (l13 : K.lookup f13 = some ⟨.type "function", od13, .func (PySem.W.fnOf "by_numbers" "by_numbers" (defArgs s_by_numbers) (defBody s_by_numbers) (defScope s_by_numbers) .none kV13 dc13 pm13 an13 cd13 ct13), sl13⟩) (c13 : PySem.W.codeIn K cd13 "by_numbers" = true)
    {f14 : Addr} {od14 an14 : Option Addr} {sl14 : Array (Option Value)} {kV14 dc14 pm14 cd14 ct14 : Value}
    (a14 : PySem.W.nsIn K mainGlobals "are_one_text" = some (some (.ref f14))) (l14 : K.lookup f14 = some ⟨.type "function", od14, .func (PySem.W.fnOf "are_one_text" "are_one_text" (defArgs s_are_one_text) (defBody s_are_one_text) (defScope s_are_one_text) .none kV14 dc14 pm14 an14 cd14 ct14), sl14⟩) (c14 : PySem.W.codeIn K cd14 "are_one_text" = true)
    {f15 : Addr} {od15 an15 : Option Addr} {sl15 : Array (Option Value)} {kV15 dc15 pm15 cd15 ct15 : Value}
    (a15 : PySem.W.nsIn K mainGlobals "put_behind" = some (some (.ref f15))) (l15 : K.lookup f15 = some ⟨.type "function", od15, .func (PySem.W.fnOf "put_behind" "put_behind" (defArgs s_put_behind) (defBody s_put_behind) (defScope s_put_behind) .none kV15 dc15 pm15 an15 cd15 ct15), sl15⟩) (c15 : PySem.W.codeIn K cd15 "put_behind" = true)
    {f16 : Addr} {od16 an16 : Option Addr} {sl16 : Array (Option Value)} {kV16 dc16 pm16 cd16 ct16 : Value}
    (a16 : PySem.W.nsIn K mainGlobals "holds_other" = some (some (.ref f16))) (l16 : K.lookup f16 = some ⟨.type "function", od16, .func (PySem.W.fnOf "holds_other" "holds_other" (defArgs s_holds_other) (defBody s_holds_other) (defScope s_holds_other) .none kV16 dc16 pm16 an16 cd16 ct16), sl16⟩) (c16 : PySem.W.codeIn K cd16 "holds_other" = true)
    {f17 : Addr} {od17 an17 : Option Addr} {sl17 : Array (Option Value)} {kV17 dc17 pm17 cd17 ct17 : Value}
    (a17 : PySem.W.nsIn K mainGlobals "stands_behind" = some (some (.ref f17))) (l17 : K.lookup f17 = some ⟨.type "function", od17, .func (PySem.W.fnOf "stands_behind" "stands_behind" (defArgs s_stands_behind) (defBody s_stands_behind) (defScope s_stands_behind) .none kV17 dc17 pm17 an17 cd17 ct17), sl17⟩) (c17 : PySem.W.codeIn K cd17 "stands_behind" = true)
    {f18 : Addr} {od18 an18 : Option Addr} {sl18 : Array (Option Value)} {kV18 dc18 pm18 cd18 ct18 : Value}
    (a18 : PySem.W.nsIn K mainGlobals "of_two" = some (some (.ref f18))) (l18 : K.lookup f18 = some ⟨.type "function", od18, .func (PySem.W.fnOf "of_two" "of_two" (defArgs s_of_two) (defBody s_of_two) (defScope s_of_two) .none kV18 dc18 pm18 an18 cd18 ct18), sl18⟩) (c18 : PySem.W.codeIn K cd18 "of_two" = true)
    {f19 : Addr} {od19 an19 : Option Addr} {sl19 : Array (Option Value)} {kV19 dc19 pm19 cd19 ct19 : Value}
    (a19 : PySem.W.nsIn K mainGlobals "piece_of" = some (some (.ref f19))) (l19 : K.lookup f19 = some ⟨.type "function", od19, .func (PySem.W.fnOf "piece_of" "piece_of" (defArgs s_piece_of) (defBody s_piece_of) (defScope s_piece_of) .none kV19 dc19 pm19 an19 cd19 ct19), sl19⟩) (c19 : PySem.W.codeIn K cd19 "piece_of" = true)
    {f20 : Addr} {od20 an20 : Option Addr} {sl20 : Array (Option Value)} {kV20 dc20 pm20 cd20 ct20 : Value}
    (a20 : PySem.W.nsIn K mainGlobals "part_of" = some (some (.ref f20))) (l20 : K.lookup f20 = some ⟨.type "function", od20, .func (PySem.W.fnOf "part_of" "part_of" (defArgs s_part_of) (defBody s_part_of) (defScope s_part_of) .none kV20 dc20 pm20 an20 cd20 ct20), sl20⟩) (c20 : PySem.W.codeIn K cd20 "part_of" = true)
    {f21 : Addr} {od21 an21 : Option Addr} {sl21 : Array (Option Value)} {kV21 dc21 pm21 cd21 ct21 : Value}
    (a21 : PySem.W.nsIn K mainGlobals "of_worths" = some (some (.ref f21))) (l21 : K.lookup f21 = some ⟨.type "function", od21, .func (PySem.W.fnOf "of_worths" "of_worths" (defArgs s_of_worths) (defBody s_of_worths) (defScope s_of_worths) .none kV21 dc21 pm21 an21 cd21 ct21), sl21⟩) (c21 : PySem.W.codeIn K cd21 "of_worths" = true)
    {f22 : Addr} {od22 an22 : Option Addr} {sl22 : Array (Option Value)} {kV22 dc22 pm22 cd22 ct22 : Value}
    (a22 : PySem.W.nsIn K mainGlobals "not_too_long" = some (some (.ref f22))) (l22 : K.lookup f22 = some ⟨.type "function", od22, .func (PySem.W.fnOf "not_too_long" "not_too_long" (defArgs s_not_too_long) (defBody s_not_too_long) (defScope s_not_too_long) .none kV22 dc22 pm22 an22 cd22 ct22), sl22⟩) (c22 : PySem.W.codeIn K cd22 "not_too_long" = true)
    {f23 : Addr} {od23 an23 : Option Addr} {sl23 : Array (Option Value)} {kV23 dc23 pm23 cd23 ct23 : Value}
    (a23 : PySem.W.nsIn K mainGlobals "need_reference" = some (some (.ref f23))) (l23 : K.lookup f23 = some ⟨.type "function", od23, .func (PySem.W.fnOf "need_reference" "need_reference" (defArgs s_need_reference) (defBody s_need_reference) (defScope s_need_reference) .none kV23 dc23 pm23 an23 cd23 ct23), sl23⟩) (c23 : PySem.W.codeIn K cd23 "need_reference" = true)
    {f24 : Addr} {od24 an24 : Option Addr} {sl24 : Array (Option Value)} {kV24 dc24 pm24 cd24 ct24 : Value}
    (a24 : PySem.W.nsIn K mainGlobals "need_worth" = some (some (.ref f24))) (l24 : K.lookup f24 = some ⟨.type "function", od24, .func (PySem.W.fnOf "need_worth" "need_worth" (defArgs s_need_worth) (defBody s_need_worth) (defScope s_need_worth) .none kV24 dc24 pm24 an24 cd24 ct24), sl24⟩) (c24 : PySem.W.codeIn K cd24 "need_worth" = true)
    {f25 : Addr} {od25 an25 : Option Addr} {sl25 : Array (Option Value)} {kV25 dc25 pm25 cd25 ct25 : Value}
    (a25 : PySem.W.nsIn K mainGlobals "need_ordered" = some (some (.ref f25))) (l25 : K.lookup f25 = some ⟨.type "function", od25, .func (PySem.W.fnOf "need_ordered" "need_ordered" (defArgs s_need_ordered) (defBody s_need_ordered) (defScope s_need_ordered) .none kV25 dc25 pm25 an25 cd25 ct25), sl25⟩) (c25 : PySem.W.codeIn K cd25 "need_ordered" = true)
    {f26 : Addr} {od26 an26 : Option Addr} {sl26 : Array (Option Value)} {kV26 dc26 pm26 cd26 ct26 : Value}
    (a26 : PySem.W.nsIn K mainGlobals "ranks" = some (some (.ref f26))) (l26 : K.lookup f26 = some ⟨.type "function", od26, .func (PySem.W.fnOf "ranks" "ranks" (defArgs s_ranks) (defBody s_ranks) (defScope s_ranks) .none kV26 dc26 pm26 an26 cd26 ct26), sl26⟩) (c26 : PySem.W.codeIn K cd26 "ranks" = true)
    {f27 kc27 pp27 : Addr} {od27 an27 : Option Addr} {sl27 : Array (Option Value)} {kV27 dc27 pm27 ct27 : Value} {xo27 : Value} {xd27 : Option Addr} {xv27 : Array Value} {xs27 : Array (Option Value)}
    (a27 : PySem.W.nsIn K mainGlobals "walked" = some (some (.ref f27))) (l27 : K.lookup f27 = some ⟨.type "function", od27, .func (PySem.W.fnOf "walked" "walked" (defArgs s_walked) (defBody s_walked) (defScope s_walked) .none kV27 dc27 pm27 an27 (.ref kc27) ct27), sl27⟩) (c27 : PySem.W.codeIn K (.ref kc27) "walked" = true) (lc27 : K.lookup kc27 = some ⟨xo27, xd27, .fields xv27, xs27⟩) (lv27 : (xv27[11]? : Option Value) = some (.ref pp27))
    {f28 : Addr} {od28 an28 : Option Addr} {sl28 : Array (Option Value)} {kV28 dc28 pm28 cd28 ct28 : Value}
    (a28 : PySem.W.nsIn K mainGlobals "need_job" = some (some (.ref f28))) (l28 : K.lookup f28 = some ⟨.type "function", od28, .func (PySem.W.fnOf "need_job" "need_job" (defArgs s_need_job) (defBody s_need_job) (defScope s_need_job) .none kV28 dc28 pm28 an28 cd28 ct28), sl28⟩) (c28 : PySem.W.codeIn K cd28 "need_job" = true)
    {f29 : Addr} {od29 an29 : Option Addr} {sl29 : Array (Option Value)} {kV29 dc29 pm29 cd29 ct29 : Value}
    (a29 : PySem.W.nsIn K mainGlobals "_law_cell_at" = some (some (.ref f29))) (l29 : K.lookup f29 = some ⟨.type "function", od29, .func (PySem.W.fnOf "_law_cell_at" "_law_cell_at" (defArgs s_law_cell_at) (defBody s_law_cell_at) (defScope s_law_cell_at) .none kV29 dc29 pm29 an29 cd29 ct29), sl29⟩) (c29 : PySem.W.codeIn K cd29 "_law_cell_at" = true)
    {f30 : Addr} {od30 an30 : Option Addr} {sl30 : Array (Option Value)} {kV30 dc30 pm30 cd30 ct30 : Value}
    (a30 : PySem.W.nsIn K mainGlobals "_law_bag" = some (some (.ref f30))) (l30 : K.lookup f30 = some ⟨.type "function", od30, .func (PySem.W.fnOf "_law_bag" "_law_bag" (defArgs s_law_bag) (defBody s_law_bag) (defScope s_law_bag) .none kV30 dc30 pm30 an30 cd30 ct30), sl30⟩) (c30 : PySem.W.codeIn K cd30 "_law_bag" = true)
    {f31 : Addr} {od31 an31 : Option Addr} {sl31 : Array (Option Value)} {kV31 dc31 pm31 cd31 ct31 : Value}
    (a31 : PySem.W.nsIn K mainGlobals "_law_draw" = some (some (.ref f31))) (l31 : K.lookup f31 = some ⟨.type "function", od31, .func (PySem.W.fnOf "_law_draw" "_law_draw" (defArgs s_law_draw) (defBody s_law_draw) (defScope s_law_draw) .none kV31 dc31 pm31 an31 cd31 ct31), sl31⟩) (c31 : PySem.W.codeIn K cd31 "_law_draw" = true)
    {f32 : Addr} {od32 an32 : Option Addr} {sl32 : Array (Option Value)} {kV32 dc32 pm32 cd32 ct32 : Value}
    (a32 : PySem.W.nsIn K mainGlobals "_law_key" = some (some (.ref f32))) (l32 : K.lookup f32 = some ⟨.type "function", od32, .func (PySem.W.fnOf "_law_key" "_law_key" (defArgs s_law_key) (defBody s_law_key) (defScope s_law_key) .none kV32 dc32 pm32 an32 cd32 ct32), sl32⟩) (c32 : PySem.W.codeIn K cd32 "_law_key" = true)
    {f33 : Addr} {od33 an33 : Option Addr} {sl33 : Array (Option Value)} {kV33 dc33 pm33 cd33 ct33 : Value}
    (a33 : PySem.W.nsIn K mainGlobals "_law_word" = some (some (.ref f33))) (l33 : K.lookup f33 = some ⟨.type "function", od33, .func (PySem.W.fnOf "_law_word" "_law_word" (defArgs s_law_word) (defBody s_law_word) (defScope s_law_word) .none kV33 dc33 pm33 an33 cd33 ct33), sl33⟩) (c33 : PySem.W.codeIn K cd33 "_law_word" = true)
    {f34 : Addr} {od34 an34 : Option Addr} {sl34 : Array (Option Value)} {kV34 dc34 pm34 cd34 ct34 : Value}
    (a34 : PySem.W.nsIn K mainGlobals "_law_unlike" = some (some (.ref f34))) (l34 : K.lookup f34 = some ⟨.type "function", od34, .func (PySem.W.fnOf "_law_unlike" "_law_unlike" (defArgs s_law_unlike) (defBody s_law_unlike) (defScope s_law_unlike) .none kV34 dc34 pm34 an34 cd34 ct34), sl34⟩) (c34 : PySem.W.codeIn K cd34 "_law_unlike" = true)
    {f35 : Addr} {od35 an35 : Option Addr} {sl35 : Array (Option Value)} {kV35 dc35 pm35 cd35 ct35 : Value}
    (a35 : PySem.W.nsIn K mainGlobals "_law_pool" = some (some (.ref f35))) (l35 : K.lookup f35 = some ⟨.type "function", od35, .func (PySem.W.fnOf "_law_pool" "_law_pool" (defArgs s_law_pool) (defBody s_law_pool) (defScope s_law_pool) .none kV35 dc35 pm35 an35 cd35 ct35), sl35⟩) (c35 : PySem.W.codeIn K cd35 "_law_pool" = true)
    {f36 : Addr} {od36 an36 : Option Addr} {sl36 : Array (Option Value)} {kV36 dc36 pm36 cd36 ct36 : Value}
    (a36 : PySem.W.nsIn K mainGlobals "_law_spot" = some (some (.ref f36))) (l36 : K.lookup f36 = some ⟨.type "function", od36, .func (PySem.W.fnOf "_law_spot" "_law_spot" (defArgs s_law_spot) (defBody s_law_spot) (defScope s_law_spot) .none kV36 dc36 pm36 an36 cd36 ct36), sl36⟩) (c36 : PySem.W.codeIn K cd36 "_law_spot" = true)
    {f37 : Addr} {od37 an37 : Option Addr} {sl37 : Array (Option Value)} {kV37 dc37 pm37 cd37 ct37 : Value}
    (a37 : PySem.W.nsIn K mainGlobals "_law_rank" = some (some (.ref f37))) (l37 : K.lookup f37 = some ⟨.type "function", od37, .func (PySem.W.fnOf "_law_rank" "_law_rank" (defArgs s_law_rank) (defBody s_law_rank) (defScope s_law_rank) .none kV37 dc37 pm37 an37 cd37 ct37), sl37⟩) (c37 : PySem.W.codeIn K cd37 "_law_rank" = true)
    {f38 : Addr} {od38 an38 : Option Addr} {sl38 : Array (Option Value)} {kV38 dc38 pm38 cd38 ct38 : Value}
    (a38 : PySem.W.nsIn K mainGlobals "_law_worth" = some (some (.ref f38))) (l38 : K.lookup f38 = some ⟨.type "function", od38, .func (PySem.W.fnOf "_law_worth" "_law_worth" (defArgs s_law_worth) (defBody s_law_worth) (defScope s_law_worth) .none kV38 dc38 pm38 an38 cd38 ct38), sl38⟩) (c38 : PySem.W.codeIn K cd38 "_law_worth" = true)
    {f39 : Addr} {od39 an39 : Option Addr} {sl39 : Array (Option Value)} {kV39 dc39 pm39 cd39 ct39 : Value}
    (a39 : PySem.W.nsIn K mainGlobals "_law_number" = some (some (.ref f39))) (l39 : K.lookup f39 = some ⟨.type "function", od39, .func (PySem.W.fnOf "_law_number" "_law_number" (defArgs s_law_number) (defBody s_law_number) (defScope s_law_number) .none kV39 dc39 pm39 an39 cd39 ct39), sl39⟩) (c39 : PySem.W.codeIn K cd39 "_law_number" = true)
    {f40 : Addr} {od40 an40 : Option Addr} {sl40 : Array (Option Value)} {kV40 dc40 pm40 cd40 ct40 : Value}
    (a40 : PySem.W.nsIn K mainGlobals "_law_of_numbers" = some (some (.ref f40))) (l40 : K.lookup f40 = some ⟨.type "function", od40, .func (PySem.W.fnOf "_law_of_numbers" "_law_of_numbers" (defArgs s_law_of_numbers) (defBody s_law_of_numbers) (defScope s_law_of_numbers) .none kV40 dc40 pm40 an40 cd40 ct40), sl40⟩) (c40 : PySem.W.codeIn K cd40 "_law_of_numbers" = true)
    {f41 : Addr} {od41 an41 : Option Addr} {sl41 : Array (Option Value)} {kV41 dc41 pm41 cd41 ct41 : Value}
    (a41 : PySem.W.nsIn K mainGlobals "_law_of_two" = some (some (.ref f41))) (l41 : K.lookup f41 = some ⟨.type "function", od41, .func (PySem.W.fnOf "_law_of_two" "_law_of_two" (defArgs s_law_of_two) (defBody s_law_of_two) (defScope s_law_of_two) .none kV41 dc41 pm41 an41 cd41 ct41), sl41⟩) (c41 : PySem.W.codeIn K cd41 "_law_of_two" = true)
    {f42 : Addr} {od42 an42 : Option Addr} {sl42 : Array (Option Value)} {kV42 dc42 pm42 cd42 ct42 : Value}
    (a42 : PySem.W.nsIn K mainGlobals "_law_piece" = some (some (.ref f42))) (l42 : K.lookup f42 = some ⟨.type "function", od42, .func (PySem.W.fnOf "_law_piece" "_law_piece" (defArgs s_law_piece) (defBody s_law_piece) (defScope s_law_piece) .none kV42 dc42 pm42 an42 cd42 ct42), sl42⟩) (c42 : PySem.W.codeIn K cd42 "_law_piece" = true)
    {f43 : Addr} {od43 an43 : Option Addr} {sl43 : Array (Option Value)} {kV43 dc43 pm43 cd43 ct43 : Value}
    (a43 : PySem.W.nsIn K mainGlobals "_law_of_worths" = some (some (.ref f43))) (l43 : K.lookup f43 = some ⟨.type "function", od43, .func (PySem.W.fnOf "_law_of_worths" "_law_of_worths" (defArgs s_law_of_worths) (defBody s_law_of_worths) (defScope s_law_of_worths) .none kV43 dc43 pm43 an43 cd43 ct43), sl43⟩) (c43 : PySem.W.codeIn K cd43 "_law_of_worths" = true)
    {f44 : Addr} {od44 an44 : Option Addr} {sl44 : Array (Option Value)} {kV44 dc44 pm44 cd44 ct44 : Value}
    (a44 : PySem.W.nsIn K mainGlobals "_law_place" = some (some (.ref f44))) (l44 : K.lookup f44 = some ⟨.type "function", od44, .func (PySem.W.fnOf "_law_place" "_law_place" (defArgs s_law_place) (defBody s_law_place) (defScope s_law_place) .none kV44 dc44 pm44 an44 cd44 ct44), sl44⟩) (c44 : PySem.W.codeIn K cd44 "_law_place" = true)
    {f45 : Addr} {od45 an45 : Option Addr} {sl45 : Array (Option Value)} {kV45 dc45 pm45 cd45 ct45 : Value}
    (a45 : PySem.W.nsIn K mainGlobals "_law_next" = some (some (.ref f45))) (l45 : K.lookup f45 = some ⟨.type "function", od45, .func (PySem.W.fnOf "_law_next" "_law_next" (defArgs s_law_next) (defBody s_law_next) (defScope s_law_next) .none kV45 dc45 pm45 an45 cd45 ct45), sl45⟩) (c45 : PySem.W.codeIn K cd45 "_law_next" = true)
    {f46 : Addr} {od46 an46 : Option Addr} {sl46 : Array (Option Value)} {kV46 dc46 pm46 cd46 ct46 : Value}
    (a46 : PySem.W.nsIn K mainGlobals "_law_data" = some (some (.ref f46))) (l46 : K.lookup f46 = some ⟨.type "function", od46, .func (PySem.W.fnOf "_law_data" "_law_data" (defArgs s_law_data) (defBody s_law_data) (defScope s_law_data) .none kV46 dc46 pm46 an46 cd46 ct46), sl46⟩) (c46 : PySem.W.codeIn K cd46 "_law_data" = true)
    {f47 : Addr} {od47 an47 : Option Addr} {sl47 : Array (Option Value)} {kV47 dc47 pm47 cd47 ct47 : Value}
    (a47 : PySem.W.nsIn K mainGlobals "_law_of_place" = some (some (.ref f47))) (l47 : K.lookup f47 = some ⟨.type "function", od47, .func (PySem.W.fnOf "_law_of_place" "_law_of_place" (defArgs s_law_of_place) (defBody s_law_of_place) (defScope s_law_of_place) .none kV47 dc47 pm47 an47 cd47 ct47), sl47⟩) (c47 : PySem.W.codeIn K cd47 "_law_of_place" = true)
    {f48 : Addr} {od48 an48 : Option Addr} {sl48 : Array (Option Value)} {kV48 dc48 pm48 cd48 ct48 : Value}
    (a48 : PySem.W.nsIn K mainGlobals "_law_told" = some (some (.ref f48))) (l48 : K.lookup f48 = some ⟨.type "function", od48, .func (PySem.W.fnOf "_law_told" "_law_told" (defArgs s_law_told) (defBody s_law_told) (defScope s_law_told) .none kV48 dc48 pm48 an48 cd48 ct48), sl48⟩) (c48 : PySem.W.codeIn K cd48 "_law_told" = true)
    {f49 : Addr} {od49 an49 : Option Addr} {sl49 : Array (Option Value)} {kV49 dc49 pm49 cd49 ct49 : Value}
    (a49 : PySem.W.nsIn K mainGlobals "_law_due" = some (some (.ref f49))) (l49 : K.lookup f49 = some ⟨.type "function", od49, .func (PySem.W.fnOf "_law_due" "_law_due" (defArgs s_law_due) (defBody s_law_due) (defScope s_law_due) .none kV49 dc49 pm49 an49 cd49 ct49), sl49⟩) (c49 : PySem.W.codeIn K cd49 "_law_due" = true)
    {f50 : Addr} {od50 an50 : Option Addr} {sl50 : Array (Option Value)} {kV50 dc50 pm50 cd50 ct50 : Value}
    (a50 : PySem.W.nsIn K mainGlobals "_law_said" = some (some (.ref f50))) (l50 : K.lookup f50 = some ⟨.type "function", od50, .func (PySem.W.fnOf "_law_said" "_law_said" (defArgs s_law_said) (defBody s_law_said) (defScope s_law_said) .none kV50 dc50 pm50 an50 cd50 ct50), sl50⟩) (c50 : PySem.W.codeIn K cd50 "_law_said" = true)
    {f51 : Addr} {od51 an51 : Option Addr} {sl51 : Array (Option Value)} {kV51 dc51 pm51 cd51 ct51 : Value}
    (a51 : PySem.W.nsIn K mainGlobals "_law_filled" = some (some (.ref f51))) (l51 : K.lookup f51 = some ⟨.type "function", od51, .func (PySem.W.fnOf "_law_filled" "_law_filled" (defArgs s_law_filled) (defBody s_law_filled) (defScope s_law_filled) .none kV51 dc51 pm51 an51 cd51 ct51), sl51⟩) (c51 : PySem.W.codeIn K cd51 "_law_filled" = true)
    {f52 : Addr} {od52 an52 : Option Addr} {sl52 : Array (Option Value)} {kV52 dc52 pm52 cd52 ct52 : Value}
    (a52 : PySem.W.nsIn K mainGlobals "_law_stage" = some (some (.ref f52))) (l52 : K.lookup f52 = some ⟨.type "function", od52, .func (PySem.W.fnOf "_law_stage" "_law_stage" (defArgs s_law_stage) (defBody s_law_stage) (defScope s_law_stage) .none kV52 dc52 pm52 an52 cd52 ct52), sl52⟩) (c52 : PySem.W.codeIn K cd52 "_law_stage" = true)
    {f53 : Addr} {od53 an53 : Option Addr} {sl53 : Array (Option Value)} {kV53 dc53 pm53 cd53 ct53 : Value}
    (a53 : PySem.W.nsIn K mainGlobals "_law_shown" = some (some (.ref f53))) (l53 : K.lookup f53 = some ⟨.type "function", od53, .func (PySem.W.fnOf "_law_shown" "_law_shown" (defArgs s_law_shown) (defBody s_law_shown) (defScope s_law_shown) .none kV53 dc53 pm53 an53 cd53 ct53), sl53⟩) (c53 : PySem.W.codeIn K cd53 "_law_shown" = true)
    {f54 : Addr} {od54 an54 : Option Addr} {sl54 : Array (Option Value)} {kV54 dc54 pm54 cd54 ct54 : Value}
    (a54 : PySem.W.nsIn K mainGlobals "_law_place_right" = some (some (.ref f54))) (l54 : K.lookup f54 = some ⟨.type "function", od54, .func (PySem.W.fnOf "_law_place_right" "_law_place_right" (defArgs s_law_place_right) (defBody s_law_place_right) (defScope s_law_place_right) .none kV54 dc54 pm54 an54 cd54 ct54), sl54⟩) (c54 : PySem.W.codeIn K cd54 "_law_place_right" = true)
    {f55 : Addr} {od55 an55 : Option Addr} {sl55 : Array (Option Value)} {kV55 dc55 pm55 cd55 ct55 : Value}
    (a55 : PySem.W.nsIn K mainGlobals "_law_changed" = some (some (.ref f55))) (l55 : K.lookup f55 = some ⟨.type "function", od55, .func (PySem.W.fnOf "_law_changed" "_law_changed" (defArgs s_law_changed) (defBody s_law_changed) (defScope s_law_changed) .none kV55 dc55 pm55 an55 cd55 ct55), sl55⟩) (c55 : PySem.W.codeIn K cd55 "_law_changed" = true)
    {f56 : Addr} {od56 an56 : Option Addr} {sl56 : Array (Option Value)} {kV56 dc56 pm56 cd56 ct56 : Value}
    (a56 : PySem.W.nsIn K mainGlobals "law" = some (some (.ref f56))) (l56 : K.lookup f56 = some ⟨.type "function", od56, .func (PySem.W.fnOf "law" "law" (defArgs s_law) (defBody s_law) (defScope s_law) .none kV56 dc56 pm56 an56 cd56 ct56), sl56⟩) (c56 : PySem.W.codeIn K cd56 "law" = true)
    {f57 : Addr} {od57 an57 : Option Addr} {sl57 : Array (Option Value)} {kV57 dc57 pm57 cd57 ct57 : Value}
    (a57 : PySem.W.findIn K (.ref C_Erring) "__init__" = some (some (.ref f57))) (l57 : K.lookup f57 = some ⟨.type "function", od57, .func (PySem.W.fnOf "__init__" "Erring.__init__" (defArgs s_Erring___init) (defBody s_Erring___init) (defScope s_Erring___init) .none kV57 dc57 pm57 an57 cd57 ct57), sl57⟩) (c57 : PySem.W.codeIn K cd57 "Erring.__init__" = true)
    {f58 : Addr} {od58 an58 : Option Addr} {sl58 : Array (Option Value)} {kV58 dc58 pm58 cd58 ct58 : Value} {DT58 : Addr} {cD58 : Value} {oD58 : Option Addr} {nD58 : Nat} {sD58 : Array (Option Value)} {u58_0 : Value}
    (a58 : PySem.W.findIn K (.ref C_Scene) "__init__" = some (some (.ref f58))) (l58 : K.lookup f58 = some ⟨.type "function", od58, .func (PySem.W.fnOf "__init__" "Scene.__init__" (defArgs s_Scene___init) (defBody s_Scene___init) (defScope s_Scene___init) (.ref DT58) kV58 dc58 pm58 an58 cd58 ct58), sl58⟩) (c58 : PySem.W.codeIn K cd58 "Scene.__init__" = true) (lD58 : K.lookup DT58 = some ⟨cD58, oD58, .seq #[u58_0] nD58, sD58⟩) (r58_0 : L2.RelV (V.int 0) u58_0)
    {f59 : Addr} {od59 an59 : Option Addr} {sl59 : Array (Option Value)} {kV59 dc59 pm59 cd59 ct59 : Value}
    (a59 : PySem.W.findIn K (.ref C_Scene) "last" = some (some (.ref f59))) (l59 : K.lookup f59 = some ⟨.type "function", od59, .func (PySem.W.fnOf "last" "Scene.last" (defArgs s_Scene_last) (defBody s_Scene_last) (defScope s_Scene_last) .none kV59 dc59 pm59 an59 cd59 ct59), sl59⟩) (c59 : PySem.W.codeIn K cd59 "Scene.last" = true)
    {f60 : Addr} {od60 an60 : Option Addr} {sl60 : Array (Option Value)} {kV60 dc60 pm60 cd60 ct60 : Value}
    (a60 : PySem.W.findIn K (.ref C_Scene) "reckon" = some (some (.ref f60))) (l60 : K.lookup f60 = some ⟨.type "function", od60, .func (PySem.W.fnOf "reckon" "Scene.reckon" (defArgs s_Scene_reckon) (defBody s_Scene_reckon) (defScope s_Scene_reckon) .none kV60 dc60 pm60 an60 cd60 ct60), sl60⟩) (c60 : PySem.W.codeIn K cd60 "Scene.reckon" = true)
    {f61 D61 : Addr} {od61 an61 : Option Addr} {sl61 : Array (Option Value)} {dc61 pm61 cd61 ct61 : Value} {u61_0 : Value}
    (a61 : PySem.W.findIn K (.ref C_Scene) "place" = some (some (.ref f61))) (l61 : K.lookup f61 = some ⟨.type "function", od61, .func (PySem.W.fnOf "place" "Scene.place" (defArgs s_Scene_place) (defBody s_Scene_place) (defScope s_Scene_place) .none (.ref D61) dc61 pm61 an61 cd61 ct61), sl61⟩) (c61 : PySem.W.codeIn K cd61 "Scene.place" = true) (q61_0 : PySem.W.nsIn K D61 "empty" = some (some u61_0)) (r61_0 : L2.RelV (V.bl false) u61_0)
    {f62 : Addr} {od62 an62 : Option Addr} {sl62 : Array (Option Value)} {kV62 dc62 pm62 cd62 ct62 : Value}
    (a62 : PySem.W.findIn K (.ref C_Scene) "reckoned" = some (some (.ref f62))) (l62 : K.lookup f62 = some ⟨.type "function", od62, .func (PySem.W.fnOf "reckoned" "Scene.reckoned" (defArgs s_Scene_reckoned) (defBody s_Scene_reckoned) (defScope s_Scene_reckoned) .none kV62 dc62 pm62 an62 cd62 ct62), sl62⟩) (c62 : PySem.W.codeIn K cd62 "Scene.reckoned" = true)
    {f63 : Addr} {od63 an63 : Option Addr} {sl63 : Array (Option Value)} {kV63 dc63 pm63 cd63 ct63 : Value}
    (a63 : PySem.W.findIn K (.ref C_Scene) "worth_at" = some (some (.ref f63))) (l63 : K.lookup f63 = some ⟨.type "function", od63, .func (PySem.W.fnOf "worth_at" "Scene.worth_at" (defArgs s_Scene_worth_at) (defBody s_Scene_worth_at) (defScope s_Scene_worth_at) .none kV63 dc63 pm63 an63 cd63 ct63), sl63⟩) (c63 : PySem.W.codeIn K cd63 "Scene.worth_at" = true)
    {f64 : Addr} {od64 an64 : Option Addr} {sl64 : Array (Option Value)} {kV64 dc64 pm64 cd64 ct64 : Value}
    (a64 : PySem.W.findIn K (.ref C_Scene) "next_key" = some (some (.ref f64))) (l64 : K.lookup f64 = some ⟨.type "function", od64, .func (PySem.W.fnOf "next_key" "Scene.next_key" (defArgs s_Scene_next_key) (defBody s_Scene_next_key) (defScope s_Scene_next_key) .none kV64 dc64 pm64 an64 cd64 ct64), sl64⟩) (c64 : PySem.W.codeIn K cd64 "Scene.next_key" = true)
    {f65 : Addr} {od65 an65 : Option Addr} {sl65 : Array (Option Value)} {kV65 dc65 pm65 cd65 ct65 : Value}
    (a65 : PySem.W.findIn K (.ref C_Scene) "place_of" = some (some (.ref f65))) (l65 : K.lookup f65 = some ⟨.type "function", od65, .func (PySem.W.fnOf "place_of" "Scene.place_of" (defArgs s_Scene_place_of) (defBody s_Scene_place_of) (defScope s_Scene_place_of) .none kV65 dc65 pm65 an65 cd65 ct65), sl65⟩) (c65 : PySem.W.codeIn K cd65 "Scene.place_of" = true)
    {f66 : Addr} {od66 an66 : Option Addr} {sl66 : Array (Option Value)} {kV66 dc66 pm66 cd66 ct66 : Value}
    (a66 : PySem.W.findIn K (.ref C_Arrays) "__init__" = some (some (.ref f66))) (l66 : K.lookup f66 = some ⟨.type "function", od66, .func (PySem.W.fnOf "__init__" "Arrays.__init__" (defArgs s_Arrays___init) (defBody s_Arrays___init) (defScope s_Arrays___init) .none kV66 dc66 pm66 an66 cd66 ct66), sl66⟩) (c66 : PySem.W.codeIn K cd66 "Arrays.__init__" = true)
    {f67 : Addr} {od67 an67 : Option Addr} {sl67 : Array (Option Value)} {kV67 dc67 pm67 cd67 ct67 : Value}
    (a67 : PySem.W.findIn K (.ref C_Arrays) "put" = some (some (.ref f67))) (l67 : K.lookup f67 = some ⟨.type "function", od67, .func (PySem.W.fnOf "put" "Arrays.put" (defArgs s_Arrays_put) (defBody s_Arrays_put) (defScope s_Arrays_put) .none kV67 dc67 pm67 an67 cd67 ct67), sl67⟩) (c67 : PySem.W.codeIn K cd67 "Arrays.put" = true)
    {f68 D68 : Addr} {od68 an68 : Option Addr} {sl68 : Array (Option Value)} {dc68 pm68 cd68 ct68 : Value} {u68_0 : Value}
    (a68 : PySem.W.findIn K (.ref C_Arrays) "read" = some (some (.ref f68))) (l68 : K.lookup f68 = some ⟨.type "function", od68, .func (PySem.W.fnOf "read" "Arrays.read" (defArgs s_Arrays_read) (defBody s_Arrays_read) (defScope s_Arrays_read) .none (.ref D68) dc68 pm68 an68 cd68 ct68), sl68⟩) (c68 : PySem.W.codeIn K cd68 "Arrays.read" = true) (q68_0 : PySem.W.nsIn K D68 "otherwise" = some (some u68_0)) (r68_0 : L2.RelV (V.str (Str.ofString "")) u68_0)
    {f69 : Addr} {od69 an69 : Option Addr} {sl69 : Array (Option Value)} {kV69 dc69 pm69 cd69 ct69 : Value}
    (a69 : PySem.W.findIn K (.ref C_Arrays) "beneath" = some (some (.ref f69))) (l69 : K.lookup f69 = some ⟨.type "function", od69, .func (PySem.W.fnOf "beneath" "Arrays.beneath" (defArgs s_Arrays_beneath) (defBody s_Arrays_beneath) (defScope s_Arrays_beneath) .none kV69 dc69 pm69 an69 cd69 ct69), sl69⟩) (c69 : PySem.W.codeIn K cd69 "Arrays.beneath" = true)
    {f70 : Addr} {od70 an70 : Option Addr} {sl70 : Array (Option Value)} {kV70 dc70 pm70 cd70 ct70 : Value}
    (a70 : PySem.W.findIn K (.ref C_Arrays) "data" = some (some (.ref f70))) (l70 : K.lookup f70 = some ⟨.type "function", od70, .func (PySem.W.fnOf "data" "Arrays.data" (defArgs s_Arrays_data) (defBody s_Arrays_data) (defScope s_Arrays_data) .none kV70 dc70 pm70 an70 cd70 ct70), sl70⟩) (c70 : PySem.W.codeIn K cd70 "Arrays.data" = true)
    {f71 : Addr} {od71 an71 : Option Addr} {sl71 : Array (Option Value)} {kV71 dc71 pm71 cd71 ct71 : Value}
    (a71 : PySem.W.findIn K (.ref C_Arrays) "kill" = some (some (.ref f71))) (l71 : K.lookup f71 = some ⟨.type "function", od71, .func (PySem.W.fnOf "kill" "Arrays.kill" (defArgs s_Arrays_kill) (defBody s_Arrays_kill) (defScope s_Arrays_kill) .none kV71 dc71 pm71 an71 cd71 ct71), sl71⟩) (c71 : PySem.W.codeIn K cd71 "Arrays.kill" = true)
    {f72 : Addr} {od72 an72 : Option Addr} {sl72 : Array (Option Value)} {kV72 dc72 pm72 cd72 ct72 : Value}
    (a72 : PySem.W.findIn K (.ref C_Arrays) "names" = some (some (.ref f72))) (l72 : K.lookup f72 = some ⟨.type "function", od72, .func (PySem.W.fnOf "names" "Arrays.names" (defArgs s_Arrays_names) (defBody s_Arrays_names) (defScope s_Arrays_names) .none kV72 dc72 pm72 an72 cd72 ct72), sl72⟩) (c72 : PySem.W.codeIn K cd72 "Arrays.names" = true)
    {f73 : Addr} {od73 an73 : Option Addr} {sl73 : Array (Option Value)} {kV73 dc73 pm73 cd73 ct73 : Value}
    (a73 : PySem.W.findIn K (.ref C_Arrays) "count" = some (some (.ref f73))) (l73 : K.lookup f73 = some ⟨.type "function", od73, .func (PySem.W.fnOf "count" "Arrays.count" (defArgs s_Arrays_count) (defBody s_Arrays_count) (defScope s_Arrays_count) .none kV73 dc73 pm73 an73 cd73 ct73), sl73⟩) (c73 : PySem.W.codeIn K cd73 "Arrays.count" = true)
    {f74 D74 : Addr} {od74 an74 : Option Addr} {sl74 : Array (Option Value)} {dc74 pm74 cd74 ct74 : Value} {u74_0 : Value}
    (a74 : PySem.W.findIn K (.ref C_Arrays) "order" = some (some (.ref f74))) (l74 : K.lookup f74 = some ⟨.type "function", od74, .func (PySem.W.fnOf "order" "Arrays.order" (defArgs s_Arrays_order) (defBody s_Arrays_order) (defScope s_Arrays_order) .none (.ref D74) dc74 pm74 an74 cd74 ct74), sl74⟩) (c74 : PySem.W.codeIn K cd74 "Arrays.order" = true) (q74_0 : PySem.W.nsIn K D74 "back" = some (some u74_0)) (r74_0 : L2.RelV (V.bl false) u74_0)
    {f75 : Addr} {od75 an75 : Option Addr} {sl75 : Array (Option Value)} {kV75 dc75 pm75 cd75 ct75 : Value}
    (a75 : PySem.W.findIn K (.ref C_Arrays) "rows" = some (some (.ref f75))) (l75 : K.lookup f75 = some ⟨.type "function", od75, .func (PySem.W.fnOf "rows" "Arrays.rows" (defArgs s_Arrays_rows) (defBody s_Arrays_rows) (defScope s_Arrays_rows) .none kV75 dc75 pm75 an75 cd75 ct75), sl75⟩) (c75 : PySem.W.codeIn K cd75 "Arrays.rows" = true)
    {f76 : Addr} {od76 an76 : Option Addr} {sl76 : Array (Option Value)} {kV76 dc76 pm76 cd76 ct76 : Value}
    (a76 : PySem.W.findIn K (.ref C_Dealings) "__init__" = some (some (.ref f76))) (l76 : K.lookup f76 = some ⟨.type "function", od76, .func (PySem.W.fnOf "__init__" "Dealings.__init__" (defArgs s_Dealings___init) (defBody s_Dealings___init) (defScope s_Dealings___init) .none kV76 dc76 pm76 an76 cd76 ct76), sl76⟩) (c76 : PySem.W.codeIn K cd76 "Dealings.__init__" = true)
    {f77 : Addr} {od77 an77 : Option Addr} {sl77 : Array (Option Value)} {kV77 dc77 pm77 cd77 ct77 : Value}
    (a77 : PySem.W.findIn K (.ref C_Dealings) "level" = some (some (.ref f77))) (l77 : K.lookup f77 = some ⟨.type "function", od77, .func (PySem.W.fnOf "level" "Dealings.level" (defArgs s_Dealings_level) (defBody s_Dealings_level) (defScope s_Dealings_level) .none kV77 dc77 pm77 an77 cd77 ct77), sl77⟩) (c77 : PySem.W.codeIn K cd77 "Dealings.level" = true)
    {f78 : Addr} {od78 an78 : Option Addr} {sl78 : Array (Option Value)} {kV78 dc78 pm78 cd78 ct78 : Value}
    (a78 : PySem.W.findIn K (.ref C_Dealings) "touched" = some (some (.ref f78))) (l78 : K.lookup f78 = some ⟨.type "function", od78, .func (PySem.W.fnOf "touched" "Dealings.touched" (defArgs s_Dealings_touched) (defBody s_Dealings_touched) (defScope s_Dealings_touched) .none kV78 dc78 pm78 an78 cd78 ct78), sl78⟩) (c78 : PySem.W.codeIn K cd78 "Dealings.touched" = true)
    {f79 : Addr} {od79 an79 : Option Addr} {sl79 : Array (Option Value)} {kV79 dc79 pm79 cd79 ct79 : Value}
    (a79 : PySem.W.findIn K (.ref C_Dealings) "need_free" = some (some (.ref f79))) (l79 : K.lookup f79 = some ⟨.type "function", od79, .func (PySem.W.fnOf "need_free" "Dealings.need_free" (defArgs s_Dealings_need_free) (defBody s_Dealings_need_free) (defScope s_Dealings_need_free) .none kV79 dc79 pm79 an79 cd79 ct79), sl79⟩) (c79 : PySem.W.codeIn K cd79 "Dealings.need_free" = true)
    {f80 : Addr} {od80 an80 : Option Addr} {sl80 : Array (Option Value)} {kV80 dc80 pm80 cd80 ct80 : Value}
    (a80 : PySem.W.findIn K (.ref C_Dealings) "note" = some (some (.ref f80))) (l80 : K.lookup f80 = some ⟨.type "function", od80, .func (PySem.W.fnOf "note" "Dealings.note" (defArgs s_Dealings_note) (defBody s_Dealings_note) (defScope s_Dealings_note) .none kV80 dc80 pm80 an80 cd80 ct80), sl80⟩) (c80 : PySem.W.codeIn K cd80 "Dealings.note" = true)
    {f81 : Addr} {od81 an81 : Option Addr} {sl81 : Array (Option Value)} {kV81 dc81 pm81 cd81 ct81 : Value}
    (a81 : PySem.W.findIn K (.ref C_Dealings) "put" = some (some (.ref f81))) (l81 : K.lookup f81 = some ⟨.type "function", od81, .func (PySem.W.fnOf "put" "Dealings.put" (defArgs s_Dealings_put) (defBody s_Dealings_put) (defScope s_Dealings_put) .none kV81 dc81 pm81 an81 cd81 ct81), sl81⟩) (c81 : PySem.W.codeIn K cd81 "Dealings.put" = true)
    {f82 : Addr} {od82 an82 : Option Addr} {sl82 : Array (Option Value)} {kV82 dc82 pm82 cd82 ct82 : Value}
    (a82 : PySem.W.findIn K (.ref C_Dealings) "kill" = some (some (.ref f82))) (l82 : K.lookup f82 = some ⟨.type "function", od82, .func (PySem.W.fnOf "kill" "Dealings.kill" (defArgs s_Dealings_kill) (defBody s_Dealings_kill) (defScope s_Dealings_kill) .none kV82 dc82 pm82 an82 cd82 ct82), sl82⟩) (c82 : PySem.W.codeIn K cd82 "Dealings.kill" = true)
    {f83 D83 : Addr} {od83 an83 : Option Addr} {sl83 : Array (Option Value)} {dc83 pm83 cd83 ct83 : Value} {u83_0 : Value}
    (a83 : PySem.W.findIn K (.ref C_Dealings) "read" = some (some (.ref f83))) (l83 : K.lookup f83 = some ⟨.type "function", od83, .func (PySem.W.fnOf "read" "Dealings.read" (defArgs s_Dealings_read) (defBody s_Dealings_read) (defScope s_Dealings_read) .none (.ref D83) dc83 pm83 an83 cd83 ct83), sl83⟩) (c83 : PySem.W.codeIn K cd83 "Dealings.read" = true) (q83_0 : PySem.W.nsIn K D83 "otherwise" = some (some u83_0)) (r83_0 : L2.RelV (V.str (Str.ofString "")) u83_0)
    {f84 : Addr} {od84 an84 : Option Addr} {sl84 : Array (Option Value)} {kV84 dc84 pm84 cd84 ct84 : Value}
    (a84 : PySem.W.findIn K (.ref C_Dealings) "data" = some (some (.ref f84))) (l84 : K.lookup f84 = some ⟨.type "function", od84, .func (PySem.W.fnOf "data" "Dealings.data" (defArgs s_Dealings_data) (defBody s_Dealings_data) (defScope s_Dealings_data) .none kV84 dc84 pm84 an84 cd84 ct84), sl84⟩) (c84 : PySem.W.codeIn K cd84 "Dealings.data" = true)
    {f85 D85 : Addr} {od85 an85 : Option Addr} {sl85 : Array (Option Value)} {dc85 pm85 cd85 ct85 : Value} {u85_0 : Value}
    (a85 : PySem.W.findIn K (.ref C_Dealings) "order" = some (some (.ref f85))) (l85 : K.lookup f85 = some ⟨.type "function", od85, .func (PySem.W.fnOf "order" "Dealings.order" (defArgs s_Dealings_order) (defBody s_Dealings_order) (defScope s_Dealings_order) .none (.ref D85) dc85 pm85 an85 cd85 ct85), sl85⟩) (c85 : PySem.W.codeIn K cd85 "Dealings.order" = true) (q85_0 : PySem.W.nsIn K D85 "back" = some (some u85_0)) (r85_0 : L2.RelV (V.bl false) u85_0)
    {D_BY_TEXTS : Addr} (gd_BY_TEXTS : PySem.W.nsIn K mainGlobals "BY_TEXTS" = some (some (.ref D_BY_TEXTS)))
    (z_abs : PySem.W.nsIn K mainGlobals "abs" = some none)
    (z_all : PySem.W.nsIn K mainGlobals "all" = some none)
    (z_bool : PySem.W.nsIn K mainGlobals "bool" = some none)
    (z_enumerate : PySem.W.nsIn K mainGlobals "enumerate" = some none)
    (z_int : PySem.W.nsIn K mainGlobals "int" = some none)
    (z_isinstance : PySem.W.nsIn K mainGlobals "isinstance" = some none)
    (z_len : PySem.W.nsIn K mainGlobals "len" = some none)
    (z_list : PySem.W.nsIn K mainGlobals "list" = some none)
    (z_max : PySem.W.nsIn K mainGlobals "max" = some none)
    (z_min : PySem.W.nsIn K mainGlobals "min" = some none)
    (z_range : PySem.W.nsIn K mainGlobals "range" = some none)
    (z_sorted : PySem.W.nsIn K mainGlobals "sorted" = some none)
    (z_str : PySem.W.nsIn K mainGlobals "str" = some none)
    (z_tuple : PySem.W.nsIn K mainGlobals "tuple" = some none)

    {t_FIGURES : Tok} (g_FIGURES : PySem.W.nsIn K mainGlobals "FIGURES" = some (some (.str (Str.ofString "0123456789") t_FIGURES)))
    {t_LETTERS : Tok} (g_LETTERS : PySem.W.nsIn K mainGlobals "LETTERS" = some (some (.str (Str.ofString "abcdefghijklmnopqrstuvwxyz") t_LETTERS)))
    {t_MOST_KEYS : Tok} (g_MOST_KEYS : PySem.W.nsIn K mainGlobals "MOST_KEYS" = some (some (.int 6 t_MOST_KEYS)))
    {t_MOST_LETTERS : Tok} (g_MOST_LETTERS : PySem.W.nsIn K mainGlobals "MOST_LETTERS" = some (some (.int 8 t_MOST_LETTERS)))
    {t_MOST_LONG : Tok} (g_MOST_LONG : PySem.W.nsIn K mainGlobals "MOST_LONG" = some (some (.int 2000 t_MOST_LONG)))
    {t_MOST_SIGNS : Tok} (g_MOST_SIGNS : PySem.W.nsIn K mainGlobals "MOST_SIGNS" = some (some (.int 40 t_MOST_SIGNS)))
    {t_SIGNS : Tok} (g_SIGNS : PySem.W.nsIn K mainGlobals "SIGNS" = some (some (.str (Str.ofString " !\"#$&'()*+,-./0123456789:;<=>?@ABCDEFGHIJKLMNOPQRSTUVWXYZ[\\]^_`abcdefghijklmnopqrstuvwxyz{|}~") t_SIGNS)))
    {tp_PLACES : Addr} {ot_PLACES : Option Addr} {nt_PLACES : Nat} {st_PLACES : Array (Option Value)} {v_PLACES_0 : Value} {v_PLACES_1 : Value} {v_PLACES_2 : Value} (gt_PLACES : PySem.W.nsIn K mainGlobals "PLACES" = some (some (.ref tp_PLACES))) (lt_PLACES : K.lookup tp_PLACES = some ⟨.type "tuple", ot_PLACES, .seq #[v_PLACES_0, v_PLACES_1, v_PLACES_2] nt_PLACES, st_PLACES⟩) (rt_PLACES_0 : L2.RelV (V.str (Str.ofString "var")) v_PLACES_0) (rt_PLACES_1 : L2.RelV (V.str (Str.ofString "at")) v_PLACES_1) (rt_PLACES_2 : L2.RelV (V.str (Str.ofString "short")) v_PLACES_2)
    {n_BY_TEXTS : Nat} {e_BY_TEXTS_0 : DictEntry} {e_BY_TEXTS_1 : DictEntry} {e_BY_TEXTS_2 : DictEntry} {e_BY_TEXTS_3 : DictEntry} (lw_BY_TEXTS : (D_BY_TEXTS == sysModules) = false) (ld_BY_TEXTS : K.lookup D_BY_TEXTS = some ⟨.type "dict", none, .dict (#[e_BY_TEXTS_0, e_BY_TEXTS_1, e_BY_TEXTS_2, e_BY_TEXTS_3] : Array DictEntry) n_BY_TEXTS, #[]⟩)
    (hs_BY_TEXTS_0 : e_BY_TEXTS_0.hash = (PySem.strKind l.prog w).hash (Str.ofString "=")) (hk_BY_TEXTS_0 : (PySem.strKind l.prog w).is (Str.ofString "=") e_BY_TEXTS_0.key = true) (hv_BY_TEXTS_0 : RelV (V.ref f14) e_BY_TEXTS_0.val)
    (hs_BY_TEXTS_1 : e_BY_TEXTS_1.hash = (PySem.strKind l.prog w).hash (Str.ofString "_")) (hk_BY_TEXTS_1 : (PySem.strKind l.prog w).is (Str.ofString "_") e_BY_TEXTS_1.key = true) (hv_BY_TEXTS_1 : RelV (V.ref f15) e_BY_TEXTS_1.val)
    (hs_BY_TEXTS_2 : e_BY_TEXTS_2.hash = (PySem.strKind l.prog w).hash (Str.ofString "[")) (hk_BY_TEXTS_2 : (PySem.strKind l.prog w).is (Str.ofString "[") e_BY_TEXTS_2.key = true) (hv_BY_TEXTS_2 : RelV (V.ref f16) e_BY_TEXTS_2.val)
    (hs_BY_TEXTS_3 : e_BY_TEXTS_3.hash = (PySem.strKind l.prog w).hash (Str.ofString "]")) (hk_BY_TEXTS_3 : (PySem.strKind l.prog w).is (Str.ofString "]") e_BY_TEXTS_3.key = true) (hv_BY_TEXTS_3 : RelV (V.ref f17) e_BY_TEXTS_3.val)
    (nl27 : K.lookup pp27 = none)
    (ch27 : PySem.W.codeHdIn K kc27 pp27 = true) (ht27 : h.get? pp27 = some (PySem.W.tabObj #[]))
    : LamX.LawAtS l w K CX0 121 63 "script" mg fa h := by
  have e := hfa.symm.trans (PySem.W.mg_of X G a56)
  cases e
  have k0 := fn_keeps l0
  have k1 := fn_keeps l1
  have k2 := fn_keeps l2
  have k3 := fn_keeps l3
  have k4 := fn_keeps l4
  have k5 := fn_keeps l5
  have k6 := fn_keeps l6
  have k7 := fn_keeps l7
  have k8 := fn_keeps l8
  have k9 := fn_keeps l9
  have k10 := fn_keeps l10
  have k11 := fn_keeps l11
  have k12 := fn_keeps l12
  have k13 := fn_keeps l13
  have k14 := fn_keeps l14
  have k15 := fn_keeps l15
  have k16 := fn_keeps l16
  have k17 := fn_keeps l17
  have k18 := fn_keeps l18
  have k19 := fn_keeps l19
  have k20 := fn_keeps l20
  have k21 := fn_keeps l21
  have k22 := fn_keeps l22
  have k23 := fn_keeps l23
  have k24 := fn_keeps l24
  have k25 := fn_keeps l25
  have k26 := fn_keeps l26
  have k27 := fn_keeps l27
  have k28 := fn_keeps l28
  have k29 := fn_keeps l29
  have k30 := fn_keeps l30
  have k31 := fn_keeps l31
  have k32 := fn_keeps l32
  have k33 := fn_keeps l33
  have k34 := fn_keeps l34
  have k35 := fn_keeps l35
  have k36 := fn_keeps l36
  have k37 := fn_keeps l37
  have k38 := fn_keeps l38
  have k39 := fn_keeps l39
  have k40 := fn_keeps l40
  have k41 := fn_keeps l41
  have k42 := fn_keeps l42
  have k43 := fn_keeps l43
  have k44 := fn_keeps l44
  have k45 := fn_keeps l45
  have k46 := fn_keeps l46
  have k47 := fn_keeps l47
  have k48 := fn_keeps l48
  have k49 := fn_keeps l49
  have k50 := fn_keeps l50
  have k51 := fn_keeps l51
  have k52 := fn_keeps l52
  have k53 := fn_keeps l53
  have k54 := fn_keeps l54
  have k55 := fn_keeps l55
  have k56 := fn_keeps l56
  have i57 := fn_is l57
  have k57 := fn_keeps l57
  have i58 := fn_is l58
  have k58 := fn_keeps l58
  have i59 := fn_is l59
  have k59 := fn_keeps l59
  have i60 := fn_is l60
  have k60 := fn_keeps l60
  have i61 := fn_is l61
  have k61 := fn_keeps l61
  have i62 := fn_is l62
  have k62 := fn_keeps l62
  have i63 := fn_is l63
  have k63 := fn_keeps l63
  have i64 := fn_is l64
  have k64 := fn_keeps l64
  have i65 := fn_is l65
  have k65 := fn_keeps l65
  have i66 := fn_is l66
  have k66 := fn_keeps l66
  have i67 := fn_is l67
  have k67 := fn_keeps l67
  have i68 := fn_is l68
  have k68 := fn_keeps l68
  have i69 := fn_is l69
  have k69 := fn_keeps l69
  have i70 := fn_is l70
  have k70 := fn_keeps l70
  have i71 := fn_is l71
  have k71 := fn_keeps l71
  have i72 := fn_is l72
  have k72 := fn_keeps l72
  have i73 := fn_is l73
  have k73 := fn_keeps l73
  have i74 := fn_is l74
  have k74 := fn_keeps l74
  have i75 := fn_is l75
  have k75 := fn_keeps l75
  have i76 := fn_is l76
  have k76 := fn_keeps l76
  have i77 := fn_is l77
  have k77 := fn_keeps l77
  have i78 := fn_is l78
  have k78 := fn_keeps l78
  have i79 := fn_is l79
  have k79 := fn_keeps l79
  have i80 := fn_is l80
  have k80 := fn_keeps l80
  have i81 := fn_is l81
  have k81 := fn_keeps l81
  have i82 := fn_is l82
  have k82 := fn_keeps l82
  have i83 := fn_is l83
  have k83 := fn_keeps l83
  have i84 := fn_is l84
  have k84 := fn_keeps l84
  have i85 := fn_is l85
  have k85 := fn_keeps l85
  have tI_Erring := fn_type l57
  have T := txt_mk X G aC_Scene pg_Scene hd_Scene po_Scene sa_Scene mk_Scene kp_Scene na_Scene_own na_Scene_dealings na_Scene_job na_Scene_latest aC_Arrays pg_Arrays hd_Arrays po_Arrays sa_Arrays mk_Arrays kp_Arrays na_Arrays_nodes aC_Dealings pg_Dealings hd_Dealings po_Dealings sa_Dealings mk_Dealings kp_Dealings na_Dealings_shelf na_Dealings_begun na_Dealings_touches aX_Erring xL_Erring rv_Erring sa_Erring ga_Erring gg_Erring kC_Erring eC_Erring tC_Erring hC_Erring iC_Erring sC_Erring nx_Erring_word a0 l0 c0 k0 a1 l1 c1 k1 a2 l2 c2 k2 a3 l3 c3 k3 a4 l4 c4 k4 a5 l5 c5 k5 a6 l6 c6 k6 a7 l7 c7 k7 a8 l8 c8 k8 a9 l9 c9 k9 a10 l10 c10 k10 a11 l11 c11 k11 a12 l12 c12 k12 a13 l13 c13 k13 a14 l14 c14 k14 a15 l15 c15 k15 a16 l16 c16 k16 a17 l17 c17 k17 a18 l18 c18 k18 a19 l19 c19 k19 a20 l20 c20 k20 a21 l21 c21 k21 a22 l22 c22 k22 a23 l23 c23 k23 a24 l24 c24 k24 a25 l25 c25 k25 a26 l26 c26 k26 a27 l27 c27 k27 lc27 lv27 a28 l28 c28 k28 a29 l29 c29 k29 a30 l30 c30 k30 a31 l31 c31 k31 a32 l32 c32 k32 a33 l33 c33 k33 a34 l34 c34 k34 a35 l35 c35 k35 a36 l36 c36 k36 a37 l37 c37 k37 a38 l38 c38 k38 a39 l39 c39 k39 a40 l40 c40 k40 a41 l41 c41 k41 a42 l42 c42 k42 a43 l43 c43 k43 a44 l44 c44 k44 a45 l45 c45 k45 a46 l46 c46 k46 a47 l47 c47 k47 a48 l48 c48 k48 a49 l49 c49 k49 a50 l50 c50 k50 a51 l51 c51 k51 a52 l52 c52 k52 a53 l53 c53 k53 a54 l54 c54 k54 a55 l55 c55 k55 a56 l56 c56 k56 a57 i57 l57 c57 k57 a58 i58 l58 c58 k58 lD58 r58_0 a59 i59 l59 c59 k59 a60 i60 l60 c60 k60 a61 i61 l61 c61 k61 q61_0 r61_0 a62 i62 l62 c62 k62 a63 i63 l63 c63 k63 a64 i64 l64 c64 k64 a65 i65 l65 c65 k65 a66 i66 l66 c66 k66 a67 i67 l67 c67 k67 a68 i68 l68 c68 k68 q68_0 r68_0 a69 i69 l69 c69 k69 a70 i70 l70 c70 k70 a71 i71 l71 c71 k71 a72 i72 l72 c72 k72 a73 i73 l73 c73 k73 a74 i74 l74 c74 k74 q74_0 r74_0 a75 i75 l75 c75 k75 a76 i76 l76 c76 k76 a77 i77 l77 c77 k77 a78 i78 l78 c78 k78 a79 i79 l79 c79 k79 a80 i80 l80 c80 k80 a81 i81 l81 c81 k81 a82 i82 l82 c82 k82 a83 i83 l83 c83 k83 q83_0 r83_0 a84 i84 l84 c84 k84 a85 i85 l85 c85 k85 q85_0 r85_0 tI_Erring gd_BY_TEXTS z_abs z_all z_bool z_enumerate z_int z_isinstance z_len z_list z_max z_min z_range z_sorted z_str z_tuple g_FIGURES g_LETTERS g_MOST_KEYS g_MOST_LETTERS g_MOST_LONG g_MOST_SIGNS g_SIGNS gt_PLACES lt_PLACES rt_PLACES_0 rt_PLACES_1 rt_PLACES_2
  have y27 := PySem.W.codeHd_of_K X ch27
  refine ⟨_, [(kc27, pp27)], spLawT K [(pp27, lamq "walked")], List.forall_mem_cons.mpr ⟨ht27, fun _ h => nomatch h⟩, List.forall_mem_cons.mpr ⟨nl27, fun _ h => nomatch h⟩, List.forall_mem_cons.mpr ⟨y27, fun _ h => nomatch h⟩, fun s v => .of_eq rfl, fun H a ns hl hb hO hS => ⟨a, ns, rfl, hS, hl, hb, List.forall_mem_cons.mpr ⟨tabS_nil (hO _ (.head _)), fun _ h => nomatch h⟩, fun _ => rfl⟩, fun base _ _ hB => ok_law T ⟨dctk_of lw_BY_TEXTS ld_BY_TEXTS (.cons hs_BY_TEXTS_0 hk_BY_TEXTS_0 hv_BY_TEXTS_0 (.cons hs_BY_TEXTS_1 hk_BY_TEXTS_1 hv_BY_TEXTS_1 (.cons hs_BY_TEXTS_2 hk_BY_TEXTS_2 hv_BY_TEXTS_2 (.cons hs_BY_TEXTS_3 hk_BY_TEXTS_3 hv_BY_TEXTS_3 (.nil))))) (show ([Str.ofString "=", Str.ofString "_", Str.ofString "[", Str.ofString "]"] : List Str).Nodup by decide +kernel)⟩ ⟨hB _ (.head _)⟩⟩
end Sk
open PySem PySem.W PyProof.Rows
set_option maxHeartbeats 0 in
theorem PySem.Challenge.cw_stemkeep_k35_places_told_holds : PySem.Challenge.rw_stemkeep_k35_places_told.Holds := by
  w_on; o_law; k_head; (case hw => w_witness2)
  k_fill
  refine LamX.walk_ofTs (l := PySem.Challenge.rw_stemkeep_k35_places_told) (n := 63) (k := 121) (x := "script") (CX := fun _ => L2.CX0) rfl (by decide) rfl ⟨rfl, by decide, by decide⟩ (fun w h Y => PySem.W.km_in_of Y) ?F (fun _ _ _ _ _ h => h)
  case F =>
    intro w mg fa h Y KX G hmg
    have hT8 := PySem.W.km_tabs_of Y
    refine' Sk.all_mk KX G hmg ?aC_Scene ?pg_Scene ?hd_Scene ?po_Scene ?sa_Scene ?mk_Scene ?kp_Scene ?na_Scene_own ?na_Scene_dealings ?na_Scene_job ?na_Scene_latest ?aC_Arrays ?pg_Arrays ?hd_Arrays ?po_Arrays ?sa_Arrays ?mk_Arrays ?kp_Arrays ?na_Arrays_nodes ?aC_Dealings ?pg_Dealings ?hd_Dealings ?po_Dealings ?sa_Dealings ?mk_Dealings ?kp_Dealings ?na_Dealings_shelf ?na_Dealings_begun ?na_Dealings_touches ?aX_Erring ?xL_Erring ?rv_Erring ?sa_Erring ?ga_Erring ?gg_Erring ?kC_Erring ?eC_Erring ?tC_Erring ?hC_Erring ?iC_Erring ?sC_Erring ?nx_Erring_word ?a0 ?l0 ?c0 ?a1 ?l1 ?c1 ?a2 ?l2 ?c2 ?a3 ?l3 ?c3 ?a4 ?l4 ?c4 ?a5 ?l5 ?c5 ?a6 ?l6 ?c6 ?a7 ?l7 ?c7 ?a8 ?l8 ?c8 ?a9 ?l9 ?c9 ?a10 ?l10 ?c10 ?a11 ?l11 ?c11 ?a12 ?l12 ?c12 ?a13 ?l13 ?c13 ?a14 ?l14 ?c14 ?a15 ?l15 ?c15 ?a16 ?l16 ?c16 ?a17 ?l17 ?c17 ?a18 ?l18 ?c18 ?a19 ?l19 ?c19 ?a20 ?l20 ?c20 ?a21 ?l21 ?c21 ?a22 ?l22 ?c22 ?a23 ?l23 ?c23 ?a24 ?l24 ?c24 ?a25 ?l25 ?c25 ?a26 ?l26 ?c26 ?a27 ?l27 ?c27 ?lc27 ?lv27 ?a28 ?l28 ?c28 ?a29 ?l29 ?c29 ?a30 ?l30 ?c30 ?a31 ?l31 ?c31 ?a32 ?l32 ?c32 ?a33 ?l33 ?c33 ?a34 ?l34 ?c34 ?a35 ?l35 ?c35 ?a36 ?l36 ?c36 ?a37 ?l37 ?c37 ?a38 ?l38 ?c38 ?a39 ?l39 ?c39 ?a40 ?l40 ?c40 ?a41 ?l41 ?c41 ?a42 ?l42 ?c42 ?a43 ?l43 ?c43 ?a44 ?l44 ?c44 ?a45 ?l45 ?c45 ?a46 ?l46 ?c46 ?a47 ?l47 ?c47 ?a48 ?l48 ?c48 ?a49 ?l49 ?c49 ?a50 ?l50 ?c50 ?a51 ?l51 ?c51 ?a52 ?l52 ?c52 ?a53 ?l53 ?c53 ?a54 ?l54 ?c54 ?a55 ?l55 ?c55 ?a56 ?l56 ?c56 ?a57 ?l57 ?c57 ?a58 ?l58 ?c58 ?lD58 ?r58_0 ?a59 ?l59 ?c59 ?a60 ?l60 ?c60 ?a61 ?l61 ?c61 ?q61_0 ?r61_0 ?a62 ?l62 ?c62 ?a63 ?l63 ?c63 ?a64 ?l64 ?c64 ?a65 ?l65 ?c65 ?a66 ?l66 ?c66 ?a67 ?l67 ?c67 ?a68 ?l68 ?c68 ?q68_0 ?r68_0 ?a69 ?l69 ?c69 ?a70 ?l70 ?c70 ?a71 ?l71 ?c71 ?a72 ?l72 ?c72 ?a73 ?l73 ?c73 ?a74 ?l74 ?c74 ?q74_0 ?r74_0 ?a75 ?l75 ?c75 ?a76 ?l76 ?c76 ?a77 ?l77 ?c77 ?a78 ?l78 ?c78 ?a79 ?l79 ?c79 ?a80 ?l80 ?c80 ?a81 ?l81 ?c81 ?a82 ?l82 ?c82 ?a83 ?l83 ?c83 ?q83_0 ?r83_0 ?a84 ?l84 ?c84 ?a85 ?l85 ?c85 ?q85_0 ?r85_0 ?gd_BY_TEXTS ?z_abs ?z_all ?z_bool ?z_enumerate ?z_int ?z_isinstance ?z_len ?z_list ?z_max ?z_min ?z_range ?z_sorted ?z_str ?z_tuple ?g_FIGURES ?g_LETTERS ?g_MOST_KEYS ?g_MOST_LETTERS ?g_MOST_LONG ?g_MOST_SIGNS ?g_SIGNS ?gt_PLACES ?lt_PLACES ?rt_PLACES_0 ?rt_PLACES_1 ?rt_PLACES_2 ?lw_BY_TEXTS ?ld_BY_TEXTS ?hs_BY_TEXTS_0 ?hk_BY_TEXTS_0 ?hv_BY_TEXTS_0 ?hs_BY_TEXTS_1 ?hk_BY_TEXTS_1 ?hv_BY_TEXTS_1 ?hs_BY_TEXTS_2 ?hk_BY_TEXTS_2 ?hv_BY_TEXTS_2 ?hs_BY_TEXTS_3 ?hk_BY_TEXTS_3 ?hv_BY_TEXTS_3 ?nl27 ?ch27 ?ht27
    (case aC_Scene => k_is); (case pg_Scene => k_is); (case hd_Scene => k_is); (case po_Scene => k_is); (case sa_Scene => k_is); (case mk_Scene => k_is); (case kp_Scene => k_is); (case na_Scene_own => k_is); (case na_Scene_dealings => k_is); (case na_Scene_job => k_is); (case na_Scene_latest => k_is); (case aC_Arrays => k_is); (case pg_Arrays => k_is); (case hd_Arrays => k_is); (case po_Arrays => k_is); (case sa_Arrays => k_is); (case mk_Arrays => k_is); (case kp_Arrays => k_is); (case na_Arrays_nodes => k_is); (case aC_Dealings => k_is); (case pg_Dealings => k_is); (case hd_Dealings => k_is); (case po_Dealings => k_is); (case sa_Dealings => k_is); (case mk_Dealings => k_is); (case kp_Dealings => k_is); (case na_Dealings_shelf => k_is); (case na_Dealings_begun => k_is); (case na_Dealings_touches => k_is); (case aX_Erring => k_is); (case xL_Erring => k_is); (case rv_Erring => first | rfl | decide +kernel); (case sa_Erring => k_is); (case ga_Erring => k_is); (case gg_Erring => k_is); (case kC_Erring => k_is); (case eC_Erring => k_is); (case tC_Erring => k_is); (case hC_Erring => k_is); (case iC_Erring => k_is); (case sC_Erring => k_is); (case nx_Erring_word => k_is); (case a0 => k_is); (case l0 => k_is); (case c0 => k_is); (case a1 => k_is); (case l1 => k_is); (case c1 => k_is); (case a2 => k_is); (case l2 => k_is); (case c2 => k_is); (case a3 => k_is); (case l3 => k_is); (case c3 => k_is); (case a4 => k_is); (case l4 => k_is); (case c4 => k_is); (case a5 => k_is); (case l5 => k_is); (case c5 => k_is); (case a6 => k_is); (case l6 => k_is); (case c6 => k_is); (case a7 => k_is); (case l7 => k_is); (case c7 => k_is); (case a8 => k_is); (case l8 => k_is); (case c8 => k_is); (case a9 => k_is); (case l9 => k_is); (case c9 => k_is); (case a10 => k_is); (case l10 => k_is); (case c10 => k_is); (case a11 => k_is); (case l11 => k_is); (case c11 => k_is); (case a12 => k_is); (case l12 => k_is); (case c12 => k_is); (case a13 => k_is); (case l13 => k_is); (case c13 => k_is); (case a14 => k_is); (case l14 => k_is); (case c14 => k_is); (case a15 => k_is); (case l15 => k_is); (case c15 => k_is); (case a16 => k_is); (case l16 => k_is); (case c16 => k_is); (case a17 => k_is); (case l17 => k_is); (case c17 => k_is); (case a18 => k_is); (case l18 => k_is); (case c18 => k_is); (case a19 => k_is); (case l19 => k_is); (case c19 => k_is); (case a20 => k_is); (case l20 => k_is); (case c20 => k_is); (case a21 => k_is); (case l21 => k_is); (case c21 => k_is); (case a22 => k_is); (case l22 => k_is); (case c22 => k_is); (case a23 => k_is); (case l23 => k_is); (case c23 => k_is); (case a24 => k_is); (case l24 => k_is); (case c24 => k_is); (case a25 => k_is); (case l25 => k_is); (case c25 => k_is); (case a26 => k_is); (case l26 => k_is); (case c26 => k_is); (case a27 => k_is); (case l27 => k_is); (case c27 => k_is); (case lc27 => k_is); (case lv27 => rfl); (case a28 => k_is); (case l28 => k_is); (case c28 => k_is); (case a29 => k_is); (case l29 => k_is); (case c29 => k_is); (case a30 => k_is); (case l30 => k_is); (case c30 => k_is); (case a31 => k_is); (case l31 => k_is); (case c31 => k_is); (case a32 => k_is); (case l32 => k_is); (case c32 => k_is); (case a33 => k_is); (case l33 => k_is); (case c33 => k_is); (case a34 => k_is); (case l34 => k_is); (case c34 => k_is); (case a35 => k_is); (case l35 => k_is); (case c35 => k_is); (case a36 => k_is); (case l36 => k_is); (case c36 => k_is); (case a37 => k_is); (case l37 => k_is); (case c37 => k_is); (case a38 => k_is); (case l38 => k_is); (case c38 => k_is); (case a39 => k_is); (case l39 => k_is); (case c39 => k_is); (case a40 => k_is); (case l40 => k_is); (case c40 => k_is); (case a41 => k_is); (case l41 => k_is); (case c41 => k_is); (case a42 => k_is); (case l42 => k_is); (case c42 => k_is); (case a43 => k_is); (case l43 => k_is); (case c43 => k_is); (case a44 => k_is); (case l44 => k_is); (case c44 => k_is); (case a45 => k_is); (case l45 => k_is); (case c45 => k_is); (case a46 => k_is); (case l46 => k_is); (case c46 => k_is); (case a47 => k_is); (case l47 => k_is); (case c47 => k_is); (case a48 => k_is); (case l48 => k_is); (case c48 => k_is); (case a49 => k_is); (case l49 => k_is); (case c49 => k_is); (case a50 => k_is); (case l50 => k_is); (case c50 => k_is); (case a51 => k_is); (case l51 => k_is); (case c51 => k_is); (case a52 => k_is); (case l52 => k_is); (case c52 => k_is); (case a53 => k_is); (case l53 => k_is); (case c53 => k_is); (case a54 => k_is); (case l54 => k_is); (case c54 => k_is); (case a55 => k_is); (case l55 => k_is); (case c55 => k_is); (case a56 => k_is); (case l56 => k_is); (case c56 => k_is); (case a57 => k_is); (case l57 => k_is); (case c57 => k_is); (case a58 => k_is); (case l58 => k_is); (case c58 => k_is); (case lD58 => k_is); (case r58_0 => first | exact ⟨_, rfl⟩ | exact rfl); (case a59 => k_is); (case l59 => k_is); (case c59 => k_is); (case a60 => k_is); (case l60 => k_is); (case c60 => k_is); (case a61 => k_is); (case l61 => k_is); (case c61 => k_is); (case q61_0 => k_is); (case r61_0 => first | exact ⟨_, rfl⟩ | exact rfl); (case a62 => k_is); (case l62 => k_is); (case c62 => k_is); (case a63 => k_is); (case l63 => k_is); (case c63 => k_is); (case a64 => k_is); (case l64 => k_is); (case c64 => k_is); (case a65 => k_is); (case l65 => k_is); (case c65 => k_is); (case a66 => k_is); (case l66 => k_is); (case c66 => k_is); (case a67 => k_is); (case l67 => k_is); (case c67 => k_is); (case a68 => k_is); (case l68 => k_is); (case c68 => k_is); (case q68_0 => k_is); (case r68_0 => first | exact ⟨_, rfl⟩ | exact rfl); (case a69 => k_is); (case l69 => k_is); (case c69 => k_is); (case a70 => k_is); (case l70 => k_is); (case c70 => k_is); (case a71 => k_is); (case l71 => k_is); (case c71 => k_is); (case a72 => k_is); (case l72 => k_is); (case c72 => k_is); (case a73 => k_is); (case l73 => k_is); (case c73 => k_is); (case a74 => k_is); (case l74 => k_is); (case c74 => k_is); (case q74_0 => k_is); (case r74_0 => first | exact ⟨_, rfl⟩ | exact rfl); (case a75 => k_is); (case l75 => k_is); (case c75 => k_is); (case a76 => k_is); (case l76 => k_is); (case c76 => k_is); (case a77 => k_is); (case l77 => k_is); (case c77 => k_is); (case a78 => k_is); (case l78 => k_is); (case c78 => k_is); (case a79 => k_is); (case l79 => k_is); (case c79 => k_is); (case a80 => k_is); (case l80 => k_is); (case c80 => k_is); (case a81 => k_is); (case l81 => k_is); (case c81 => k_is); (case a82 => k_is); (case l82 => k_is); (case c82 => k_is); (case a83 => k_is); (case l83 => k_is); (case c83 => k_is); (case q83_0 => k_is); (case r83_0 => first | exact ⟨_, rfl⟩ | exact rfl); (case a84 => k_is); (case l84 => k_is); (case c84 => k_is); (case a85 => k_is); (case l85 => k_is); (case c85 => k_is); (case q85_0 => k_is); (case r85_0 => first | exact ⟨_, rfl⟩ | exact rfl); (case gd_BY_TEXTS => k_is); (case z_abs => k_is); (case z_all => k_is); (case z_bool => k_is); (case z_enumerate => k_is); (case z_int => k_is); (case z_isinstance => k_is); (case z_len => k_is); (case z_list => k_is); (case z_max => k_is); (case z_min => k_is); (case z_range => k_is); (case z_sorted => k_is); (case z_str => k_is); (case z_tuple => k_is); (case g_FIGURES => k_is); (case g_LETTERS => k_is); (case g_MOST_KEYS => k_is); (case g_MOST_LETTERS => k_is); (case g_MOST_LONG => k_is); (case g_MOST_SIGNS => k_is); (case g_SIGNS => k_is); (case gt_PLACES => k_is); (case lt_PLACES => k_is); (case rt_PLACES_0 => first | exact ⟨_, rfl⟩ | exact rfl); (case rt_PLACES_1 => first | exact ⟨_, rfl⟩ | exact rfl); (case rt_PLACES_2 => first | exact ⟨_, rfl⟩ | exact rfl); (case lw_BY_TEXTS => first | rfl | decide); (case ld_BY_TEXTS => k_is); (case hs_BY_TEXTS_0 => first | rfl | decide +kernel); (case hk_BY_TEXTS_0 => first | rfl | decide +kernel); (case hv_BY_TEXTS_0 => first | exact ⟨_, rfl⟩ | exact rfl); (case hs_BY_TEXTS_1 => first | rfl | decide +kernel); (case hk_BY_TEXTS_1 => first | rfl | decide +kernel); (case hv_BY_TEXTS_1 => first | exact ⟨_, rfl⟩ | exact rfl); (case hs_BY_TEXTS_2 => first | rfl | decide +kernel); (case hk_BY_TEXTS_2 => first | rfl | decide +kernel); (case hv_BY_TEXTS_2 => first | exact ⟨_, rfl⟩ | exact rfl); (case hs_BY_TEXTS_3 => first | rfl | decide +kernel); (case hk_BY_TEXTS_3 => first | rfl | decide +kernel); (case hv_BY_TEXTS_3 => first | exact ⟨_, rfl⟩ | exact rfl); (case nl27 => kernel_rfl); (case ch27 => kernel_rfl); (case ht27 => exact hT8 _ (by first | k_mem | decide))
