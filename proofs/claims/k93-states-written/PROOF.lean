import PyProof.Rows.All
import Wide.All
import OpenK.AllK
import Wide.FinOn
import KE.KStateDown
import Lean
import HandS.ForMost
import HandS.ForExc
import HandS.More
import HandS.Defaults
import HandS.ExcInit
import HandS.ExcField
import HandS.ExcIs
import HandS.TryMany
import HandS.CallSlots
import HandS.IsInst
import HandS.Conv
import HandS.Walk
import HandS.Flow
import HandS.Evl
import HandS.Head0
import HandS.Head1
import HandS.Head2
import HandS.HeadEnd
import HandS.HeadHook1
import HandS.HeadHook2
import HandS.HeadHook3
import HandS.HeadHook4
import PySem.Challenge.RW_haulbell_k93_states_written
set_option Elab.async false
set_option linter.all false
set_option maxRecDepth 100000
set_option maxHeartbeats 4000000
set_option pp.deepTerms false
set_option pp.deepTerms.threshold 14

namespace HB
open PySem PySem.Spec PyProof.Rows L2
/-! ### facts of K that the hooks lack -/
def oexB (K : PySem.W.Frag) (C : Addr) : Bool := (match K.lookup C with
  | some ⟨.type t, _, .cls cd, sl⟩ => (match cd.mro, sl.toList with
    | .ref C2 :: bm, [_, _, _, _, some (.builtin nw), _] => decide (t = "type") && (decide (C2 = C) && (decide (nw = "ValueError.__new__") && (cd.hasDict && (!cd.hasDel && HandSPX.refsVE bm))))
    | _, _ => false)
  | _ => false) && (He.eqO (PySem.W.findIn K (.ref C) "__setattr__") (some (some (.builtin "object.__setattr__"))) &&
    (decide (PySem.W.subIn K (.ref C) (.type "BaseException") = some true) && (decide (PySem.W.typeIn K (.ref C) = some (.type "type")) && PySem.W.keepIn K (.ref C))))
theorem oexB_ok {K : PySem.W.Frag} {C : Addr} (h : oexB K C = true) : OexC K C := by
  obtain ⟨h1, h⟩ := Bool.and_eq_true_iff.mp h
  obtain ⟨h2, h⟩ := Bool.and_eq_true_iff.mp h
  obtain ⟨h3, h⟩ := Bool.and_eq_true_iff.mp h
  obtain ⟨h4, h5⟩ := Bool.and_eq_true_iff.mp h
  refine ⟨?_, He.eqO_ok h2, of_decide_eq_true h3, of_decide_eq_true h4, h5⟩
  revert h1
  cases e : K.lookup C with
  | none => intro h1; cases h1
  | some o =>
    obtain ⟨c, d, dt, sl⟩ := o
    intro h1
    cases c with
    | type t =>
      cases dt with
      | cls cd =>
        obtain ⟨nm, bs, mro, ns, qn, hd, sn, sub, ab, col, del⟩ := cd
        obtain ⟨sl⟩ := sl
        dsimp only at h1
        split at h1
        · rename_i C2 bm k0 k1 k2 k3 nw k5
          simp only [Bool.and_eq_true, decide_eq_true_eq, Bool.not_eq_true'] at h1
          obtain ⟨a1, a2, a3, a4, a5, a6⟩ := h1
          subst a1 a2 a3 a4 a5
          exact ⟨nm, qn, ns, bs, bm, sn, sub, ab, col, d, k0, k1, k2, k3, k5, rfl, a6⟩
        · cases h1
      | _ => cases h1
    | _ => cases dt <;> cases h1
/-- isinstance by an exception's class -/
def exmB (K : PySem.W.Frag) (x y : Value) (b : Bool) : Bool := decide (PySem.W.exmOne K x y = some b)
end HB
namespace HB
open PySem PySem.Spec PyProof.Rows L2
/-! ### xs[i] op= e over a list -/
theorem pget_list {X : Cx} : PGet X (rIxL X.K) := by
  intro pins s σ H o i ov iv Q I ro ri h
  obtain ⟨p, xs, n, z, rfl, rfl, hq, ha, q⟩ := h
  cases ro
  obtain ⟨t, rfl⟩ := ri
  obtain ⟨its, r, pl, _⟩ := I.list hq
  obtain ⟨j, h1, h2, h3, h4, h5⟩ := atI_get ha
  obtain ⟨u, eu, ru⟩ := r.get h2
  have hl := r.length
  have hn := line63
  have done : EP X pins σ Q u s := ⟨z, H, I, ru, q⟩
  by_cases h0 : 0 ≤ n
  · rw [seqIndex_of h0 h5] at h1
    have hj := Option.some.inj h1
    exact wpAny_getItem_list pl.isList h0 (by omega) (by rw [hj]; simpa using eu) done
  · rw [seqIndex_neg (by omega) h4] at h1
    have hj : (n + (its.toArray.size : Int)).toNat = j := by rw [List.size_toArray, ← hl]; exact Option.some.inj h1
    exact wpAny_getItem_list_neg pl.isList (by omega) (by rw [List.size_toArray] <;> omega) (by omega) (by rw [hj]; simpa using eu) done

/-! ### tests -/
theorem iteD {p A B : Prop} [Decidable p] (h1 : p → A) (h2 : ¬p → B) : if decide p = true then A else B := by
  by_cases h : p
  · rw [if_pos (decide_eq_true h)]
    exact h1 h
  · rw [if_neg (by rw [decide_eq_false h]; exact Bool.false_ne_true)]
    exact h2 h
theorem iteND {p A B : Prop} [Decidable p] (h1 : ¬p → A) (h2 : p → B) : if (!decide p) = true then A else B := by
  by_cases h : p
  · rw [decide_eq_true h]
    exact iteF (h2 h)
  · rw [decide_eq_false h]
    exact iteT (h1 h)
theorem iteB {b : Bool} {A B : Prop} (h1 : b = true → A) (h2 : b = false → B) : if b = true then A else B := by
  cases b with
  | true => exact iteT (h1 rfl)
  | false => exact iteF (h2 rfl)
/-! ### lists of ints -/
theorem atI_ints {ns : List Int} {i : Int} (h0 : 0 ≤ i) (h1 : i < (ns.map V.int).length) : ∃ z, atI (ns.map V.int) i = some (V.int z) := by
  obtain ⟨j, rfl⟩ := Int.eq_ofNat_of_zero_le h0
  rw [List.length_map] at h1
  have h2 : j < ns.length := by omega
  refine ⟨ns[j], atI_nat ?_⟩
  rw [List.getElem?_map, List.getElem?_eq_getElem h2]
  rfl
/-! ### the law's hand: a list [cells, fold, place, rest, count] at h; Hs: what stands still (h is not in it) -/
structure Hand (Hs H : Hp) (h c : Addr) (ns : List Int) (n : Nat) : Prop where
  fr : Hs h = none
  ex : Evl.Ex Hs H
  cl : Hs c = some (.lst (ns.map V.int))
  it : ∃ (fold idx rest cnt : Int), H h = some (.lst [.ref c, .int fold, .int idx, .int rest, .int cnt]) ∧ 0 ≤ fold ∧ fold < 2147483648 ∧ 0 ≤ idx ∧ 0 ≤ rest ∧ 0 ≤ cnt ∧ cnt ≤ (n : Int)
theorem Ex.upd2 {H H' : Hp} {p : Addr} {o : HO} (e : Evl.Ex H H') : Evl.Ex (upd H p o) (upd H' p o) := fun a u ha => by
  by_cases q : a = p
  · rw [q, upd_same] at ha
    rw [q, upd_same]
    exact ha
  · rw [upd_ne q] at ha
    rw [upd_ne q]
    exact e a u ha
theorem Hand.ne {Hs H : Hp} {h c : Addr} {ns : List Int} {n : Nat} (d : Hand Hs H h c ns n) : c ≠ h := ne_of_none d.cl d.fr
theorem Hand.hne {Hs H : Hp} {h c : Addr} {ns : List Int} {n : Nat} (d : Hand Hs H h c ns n) {p : Addr} {o : HO} (e : Hs p = some o) : p ≠ h := ne_of_none e d.fr
/-- a new thing stands still -/
theorem Hand.laid {Hs H : Hp} {h c : Addr} {ns : List Int} {n : Nat} (d : Hand Hs H h c ns n) {p : Addr} {o : HO} (hp : H p = none) : Hand (upd Hs p o) (upd H p o) h c ns n := by
  obtain ⟨fold, idx, rest, cnt, e, q⟩ := d.it
  have hn : h ≠ p := ne_of_none e hp
  exact ⟨by rw [upd_ne hn]; exact d.fr, Ex.upd2 d.ex, by rw [upd_ne (ne_of_none (d.ex _ _ d.cl) hp)]; exact d.cl, fold, idx, rest, cnt, by rw [upd_ne hn]; exact e, q⟩
/-- less is said to stand still -/
theorem Hand.less {Hs Hs2 H : Hp} {h c : Addr} {ns : List Int} {n : Nat} (d : Hand Hs2 H h c ns n) (e : Evl.Ex Hs Hs2) (hc : Hs c = some (.lst (ns.map V.int))) : Hand Hs H h c ns n :=
  ⟨Evl.fresh_back e d.fr, Evl.Ex.trans e d.ex, hc, d.it⟩
theorem Hand.le {Hs H : Hp} {h c : Addr} {ns : List Int} {n m : Nat} (d : Hand Hs H h c ns n) (e : n ≤ m) : Hand Hs H h c ns m := by
  obtain ⟨fold, idx, rest, cnt, q, a, b, c, d', e', f⟩ := d.it
  exact ⟨d.fr, d.ex, d.cl, fold, idx, rest, cnt, q, a, b, c, d', e', by omega⟩
/-- a list of one's own that is not said to stand still is changed -/
theorem Hand.own {Hs H : Hp} {h c : Addr} {ns : List Int} {n : Nat} (d : Hand Hs H h c ns n) {l : Addr} {o : HO} (hl : Hs l = none) (hn : h ≠ l) : Hand Hs (upd H l o) h c ns n := by
  obtain ⟨fold, idx, rest, cnt, e, q⟩ := d.it
  exact ⟨d.fr, Evl.Ex.mut d.ex hl, d.cl, fold, idx, rest, cnt, by rw [upd_ne hn]; exact e, q⟩
/-- the state ahead: other things that hold too are said to stand still -/
theorem Hand.grow {Hs H : Hp} {h c : Addr} {ns : List Int} {n : Nat} (d : Hand Hs H h c ns n) {l : Addr} {o : HO} (hl : H l = some o) (hn : l ≠ h) : Hand (upd Hs l o) H h c ns n := by
  refine ⟨by rw [upd_ne (Ne.symm hn)]; exact d.fr, fun a u ha => ?_, ?_, d.it⟩
  · by_cases q : a = l
    · rw [q, upd_same] at ha
      rw [q, hl]
      exact ha
    · rw [upd_ne q] at ha
      exact d.ex a u ha
  · by_cases q : c = l
    · rw [q, upd_same, ← hl, ← q]
      exact d.ex _ _ d.cl
    · rw [upd_ne q]
      exact d.cl
theorem cutV_ints (ns : List Int) (k : Nat) : cutV (ns.map V.int) none (some (k : Int)) = (ns.take k).map V.int := by
  unfold cutV
  rw [HT.sIx_none, HT.sIx_nat, List.drop_zero, Nat.sub_zero, List.map_take, List.length_map, Nat.min_def]
  split
  · rfl
  · rw [List.take_of_length_le (by rw [List.length_map]; exact Nat.le_refl _), List.take_of_length_le (by rw [List.length_map]; omega)]
end HB
namespace HB
open PySem PySem.Spec PyProof.Rows L2 Evl
/-! ### comprehensions whose elements change nothing -/
section
variable {J : It} {n : Nat} {G : Hp → Prop} {Y : Nat → Hp → V → Hp → Prop}
theorem lc_pure (wk : Walk J n G Y) {te : TE} {vs : List Nat} {j : Nat} {σ : L2.St} {H1 : Hp} {D : Addr} {Qd : Hp → Prop} (ys : List V) (hD : H1 D = none) (hG : ∀ H', Ex H1 H' → G H') (hY : ∀ i H x H', Y i H x H' → H' = H)
    (hw : ∀ x, wipe ((wipe σ vs).set j (some x)) vs = wipe σ vs) (hn : ys.length = n) (hz : n ≤ 100000)
    (hs : ∀ (i : Nat) (x : V) (H' : Hp) (y : V) (Q : VK), ys[i]? = some y → Ex H1 H' → Y i H' x H' → (∀ H4, Ex H' H4 → Q y H4) → te ((wipe σ vs).set j (some x)) H' Q)
    (hd : ∀ H', Ex H1 H' → H' D = some (.lst ys) → Qd H') :
    ∃ W : Nat → Nat → Hp → Prop, (∃ m, W 0 m (upd H1 D (.lst []))) ∧ ∀ i m H, W i m H →
      (J.stop i H ∧ Qd H) ∨ (J.go i H ∧ ∃ Nx : Hp → Prop, (∀ H', Nx H' → ∃ m', m' < m ∧ W (i + 1) m' H') ∧ ∀ x H', J.yld i H x H' → gName j x (wipe σ vs) H' fun σ2 H2 => wipe σ2 vs = wipe σ vs ∧ tYes σ2 H2 fun b H3 =>
        if b = true then te σ2 H3 fun y H4 => ∃ acc, H4 D = some (.lst acc) ∧ acc.length < sizeLine ∧ Nx (upd H4 D (.lst (acc ++ [y]))) else Nx H3) := by
  refine lc_it wk (fun i H' => Ex H1 H' ∧ H' D = some (.lst (ys.take i))) ⟨Ex.new hD, upd_same⟩ (fun i H _ p => hG H p.1) (fun i x H H' hi p y => ⟨hw x, ?_⟩) (fun H p => hd H p.1 (by rw [p.2, ← hn, List.take_length]))
  have e := hY i H x H' y
  subst e
  have hi2 : i < ys.length := by omega
  show te _ H' _
  refine hs i x H' ys[i] _ (List.getElem?_eq_getElem hi2) p.1 y fun H4 e4 => ⟨ys.take i, e4 _ _ p.2, sz_lt (by rw [List.length_take]; omega), Ex.mut (Ex.trans p.1 e4) hD, ?_⟩
  rw [upd_same, List.take_succ, List.getElem?_eq_getElem hi2]
  rfl
end
section
variable {K : PySem.W.Frag} {te : TE} {vs : List Nat} {j : Nat} {σ : L2.St} {H1 : Hp} {D a : Addr} {Qd : Hp → Prop} {xs : List V}
theorem lc_pureL (ys : List V) (hx : SqL K H1 a xs) (hD : H1 D = none) (hw : ∀ x, wipe ((wipe σ vs).set j (some x)) vs = wipe σ vs) (hn : ys.length = xs.length) (hz : xs.length ≤ 100000)
    (hs : ∀ (i : Nat) (x : V) (H' : Hp) (y : V) (Q : VK), ys[i]? = some y → Ex H1 H' → xs[i]? = some x → (∀ H4, Ex H' H4 → Q y H4) → te ((wipe σ vs).set j (some x)) H' Q)
    (hd : ∀ H', Ex H1 H' → H' D = some (.lst ys) → Qd H') :
    ∃ W : Nat → Nat → Hp → Prop, (∃ m, W 0 m (upd H1 D (.lst []))) ∧ ∀ i m H, W i m H →
      ((Itl K a).stop i H ∧ Qd H) ∨ ((Itl K a).go i H ∧ ∃ Nx : Hp → Prop, (∀ H', Nx H' → ∃ m', m' < m ∧ W (i + 1) m' H') ∧ ∀ x H', (Itl K a).yld i H x H' → gName j x (wipe σ vs) H' fun σ2 H2 => wipe σ2 vs = wipe σ vs ∧ tYes σ2 H2 fun b H3 =>
        if b = true then te σ2 H3 fun y H4 => ∃ acc, H4 D = some (.lst acc) ∧ acc.length < sizeLine ∧ Nx (upd H4 D (.lst (acc ++ [y]))) else Nx H3) :=
  lc_pure (walk_list (K := K) (a := a) (xs := xs)) ys hD (fun H' e => ex_l e hx) (fun _ _ _ _ y => y.1) hw hn hz (fun i x H' z Q hz e y k => hs i x H' z Q hz e y.2 k) hd
theorem lc_pureT (ys : List V) (hx : SqT K H1 a xs) (hD : H1 D = none) (hw : ∀ x, wipe ((wipe σ vs).set j (some x)) vs = wipe σ vs) (hn : ys.length = xs.length) (hz : xs.length ≤ 100000)
    (hs : ∀ (i : Nat) (x : V) (H' : Hp) (y : V) (Q : VK), ys[i]? = some y → Ex H1 H' → xs[i]? = some x → (∀ H4, Ex H' H4 → Q y H4) → te ((wipe σ vs).set j (some x)) H' Q)
    (hd : ∀ H', Ex H1 H' → H' D = some (.lst ys) → Qd H') :
    ∃ W : Nat → Nat → Hp → Prop, (∃ m, W 0 m (upd H1 D (.lst []))) ∧ ∀ i m H, W i m H →
      ((Itt K a).stop i H ∧ Qd H) ∨ ((Itt K a).go i H ∧ ∃ Nx : Hp → Prop, (∀ H', Nx H' → ∃ m', m' < m ∧ W (i + 1) m' H') ∧ ∀ x H', (Itt K a).yld i H x H' → gName j x (wipe σ vs) H' fun σ2 H2 => wipe σ2 vs = wipe σ vs ∧ tYes σ2 H2 fun b H3 =>
        if b = true then te σ2 H3 fun y H4 => ∃ acc, H4 D = some (.lst acc) ∧ acc.length < sizeLine ∧ Nx (upd H4 D (.lst (acc ++ [y]))) else Nx H3) :=
  lc_pure (walk_tup (K := K) (a := a) (xs := xs)) ys hD (fun H' e => ex_t e hx) (fun _ _ _ _ y => y.1) hw hn hz (fun i x H' z Q hz e y k => hs i x H' z Q hz e y.2 k) hd
/-- over a text, sign by sign -/
theorem lc_pureS {z : Str} (ys : List V) (hD : H1 D = none) (hw : ∀ x, wipe ((wipe σ vs).set j (some x)) vs = wipe σ vs) (hn : ys.length = (TL.tl z).length) (hz : (TL.tl z).length ≤ 100000)
    (hs : ∀ (i : Nat) (c : Nat) (H' : Hp) (y : V) (Q : VK), ys[i]? = some y → Ex H1 H' → (TL.tl z)[i]? = some c → (∀ H4, Ex H' H4 → Q y H4) → te ((wipe σ vs).set j (some (.str ⟨#[c]⟩))) H' Q)
    (hd : ∀ H', Ex H1 H' → H' D = some (.lst ys) → Qd H') :
    ∃ W : Nat → Nat → Hp → Prop, (∃ m, W 0 m (upd H1 D (.lst []))) ∧ ∀ i m H, W i m H →
      ((Its z).stop i H ∧ Qd H) ∨ ((Its z).go i H ∧ ∃ Nx : Hp → Prop, (∀ H', Nx H' → ∃ m', m' < m ∧ W (i + 1) m' H') ∧ ∀ x H', (Its z).yld i H x H' → gName j x (wipe σ vs) H' fun σ2 H2 => wipe σ2 vs = wipe σ vs ∧ tYes σ2 H2 fun b H3 =>
        if b = true then te σ2 H3 fun y H4 => ∃ acc, H4 D = some (.lst acc) ∧ acc.length < sizeLine ∧ Nx (upd H4 D (.lst (acc ++ [y]))) else Nx H3) := by
  have el : z.cps.size = (TL.tl z).length := TL.len_tl z
  refine lc_pure walk_str ys hD (fun _ _ => True.intro) (fun _ _ _ _ y => y.1) hw (by omega) (by omega) (fun i x H' z Q hz e y k => ?_) hd
  obtain ⟨_, c, hc, rfl⟩ := y
  exact hs i c H' z Q hz e (by rw [← hc]; unfold TL.tl; rw [Array.getElem?_toList]) k
/-- over lo, lo + 1, .. -/
theorem lc_pureR {lo : Int} {n : Nat} (ys : List V) (hD : H1 D = none) (hw : ∀ x, wipe ((wipe σ vs).set j (some x)) vs = wipe σ vs) (hn : ys.length = n) (hz : n ≤ 100000)
    (hs : ∀ (i : Nat) (H' : Hp) (y : V) (Q : VK), ys[i]? = some y → Ex H1 H' → (∀ H4, Ex H' H4 → Q y H4) → te ((wipe σ vs).set j (some (.int (lo + i)))) H' Q)
    (hd : ∀ H', Ex H1 H' → H' D = some (.lst ys) → Qd H') :
    ∃ W : Nat → Nat → Hp → Prop, (∃ m, W 0 m (upd H1 D (.lst []))) ∧ ∀ i m H, W i m H →
      ((Itr lo n).stop i H ∧ Qd H) ∨ ((Itr lo n).go i H ∧ ∃ Nx : Hp → Prop, (∀ H', Nx H' → ∃ m', m' < m ∧ W (i + 1) m' H') ∧ ∀ x H', (Itr lo n).yld i H x H' → gName j x (wipe σ vs) H' fun σ2 H2 => wipe σ2 vs = wipe σ vs ∧ tYes σ2 H2 fun b H3 =>
        if b = true then te σ2 H3 fun y H4 => ∃ acc, H4 D = some (.lst acc) ∧ acc.length < sizeLine ∧ Nx (upd H4 D (.lst (acc ++ [y]))) else Nx H3) := by
  refine lc_pure walk_range ys hD (fun _ _ => True.intro) (fun _ _ _ _ y => y.1) hw (by omega) (by omega) (fun i x H' z Q hz e y k => ?_) hd
  obtain ⟨_, rfl⟩ := y
  exact hs i H' z Q hz e k
end
/-! ### isinstance, by built-in classes -/
theorem kit_int_int {K : PySem.W.Frag} : PySem.W.kitOne K (.type "int") (.type "int") = some true := kit_ty (by decide +kernel)
theorem kit_int_bool {K : PySem.W.Frag} : PySem.W.kitOne K (.type "int") (.type "bool") = some false := kit_ty (by decide +kernel)
theorem kit_int_str {K : PySem.W.Frag} : PySem.W.kitOne K (.type "int") (.type "str") = some false := kit_ty (by decide +kernel)
theorem kit_int_list {K : PySem.W.Frag} : PySem.W.kitOne K (.type "int") (.type "list") = some false := kit_ty (by decide +kernel)
theorem kit_int_tuple {K : PySem.W.Frag} : PySem.W.kitOne K (.type "int") (.type "tuple") = some false := kit_ty (by decide +kernel)
theorem kit_bool_int {K : PySem.W.Frag} : PySem.W.kitOne K (.type "bool") (.type "int") = some true := kit_ty (by decide +kernel)
theorem kit_bool_bool {K : PySem.W.Frag} : PySem.W.kitOne K (.type "bool") (.type "bool") = some true := kit_ty (by decide +kernel)
theorem kit_bool_str {K : PySem.W.Frag} : PySem.W.kitOne K (.type "bool") (.type "str") = some false := kit_ty (by decide +kernel)
theorem kit_bool_list {K : PySem.W.Frag} : PySem.W.kitOne K (.type "bool") (.type "list") = some false := kit_ty (by decide +kernel)
theorem kit_bool_tuple {K : PySem.W.Frag} : PySem.W.kitOne K (.type "bool") (.type "tuple") = some false := kit_ty (by decide +kernel)
theorem kit_str_int {K : PySem.W.Frag} : PySem.W.kitOne K (.type "str") (.type "int") = some false := kit_ty (by decide +kernel)
theorem kit_str_bool {K : PySem.W.Frag} : PySem.W.kitOne K (.type "str") (.type "bool") = some false := kit_ty (by decide +kernel)
theorem kit_str_str {K : PySem.W.Frag} : PySem.W.kitOne K (.type "str") (.type "str") = some true := kit_ty (by decide +kernel)
theorem kit_str_list {K : PySem.W.Frag} : PySem.W.kitOne K (.type "str") (.type "list") = some false := kit_ty (by decide +kernel)
theorem kit_str_tuple {K : PySem.W.Frag} : PySem.W.kitOne K (.type "str") (.type "tuple") = some false := kit_ty (by decide +kernel)
theorem kit_list_int {K : PySem.W.Frag} : PySem.W.kitOne K (.type "list") (.type "int") = some false := kit_ty (by decide +kernel)
theorem kit_list_bool {K : PySem.W.Frag} : PySem.W.kitOne K (.type "list") (.type "bool") = some false := kit_ty (by decide +kernel)
theorem kit_list_str {K : PySem.W.Frag} : PySem.W.kitOne K (.type "list") (.type "str") = some false := kit_ty (by decide +kernel)
theorem kit_list_list {K : PySem.W.Frag} : PySem.W.kitOne K (.type "list") (.type "list") = some true := kit_ty (by decide +kernel)
theorem kit_list_tuple {K : PySem.W.Frag} : PySem.W.kitOne K (.type "list") (.type "tuple") = some false := kit_ty (by decide +kernel)
theorem kit_tuple_int {K : PySem.W.Frag} : PySem.W.kitOne K (.type "tuple") (.type "int") = some false := kit_ty (by decide +kernel)
theorem kit_tuple_bool {K : PySem.W.Frag} : PySem.W.kitOne K (.type "tuple") (.type "bool") = some false := kit_ty (by decide +kernel)
theorem kit_tuple_str {K : PySem.W.Frag} : PySem.W.kitOne K (.type "tuple") (.type "str") = some false := kit_ty (by decide +kernel)
theorem kit_tuple_list {K : PySem.W.Frag} : PySem.W.kitOne K (.type "tuple") (.type "list") = some false := kit_ty (by decide +kernel)
theorem kit_tuple_tuple {K : PySem.W.Frag} : PySem.W.kitOne K (.type "tuple") (.type "tuple") = some true := kit_ty (by decide +kernel)
theorem kit_dict_int {K : PySem.W.Frag} : PySem.W.kitOne K (.type "dict") (.type "int") = some false := kit_ty (by decide +kernel)
theorem kit_dict_bool {K : PySem.W.Frag} : PySem.W.kitOne K (.type "dict") (.type "bool") = some false := kit_ty (by decide +kernel)
theorem kit_dict_str {K : PySem.W.Frag} : PySem.W.kitOne K (.type "dict") (.type "str") = some false := kit_ty (by decide +kernel)
theorem kit_dict_list {K : PySem.W.Frag} : PySem.W.kitOne K (.type "dict") (.type "list") = some false := kit_ty (by decide +kernel)
theorem kit_dict_tuple {K : PySem.W.Frag} : PySem.W.kitOne K (.type "dict") (.type "tuple") = some false := kit_ty (by decide +kernel)
theorem kit_NoneType_int {K : PySem.W.Frag} : PySem.W.kitOne K (.type "NoneType") (.type "int") = some false := kit_ty (by decide +kernel)
theorem kit_NoneType_bool {K : PySem.W.Frag} : PySem.W.kitOne K (.type "NoneType") (.type "bool") = some false := kit_ty (by decide +kernel)
theorem kit_NoneType_str {K : PySem.W.Frag} : PySem.W.kitOne K (.type "NoneType") (.type "str") = some false := kit_ty (by decide +kernel)
theorem kit_NoneType_list {K : PySem.W.Frag} : PySem.W.kitOne K (.type "NoneType") (.type "list") = some false := kit_ty (by decide +kernel)
theorem kit_NoneType_tuple {K : PySem.W.Frag} : PySem.W.kitOne K (.type "NoneType") (.type "tuple") = some false := kit_ty (by decide +kernel)
theorem kit_float_int {K : PySem.W.Frag} : PySem.W.kitOne K (.type "float") (.type "int") = some false := kit_ty (by decide +kernel)
theorem kit_float_bool {K : PySem.W.Frag} : PySem.W.kitOne K (.type "float") (.type "bool") = some false := kit_ty (by decide +kernel)
theorem kit_float_str {K : PySem.W.Frag} : PySem.W.kitOne K (.type "float") (.type "str") = some false := kit_ty (by decide +kernel)
theorem kit_float_list {K : PySem.W.Frag} : PySem.W.kitOne K (.type "float") (.type "list") = some false := kit_ty (by decide +kernel)
theorem kit_float_tuple {K : PySem.W.Frag} : PySem.W.kitOne K (.type "float") (.type "tuple") = some false := kit_ty (by decide +kernel)
/-- a refusal of one field that has just been made -/
@[irreducible] def spExc1 (C : Addr) (f : Str) : Sp := fun vs H Q _ => ∃ (a : Addr) (v : V), vs = [.ref a, v] ∧ H a = some (exo a C none) ∧ ∀ dx : Addr, H dx = none → dx ≠ a → Q .non (upd (upd H dx (exd dx [(f, v)])) a (exo a C (some dx)))
theorem mk_one {C a : Addr} {f : Str} {v : V} {H : Hp} {Q : XK} {E : XK} (ha : H a = none) (k : ∀ (d : Addr) (H' : Hp), H d = none → Ex H H' → H' d = some (.xd [(f, v)]) → Q (.ref C) (some d) H') :
    spExc1 C f [.ref a, v] (upd H a (exo a C none)) (fun u H2 => u = .non ∧ ∃ (d : Addr) (fs : List (Str × V)), H2 a = some (exo a C (some d)) ∧ H2 d = some (exd d fs) ∧ H d = none ∧ Q (.ref C) (some d) (upd (del H2 a) d (.xd fs))) E := by
  unfold spExc1
  refine ⟨a, v, rfl, upd_same, fun dx hdx ne => ⟨rfl, dx, [(f, v)], upd_same, by rw [upd_ne ne, upd_same], ?_, ?_⟩⟩
  · rw [upd_ne ne] at hdx
    exact hdx
  · have hd : H dx = none := by rw [upd_ne ne] at hdx; exact hdx
    refine k dx _ hd (fun b o e => ?_) upd_same
    have n1 : b ≠ dx := ne_of_none e hd
    have n2 : b ≠ a := ne_of_none e ha
    rw [upd_ne n1, del_ne n2, upd_ne n2, upd_ne n1, upd_ne n2]
    exact e
/-! ### words read as numbers -/
def optI : Option Int → V
  | some i => .int i
  | none => .non
/-- what a reader tells, or the number of the first wrong word -/
inductive Rs (α : Type) where
  | ok (a : α)
  | no (i : Int)
def figs (l : List Nat) : List Nat := if l.take 1 = [45] then l.drop 1 else l
def numOk (l : List Nat) : Prop := (1 ≤ (figs l).length ∧ (figs l).length ≤ 10) ∧ ¬ ((figs l).take 1 = [48] ∧ l ≠ [48]) ∧ ∀ c ∈ figs l, 48 ≤ c ∧ c ≤ 57
instance (l : List Nat) : Decidable (numOk l) := by unfold numOk; infer_instance
def readNum (w : Str) : Option Int := if numOk (TL.tl w) then intText? w else none
theorem readNum_some {w : Str} (h : numOk (TL.tl w)) : ∃ n, intText? w = some n := by
  obtain ⟨⟨h1, h2⟩, _, h4⟩ := h
  have hl : w.length ≤ 4300 := by
    rw [TL.len_tl]
    unfold figs at h2
    split at h2
    · rw [List.length_drop] at h2; omega
    · omega
  by_cases hm : (TL.tl w).take 1 = [45]
  · have e : figs (TL.tl w) = (TL.tl w).drop 1 := if_pos hm
    rw [e] at h1 h4
    have hx : (w.cps.toList) = 45 :: (TL.tl w).drop 1 := by
      have q := List.take_append_drop 1 (TL.tl w)
      rw [hm] at q
      exact q.symm
    exact ⟨_, PySem.intText_neg hx h4 (by intro z; rw [z] at h1; simp at h1) hl⟩
  · have e : figs (TL.tl w) = TL.tl w := if_neg hm
    rw [e] at h1 h4
    exact ⟨_, PySem.intText_digits h4 (by intro z; rw [show TL.tl w = w.cps.toList from rfl, z] at h1; simp at h1) hl⟩
theorem bl_eq {Q : VK} {a b : Bool} {H : Hp} (k : Q (.bl a) H) (e : a = b) : Q (.bl b) H := by
  rw [← e]
  exact k
/-! ### boxes and what they hold -/
def boxNames : List Str := ["here", "there", "left", "way", "sign", "met"]
def fitsI (b : Str) (i : Int) : Bool :=
  if b = "way" then decide (i = 1 ∨ i = -1) else if b = "met" then decide (i = 0 ∨ i = 1) else if b = "sign" then decide (0 ≤ i ∧ i ≤ 1000000000) else if b = "left" then decide (0 ≤ i ∧ i ≤ 1000000000) else decide (-1000000000 ≤ i ∧ i ≤ 1000000000)
theorem inV2 {i a b : Int} : inV (.int i) [.int a, .int b] = decide (i = a ∨ i = b) := by
  show (eqV (.int a) (.int i) || (eqV (.int b) (.int i) || false)) = decide (i = a ∨ i = b)
  rw [Bool.or_false, Bool.eq_iff_iff, Bool.or_eq_true, decide_eq_true_eq]
  show (a == i) = true ∨ (b == i) = true ↔ _
  rw [beq_iff_eq, beq_iff_eq]
  exact ⟨fun h => h.elim (fun e => .inl e.symm) (fun e => .inr e.symm), fun h => h.elim (fun e => .inl e.symm) (fun e => .inr e.symm)⟩
theorem tl_cut1 (x : Str) : TL.tl (cutS x none (some 1)) = (TL.tl x).take 1 := by
  unfold cutS
  rw [HT.sIx_none, show (1 : Int) = ((1 : Nat) : Int) from rfl, HT.sIx_nat, List.drop_zero, Nat.sub_zero, TL.tl_mk, TL.len_tl]
  show (TL.tl x).take (min 1 (TL.tl x).length) = _
  rw [Nat.min_def]
  split
  · rfl
  · rw [List.take_of_length_le (Nat.le_refl _), List.take_of_length_le (by omega)]
theorem tl_cut2 (x : Str) : TL.tl (cutS x (some 1) none) = (TL.tl x).drop 1 := by
  unfold cutS
  rw [HT.sIx_none, show (1 : Int) = ((1 : Nat) : Int) from rfl, HT.sIx_nat, TL.tl_mk, TL.len_tl]
  show ((TL.tl x).drop (min 1 (TL.tl x).length)).take _ = _
  rw [List.take_of_length_le (by rw [List.length_drop]; exact Nat.le_refl _), Nat.min_def]
  split
  · rfl
  · rw [List.drop_of_length_le (Nat.le_refl _), List.drop_of_length_le (by omega)]
theorem str_eq {x y : Str} : (V.str x = V.str y) ↔ TL.tl x = TL.tl y := ⟨fun e => congrArg TL.tl (V.str.inj e), fun e => congrArg V.str (TL.ext_tl e)⟩
theorem optI_eq {Q : VK} {a b : Option Int} {H : Hp} (k : Q (optI a) H) (e : a = b) : Q (optI b) H := by
  rw [← e]
  exact k
theorem readNum_no {x : Str} (h : ¬ numOk (TL.tl x)) : readNum x = none := if_neg h
theorem digits_mem {c : Nat} : c ∈ (Str.ofString "0123456789").cps.toList ↔ 48 ≤ c ∧ c ≤ 57 := by
  rw [show (Str.ofString "0123456789").cps.toList = [48, 49, 50, 51, 52, 53, 54, 55, 56, 57] from by decide +kernel]
  simp only [List.mem_cons, List.not_mem_nil, or_false]
  omega
theorem all_map {α : Type} (l : List α) (f : α → Bool) : (l.map f).all id = decide (∀ a ∈ l, f a = true) := by
  rw [Bool.eq_iff_iff, List.all_eq_true, decide_eq_true_eq]
  constructor
  · intro h a ha
    exact h _ (List.mem_map.mpr ⟨a, ha, rfl⟩)
  · rintro h b hb
    obtain ⟨a, ha, rfl⟩ := List.mem_map.mp hb
    exact h a ha
/-! ### a dict of the top with text keys, whole -/
structure KTab (K : PySem.W.Frag) (w : World) (a : Addr) (kvs : List (Str × V)) : Prop where
  dict : ∃ (es : Array DictEntry) (n : Nat), KDict K w a es n ∧ es.toList.map He.keyOf = He.keysIn w.params (kvs.map (·.1))
  vals : ∀ q ∈ kvs, ∃ u, PySem.W.nsIn K a q.1 = some (some u) ∧ RelV q.2 u
theorem dicW_raw {K : PySem.W.Frag} {w : World} {a : Addr} {ks : List Str} (h : He.dicW K a = some (He.keysIn w.params ks)) : ∃ (es : Array DictEntry) (n : Nat), KDict K w a es n ∧ es.toList.map He.keyOf = He.keysIn w.params ks := by
  obtain ⟨es, n, D⟩ := He.dicW_ok h
  refine ⟨es, n, D, ?_⟩
  unfold He.dicW at h
  rw [D.at_] at h
  have h2 : (match decide ("dict" = "dict") && ((#[] : Array (Option Value)).isEmpty && !(a == sysModules)) with
    | true => some (es.toList.map He.keyOf)
    | false => none) = some (He.keysIn w.params ks) := h
  rw [D.low] at h2
  exact Option.some.inj h2
theorem mem_lookup : ∀ {l : List (Str × V)} {x : Str} {v : V}, l.lookup x = some v → (x, v) ∈ l
  | [], _, _, h => by cases h
  | (k, u) :: r, x, v, h => by
    rw [List.lookup_cons] at h
    cases e : (x == k) with
    | true =>
      rw [e] at h
      have e2 : x = k := by simpa using e
      cases h
      rw [e2]
      exact List.mem_cons_self
    | false =>
      rw [e] at h
      exact List.mem_cons_of_mem _ (mem_lookup h)
theorem lookup_none : ∀ {l : List (Str × V)} {x : Str}, l.lookup x = none → x ∉ l.map (·.1)
  | [], _, _ => by simp
  | (k, u) :: r, x, h => by
    rw [List.lookup_cons] at h
    cases e : (x == k) with
    | true => rw [e] at h; cases h
    | false =>
      rw [e] at h
      have e2 : ¬ x = k := by simpa using e
      rw [List.map_cons, List.mem_cons]
      exact fun z => z.elim e2 (lookup_none h)
theorem KTab.look {K : PySem.W.Frag} {w : World} {a : Addr} {kvs : List (Str × V)} (T : KTab K w a kvs) (z : Str) : match kvs.lookup z with
    | some v => ∃ u, PySem.W.nsIn K a z = some (some u) ∧ RelV v u
    | none => PySem.W.nsIn K a z = some none := by
  cases e : kvs.lookup z with
  | some v => exact T.vals _ (mem_lookup e)
  | none =>
    obtain ⟨es, n, D, hk⟩ := T.dict
    have hn := lookup_none e
    have key : ∀ en ∈ es.toList, ∃ x t, en.key = .str x t ∧ x ∈ kvs.map (·.1) := fun en hen => by
      have h1 : He.keyOf en ∈ es.toList.map He.keyOf := List.mem_map.mpr ⟨en, hen, rfl⟩
      rw [hk] at h1
      obtain ⟨x, hx, ex⟩ := List.mem_map.mp h1
      unfold He.keyOf at ex
      split at ex
      · rename_i y t q
        have e3 : x = y := (Prod.mk.inj (Option.some.inj ex)).1
        exact ⟨y, t, q, e3 ▸ hx⟩
      · cases ex
    show PySem.W.nsIn K a z = some none
    unfold PySem.W.nsIn
    rw [D.at_]
    have f1 : es.toList.find? (fun en => en.key.isStr z) = none := by
      rw [List.find?_eq_none]
      intro en hen
      obtain ⟨x, t, q, hx⟩ := key en hen
      rw [q]
      intro h
      have h2 : x = z := by simpa [Value.isStr] using h
      exact hn (h2 ▸ hx)
    have f2 : es.toList.any (fun en => en.refKey) = false := by
      rw [List.any_eq_false]
      intro en hen
      obtain ⟨x, t, q, _⟩ := key en hen
      simp [DictEntry.refKey, q]
    show (match es.toList.find? (fun en => en.key.isStr z) with
      | some e => some (some e.val)
      | none => if es.toList.any (fun en => en.refKey) then none else some none) = some none
    rw [f1, f2]
    rfl
theorem op_in_kt {X : Cx} {a : Addr} {kvs : List (Str × V)} (T : KTab X.K X.w a kvs) : OpR X (compareOp .In) (fun x y H Q => ∃ z : Str, x = .str z ∧ y = .ref a ∧ Q (.bl (kvs.lookup z).isSome) H) := by
  intro pins s σ H x y v u Q I rx ry h
  obtain ⟨z, rfl, rfl, q⟩ := h
  obtain ⟨es, n, D, _⟩ := T.dict
  have L := T.look z
  cases e : kvs.lookup z with
  | some w1 =>
    rw [e] at L q
    obtain ⟨u1, h1, _⟩ := L
    exact op_in_kd D pins s σ H _ _ v u Q I rx ry ⟨z, some u1, rfl, rfl, h1, q⟩
  | none =>
    rw [e] at L q
    exact op_in_kd D pins s σ H _ _ v u Q I rx ry ⟨z, none, rfl, rfl, L, q⟩
theorem ix_kt {X : Cx} {a : Addr} {kvs : List (Str × V)} (T : KTab X.K X.w a kvs) : IxR X (fun x y H Q => ∃ (z : Str) (r : V), x = .ref a ∧ y = .str z ∧ kvs.lookup z = some r ∧ Q r H) := by
  intro value slice pins s σ H x y v u Q I rx ry h hs
  obtain ⟨z, r, rfl, rfl, e, q⟩ := h
  obtain ⟨es, n, D, _⟩ := T.dict
  have L := T.look z
  rw [e] at L
  obtain ⟨u1, h1, r1⟩ := L
  exact ix_kdict value slice pins s σ H _ _ v u Q I rx ry ⟨a, z, r, rfl, rfl, ⟨es, n, u1, D.at_, D.lit, h1, r1⟩, q⟩ hs
theorem tab_raw {fa : List He.Fa} {fn : List He.DefD} {ts : List He.Tab} {w : World} {K : PySem.W.Frag} (c : He.SaysT fa fn ts w K) (i : Nat) {t : He.Tab} (h : ts[i]? = some t) : He.dicW K (t.1 K) = some (He.keysIn w.params t.2) := by
  have e : ts.map (fun t => He.dicW K (t.1 K)) = ts.map fun t => some (He.keysIn w.params t.2) := congrArg (fun z : He.AlT => z.2) c
  have e2 := congrArg (fun l => l[i]?) e
  simp only [List.getElem?_map, h] at e2
  exact Option.some.inj e2
theorem ktab_mk {K : PySem.W.Frag} {w : World} {a : Addr} (kvs : List (Str × He.Dv)) (h1 : He.dicW K a = some (He.keysIn w.params (kvs.map (·.1)))) (h2 : He.valsB K a kvs = true) : KTab K w a (kvs.map fun q => (q.1, q.2.v K)) := by
  refine ⟨?_, fun q hq => ?_⟩
  · rw [List.map_map]
    exact dicW_raw h1
  · obtain ⟨q0, h0, rfl⟩ := List.mem_map.mp hq
    exact He.valsB_ok h2 h0
/-! ### letters for leaves -/
def signOf (c : Nat) : Option Str := if c = 111 then some "open" else if c = 108 then some "look" else if c = 115 then some "shut" else none
def leafKvs : List (Str × V) := [("o", V.str "open"), ("l", V.str "look"), ("s", V.str "shut")]
theorem one_is {c d : Nat} {s : Str} (h : TL.tl s = [d]) : ((⟨#[c]⟩ : Str) == s) = decide (c = d) := by
  rw [Bool.eq_iff_iff, beq_iff_eq, decide_eq_true_eq]
  constructor
  · intro e
    have z : TL.tl (⟨#[c]⟩ : Str) = [d] := by rw [e]; exact h
    exact List.head_eq_of_cons_eq z
  · intro e
    refine TL.ext_tl ?_
    rw [h, ← e]
theorem leaf_look (c : Nat) : leafKvs.lookup (⟨#[c]⟩ : Str) = (signOf c).map V.str := by
  unfold leafKvs signOf
  rw [List.lookup_cons, one_is (d := 111) (by decide +kernel), List.lookup_cons, one_is (d := 108) (by decide +kernel), List.lookup_cons, one_is (d := 115) (by decide +kernel)]
  by_cases h1 : c = 111
  · simp only [h1, decide_true, if_true, Option.map_some]
  · by_cases h2 : c = 108
    · simp [h1, h2]
    · by_cases h3 : c = 115
      · simp [h1, h2, h3]
      · simp [h1, h2, h3]
def leafOk (l : List Nat) : Prop := (1 ≤ l.length ∧ l.length ≤ 60) ∧ ∀ c ∈ l, (signOf c).isSome = true
instance (l : List Nat) : Decidable (leafOk l) := by unfold leafOk; infer_instance
def leafNames (l : List Nat) : List Str := l.map fun c => (signOf c).getD ""
end HB
namespace HB
open PySem PySem.Spec PyProof.Rows L2 Evl
open Sem (wp)
open AutoSeq1 (wpAny_loadPart')
/-! ### enumerate and zip over lists or tuples -/
/-- t: a tuple; else a list -/
def SeqAt (t : Bool) (h : Heap) (a : Addr) (its : Array Value) : Prop := match t with
  | true => h.IsTuple a its
  | false => h.IsList a its
def RawIt (t : Bool) (h : Heap) (it a : Addr) (i : Nat) : Prop := match t with
  | true => h.IsTupleIter it a i
  | false => h.IsListIter it a i
def SeqIt (t : Bool) (h : Heap) (it a : Addr) (i : Nat) (its : Array Value) : Prop := RawIt t h it a i ∧ SeqAt t h a its
def SqB (K : PySem.W.Frag) (t : Bool) (H : Hp) (a : Addr) (xs : List V) : Prop := match t with
  | true => SqT K H a xs
  | false => SqL K H a xs
theorem tuple_at {h h' : Heap} {a : Addr} {its : Array Value} (x : h.IsTuple a its) (e : ∀ o, h.get? a = some o → h'.get? a = some o) : h'.IsTuple a its := by
  obtain ⟨o, ho, q⟩ := x
  exact ⟨o, e o ho, q⟩
theorem SeqAt.at {t : Bool} {h h' : Heap} {a : Addr} {its : Array Value} (x : SeqAt t h a its) (e : ∀ o, h.get? a = some o → h'.get? a = some o) : SeqAt t h' a its := by
  cases t with
  | true => exact tuple_at x e
  | false => exact Heap.IsList.at x e
theorem SeqAt.lt {t : Bool} {h : Heap} {a : Addr} {its : Array Value} (x : SeqAt t h a its) : a < h.objs.size := by
  cases t <;> (obtain ⟨o, ho, _⟩ := x; exact Heap.lt_size ho)
theorem RawIt.at {t : Bool} {h h' : Heap} {it a : Addr} {i : Nat} (x : RawIt t h it a i) (e : ∀ o, h.get? it = some o → h'.get? it = some o) : RawIt t h' it a i := by
  cases t <;> (obtain ⟨o, ho, q⟩ := x; exact ⟨o, e o ho, q⟩)
theorem SeqIt.at {t : Bool} {h h' : Heap} {it a : Addr} {i : Nat} {its : Array Value} (x : SeqIt t h it a i its) (e1 : ∀ o, h.get? it = some o → h'.get? it = some o) (e2 : ∀ o, h.get? a = some o → h'.get? a = some o) : SeqIt t h' it a i its :=
  ⟨x.1.at e1, x.2.at e2⟩
theorem SeqIt.but {t : Bool} {h h' : Heap} {it a b : Addr} {i : Nat} {its : Array Value} (x : SeqIt t h it a i its) (hs : Heap.ExtBut b h h') (n1 : it ≠ b) (n2 : a ≠ b) : SeqIt t h' it a i its := x.at (fun o q => hs it o n1 q) (fun o q => hs a o n2 q)
theorem RawIt.obj {t : Bool} {h : Heap} {it a : Addr} {i : Nat} (x : RawIt t h it a i) : ∃ o, h.get? it = some o ∧ ∀ v, o.data ≠ .cell v := by
  cases t <;> (obtain ⟨o, ho, _, hd⟩ := x; exact ⟨o, ho, fun v q => by rw [hd] at q; cases q⟩)
theorem RawIt.lt {t : Bool} {h : Heap} {it a : Addr} {i : Nat} (x : RawIt t h it a i) : it < h.objs.size := by
  obtain ⟨o, ho, _⟩ := x.obj
  exact Heap.lt_size ho
section
variable {P : Program} {w : World} {A : Around} {E : Value → Shared → Prop} {s : Shared}
theorem nextT {it t : Addr} {i : Nat} {its} {x : Value} {Q : Value → Shared → Prop} (hit : s.heap.IsTupleIter it t i) (ht : s.heap.IsTuple t its) (hx : its[i]? = some x)
    (hQ : ∀ h', h'.IsTupleIter it t (i + 1) → Heap.SameBut it s.heap h' → Q x { s with heap := h' }) : wpAny (model P w) A (Builtin.SmallTypes.nextOf (.ref it)) Q E s := by
  have hit2 := hit
  obtain ⟨o, ho, hc, hd⟩ := hit2
  obtain ⟨ot, hot, _, nt, hdt⟩ := ht
  unfold Builtin.SmallTypes.nextOf
  refine wpAny_bind (wpAny_callSpecial?_slot (name := Str.ofString "__next__") hit.typeIs F.slot_tuple_iterator_next (wpAny_call_entry F.slot_tuple_iterator_next hit.typeIs F.entry_tuple_iterator_next (show wpAny _ _ (field (.ref it) 0 >>= _) _ _ s from ?_) (F.args_tuple_iterator_next_1 _)))
  refine wpAny_bind (wpAny_field ho hd (x := .ref t) rfl (show wpAny _ _ (if (Value.ref t == Value.none) = true then _ else _) _ _ s from ?_))
  rw [if_neg (show ¬ ((Value.ref t == Value.none) = true) from Bool.false_ne_true)]
  refine (show wpAny _ _ (field (.ref it) 1 >>= _) _ _ s from wpAny_bind (wpAny_field ho hd (x := .int i 0) rfl (show wpAny _ _ (seqItems? (.ref t) >>= _) _ _ s from wpAny_bind (wpAny_seqItems hot hdt ?_))))
  simp only [Int.toNat_natCast, hx]
  refine wpAny_bind (wpAny_setField ho hd (by simp) (wpAny_pure ⟨x, rfl, wpAny_pure (hQ _ ⟨_, Heap.get?_update_self _ ho (Obj.isFreed_of_fields (Obj.data_mapFields hd _)), (Obj.cls_mapFields ..).trans hc, ?_⟩ (Heap.SameBut.update ..))⟩))
  rw [Obj.data_mapFields hd]
  simp [rawInt]
theorem nextTE {it t : Addr} {i : Nat} {its} {Q : Value → Shared → Prop} (hh : A.handled = none) (hit : s.heap.IsTupleIter it t i) (ht : s.heap.IsTuple t its) (hx : its[i]? = none)
    (hE : ∀ h' e, Heap.ExtBut it s.heap h' → (∃ o, h'.get? e = some o ∧ o.cls = .type "StopIteration") → E (.ref e) { s with heap := h' }) : wpAny (model P w) A (Builtin.SmallTypes.nextOf (.ref it)) Q E s := by
  have hit2 := hit
  obtain ⟨o, ho, hc, hd⟩ := hit2
  obtain ⟨ot, hot, _, nt, hdt⟩ := ht
  unfold Builtin.SmallTypes.nextOf
  refine wpAny_bind (wpAny_callSpecial?_slot (name := Str.ofString "__next__") hit.typeIs F.slot_tuple_iterator_next (wpAny_call_entry F.slot_tuple_iterator_next hit.typeIs F.entry_tuple_iterator_next (show wpAny _ _ (field (.ref it) 0 >>= _) _ _ s from ?_) (F.args_tuple_iterator_next_1 _)))
  refine wpAny_bind (wpAny_field ho hd (x := .ref t) rfl (show wpAny _ _ (if (Value.ref t == Value.none) = true then _ else _) _ _ s from ?_))
  rw [if_neg (show ¬ ((Value.ref t == Value.none) = true) from Bool.false_ne_true)]
  refine (show wpAny _ _ (field (.ref it) 1 >>= _) _ _ s from wpAny_bind (wpAny_field ho hd (x := .int i 0) rfl (show wpAny _ _ (seqItems? (.ref t) >>= _) _ _ s from wpAny_bind (wpAny_seqItems hot hdt ?_))))
  simp only [Int.toNat_natCast, hx]
  refine wpAny_bind (wpAny_rule (wpAny_bind (wpAny_setField ho hd (by simp) (show wpAny _ _ (newExc (.type "StopIteration") [] >>= _) _ _ _ from wpAny_bind ?_))))
  simp only [newExc, newTuple]
  refine wpAny_bind (wpAny_newObj_type (wpAny_bind (m := firstArgMember _ _) (wpAny_of_eq (a := Value.none) (by first | rfl | (simp only [firstArgMember]; rfl)) (wpAny_newObj_type ?_ (by size_fits)))) (by size_fits))
  simp only [raiseNew]
  refine wpAny_bind (wpAny_handled ?_)
  first | rw [show A.in1.handled = none from hh] | rw [hh]
  exact wpAny_bind (wpAny_pure (wpAny_throw (hE _ _ (((Heap.SameBut.update ..).extBut.push _).push _) ⟨_, Heap.get?_push_size _ rfl, rfl⟩)))
theorem nextI {t : Bool} {it a : Addr} {i : Nat} {its} {x : Value} {Q : Value → Shared → Prop} (h : SeqIt t s.heap it a i its) (hx : its[i]? = some x) (hn : a ≠ it)
    (hQ : ∀ h', SeqIt t h' it a (i + 1) its → Heap.SameBut it s.heap h' → Q x { s with heap := h' }) : wpAny (model P w) A (Builtin.SmallTypes.nextOf (.ref it)) Q E s := by
  obtain ⟨h1, h2⟩ := h
  have up : ∀ h', Heap.SameBut it s.heap h' → SeqAt t h' a its := fun h' sb => h2.at fun o e => sb.extBut a o hn e
  cases t with
  | false => exact wpAny_nextOf_list_item h1 h2 hx fun h' q sb => hQ h' ⟨q, up h' sb⟩ sb
  | true => exact nextT h1 h2 hx fun h' q sb => hQ h' ⟨q, up h' sb⟩ sb
theorem nextIE {t : Bool} {it a : Addr} {i : Nat} {its} {Q : Value → Shared → Prop} (hh : A.handled = none) (h : SeqIt t s.heap it a i its) (hx : its[i]? = none)
    (hE : ∀ h' e, Heap.ExtBut it s.heap h' → (∃ o, h'.get? e = some o ∧ o.cls = .type "StopIteration") → E (.ref e) { s with heap := h' }) : wpAny (model P w) A (Builtin.SmallTypes.nextOf (.ref it)) Q E s := by
  obtain ⟨h1, h2⟩ := h
  cases t with
  | false => exact wpAny_nextOf_list_end hh h1 h2 hx hE
  | true => exact nextTE hh h1 h2 hx hE
end
theorem seqDraws {P : Program} {w : World} {A : Around} (t : Bool) (hh : A.handled = none) (it a : Addr) (hn : a ≠ it) (its : Array Value) : Draws P w A it [it, a] its.size (fun i v => its[i]? = some v) (fun i h => SeqIt t h it a i its) := by
  refine ⟨fun i h q => ?_, fun i h h' q k => q.at (fun o e => k it (by simp) o e) (fun o e => k a (by simp) o e), fun i s Q E hi q k => ?_, fun s Q E q k => ?_⟩
  · obtain ⟨o, ho, _⟩ := q.1.obj
    exact ⟨o, ho⟩
  · exact nextI q (x := its[i]) (by simp [hi]) hn fun h' q' sb => k _ h' s.toks (by simp [hi]) q' sb
  · exact nextIE hh q (by simp) k
/-! ### enumerate(..) made of a tuple -/
theorem meets_enumT (l : Addr) (items : Array Value) :
    Meets (Builtin.«enumerate.__new__» ⟨[.type "enumerate", .ref l], []⟩) (fun _ R s => s.heap.IsTuple l items ∧
      R (.ok (.ret (.ref (s.heap.push { cls := .type "tuple_iterator", data := .fields #[.ref l, .int 0 0] }).objs.size)))
        { s with heap := (s.heap.push { cls := .type "tuple_iterator", data := .fields #[.ref l, .int 0 0] }).push { cls := .type "enumerate", data := .fields #[.none, .bool false, .ref s.heap.objs.size, rawInt 0, .none, .none] } }) := by
  refine .of_wp fun prog w A R s h => ?_
  obtain ⟨hp, g, d, tk, os⟩ := s
  obtain ⟨hl, h⟩ := h
  have hsub := sub_enumerate
  have hL : Heap.IsTuple (Shared.heap ⟨hp, g, d, tk, os⟩) l items := hl
  have hl2 := hl
  obtain ⟨⟨cl, dct, dt, sl⟩, hg, hc, n, hd⟩ := hl2
  simp only at hc hd
  subst hc hd
  have hg2 : Heap.get? (Shared.heap ⟨hp, g, d, tk, os⟩) l = _ := hg
  wp_walk using wpAny_loadPart' hg2
  refine wpAny_stack_any fun st => wpAny_pure ?_
  split
  · rename_i c _ _ _ _ _
    cases (c == Value.type "enumerate") <;> (wp_walk using wpAny_loadPart' hg2, wpAny_pyIter_tuple hL; exact ⟨_, rfl, h⟩)
  · wp_walk using wpAny_loadPart' hg2, wpAny_pyIter_tuple hL
    exact ⟨_, rfl, h⟩
section
variable {P : Program} {w : World} {A : Around} {E : Value → Shared → Prop} {s : Shared}
theorem callEnum {t : Bool} {a : Addr} {its : Array Value} {Q : Value → Shared → Prop} (hl : SeqAt t s.heap a its)
    (k : ∀ h', IsEnum h' (s.heap.objs.size + 1) s.heap.objs.size 0 .none → RawIt t h' s.heap.objs.size a 0 → (∀ b o, s.heap.get? b = some o → h'.get? b = some o) → Q (.ref (s.heap.objs.size + 1)) { s with heap := h' }) :
    wpAny (model P w) A (call (.type "enumerate") [.ref a]) Q E s := by
  cases t with
  | false => exact call_enumerate_list hl fun h' e i _ q => k h' e i q
  | true =>
    refine callType_new F.called_enumerate (by decide) (F.typeCall_enumerate_1 _) (F.newCall_enumerate_1 _) (fun obj => F.args_object_init_2 obj _) F.entry_enumerate_new (meets_enumT a its) ⟨hl, ?_⟩
    have hz : (s.heap.push { cls := .type "tuple_iterator", data := .fields #[.ref a, .int 0 0] }).objs.size = s.heap.objs.size + 1 := Heap.size_push ..
    have he := Heap.get?_push_size (s.heap.push { cls := .type "tuple_iterator", data := .fields #[.ref a, .int 0 0] }) (o := { cls := .type "enumerate", data := .fields #[.none, .bool false, .ref s.heap.objs.size, rawInt 0, .none, .none] }) rfl
    rw [hz] at he
    show _ ∧ _
    rw [hz]
    exact ⟨⟨_, he, rfl⟩, k _ he ⟨_, Heap.get?_push_of_some _ (Heap.get?_push_size _ rfl), rfl, rfl⟩ fun b o x => Heap.get?_push_of_some _ (Heap.get?_push_of_some _ x)⟩
end
theorem seq_of {t : Bool} {X : Cx} {pins : List (Addr × Obj)} {σ : L2.St} {H : Hp} {s : Shared} {a : Addr} {xs : List V} (I : Inv X pins σ H s) (h : SqB X.K t H a xs) : ∃ its : List Value, Vals xs its ∧ SeqAt t s.heap a its.toArray := by
  cases t with
  | false =>
    obtain ⟨its, r, p, _⟩ := I.list h
    exact ⟨its, r, p.isList⟩
  | true =>
    obtain ⟨its, r, p, _⟩ := I.tuple h
    exact ⟨its, r, p⟩
theorem seq_inj {t : Bool} {X : Cx} {pins : List (Addr × Obj)} {σ : L2.St} {H : Hp} {s : Shared} {a : Addr} {xs ys : List V} (I : Inv X pins σ H s) (h : SqB X.K t H a xs) (h2 : SqB X.K t H a ys) : xs = ys := by
  cases t with
  | false => exact I.list_inj h h2
  | true => exact I.tuple_inj h h2
/-- the sequence at a as it stands at each turn, each item in a new pair -/
def ItE (K : PySem.W.Frag) (t : Bool) (a : Addr) : It :=
  ⟨fun i H => ∃ (xs : List V) (x : V), SqB K t H a xs ∧ xs[i]? = some x, fun i H v H' => ∃ T x, v = .ref T ∧ H T = none ∧ H' = upd H T (.tup [.int (i : Nat), x]) ∧ ∀ xs, SqB K t H a xs → xs[i]? = some x, fun i H => ∃ xs : List V, SqB K t H a xs ∧ xs.length ≤ i⟩
theorem in1_of {A : Around} (h : A.handled = none) : A.in1.handled = none := h
theorem turnE {P : Program} {w : World} {K : PySem.W.Frag} {elts : List Expr} {kk : Nat} {tpos : Pos} (t : Bool) (a e it : Addr) (hn : a ≠ it) (hn2 : e ≠ a) :
    Turn P w K (.Tuple elts kk tpos) (ItE K t a) [e, it] e (fun i h => (∃ old, IsEnum h e it ((i : Nat) : Int) old) ∧ RawIt t h it a i ∧ e ≠ it) := by
  refine ⟨by simp, fun i h st b hb => ?_, fun i h h' st k => ?_, ?_, ?_, fun A i s Q E st h => ?_⟩
  · obtain ⟨⟨old, he⟩, hi, _⟩ := st
    have e' : b = e ∨ b = it := by simpa using hb
    rcases e' with rfl | rfl
    · exact ⟨_, he, fun v q => nomatch q⟩
    · exact hi.obj
  · obtain ⟨⟨old, he⟩, hi, hne⟩ := st
    exact ⟨⟨old, k e (by simp) _ he⟩, hi.at fun o q => k it (by simp) o q, hne⟩
  · intro X hP hw hK hc i pins s σ H E I hf st hg
    subst hP hw hK
    obtain ⟨⟨old, he⟩, hit0, hne⟩ := st
    obtain ⟨xs, x, hq, hx⟩ := hg
    obtain ⟨its, rv, hat⟩ := seq_of I hq
    have hit : SeqIt t s.heap it a i its.toArray := ⟨hit0, hat⟩
    obtain ⟨u, hu, ru⟩ := rv.get hx
    have hel : e < s.heap.objs.size := Heap.lt_size he
    have hil : it < s.heap.objs.size := hit0.lt
    have hlt : i < its.toArray.size := by
      have := (List.getElem?_eq_some_iff.mp hu).1
      simpa using this
    refine wpAny_pyNext_enum_itemD (seqDraws t (in1_of (I.ok.hd hc)) it a hn its.toArray) he hit hlt hne (by simp; exact ⟨hne, hn2⟩) fun y h' tk hy ho hit' hT hsz hk => ?_
    obtain rfl : y = u := by
      have h1 : its.toArray[i]? = some u := by simpa using hu
      exact Option.some.inj (hy.symm.trans h1)
    refine ⟨_, rfl, wpAny_letOwnedTupleGo_enum (s := { s with heap := h', toks := tk + 1 }) ho fun h'' he' sb => ?_⟩
    have hT2 : h''.get? s.heap.objs.size = some { cls := .type "tuple", data := .seq #[.int i tk, y] } := (sb.2 _ (Nat.ne_of_gt hel)).trans hT
    have new : ObjOk X.prog X.w (upd H s.heap.objs.size (.tup [.int (i : Nat), x])) h'' s.heap.objs.size (.tup [.int (i : Nat), x]) := ⟨by show 2 ≤ sizeLine; decide, [.int i tk, y], .cons ⟨_, rfl⟩ (.cons ru .nil), ⟨_, hT2, rfl, _, rfl⟩⟩
    have I1 : Inv X pins σ (upd H s.heap.objs.size (.tup [.int (i : Nat), x])) { s with heap := h'', toks := tk + 1 } :=
      I.turnedNew (ch := [e, it]) (fun b ob hb q => (sb.2 b (fun z => hb (by simp [z]))).trans (hk b ob (fun z => hb (by simp [z])) (fun z => hb (by simp [z])) q)) hf (Nat.le_refl _) new
    refine ⟨.ref s.heap.objs.size, _, I1, rfl, ⟨_, x, rfl, I.hok.fresh (Nat.le_refl _), rfl, fun ys hy => by rw [seq_inj I hy hq]; exact hx⟩, ⟨⟨y, ?_⟩, hit'.1.at (fun o q => (sb.2 it (Ne.symm hne)).trans q), hne⟩, fun b hb => ?_⟩
    · have e1 : ((i + 1 : Nat) : Int) = (i : Int) + 1 := by omega
      rw [e1]
      exact he'
    · have hb' : b < s.heap.objs.size := by
        have e' : b = e ∨ b = it := by simpa using hb
        rcases e' with rfl | rfl <;> assumption
      rw [upd_ne (Nat.ne_of_lt hb')]
      exact (hf b hb).1
  · intro X hP hw hK hc i pins s σ H E I hf st hg
    subst hP hw hK
    obtain ⟨⟨old, he⟩, hit0, hne⟩ := st
    obtain ⟨xs, hq, hx⟩ := hg
    obtain ⟨its, rv, hat⟩ := seq_of I hq
    have hl := rv.length
    obtain ⟨f0, f1, f2, f3, f4, f5⟩ := hf it (by simp)
    have hT : s.TypeIs (.ref e) "enumerate" := ⟨_, he, rfl⟩
    unfold pyNext
    refine wpAny_bind (wpAny_attempt (wpAny_callSpecial?_slot (name := Str.ofString "__next__") hT F.slot_enumerate_next (wpAny_call_entry F.slot_enumerate_next hT F.entry_enumerate_next (show wpAny _ _ (field (.ref e) 2 >>= _) _ _ _ from ?_) (F.args_enumerate_next_1 _))))
    refine wpAny_bind (wpAny_field he rfl (x := .ref it) rfl (wpAny_bind (nextIE (in1_of (I.ok.hd hc)) ⟨hit0, hat⟩ (by simp; omega) fun h' x eb hx' => ?_)))
    obtain ⟨o, ho, hc'⟩ := hx'
    exact wpAny_bind (wpAny_isInstance (T := "StopIteration") (b := true) ⟨o, ho, hc'⟩ isSubtype_stop (wpAny_pure ⟨rfl, I.turned (t' := s.toks) (fun b o hb q => eb b o hb q) f0 f1 f3 f4 f5⟩))
  · obtain ⟨⟨_, he⟩, _⟩ := st
    exact wpAny_pyIter_enum he h
def iEnumB (K : PySem.W.Frag) (ta : TA) : TI := fun σ H R => ta σ H fun vs H1 => ∃ t a xs, vs = [.ref a] ∧ SqB K t H1 a xs ∧ R (ItE K t a) H1
theorem pi_enumB {X : Cx} {e : Expr} {ta : TA} {p pos tpos : Pos} {elts : List Expr} {kk : Nat} (hg : Gl X "enumerate") (hm : X.mg "enumerate" = none) (ha : PA X [e] ta) (hs : starEach [e] X.env = [(false, eval e X.env)] := by rfl) :
    PI X (.Tuple elts kk tpos) (.Call (.Name "enumerate" p) [e] [] pos) (iEnumB X.K ta) := by
  refine ⟨fun pins s σ H R I h => Call_ (ld_blt I hg hm boot_enumerate (PyProof.Rows.callWith_type1 (thn (ha.run pos pins s σ H _ I h) fun us s1 ⟨vs, H1, I1, r1, q1⟩ => ?_) hs rfl))⟩
  obtain ⟨t, a, xs, rfl, hq, q⟩ := q1
  cases r1 with
  | cons r rr =>
    cases rr
    cases r
    obtain ⟨its, rv, hat⟩ := seq_of I1 hq
    have hlt : a < s1.heap.objs.size := hat.lt
    refine callEnum hat fun h' he hit hk => wpAny_pyIter_enum he ?_
    have I2 : Inv X pins σ H1 { s1 with heap := h' } := I1.kept (t' := s1.toks) hk
    refine ⟨s1.heap.objs.size + 1, [s1.heap.objs.size + 1, s1.heap.objs.size], _, _, H1, rfl, I2, turnE t a (s1.heap.objs.size + 1) s1.heap.objs.size (Nat.ne_of_lt hlt) (Nat.ne_of_gt (Nat.lt_succ_of_lt hlt)), ⟨⟨.none, he⟩, hit, Nat.succ_ne_self _⟩, fun b hb => ?_, q⟩
    have hle : s1.heap.objs.size ≤ b := by
      have e' : b = s1.heap.objs.size + 1 ∨ b = s1.heap.objs.size := by simpa using hb
      rcases e' with rfl | rfl
      · exact Nat.le_add_right _ _
      · exact Nat.le_refl _
    exact I1.fpOk hle (I1.hok.fresh hle)
theorem walk_enumB {K : PySem.W.Frag} {t : Bool} {a : Addr} {xs : List V} : Walk (ItE K t a) xs.length (fun H => SqB K t H a xs) (YPair (fun i => some (.int (i : Nat))) (fun i => xs[i]?)) := by
  refine ⟨fun i _ hi q => ⟨xs, xs[i], q, by simp [hi]⟩, fun _ q => ⟨xs, q, Nat.le_refl _⟩, fun i H v H' _ q y => ?_⟩
  obtain ⟨T, x, h1, h2, h3, h4⟩ := y
  exact ⟨T, .int (i : Nat), x, h1, h2, h3, rfl, h4 xs q⟩
/-- a callee's refusals that do not come -/
theorem pass_no {P : Program} {w : World} {X : Cx} : Passes (L2.CX P w) X (fun _ _ _ => False) := by
  intro _ _ _ _ _ _ _ c
  obtain ⟨_, _, _, _, _, _, _, _, _, _, _, _, z⟩ := c
  exact z.elim
/-- for i, x in enumerate(xs) -/
theorem for_enum {K : PySem.W.Frag} {t : Bool} {a : Addr} {xs : List V} {g : TG} {tb : TS} {D : Ends} {σ : L2.St} {H : Hp} (Pv : Nat → L2.St → Hp → Prop) (h0 : Pv 0 σ H) (hS : ∀ i σ H, Pv i σ H → SqB K t H a xs)
    (hs : ∀ i x T σ H, xs[i]? = some x → Pv i σ H → H T = none → g (.ref T) σ (upd H T (.tup [.int (i : Nat), x])) fun σ2 H2 => tb { D with nx := Pv (i + 1), ct := Pv (i + 1), bk := D.nx } σ2 H2) (hd : ∀ σ H, Pv xs.length σ H → D.nx σ H) :
    ∃ W : Nat → Nat → L2.St → Hp → Prop, (∃ m, W 0 m σ H) ∧ ∀ i m σ H, W i m σ H →
      ((ItE K t a).stop i H ∧ D.nx σ H) ∨ ((ItE K t a).go i H ∧ ∃ N : L2.St → Hp → Prop, (∀ σ' H', N σ' H' → ∃ m', m' < m ∧ W (i + 1) m' σ' H') ∧ ∀ x H', (ItE K t a).yld i H x H' → g x σ H' fun σ2 H2 => tb { D with nx := N, ct := N, bk := D.nx } σ2 H2) := by
  refine for_it (walk_enumB (xs := xs)) Pv h0 (fun i σ H _ p => hS i σ H p) (fun i x σ H H' hi p y => ?_) hd
  obtain ⟨T, u, v, rfl, hT, rfl, e1, e2⟩ := y
  cases e1
  exact hs i v T σ H e2 p hT
end HB
namespace HB
open PySem PySem.Spec PyProof.Rows L2 Evl
/-! ### numbers as texts -/
abbrev numT (i : Int) : Str := Str.ofString (toString i)
def figI (i : Int) : List Nat := if i < 0 then 45 :: TL.numL i.natAbs else TL.numL i.natAbs
theorem tl_numT (i : Int) : TL.tl (numT i) = figI i := by
  unfold figI
  cases i with
  | ofNat n =>
    rw [if_neg (show ¬ Int.ofNat n < 0 from Int.not_lt.mpr (Int.natCast_nonneg n))]
    exact TL.tl_num n
  | negSucc m =>
    rw [if_pos (Int.negSucc_lt_zero m)]
    have e : toString (Int.negSucc m) = "-" ++ Nat.repr (m + 1) := rfl
    have e2 : toString (((m + 1 : Nat) : Int)) = Nat.repr (m + 1) := rfl
    rw [numT, e, TL.tl_ofString, String.toList_append, List.map_append, ← TL.tl_ofString (Nat.repr (m + 1)), ← e2, TL.tl_num]
    rfl
theorem numL_head {n : Nat} (h : 0 < n) : (TL.numL n).take 1 ≠ [48] := by
  induction n using Nat.strongRecOn with
  | _ n ih =>
    by_cases q : n < 10
    · rw [TL.numL_lt q]
      intro z
      have : 48 + n = 48 := List.head_eq_of_cons_eq z
      omega
    · rw [TL.numL_step (by omega)]
      have e := ih (n / 10) (by omega) (by omega)
      have ne := TL.numL_ne (n / 10)
      rw [List.take_append_of_le_length (by
        cases r : TL.numL (n / 10) with
        | nil => exact absurd r ne
        | cons a b => simp)]
      exact e
theorem figs_pos {n : Nat} : figs (TL.numL n) = TL.numL n := by
  unfold figs
  rw [if_neg]
  intro z
  cases r : TL.numL n with
  | nil => exact absurd r (TL.numL_ne n)
  | cons a b =>
    rw [r] at z
    have h : a = 45 := List.head_eq_of_cons_eq z
    have := TL.numL_digits n a (by rw [r]; exact List.mem_cons_self)
    omega
theorem figs_neg {n : Nat} : figs (45 :: TL.numL n) = TL.numL n := by
  unfold figs
  rw [if_pos (show List.take 1 (45 :: TL.numL n) = [45] from rfl)]
  rfl
theorem readNum_num {i : Int} (h : i.natAbs < 10000000000) : readNum (numT i) = some i := by
  have hlen : (TL.numL i.natAbs).length ≤ 10 := TL.numL_len (by decide) h
  have hd := TL.numL_digits i.natAbs
  have hne := TL.numL_ne i.natAbs
  have h1 : 1 ≤ (TL.numL i.natAbs).length := by
    cases r : TL.numL i.natAbs with
    | nil => exact absurd r hne
    | cons a b => simp
  unfold readNum
  by_cases hi : i < 0
  · have et : TL.tl (numT i) = 45 :: TL.numL i.natAbs := by rw [tl_numT, figI, if_pos hi]
    have ok : numOk (TL.tl (numT i)) := by
      rw [et]
      unfold numOk
      rw [figs_neg]
      exact ⟨⟨h1, hlen⟩, fun z => numL_head (by omega) z.1, hd⟩
    rw [if_pos ok, intText_neg (x := numT i) (cs := TL.numL i.natAbs) et hd hne (by rw [TL.len_tl, et]; simp; omega), TL.numL_val]
    congr 1
    omega
  · have et : TL.tl (numT i) = TL.numL i.natAbs := by rw [tl_numT, figI, if_neg hi]
    have ok : numOk (TL.tl (numT i)) := by
      rw [et]
      unfold numOk
      rw [figs_pos]
      refine ⟨⟨h1, hlen⟩, fun z => ?_, hd⟩
      by_cases h0 : i.natAbs = 0
      · rw [h0] at z
        exact z.2 (TL.numL_lt (by decide))
      · exact numL_head (by omega) z.1
    rw [if_pos ok, intText_digits (x := numT i) (by rw [show (numT i).cps.toList = _ from et]; exact hd) (by rw [show (numT i).cps.toList = _ from et]; exact hne) (by rw [TL.len_tl, et]; omega)]
    rw [show (numT i).cps.toList = _ from et, TL.numL_val]
    congr 1
    omega
theorem numT_free {i : Int} : 32 ∉ TL.tl (numT i) := by
  rw [tl_numT]
  unfold figI
  have h := TL.numL_free (n := i.natAbs) (s := 32) (.inl (by decide))
  split
  · intro z
    rcases List.mem_cons.mp z with z | z
    · cases z
    · exact h z
  · exact h
theorem numT_len {i : Int} (h : i.natAbs < 100000000000) : (numT i).length ≤ 12 := by
  have hlen : (TL.numL i.natAbs).length ≤ 11 := TL.numL_len (by decide) h
  rw [TL.len_tl, tl_numT]
  unfold figI
  split
  · rw [List.length_cons]; omega
  · omega
theorem log2_small {i : Int} (h : i.natAbs < 100000000000) : i.natAbs.log2 < 1920 := by
  by_cases h0 : i.natAbs = 0
  · rw [h0]
    decide
  · rw [Nat.log2_lt h0]
    exact Nat.lt_trans h (by decide)
/-- the first sign of a text -/
def sign1 (s : Str) : Str := ⟨((TL.tl s).take 1).toArray⟩
/-- a state and leaves as a text -/
def showWords (row : Int) (nums cells : List Int) (leaves : List Str) : List Str := numT row :: (nums.map numT ++ [Txt.join "" (leaves.map sign1)] ++ cells.map numT)
def showText (row : Int) (nums cells : List Int) (leaves : List Str) : Str := Txt.join " " (showWords row nums cells leaves)
theorem sum_le {α : Type} (f : α → Nat) (b : Nat) : ∀ (l : List α), (∀ x ∈ l, f x ≤ b) → (l.map f).sum ≤ l.length * b
  | [], _ => by simp
  | a :: l, h => by
    rw [List.map_cons, List.sum_cons, List.length_cons, Nat.succ_mul]
    have h1 := h a List.mem_cons_self
    have h2 := sum_le f b l fun x hx => h x (List.mem_cons_of_mem _ hx)
    omega
theorem tl_join0 : ∀ (l : List Str), TL.tl (Txt.join "" l) = (l.map TL.tl).flatten := by
  intro l
  rw [TL.join_eq, TL.tl_join]
  have : TL.tl ("" : Str) = [] := by decide +kernel
  rw [this]
  induction l with
  | nil => rfl
  | cons a r ih =>
    cases r with
    | nil => simp [TL.joinL]
    | cons b r =>
      show TL.tl a ++ ([] ++ TL.joinL [] ((b :: r).map TL.tl)) = _
      rw [ih]
      rfl
theorem sign1_len (s : Str) : (sign1 s).length ≤ 1 := by
  rw [TL.len_tl]
  show ((TL.tl s).take 1).length ≤ 1
  rw [List.length_take]
  omega
end HB
namespace HB
open PySem PySem.Spec PyProof.Rows L2
def top (i : Nat) : Stmt := PySem.Challenge.pw_haulbell_k93_states_written.main.body.getD i (.Pass ⟨0, 0, 0, 0⟩)
abbrev s_NoText_init : Stmt := inClass (top 2) 0
abbrev s_is_whole : Stmt := top 5
abbrev s_is_content : Stmt := top 6
abbrev s_fits : Stmt := top 10
abbrev s_read_number : Stmt := top 17
abbrev s_word_at : Stmt := top 18
abbrev s_number_at : Stmt := top 19
abbrev s_leaves_at : Stmt := top 20
abbrev s_read_state : Stmt := top 21
abbrev s_show_state : Stmt := top 22
abbrev s__law_hand : Stmt := top 24
abbrev s__law_draw : Stmt := top 25
abbrev s__law_content : Stmt := top 26
abbrev s__law_cells : Stmt := top 27
abbrev s__law_leaves : Stmt := top 28
abbrev s__law_whole : Stmt := top 29
abbrev s__law_numbers : Stmt := top 30
abbrev s__law_written : Stmt := top 31
abbrev s__law_right : Stmt := top 32
abbrev s_law : Stmt := top 33
abbrev FnP (K : PySem.W.Frag) (x q : Str) (st : Stmt) (f : Addr) (fd : FuncData) : Prop := FunD K x q (defArgs st) (defBody st) (defScope st) [] [] f fd
theorem sc_NoText_init : FnScope ["self", "at"] ["self", "at"] (defScope s_NoText_init) := ⟨rfl, rfl, rfl, by decide +kernel, rfl, by decide +kernel, by decide +kernel⟩
theorem bd_NoText_init {K : PySem.W.Frag} {f : Addr} {fd : FuncData} (F : FnP K "__init__" "NoText.__init__" s_NoText_init f fd) : Binds K fd ["self", "at"] [] := F.bindsN fun _ _ _ _ _ _ us hl => match us, hl with | [_, _], _ => rfl
theorem sc_is_whole : FnScope ["thing"] ["thing"] (defScope s_is_whole) := ⟨rfl, rfl, rfl, by decide +kernel, rfl, by decide +kernel, by decide +kernel⟩
theorem bd_is_whole {K : PySem.W.Frag} {f : Addr} {fd : FuncData} (F : FnP K "is_whole" "is_whole" s_is_whole f fd) : Binds K fd ["thing"] [] := F.bindsN fun _ _ _ _ _ _ us hl => match us, hl with | [_], _ => rfl
theorem sc_is_content : FnScope ["thing"] ["thing"] (defScope s_is_content) := ⟨rfl, rfl, rfl, by decide +kernel, rfl, by decide +kernel, by decide +kernel⟩
theorem bd_is_content {K : PySem.W.Frag} {f : Addr} {fd : FuncData} (F : FnP K "is_content" "is_content" s_is_content f fd) : Binds K fd ["thing"] [] := F.bindsN fun _ _ _ _ _ _ us hl => match us, hl with | [_], _ => rfl
theorem sc_fits : FnScope ["box", "thing"] ["box", "thing"] (defScope s_fits) := ⟨rfl, rfl, rfl, by decide +kernel, rfl, by decide +kernel, by decide +kernel⟩
theorem bd_fits {K : PySem.W.Frag} {f : Addr} {fd : FuncData} (F : FnP K "fits" "fits" s_fits f fd) : Binds K fd ["box", "thing"] [] := F.bindsN fun _ _ _ _ _ _ us hl => match us, hl with | [_, _], _ => rfl
theorem sc_read_number : FnScope ["word", "figures", "figure"] ["word"] (defScope s_read_number) := ⟨rfl, rfl, rfl, by decide +kernel, rfl, by decide +kernel, by decide +kernel⟩
theorem bd_read_number {K : PySem.W.Frag} {f : Addr} {fd : FuncData} (F : FnP K "read_number" "read_number" s_read_number f fd) : Binds K fd ["word"] [] := F.bindsN fun _ _ _ _ _ _ us hl => match us, hl with | [_], _ => rfl
theorem sc_word_at : FnScope ["words", "at"] ["words", "at"] (defScope s_word_at) := ⟨rfl, rfl, rfl, by decide +kernel, rfl, by decide +kernel, by decide +kernel⟩
theorem bd_word_at {K : PySem.W.Frag} {f : Addr} {fd : FuncData} (F : FnP K "word_at" "word_at" s_word_at f fd) : Binds K fd ["words", "at"] [] := F.bindsN fun _ _ _ _ _ _ us hl => match us, hl with | [_, _], _ => rfl
theorem sc_number_at : FnScope ["words", "at", "low", "high", "number"] ["words", "at", "low", "high"] (defScope s_number_at) := ⟨rfl, rfl, rfl, by decide +kernel, rfl, by decide +kernel, by decide +kernel⟩
theorem bd_number_at {K : PySem.W.Frag} {f : Addr} {fd : FuncData} (F : FnP K "number_at" "number_at" s_number_at f fd) : Binds K fd ["words", "at", "low", "high"] [] := F.bindsN fun _ _ _ _ _ _ us hl => match us, hl with | [_, _, _, _], _ => rfl
theorem sc_leaves_at : FnScope ["words", "at", "word", "sign"] ["words", "at"] (defScope s_leaves_at) := ⟨rfl, rfl, rfl, by decide +kernel, rfl, by decide +kernel, by decide +kernel⟩
theorem bd_leaves_at {K : PySem.W.Frag} {f : Addr} {fd : FuncData} (F : FnP K "leaves_at" "leaves_at" s_leaves_at f fd) : Binds K fd ["words", "at"] [] := F.bindsN fun _ _ _ _ _ _ us hl => match us, hl with | [_, _], _ => rfl
theorem sc_read_state : FnScope ["text", "words", "row", "numbers", "place", "box", "number", "first", "leaves", "cells", "cell"] ["text"] (defScope s_read_state) := ⟨rfl, rfl, rfl, by decide +kernel, rfl, by decide +kernel, by decide +kernel⟩
theorem bd_read_state {K : PySem.W.Frag} {f : Addr} {fd : FuncData} (F : FnP K "read_state" "read_state" s_read_state f fd) : Binds K fd ["text"] [] := F.bindsN fun _ _ _ _ _ _ us hl => match us, hl with | [_], _ => rfl
theorem sc_show_state : FnScope ["state", "leaves", "row", "numbers", "cells", "words", "number", "leave", "content"] ["state", "leaves"] (defScope s_show_state) := ⟨rfl, rfl, rfl, by decide +kernel, rfl, by decide +kernel, by decide +kernel⟩
theorem bd_show_state {K : PySem.W.Frag} {f : Addr} {fd : FuncData} (F : FnP K "show_state" "show_state" s_show_state f fd) : Binds K fd ["state", "leaves"] [] := F.bindsN fun _ _ _ _ _ _ us hl => match us, hl with | [_, _], _ => rfl
theorem sc__law_hand : FnScope ["_law_script", "_law_cells_here", "_law_fold", "_law_cell"] ["_law_script"] (defScope s__law_hand) := ⟨rfl, rfl, rfl, by decide +kernel, rfl, by decide +kernel, by decide +kernel⟩
theorem bd__law_hand {K : PySem.W.Frag} {f : Addr} {fd : FuncData} (F : FnP K "_law_hand" "_law_hand" s__law_hand f fd) : Binds K fd ["_law_script"] [] := F.bindsN fun _ _ _ _ _ _ us hl => match us, hl with | [_], _ => rfl
theorem sc__law_draw : FnScope ["_law_hand_here", "_law_many", "_law_rest", "_law_cell", "_law_one", "_law_two"] ["_law_hand_here", "_law_many"] (defScope s__law_draw) := ⟨rfl, rfl, rfl, by decide +kernel, rfl, by decide +kernel, by decide +kernel⟩
theorem bd__law_draw {K : PySem.W.Frag} {f : Addr} {fd : FuncData} (F : FnP K "_law_draw" "_law_draw" s__law_draw f fd) : Binds K fd ["_law_hand_here", "_law_many"] [] := F.bindsN fun _ _ _ _ _ _ us hl => match us, hl with | [_, _], _ => rfl
theorem sc__law_content : FnScope ["_law_hand_here", "_law_way"] ["_law_hand_here"] (defScope s__law_content) := ⟨rfl, rfl, rfl, by decide +kernel, rfl, by decide +kernel, by decide +kernel⟩
theorem bd__law_content {K : PySem.W.Frag} {f : Addr} {fd : FuncData} (F : FnP K "_law_content" "_law_content" s__law_content f fd) : Binds K fd ["_law_hand_here"] [] := F.bindsN fun _ _ _ _ _ _ us hl => match us, hl with | [_], _ => rfl
theorem sc__law_cells : FnScope ["_law_hand_here", "_law_most", "_law_way", "_law_many", "_law_k"] ["_law_hand_here", "_law_most"] (defScope s__law_cells) := ⟨rfl, rfl, rfl, by decide +kernel, rfl, by decide +kernel, by decide +kernel⟩
theorem bd__law_cells {K : PySem.W.Frag} {f : Addr} {fd : FuncData} (F : FnP K "_law_cells" "_law_cells" s__law_cells f fd) : Binds K fd ["_law_hand_here", "_law_most"] [] := F.bindsN fun _ _ _ _ _ _ us hl => match us, hl with | [_, _], _ => rfl
theorem sc__law_leaves : FnScope ["_law_hand_here", "_law_many", "_law_leaves_here", "_law_k", "_law_word", "_law_low", "_law_cell"] ["_law_hand_here", "_law_many"] (defScope s__law_leaves) := ⟨rfl, rfl, rfl, by decide +kernel, rfl, by decide +kernel, by decide +kernel⟩
theorem bd__law_leaves {K : PySem.W.Frag} {f : Addr} {fd : FuncData} (F : FnP K "_law_leaves" "_law_leaves" s__law_leaves f fd) : Binds K fd ["_law_hand_here", "_law_many"] [] := F.bindsN fun _ _ _ _ _ _ us hl => match us, hl with | [_, _], _ => rfl
theorem sc__law_whole : FnScope ["_law_thing"] ["_law_thing"] (defScope s__law_whole) := ⟨rfl, rfl, rfl, by decide +kernel, rfl, by decide +kernel, by decide +kernel⟩
theorem bd__law_whole {K : PySem.W.Frag} {f : Addr} {fd : FuncData} (F : FnP K "_law_whole" "_law_whole" s__law_whole f fd) : Binds K fd ["_law_thing"] [] := F.bindsN fun _ _ _ _ _ _ us hl => match us, hl with | [_], _ => rfl
theorem sc__law_numbers : FnScope ["_law_hand_here", "_law_numbers_here", "_law_k", "_law_far"] ["_law_hand_here"] (defScope s__law_numbers) := ⟨rfl, rfl, rfl, by decide +kernel, rfl, by decide +kernel, by decide +kernel⟩
theorem bd__law_numbers {K : PySem.W.Frag} {f : Addr} {fd : FuncData} (F : FnP K "_law_numbers" "_law_numbers" s__law_numbers f fd) : Binds K fd ["_law_hand_here"] [] := F.bindsN fun _ _ _ _ _ _ us hl => match us, hl with | [_], _ => rfl
theorem sc__law_written : FnScope ["_law_at", "_law_numbers_here", "_law_leaves_here", "_law_cells_here", "_law_words", "_law_number", "_law_leave", "_law_content_here"] ["_law_at", "_law_numbers_here", "_law_leaves_here", "_law_cells_here"] (defScope s__law_written) := ⟨rfl, rfl, rfl, by decide +kernel, rfl, by decide +kernel, by decide +kernel⟩
theorem bd__law_written {K : PySem.W.Frag} {f : Addr} {fd : FuncData} (F : FnP K "_law_written" "_law_written" s__law_written f fd) : Binds K fd ["_law_at", "_law_numbers_here", "_law_leaves_here", "_law_cells_here"] [] := F.bindsN fun _ _ _ _ _ _ us hl => match us, hl with | [_, _, _, _], _ => rfl
theorem sc__law_right : FnScope ["_law_found", "_law_at", "_law_numbers_here", "_law_leaves_here", "_law_cells_here", "_law_state", "_law_number"] ["_law_found", "_law_at", "_law_numbers_here", "_law_leaves_here", "_law_cells_here"] (defScope s__law_right) := ⟨rfl, rfl, rfl, by decide +kernel, rfl, by decide +kernel, by decide +kernel⟩
theorem bd__law_right {K : PySem.W.Frag} {f : Addr} {fd : FuncData} (F : FnP K "_law_right" "_law_right" s__law_right f fd) : Binds K fd ["_law_found", "_law_at", "_law_numbers_here", "_law_leaves_here", "_law_cells_here"] [] := F.bindsN fun _ _ _ _ _ _ us hl => match us, hl with | [_, _, _, _, _], _ => rfl
theorem sc_law : FnScope ["_law_script", "_law_hand_here", "_law_turn", "_law_cells_here", "_law_leaves_here", "_law_numbers_here", "_law_at", "_law_text", "_law_state", "_law_handed", "_law_k", "_law_found", "_law_cell"] ["_law_script"] (defScope s_law) := ⟨rfl, rfl, rfl, by decide +kernel, rfl, by decide +kernel, by decide +kernel⟩
theorem bd_law {K : PySem.W.Frag} {f : Addr} {fd : FuncData} (F : FnP K "law" "law" s_law f fd) : Binds K fd ["_law_script"] [] := F.bindsN fun _ _ _ _ _ _ us hl => match us, hl with | [_], _ => rfl
/-- what the top has written -/
structure Txt (w : World) (K : PySem.W.Frag) (mg : Str → Option Value) where
  A_is_whole : Addr
  D_is_whole : FuncData
  A_is_content : Addr
  D_is_content : FuncData
  A_fits : Addr
  D_fits : FuncData
  A_read_number : Addr
  D_read_number : FuncData
  A_word_at : Addr
  D_word_at : FuncData
  A_number_at : Addr
  D_number_at : FuncData
  A_leaves_at : Addr
  D_leaves_at : FuncData
  A_read_state : Addr
  D_read_state : FuncData
  A_show_state : Addr
  D_show_state : FuncData
  A__law_hand : Addr
  D__law_hand : FuncData
  A__law_draw : Addr
  D__law_draw : FuncData
  A__law_content : Addr
  D__law_content : FuncData
  A__law_cells : Addr
  D__law_cells : FuncData
  A__law_leaves : Addr
  D__law_leaves : FuncData
  A__law_whole : Addr
  D__law_whole : FuncData
  A__law_numbers : Addr
  D__law_numbers : FuncData
  A__law_written : Addr
  D__law_written : FuncData
  A__law_right : Addr
  D__law_right : FuncData
  A_law : Addr
  D_law : FuncData
  A_HaulError : Addr
  A_NoText : Addr
  A_NoText_init : Addr
  D_NoText_init : FuncData
  A_BOXES : Addr
  A_SIGNS : Addr
  F_is_whole : FunD K "is_whole" "is_whole" (defArgs s_is_whole) (defBody s_is_whole) (defScope s_is_whole) [] [] A_is_whole D_is_whole
  F_is_content : FunD K "is_content" "is_content" (defArgs s_is_content) (defBody s_is_content) (defScope s_is_content) [] [] A_is_content D_is_content
  F_fits : FunD K "fits" "fits" (defArgs s_fits) (defBody s_fits) (defScope s_fits) [] [] A_fits D_fits
  F_read_number : FunD K "read_number" "read_number" (defArgs s_read_number) (defBody s_read_number) (defScope s_read_number) [] [] A_read_number D_read_number
  F_word_at : FunD K "word_at" "word_at" (defArgs s_word_at) (defBody s_word_at) (defScope s_word_at) [] [] A_word_at D_word_at
  F_number_at : FunD K "number_at" "number_at" (defArgs s_number_at) (defBody s_number_at) (defScope s_number_at) [] [] A_number_at D_number_at
  F_leaves_at : FunD K "leaves_at" "leaves_at" (defArgs s_leaves_at) (defBody s_leaves_at) (defScope s_leaves_at) [] [] A_leaves_at D_leaves_at
  F_read_state : FunD K "read_state" "read_state" (defArgs s_read_state) (defBody s_read_state) (defScope s_read_state) [] [] A_read_state D_read_state
  F_show_state : FunD K "show_state" "show_state" (defArgs s_show_state) (defBody s_show_state) (defScope s_show_state) [] [] A_show_state D_show_state
  F__law_hand : FunD K "_law_hand" "_law_hand" (defArgs s__law_hand) (defBody s__law_hand) (defScope s__law_hand) [] [] A__law_hand D__law_hand
  F__law_draw : FunD K "_law_draw" "_law_draw" (defArgs s__law_draw) (defBody s__law_draw) (defScope s__law_draw) [] [] A__law_draw D__law_draw
  F__law_content : FunD K "_law_content" "_law_content" (defArgs s__law_content) (defBody s__law_content) (defScope s__law_content) [] [] A__law_content D__law_content
  F__law_cells : FunD K "_law_cells" "_law_cells" (defArgs s__law_cells) (defBody s__law_cells) (defScope s__law_cells) [] [] A__law_cells D__law_cells
  F__law_leaves : FunD K "_law_leaves" "_law_leaves" (defArgs s__law_leaves) (defBody s__law_leaves) (defScope s__law_leaves) [] [] A__law_leaves D__law_leaves
  F__law_whole : FunD K "_law_whole" "_law_whole" (defArgs s__law_whole) (defBody s__law_whole) (defScope s__law_whole) [] [] A__law_whole D__law_whole
  F__law_numbers : FunD K "_law_numbers" "_law_numbers" (defArgs s__law_numbers) (defBody s__law_numbers) (defScope s__law_numbers) [] [] A__law_numbers D__law_numbers
  F__law_written : FunD K "_law_written" "_law_written" (defArgs s__law_written) (defBody s__law_written) (defScope s__law_written) [] [] A__law_written D__law_written
  F__law_right : FunD K "_law_right" "_law_right" (defArgs s__law_right) (defBody s__law_right) (defScope s__law_right) [] [] A__law_right D__law_right
  F_law : FunD K "law" "law" (defArgs s_law) (defBody s_law) (defScope s_law) [] [] A_law D_law
  F_NoText_init : FunD K "__init__" "NoText.__init__" (defArgs s_NoText_init) (defBody s_NoText_init) (defScope s_NoText_init) [] [] A_NoText_init D_NoText_init
  g_is_whole : mg "is_whole" = some (.ref A_is_whole)
  g_is_content : mg "is_content" = some (.ref A_is_content)
  g_fits : mg "fits" = some (.ref A_fits)
  g_read_number : mg "read_number" = some (.ref A_read_number)
  g_word_at : mg "word_at" = some (.ref A_word_at)
  g_number_at : mg "number_at" = some (.ref A_number_at)
  g_leaves_at : mg "leaves_at" = some (.ref A_leaves_at)
  g_read_state : mg "read_state" = some (.ref A_read_state)
  g_show_state : mg "show_state" = some (.ref A_show_state)
  g__law_hand : mg "_law_hand" = some (.ref A__law_hand)
  g__law_draw : mg "_law_draw" = some (.ref A__law_draw)
  g__law_content : mg "_law_content" = some (.ref A__law_content)
  g__law_cells : mg "_law_cells" = some (.ref A__law_cells)
  g__law_leaves : mg "_law_leaves" = some (.ref A__law_leaves)
  g__law_whole : mg "_law_whole" = some (.ref A__law_whole)
  g__law_numbers : mg "_law_numbers" = some (.ref A__law_numbers)
  g__law_written : mg "_law_written" = some (.ref A__law_written)
  g__law_right : mg "_law_right" = some (.ref A__law_right)
  g_law : mg "law" = some (.ref A_law)
  g_HaulError : mg "HaulError" = some (.ref A_HaulError)
  g_NoText : mg "NoText" = some (.ref A_NoText)
  na_NoText_at : PySem.W.findIn K (.ref A_NoText) "at" = some none
  g_MOST_CONTENT : ∃ t, mg "MOST_CONTENT" = some (.int 1000000000 t)
  g_BOXES : mg "BOXES" = some (.ref A_BOXES)
  g_MOST_HELD : ∃ t, mg "MOST_HELD" = some (.int 1000000000 t)
  g_FIGURES : ∃ t, mg "FIGURES" = some (.str "0123456789" t)
  g_MOST_FIGURES : ∃ t, mg "MOST_FIGURES" = some (.int 10 t)
  g_MOST_ROWS : ∃ t, mg "MOST_ROWS" = some (.int 24 t)
  g_MOST_CELLS : ∃ t, mg "MOST_CELLS" = some (.int 60 t)
  g_SIGNS : mg "SIGNS" = some (.ref A_SIGNS)
  kt_SIGNS : KTab K w A_SIGNS [("o", V.str "open"), ("l", V.str "look"), ("s", V.str "shut")]
  z_len : mg "len" = none
  z_list : mg "list" = none
  z_isinstance : mg "isinstance" = none
  z_range : mg "range" = none
  z_str : mg "str" = none
  z_int : mg "int" = none
  z_bool : mg "bool" = none
  z_tuple : mg "tuple" = none
  z_all : mg "all" = none
  z_abs : mg "abs" = none
  z_enumerate : mg "enumerate" = none
  z_ValueError : mg "ValueError" = none
  ox_HaulError : OexC K A_HaulError
  xf_HaulError : XfC K A_HaulError
  ox_NoText : OexC K A_NoText
  xf_NoText : XfC K A_NoText
  ii_NoText : PySem.W.findIn K (.ref A_NoText) "__init__" = some (some (.ref A_NoText_init))
  ti_NoText : PySem.W.typeIn K (.ref A_NoText_init) = some (.type "function")
  t_BOXES : ∀ H : Hp, SqT K H A_BOXES [V.str "here", V.str "there", V.str "left", V.str "way", V.str "sign", V.str "met"]
end HB
namespace HB
open PySem PySem.Spec PyProof.Rows L2 Evl
local macro_rules | `(tactic| k_memK) => `(tactic| first
  | assumption
  | (refine Ne.symm ?_; assumption)
  | (refine @ne_of_none ?nh _ _ ?no ?n1 ?n2; (case n2 => assumption); (case n1 => kct_strs))
  | (refine Ne.symm (@ne_of_none ?nh _ _ ?no ?n1 ?n2); (case n2 => assumption); (case n1 => kct_strs)))
local macro_rules | `(tactic| kct_strs) => `(tactic| first
  | assumption
  | exact upd_same
  | (refine Eq.trans (upd_ne ?l1) ?l2; (case l1 => k_memK); (case l2 => kct_strs))
  | (refine (by assumption : Evl.Ex _ _) _ _ ?_; kct_strs))
local macro_rules | `(tactic| kbo_bools) => `(tactic| first
  | assumption
  | (refine SqL.of ?_; kct_strs)
  | (refine SqT.of ?_; kct_strs)
  | (refine Evl.ex_l (by assumption) ?_; assumption)
  | (refine Evl.ex_t (by assumption) ?_; assumption)
  | (refine Evl.ex_l (Evl.Ex.new ?e1) ?e2; (case e1 => assumption); (case e2 => kbo_bools))
  | (refine Evl.ex_t (Evl.Ex.new ?e1) ?e2; (case e1 => assumption); (case e2 => kbo_bools))
  | exact Txt.t_BOXES (by assumption) _
  )
local macro_rules | `(tactic| kd_p1) => `(tactic| first
  | exact ClsV.ty _
  | exact ClsV.own _
  | (refine TyX.base ?t1; first | exact TyOf.int _ | exact TyOf.str _ | exact TyOf.bl _ | exact TyOf.non | exact TyOf.flt _ | (refine @TyOf.lst _ _ _ ?t3 ?t2; (case t2 => kct_strs)) | (refine @TyOf.tup _ _ _ ?t3 ?t2; (case t2 => kct_strs)) | (refine @TyOf.dK _ _ _ ?t3 ?t2; (case t2 => kct_strs)))
  | exact kit_NoneType_bool | exact kit_NoneType_int | exact kit_NoneType_list | exact kit_NoneType_str | exact kit_NoneType_tuple | exact kit_bool_bool | exact kit_bool_int | exact kit_bool_list | exact kit_bool_str | exact kit_bool_tuple | exact kit_dict_bool | exact kit_dict_int | exact kit_dict_list | exact kit_dict_str | exact kit_dict_tuple | exact kit_float_bool | exact kit_float_int | exact kit_float_list | exact kit_float_str | exact kit_float_tuple | exact kit_int_bool | exact kit_int_int | exact kit_int_list | exact kit_int_str | exact kit_int_tuple | exact kit_list_bool | exact kit_list_int | exact kit_list_list | exact kit_list_str | exact kit_list_tuple | exact kit_str_bool | exact kit_str_int | exact kit_str_list | exact kit_str_str | exact kit_str_tuple | exact kit_tuple_bool | exact kit_tuple_int | exact kit_tuple_list | exact kit_tuple_str | exact kit_tuple_tuple)
local macro_rules | `(tactic| got_up) => `(tactic| first
  | ((with_reducible show (_ : Int) < _); omega)
  | ((with_reducible show (_ : Int) ≤ _); omega)
  | ((with_reducible show (_ : Nat) < _); omega)
  | ((with_reducible show (_ : Nat) ≤ _); omega)
  | exact rfl
  | assumption
  | omega
  | kbo_bools
  | kct_strs
  | exact Nat.le_of_ble_eq_true rfl
  | exact Evl.sz_of (Nat.le_of_ble_eq_true rfl)
  | exact Evl.sz_lt (Nat.le_of_ble_eq_true rfl)
  | kd_p1
  | exact ⟨_, rfl⟩
  | decide
  | (dsimp only; omega)
  | (dsimp only; decide)
  | (simp only [List.length_map, List.length_take, List.length_append, List.length_cons, List.length_nil, List.length_drop]; omega)
  | (refine ⟨?_, ?_⟩ <;> (dsimp only; omega))
  | (refine ⟨?_, ?_⟩ <;> omega)
  | (refine ⟨?_, ?_, ?_⟩ <;> omega)
  | (refine ⟨?_, ?_, ?_, ?_⟩ <;> omega)
  | (show CPow _ _; refine ⟨?_, ?_, ?_⟩ <;> first | omega | decide | (dsimp only; omega))
  | (show CDivN _ _; refine ⟨?_, ?_⟩ <;> first | omega | decide | (dsimp only; omega))
  | (show CMul _ _; refine Or.inl ?_; refine ⟨?_, ?_⟩ <;> first | omega | decide | (dsimp only; omega))
  | (show CMul _ _; refine Or.inr ?_; refine ⟨?_, ?_⟩ <;> first | omega | decide | (dsimp only; omega))
  | (refine Or.inl (Exists.intro ?x1 (And.intro ?x2 ?x3)); (case x2 => kbo_bools); (case x3 => rfl))
  | (refine Or.inr (Exists.intro ?x1 (And.intro ?x2 ?x3)); (case x2 => kbo_bools); (case x3 => rfl))
  | (refine Or.inl ?_; kbo_bools)
  | (refine Or.inr ?_; kbo_bools)
  | (refine Or.inl (And.intro rfl (Exists.intro ?x1 ?x2)); (case x2 => kbo_bools))
  | (refine Exists.intro ?x1 ?x2; (case x2 => kbo_bools))
  | (refine Evl.sz_of ?_; (try simp only [List.length_map, List.length_take, List.length_append, List.length_cons, List.length_nil, List.length_drop]); omega)
  | (refine Evl.sz_lt ?_; (try simp only [List.length_map, List.length_take, List.length_append, List.length_cons, List.length_nil, List.length_drop]); omega)
  | (refine And.intro ?x1 ?x2; (case x2 => rfl); (case x1 => first | assumption | (refine Evl.sz_of ?_; omega)))
  | (refine And.intro ?x1 ?x2; (case x1 => rfl); (case x2 => rfl)))
local macro_rules | `(tactic| kba_ints) => `(tactic| (
  (fail_if_success (refine Exists.intro (fun (_ _ : Nat) (_ : L2.St) (_ : Hp) => True) ?_));
  (fail_if_success (refine Exists.intro (fun (_ _ : Nat) (_ : Hp) => True) ?_));
  (fail_if_success (refine Exists.intro (fun (_ : Nat) (_ : L2.St) (_ : Hp) => True) ?_));
  (fail_if_success (refine Exists.intro (fun (_ : L2.St) (_ : Hp) => True) ?_));
  (first
  | (refine And.intro ?c1 ?c2; (case c1 => got_up))
  | (refine Or.inl (And.intro ?c1 ?c2); (case c1 => kbo_bools))
  | (refine Or.inr (And.intro ?c1 ?c2); (case c1 => kbo_bools))
  | (refine Exists.intro ?w1 ?w2; rotate_left)
  | intro _
  | (refine iteT ?_)
  | (refine iteF ?_))))
local macro_rules | `(tactic| walk_at "go") => `(tactic| (repeat kba_ints))
section
variable {P : Program} {w : World} {K : PySem.W.Frag} {mg : Str → Option Value} {base : Heap}
/-! ### _law_draw: some number from 0 on and below the second argument; the hand goes on -/
@[irreducible] def spDraw (K : PySem.W.Frag) : Sp := fun vs H Q _ => ∃ (Hs : Hp) (h c : Addr) (ns : List Int) (n : Nat) (m : Int), vs = [.ref h, .int m] ∧ Hand Hs H h c ns n ∧ n < 100000000000 ∧ 0 < m ∧ m < 1073741824 ∧
  ∀ (H' : Hp) (r : Int), 0 ≤ r → r < m → Hand Hs H' h c ns (n + 1) → Q (.int r) H'
theorem use_draw {K : PySem.W.Frag} {Hs H : Hp} {h c : Addr} {ns : List Int} {n : Nat} {m : Int} {Q : VK} {E : XK} (d : Hand Hs H h c ns n) (hn : n < 100000000000) (m0 : 0 < m) (m1 : m < 1073741824)
    (k : ∀ (r : Int) (H' : Hp), 0 ≤ r → r < m → Hand Hs H' h c ns (n + 1) → Q (.int r) H') : spDraw K [.ref h, .int m] H Q E := by
  unfold spDraw
  exact ⟨Hs, h, c, ns, n, m, rfl, d, hn, m0, m1, fun H' r => k r H'⟩
theorem ok__law_draw {f : Addr} {fd : FuncData} (T : Txt w K mg) (F : FnP K "_law_draw" "_law_draw" s__law_draw f fd) : FnOk P w K mg base CX0 1 f fd ["_law_hand_here", "_law_many"] (spDraw K) := by
  refine F.ok sc__law_draw (fun vs H Q E h => ?_) (fun cdv A outer s H vs Q E hr h => ?_)
  · unfold spDraw at h
    obtain ⟨Hs, h, c, ns, n, m, rfl, _⟩ := h
    rfl
  · unfold spDraw at h
    obtain ⟨Hs, h, c, ns, n, m, rfl, d, hn, m0, m1, k⟩ := h
    obtain ⟨fold, idx, rest, cnt, hh, f0, f1, i0, r0, c0, c1⟩ := d.it
    have hc := d.ex _ _ d.cl
    have nch := d.ne
    have fin : ∀ (idx2 rest2 r : Int), 0 ≤ r → r < m → 0 ≤ idx2 → 0 ≤ rest2 → Q (V.int r) (upd H h (.lst [.ref c, .int fold, .int idx2, .int rest2, .int (cnt + 1)])) := fun idx2 rest2 r a b i2 r2 =>
      k _ r a b ⟨d.fr, Evl.Ex.mut d.ex d.fr, d.cl, fold, idx2, rest2, cnt + 1, upd_same, f0, f1, i2, r2, by omega, by omega⟩
    refine ⟨_, (PSs.nox (pss_cons (ps_augS (pv 0) pe_int HB.pget_list pe_int ip_add set_list)
      (pss_cons (ps_set (i := 2) sc__law_draw.nd rfl (Or.inl rfl) (pe_ix ix_list (pv 0) pe_int (fun _ _ => rfl)))
      (pss_cons (ps_set (i := 3) sc__law_draw.nd rfl (Or.inl rfl) (pe_ix ix_list (pv 0) pe_int (fun _ _ => rfl)))
      (pss_cons (ps_if (pt_cmpR op_gt (pv 2) pe_int (nomark _))
      (pss_cons (ps_asg (pe_op op_fdivN (pv 2) (pv 1)) (pg_sub (pv 0) pe_int set_list))
      (pss_one (ps_ret (pe_op op_mod (pv 2) (pv 1)))))
      pss_nil)
      (pss_cons (ps_if (pt_cmpR op_lt (pe_ix ix_list (pv 0) pe_int (fun _ _ => rfl)) (pe_callB call_len (by rfl) T.z_len (by decide +kernel) (pa_cons (pe_ix ix_list (pv 0) pe_int (fun _ _ => rfl)) pa_nil)) (nomark _))
      (pss_cons (ps_set (i := 3) sc__law_draw.nd rfl (Or.inl rfl) (pe_ix ix_list (pe_ix ix_list (pv 0) pe_int (fun _ _ => rfl)) (pe_ix ix_list (pv 0) pe_int (fun _ _ => rfl)) (fun _ _ => rfl)))
      (pss_cons (ps_augS (pv 0) pe_int HB.pget_list pe_int ip_add set_list)
      (pss_one (ps_if (pt_cmpR op_ge (pv 3) (pe_op op_pow pe_int pe_int) (nomark _))
      (pss_cons (ps_asg (pe_op op_fdivN (pv 3) (pv 1)) (pg_sub (pv 0) pe_int set_list))
      (pss_one (ps_ret (pe_op op_mod (pv 3) (pv 1)))))
      pss_nil))))
      pss_nil)
      (pss_cons (ps_set (i := 4) sc__law_draw.nd rfl (Or.inl rfl) (pe_op op_mod (pe_op op_pow (pe_op op_add (pe_op op_mod (pv 3) pe_int) (pe_op op_mul pe_int (pe_ix ix_list (pv 0) pe_int (fun _ _ => rfl)))) pe_int) pe_int))
      (pss_cons (ps_set (i := 5) sc__law_draw.nd rfl (Or.inl rfl) (pe_op op_mod (pe_op op_pow (pe_op op_add (pe_op op_add (pv 4) (pe_op op_mul pe_int (pe_ix ix_list (pv 0) pe_int (fun _ _ => rfl)))) (pe_ix ix_list (pv 0) pe_int (fun _ _ => rfl))) pe_int) pe_int))
      (pss_one (ps_ret (pe_op op_mod (pe_op op_fdivN (pv 5) pe_int) (pv 1)))))))))))), ?_⟩
    walk_at "go"
    refine iteD (fun q => ?_) (fun q => ?_)
    · walk_at "go"
      show Q (V.int (rest % m)) _
      have e := fin idx (rest.fdiv m) (rest % m) (Int.emod_nonneg _ (by omega)) (Int.emod_lt_of_pos _ m0) i0 (Int.fdiv_nonneg (by omega) (by omega))
      rw [upd_upd]
      exact e
    · walk_at "go"
      refine iteD (fun q2 => ?_) (fun q2 => ?_)
      · obtain ⟨z, hz⟩ := atI_ints i0 q2
        walk_at "go"
        refine iteD (fun q3 => ?_) (fun q3 => ?_)
        · have z0 : (0 : Int) < z := Int.lt_of_lt_of_le (by decide) q3
          walk_at "go"
          show Q (V.int (z % m)) _
          have e := fin (idx + 1) (z.fdiv m) (z % m) (Int.emod_nonneg _ (by omega)) (Int.emod_lt_of_pos _ m0) (by omega) (Int.fdiv_nonneg (by omega) (by omega))
          simp only [upd_upd]
          exact e
        · walk_at "go"
          simp only [upd_upd]
          exact fin (idx + 1) rest _ (Int.emod_nonneg _ (by omega)) (Int.emod_lt_of_pos _ m0) (by omega) r0
      · walk_at "go"
        exact fin idx rest _ (Int.emod_nonneg _ (by omega)) (Int.emod_lt_of_pos _ m0) i0 r0
/-! ### _law_hand -/
@[irreducible] def spHand (K : PySem.W.Frag) : Sp := fun vs H Q _ => ∃ (a : Addr) (ns : List Int), vs = [.ref a] ∧ SqL K H a (ns.map V.int) ∧ ns.length ≤ 63 ∧
  ∀ (H' : Hp) (h c : Addr) (ns' : List Int), Hand (upd H c (.lst (ns'.map V.int))) H' h c ns' 0 → Evl.Ex H (upd H c (.lst (ns'.map V.int))) → Q (.ref h) H'
theorem ok__law_hand {f : Addr} {fd : FuncData} (T : Txt w K mg) (F : FnP K "_law_hand" "_law_hand" s__law_hand f fd) : FnOk P w K mg base CX0 1 f fd ["_law_script"] (spHand K) := by
  refine F.ok sc__law_hand (fun vs H Q E h => ?_) (fun cdv A outer s H vs Q E hr h => ?_)
  · unfold spHand at h
    obtain ⟨a, ns, rfl, _⟩ := h
    rfl
  · unfold spHand at h
    obtain ⟨a, ns, rfl, hS, hl, k⟩ := h
    refine ⟨_, (PSs.nox (pss_cons (ps_set (i := 1) sc__law_hand.nd rfl (Or.inl rfl) (pe_callTy call_list_of (by rfl) T.z_list (by decide +kernel) (pa_cons (pe_slice sl_list (pv 0) po_none (po_some pe_int)) pa_nil)))
      (pss_cons (ps_set (i := 2) sc__law_hand.nd rfl (Or.inl rfl) (pe_callB call_len (by rfl) T.z_len (by decide +kernel) (pa_cons (pv 1) pa_nil)))
      (pss_cons (ps_for PassesOwn.never rfl (pi_list (pv 1)) (pg_name (i := 3) sc__law_hand.nd rfl (Or.inl rfl))
      (pss_one (ps_set (i := 2) sc__law_hand.nd rfl (Or.inl rfl) (pe_op op_mod (pe_op op_add (pe_op op_add (pe_op op_mul (pv 2) pe_int) (pe_op op_mod (pv 3) pe_int)) pe_int) pe_int))))
      (pss_one (ps_ret (pe_lst (pa_cons (pv 1) (pa_cons (pv 2) (pa_cons pe_int (pa_cons pe_int (pa_cons pe_int pa_nil)))))))))))), ?_⟩
    walk_at "go"
    rename_i p hp l hl2
    have ep : cutV (ns.map V.int) none (some 63) = (ns.take 63).map V.int := cutV_ints ns 63
    refine for_list (K := K) (a := l) (xs := (ns.take 63).map V.int) (fun i σ H' => ∃ (f : Int) (v : Option V), σ = [some (.ref a), some (.ref l), some (.int f), v] ∧ 0 ≤ f ∧ f < 2147483648 ∧ H' = upd (upd H p (.lst ((ns.take 63).map V.int))) l (.lst ((ns.take 63).map V.int))) ?_ ?_ ?_ ?_
    · refine ⟨_, none, rfl, by omega, ?_, by rw [ep]⟩
      rw [ep, List.length_map, List.length_take]
      omega
    · rintro i σ H' _ ⟨f, v, rfl, f0, f1, rfl⟩
      kbo_bools
    · rintro i y σ H' hy ⟨f, v, rfl, f0, f1, rfl⟩
      obtain ⟨z, rfl⟩ : ∃ z, y = V.int z := by
        rw [List.getElem?_map] at hy
        cases e : (ns.take 63)[i]? with
        | none => rw [e] at hy; cases hy
        | some z => rw [e] at hy; exact ⟨z, (Option.some.inj hy).symm⟩
      walk_at "go"
      rfl
    · rintro σ H' ⟨f, v, rfl, f0, f1, rfl⟩
      walk_at "go"
      rename_i h hh
      have hhp : h ≠ l := fun e => by rw [e, upd_same] at hh; cases hh
      have hhq : H h = none := by
        rw [upd_ne hhp] at hh
        by_cases e : h = p
        · rw [e, upd_same] at hh; cases hh
        · rw [upd_ne e] at hh; exact hh
      have hl1 : H l = none := by
        by_cases e : l = p
        · rw [e, upd_same] at hl2; cases hl2
        · rw [upd_ne e] at hl2; exact hl2
      refine k _ h l (ns.take 63) ⟨by rw [upd_ne hhp]; exact hhq, ?_, upd_same, f, 0, 0, 0, upd_same, f0, f1, by decide, by decide, by decide, by decide⟩ (Evl.Ex.new hl1)
      refine Evl.Ex.trans ?_ (Evl.Ex.new hh)
      exact Ex.upd2 (Evl.Ex.new hp)
end

end HB
namespace HB
open PySem PySem.Spec PyProof.Rows L2 Evl
local macro_rules | `(tactic| k_memK) => `(tactic| first
  | assumption
  | (refine Ne.symm ?_; assumption)
  | (refine @ne_of_none ?nh _ _ ?no ?n1 ?n2; (case n2 => assumption); (case n1 => kct_strs))
  | (refine Ne.symm (@ne_of_none ?nh _ _ ?no ?n1 ?n2); (case n2 => assumption); (case n1 => kct_strs)))
local macro_rules | `(tactic| kct_strs) => `(tactic| first
  | assumption
  | exact upd_same
  | (refine Eq.trans (upd_ne ?l1) ?l2; (case l1 => k_memK); (case l2 => kct_strs))
  | (refine (by assumption : Evl.Ex _ _) _ _ ?_; kct_strs))
local macro_rules | `(tactic| kbo_bools) => `(tactic| first
  | assumption
  | (refine SqL.of ?_; kct_strs)
  | (refine SqT.of ?_; kct_strs)
  | (refine Evl.ex_l (by assumption) ?_; assumption)
  | (refine Evl.ex_t (by assumption) ?_; assumption)
  | (refine Evl.ex_l (Evl.Ex.new ?e1) ?e2; (case e1 => assumption); (case e2 => kbo_bools))
  | (refine Evl.ex_t (Evl.Ex.new ?e1) ?e2; (case e1 => assumption); (case e2 => kbo_bools))
  | exact Txt.t_BOXES (by assumption) _
  )
local macro_rules | `(tactic| kd_p1) => `(tactic| first
  | exact ClsV.ty _
  | exact ClsV.own _
  | (refine TyX.base ?t1; first | exact TyOf.int _ | exact TyOf.str _ | exact TyOf.bl _ | exact TyOf.non | exact TyOf.flt _ | (refine @TyOf.lst _ _ _ ?t3 ?t2; (case t2 => kct_strs)) | (refine @TyOf.tup _ _ _ ?t3 ?t2; (case t2 => kct_strs)) | (refine @TyOf.dK _ _ _ ?t3 ?t2; (case t2 => kct_strs)))
  | exact kit_NoneType_bool | exact kit_NoneType_int | exact kit_NoneType_list | exact kit_NoneType_str | exact kit_NoneType_tuple | exact kit_bool_bool | exact kit_bool_int | exact kit_bool_list | exact kit_bool_str | exact kit_bool_tuple | exact kit_dict_bool | exact kit_dict_int | exact kit_dict_list | exact kit_dict_str | exact kit_dict_tuple | exact kit_float_bool | exact kit_float_int | exact kit_float_list | exact kit_float_str | exact kit_float_tuple | exact kit_int_bool | exact kit_int_int | exact kit_int_list | exact kit_int_str | exact kit_int_tuple | exact kit_list_bool | exact kit_list_int | exact kit_list_list | exact kit_list_str | exact kit_list_tuple | exact kit_str_bool | exact kit_str_int | exact kit_str_list | exact kit_str_str | exact kit_str_tuple | exact kit_tuple_bool | exact kit_tuple_int | exact kit_tuple_list | exact kit_tuple_str | exact kit_tuple_tuple)
local macro_rules | `(tactic| got_up) => `(tactic| first
  | ((with_reducible show (_ : Int) < _); omega)
  | ((with_reducible show (_ : Int) ≤ _); omega)
  | ((with_reducible show (_ : Nat) < _); omega)
  | ((with_reducible show (_ : Nat) ≤ _); omega)
  | exact rfl
  | assumption
  | omega
  | kbo_bools
  | kct_strs
  | exact Nat.le_of_ble_eq_true rfl
  | exact Evl.sz_of (Nat.le_of_ble_eq_true rfl)
  | exact Evl.sz_lt (Nat.le_of_ble_eq_true rfl)
  | kd_p1
  | exact ⟨_, rfl⟩
  | decide
  | (dsimp only; omega)
  | (dsimp only; decide)
  | (simp only [List.length_map, List.length_take, List.length_append, List.length_cons, List.length_nil, List.length_drop]; omega)
  | (refine ⟨?_, ?_⟩ <;> (dsimp only; omega))
  | (refine ⟨?_, ?_⟩ <;> omega)
  | (refine ⟨?_, ?_, ?_⟩ <;> omega)
  | (refine ⟨?_, ?_, ?_, ?_⟩ <;> omega)
  | (show CPow _ _; refine ⟨?_, ?_, ?_⟩ <;> first | omega | decide | (dsimp only; omega))
  | (show CDivN _ _; refine ⟨?_, ?_⟩ <;> first | omega | decide | (dsimp only; omega))
  | (show CMul _ _; refine Or.inl ?_; refine ⟨?_, ?_⟩ <;> first | omega | decide | (dsimp only; omega))
  | (show CMul _ _; refine Or.inr ?_; refine ⟨?_, ?_⟩ <;> first | omega | decide | (dsimp only; omega))
  | (refine Or.inl (Exists.intro ?x1 (And.intro ?x2 ?x3)); (case x2 => kbo_bools); (case x3 => rfl))
  | (refine Or.inr (Exists.intro ?x1 (And.intro ?x2 ?x3)); (case x2 => kbo_bools); (case x3 => rfl))
  | (refine Or.inl ?_; kbo_bools)
  | (refine Or.inr ?_; kbo_bools)
  | (refine Or.inl (And.intro rfl (Exists.intro ?x1 ?x2)); (case x2 => kbo_bools))
  | (refine Exists.intro ?x1 ?x2; (case x2 => kbo_bools))
  | (refine Evl.sz_of ?_; (try simp only [List.length_map, List.length_take, List.length_append, List.length_cons, List.length_nil, List.length_drop]); omega)
  | (refine Evl.sz_lt ?_; (try simp only [List.length_map, List.length_take, List.length_append, List.length_cons, List.length_nil, List.length_drop]); omega)
  | (refine And.intro ?x1 ?x2; (case x2 => rfl); (case x1 => first | assumption | (refine Evl.sz_of ?_; omega)))
  | (refine And.intro ?x1 ?x2; (case x1 => rfl); (case x2 => rfl)))
local macro_rules | `(tactic| kba_ints) => `(tactic| (
  (fail_if_success (refine Exists.intro (fun (_ _ : Nat) (_ : L2.St) (_ : Hp) => True) ?_));
  (fail_if_success (refine Exists.intro (fun (_ _ : Nat) (_ : Hp) => True) ?_));
  (fail_if_success (refine Exists.intro (fun (_ : Nat) (_ : L2.St) (_ : Hp) => True) ?_));
  (fail_if_success (refine Exists.intro (fun (_ : L2.St) (_ : Hp) => True) ?_));
  (first
  | (refine And.intro ?c1 ?c2; (case c1 => got_up))
  | (refine Or.inl (And.intro ?c1 ?c2); (case c1 => kbo_bools))
  | (refine Or.inr (And.intro ?c1 ?c2); (case c1 => kbo_bools))
  | (refine Exists.intro ?w1 ?w2; rotate_left)
  | intro _
  | (refine iteT ?_)
  | (refine iteF ?_))))
local macro_rules | `(tactic| walk_at "go") => `(tactic| (repeat kba_ints))
section
variable {P : Program} {w : World} {K : PySem.W.Frag} {mg : Str → Option Value} {base : Heap}
/-! ### is_whole, is_content -/
@[irreducible] def spIsWhole (K : PySem.W.Frag) : Sp := fun vs H Q _ => ∃ (x : V) (t : Value) (b1 b2 : Bool), vs = [x] ∧ TyX K H x t ∧ PySem.W.kitOne K t (.type "int") = some b1 ∧ PySem.W.kitOne K t (.type "bool") = some b2 ∧ Q (.bl (b1 && !b2)) H
theorem use_isWhole_int {K : PySem.W.Frag} {H : Hp} {i : Int} {Q : VK} {E : XK} (k : Q (.bl true) H) : spIsWhole K [.int i] H Q E := by
  unfold spIsWhole
  exact ⟨_, _, true, false, rfl, TyX.base (.int i), kit_int_int, kit_int_bool, k⟩
theorem ok_is_whole {f : Addr} {fd : FuncData} (T : Txt w K mg) (F : FnP K "is_whole" "is_whole" s_is_whole f fd) : FnOk P w K mg base CX0 1 f fd ["thing"] (spIsWhole K) := by
  refine F.ok sc_is_whole (fun vs H Q E h => ?_) (fun cdv A outer s H vs Q E hr h => ?_)
  · unfold spIsWhole at h
    obtain ⟨x, t, b1, b2, rfl, _⟩ := h
    rfl
  · unfold spIsWhole at h
    obtain ⟨x, t, b1, b2, rfl, ty, k1, k2, k⟩ := h
    refine ⟨_, (PSs.nox (pss_one (ps_ret (pe_and (pe_callB call_isi (by rfl) T.z_isinstance (by decide +kernel) (pa_cons (pv 0) (pa_cons (pe_bltn (v := .ty "int") (u := .type "int") (by rfl) T.z_int (by decide +kernel) rfl) pa_nil))) (pe_one (pe_not (pe_callB call_isi (by rfl) T.z_isinstance (by decide +kernel) (pa_cons (pv 0) (pa_cons (pe_bltn (v := .ty "bool") (u := .type "bool") (by rfl) T.z_bool (by decide +kernel) rfl) pa_nil))))))))), ?_⟩
    refine ⟨_, rfl, _, _, _, _, _, rfl, .ty _, ty, k1, _, rfl, iteB (fun q => ?_) (fun q => ?_)⟩
    · subst q
      exact ⟨_, rfl, _, _, _, _, _, rfl, .ty _, ty, k2, _, rfl, k⟩
    · subst q
      exact k
@[irreducible] def spIsContentI : Sp := fun vs H Q _ => ∃ i : Int, vs = [.int i] ∧ Q (.bl (decide (0 ≤ i ∧ i ≤ 1000000000))) H
theorem use_isContentI {H : Hp} {i : Int} {Q : VK} {E : XK} (k : Q (.bl (decide (0 ≤ i ∧ i ≤ 1000000000))) H) : spIsContentI [.int i] H Q E := by
  unfold spIsContentI
  exact ⟨i, rfl, k⟩
theorem ok_is_content {f : Addr} {fd : FuncData} (T : Txt w K mg) (F : FnP K "is_content" "is_content" s_is_content f fd) : FnOk P w K mg base CX0 2 f fd ["thing"] spIsContentI := by
  refine F.ok sc_is_content (fun vs H Q E h => ?_) (fun cdv A outer s H vs Q E hr h => ?_)
  · unfold spIsContentI at h
    obtain ⟨x, rfl, _⟩ := h
    rfl
  · unfold spIsContentI at h
    obtain ⟨i, rfl, k⟩ := h
    refine ⟨_, (PSs.nox (pss_one (ps_ret (pe_and (pe_call (ok_is_whole T T.F_is_whole) (hr.mono (by decide)) rfl T.g_is_whole T.F_is_whole.kp (bd_is_whole T.F_is_whole) .nil pass0 (pa_cons (pv 0) pa_nil)) (pe_one (pe_chain op_le op_le pe_int (pv 0) (pe_glob (v := .int 1000000000) rfl (Classical.choose_spec T.g_MOST_CONTENT) ⟨_, rfl⟩))))))), ?_⟩
    walk_at "go"
    refine use_isWhole_int ?_
    walk_at "go"
    refine iteD (fun q => ?_) (fun q => ?_)
    · walk_at "go"
      exact bl_eq k (by simp only [q, true_and])
    · walk_at "go"
      exact bl_eq k (by simp only [q, false_and, decide_false])
/-! ### fits, of whole numbers -/
@[irreducible] def spFitsI : Sp := fun vs H Q _ => ∃ (b : Str) (i : Int), vs = [.str b, .int i] ∧ ∀ H', Ex H H' → Q (.bl (fitsI b i)) H'
theorem use_fitsI {H : Hp} {b : Str} {i : Int} {Q : VK} {E : XK} (k : ∀ H', Ex H H' → Q (.bl (fitsI b i)) H') : spFitsI [.str b, .int i] H Q E := by
  unfold spFitsI
  exact ⟨b, i, rfl, k⟩
theorem ok_fits {f : Addr} {fd : FuncData} (T : Txt w K mg) (F : FnP K "fits" "fits" s_fits f fd) : FnOk P w K mg base CX0 3 f fd ["box", "thing"] spFitsI := by
  refine F.ok sc_fits (fun vs H Q E h => ?_) (fun cdv A outer s H vs Q E hr h => ?_)
  · unfold spFitsI at h
    obtain ⟨b, i, rfl, _⟩ := h
    rfl
  · unfold spFitsI at h
    obtain ⟨b, i, rfl, k⟩ := h
    refine ⟨_, (PSs.nox (pss_cons (ps_if (pt_not (pt_val (pe_call (ok_is_whole T T.F_is_whole) (hr.mono (by decide)) rfl T.g_is_whole T.F_is_whole.kp (bd_is_whole T.F_is_whole) .nil pass0 (pa_cons (pv 1) pa_nil))))
      (pss_one (ps_ret pe_bl))
      pss_nil)
      (pss_cons (ps_if (pt_cmpR op_eq (pv 0) pe_str (nomark _))
      (pss_one (ps_ret (pe_cmpR op_in_seq (pv 1) (pe_tup (pa_cons pe_int (pa_cons (pe_un un_neg pe_int) pa_nil))) (by rfl))))
      pss_nil)
      (pss_cons (ps_if (pt_cmpR op_eq (pv 0) pe_str (nomark _))
      (pss_one (ps_ret (pe_cmpR op_in_seq (pv 1) (pe_tup (pa_cons pe_int (pa_cons pe_int pa_nil))) (by rfl))))
      pss_nil)
      (pss_cons (ps_if (pt_cmpR op_eq (pv 0) pe_str (nomark _))
      (pss_one (ps_ret (pe_call (ok_is_content T T.F_is_content) (hr.mono (by decide)) rfl T.g_is_content T.F_is_content.kp (bd_is_content T.F_is_content) .nil pass0 (pa_cons (pv 1) pa_nil))))
      pss_nil)
      (pss_cons (ps_if (pt_cmpR op_eq (pv 0) pe_str (nomark _))
      (pss_one (ps_ret (pe_chain op_le op_le pe_int (pv 1) (pe_glob (v := .int 1000000000) rfl (Classical.choose_spec T.g_MOST_HELD) ⟨_, rfl⟩))))
      pss_nil)
      (pss_one (ps_ret (pe_cmpR op_le (pe_callB call_abs (by rfl) T.z_abs (by decide +kernel) (pa_cons (pv 1) pa_nil)) (pe_glob (v := .int 1000000000) rfl (Classical.choose_spec T.g_MOST_HELD) ⟨_, rfl⟩) (nomark _)))))))))), ?_⟩
    walk_at "go"
    refine use_isWhole_int ?_
    walk_at "go"
    refine iteD (fun q => ?_) (fun q => ?_)
    · obtain rfl := V.str.inj q
      walk_at "go"
      rename_i p hp
      exact bl_eq (k _ (Ex.new hp)) inV2.symm
    · have q1 : ¬ b = "way" := fun e => q (congrArg V.str e)
      walk_at "go"
      refine iteD (fun q => ?_) (fun q => ?_)
      · obtain rfl := V.str.inj q
        walk_at "go"
        rename_i p hp
        exact bl_eq (k _ (Ex.new hp)) (by rw [fitsI, if_neg q1]; exact inV2.symm)
      · have q2 : ¬ b = "met" := fun e => q (congrArg V.str e)
        walk_at "go"
        refine iteD (fun q => ?_) (fun q => ?_)
        · obtain rfl := V.str.inj q
          walk_at "go"
          refine use_isContentI ?_
          exact bl_eq (k _ (Ex.refl _)) (by rw [fitsI, if_neg q1, if_neg q2]; rfl)
        · have q3 : ¬ b = "sign" := fun e => q (congrArg V.str e)
          walk_at "go"
          refine iteD (fun q => ?_) (fun q => ?_)
          · obtain rfl := V.str.inj q
            walk_at "go"
            refine iteD (fun z => ?_) (fun z => ?_)
            · walk_at "go"
              exact bl_eq (k _ (Ex.refl _)) (by rw [fitsI, if_neg q1, if_neg q2, if_neg q3, if_pos rfl]; simp only [z, true_and])
            · walk_at "go"
              exact bl_eq (k _ (Ex.refl _)) (by rw [fitsI, if_neg q1, if_neg q2, if_neg q3, if_pos rfl]; simp only [z, false_and, decide_false])
          · have q4 : ¬ b = "left" := fun e => q (congrArg V.str e)
            walk_at "go"
            refine bl_eq (k _ (Ex.refl _)) ?_
            rw [fitsI, if_neg q1, if_neg q2, if_neg q3, if_neg q4]
            refine decide_eq_decide.mpr ?_
            split <;> omega
end

end HB
namespace HB
open PySem PySem.Spec PyProof.Rows L2 Evl
local macro_rules | `(tactic| k_memK) => `(tactic| first
  | assumption
  | (refine Ne.symm ?_; assumption)
  | (refine @ne_of_none ?nh _ _ ?no ?n1 ?n2; (case n2 => assumption); (case n1 => kct_strs))
  | (refine Ne.symm (@ne_of_none ?nh _ _ ?no ?n1 ?n2); (case n2 => assumption); (case n1 => kct_strs)))
local macro_rules | `(tactic| kct_strs) => `(tactic| first
  | assumption
  | exact upd_same
  | (refine Eq.trans (upd_ne ?l1) ?l2; (case l1 => k_memK); (case l2 => kct_strs))
  | (refine (by assumption : Evl.Ex _ _) _ _ ?_; kct_strs))
local macro_rules | `(tactic| kbo_bools) => `(tactic| first
  | assumption
  | (refine SqL.of ?_; kct_strs)
  | (refine SqT.of ?_; kct_strs)
  | (refine Evl.ex_l (by assumption) ?_; assumption)
  | (refine Evl.ex_t (by assumption) ?_; assumption)
  | (refine Evl.ex_l (Evl.Ex.new ?e1) ?e2; (case e1 => assumption); (case e2 => kbo_bools))
  | (refine Evl.ex_t (Evl.Ex.new ?e1) ?e2; (case e1 => assumption); (case e2 => kbo_bools))
  | exact Txt.t_BOXES (by assumption) _
  )
local macro_rules | `(tactic| kd_p1) => `(tactic| first
  | exact ClsV.ty _
  | exact ClsV.own _
  | (refine TyX.base ?t1; first | exact TyOf.int _ | exact TyOf.str _ | exact TyOf.bl _ | exact TyOf.non | exact TyOf.flt _ | (refine @TyOf.lst _ _ _ ?t3 ?t2; (case t2 => kct_strs)) | (refine @TyOf.tup _ _ _ ?t3 ?t2; (case t2 => kct_strs)) | (refine @TyOf.dK _ _ _ ?t3 ?t2; (case t2 => kct_strs)))
  | exact kit_NoneType_bool | exact kit_NoneType_int | exact kit_NoneType_list | exact kit_NoneType_str | exact kit_NoneType_tuple | exact kit_bool_bool | exact kit_bool_int | exact kit_bool_list | exact kit_bool_str | exact kit_bool_tuple | exact kit_dict_bool | exact kit_dict_int | exact kit_dict_list | exact kit_dict_str | exact kit_dict_tuple | exact kit_float_bool | exact kit_float_int | exact kit_float_list | exact kit_float_str | exact kit_float_tuple | exact kit_int_bool | exact kit_int_int | exact kit_int_list | exact kit_int_str | exact kit_int_tuple | exact kit_list_bool | exact kit_list_int | exact kit_list_list | exact kit_list_str | exact kit_list_tuple | exact kit_str_bool | exact kit_str_int | exact kit_str_list | exact kit_str_str | exact kit_str_tuple | exact kit_tuple_bool | exact kit_tuple_int | exact kit_tuple_list | exact kit_tuple_str | exact kit_tuple_tuple)
local macro_rules | `(tactic| got_up) => `(tactic| first
  | ((with_reducible show (_ : Int) < _); omega)
  | ((with_reducible show (_ : Int) ≤ _); omega)
  | ((with_reducible show (_ : Nat) < _); omega)
  | ((with_reducible show (_ : Nat) ≤ _); omega)
  | exact rfl
  | assumption
  | omega
  | kbo_bools
  | kct_strs
  | exact Nat.le_of_ble_eq_true rfl
  | exact Evl.sz_of (Nat.le_of_ble_eq_true rfl)
  | exact Evl.sz_lt (Nat.le_of_ble_eq_true rfl)
  | kd_p1
  | exact ⟨_, rfl⟩
  | decide
  | (dsimp only; omega)
  | (dsimp only; decide)
  | (simp only [List.length_map, List.length_take, List.length_append, List.length_cons, List.length_nil, List.length_drop]; omega)
  | (refine ⟨?_, ?_⟩ <;> (dsimp only; omega))
  | (refine ⟨?_, ?_⟩ <;> omega)
  | (refine ⟨?_, ?_, ?_⟩ <;> omega)
  | (refine ⟨?_, ?_, ?_, ?_⟩ <;> omega)
  | (show CPow _ _; refine ⟨?_, ?_, ?_⟩ <;> first | omega | decide | (dsimp only; omega))
  | (show CDivN _ _; refine ⟨?_, ?_⟩ <;> first | omega | decide | (dsimp only; omega))
  | (show CMul _ _; refine Or.inl ?_; refine ⟨?_, ?_⟩ <;> first | omega | decide | (dsimp only; omega))
  | (show CMul _ _; refine Or.inr ?_; refine ⟨?_, ?_⟩ <;> first | omega | decide | (dsimp only; omega))
  | (refine Or.inl (Exists.intro ?x1 (And.intro ?x2 ?x3)); (case x2 => kbo_bools); (case x3 => rfl))
  | (refine Or.inr (Exists.intro ?x1 (And.intro ?x2 ?x3)); (case x2 => kbo_bools); (case x3 => rfl))
  | (refine Or.inl ?_; kbo_bools)
  | (refine Or.inr ?_; kbo_bools)
  | (refine Or.inl (And.intro rfl (Exists.intro ?x1 ?x2)); (case x2 => kbo_bools))
  | (refine Exists.intro ?x1 ?x2; (case x2 => kbo_bools))
  | (refine Evl.sz_of ?_; (try simp only [List.length_map, List.length_take, List.length_append, List.length_cons, List.length_nil, List.length_drop]); omega)
  | (refine Evl.sz_lt ?_; (try simp only [List.length_map, List.length_take, List.length_append, List.length_cons, List.length_nil, List.length_drop]); omega)
  | (refine And.intro ?x1 ?x2; (case x2 => rfl); (case x1 => first | assumption | (refine Evl.sz_of ?_; omega)))
  | (refine And.intro ?x1 ?x2; (case x1 => rfl); (case x2 => rfl)))
local macro_rules | `(tactic| kba_ints) => `(tactic| (
  (fail_if_success (refine Exists.intro (fun (_ _ : Nat) (_ : L2.St) (_ : Hp) => True) ?_));
  (fail_if_success (refine Exists.intro (fun (_ _ : Nat) (_ : Hp) => True) ?_));
  (fail_if_success (refine Exists.intro (fun (_ : Nat) (_ : L2.St) (_ : Hp) => True) ?_));
  (fail_if_success (refine Exists.intro (fun (_ : L2.St) (_ : Hp) => True) ?_));
  (first
  | (refine And.intro ?c1 ?c2; (case c1 => got_up))
  | (refine Or.inl (And.intro ?c1 ?c2); (case c1 => kbo_bools))
  | (refine Or.inr (And.intro ?c1 ?c2); (case c1 => kbo_bools))
  | (refine Exists.intro ?w1 ?w2; rotate_left)
  | intro _
  | (refine iteT ?_)
  | (refine iteF ?_))))
local macro_rules | `(tactic| walk_at "go") => `(tactic| (repeat kba_ints))
section
variable {P : Program} {w : World} {K : PySem.W.Frag} {mg : Str → Option Value} {base : Heap}
@[irreducible] def spReadNumber : Sp := fun vs H Q _ => ∃ x : Str, vs = [.str x] ∧ x.length ≤ 100000 ∧ ∀ H', Ex H H' → Q (optI (readNum x)) H'
theorem use_readNumber {H : Hp} {x : Str} {Q : VK} {E : XK} (hx : x.length ≤ 100000) (k : ∀ H', Ex H H' → Q (optI (readNum x)) H') : spReadNumber [.str x] H Q E := by
  unfold spReadNumber
  exact ⟨x, rfl, hx, k⟩
theorem ok_read_number {f : Addr} {fd : FuncData} (T : Txt w K mg) (F : FnP K "read_number" "read_number" s_read_number f fd) : FnOk P w K mg base CX0 1 f fd ["word"] spReadNumber := by
  refine F.ok sc_read_number (fun vs H Q E h => ?_) (fun cdv A outer s H vs Q E hr h => ?_)
  · unfold spReadNumber at h
    obtain ⟨x, rfl, _⟩ := h
    rfl
  · unfold spReadNumber at h
    obtain ⟨x, rfl, hx, k⟩ := h
    refine ⟨_, (PSs.nox (pss_cons (ps_set (i := 1) sc_read_number.nd rfl (Or.inl rfl) (pv 0))
      (Evl.pss_cut (ps_if (pt_cmpR op_eq (pe_slice sl_str (pv 0) po_none (po_some pe_int)) pe_str (nomark _))
      (pss_one (ps_set (i := 1) sc_read_number.nd rfl (Or.inl rfl) (pe_slice sl_str (pv 0) (po_some pe_int) po_none)))
      pss_nil)
      (Evl.pss_cut (ps_if (PW.pt (pw_or (pt_not (pt_chain op_le op_le pe_int (pe_callB call_len (by rfl) T.z_len (by decide +kernel) (pa_cons (pv 1) pa_nil)) (pe_glob (v := .int 10) rfl (Classical.choose_spec T.g_MOST_FIGURES) ⟨_, rfl⟩))) (pw_or1 (PW.pt (pw_and (pt_cmpR op_eq (pe_ix ix_str (pv 1) pe_int (fun _ _ => rfl)) pe_str (nomark _)) (pw_and1 (pt_cmpR op_ne (pv 0) pe_str (nomark _))))))))
      (pss_one (ps_ret pe_non))
      pss_nil)
      (pss_cons (ps_if (pt_not (pt_val (pe_callB (cr_all rfl) (by rfl) T.z_all (by decide +kernel) (pa_cons (pe_lc (own := [("figure", 2)]) (g := (gName 2)) (tt := tYes) rfl sc_read_number.nd (pi_str (pv 1)) (blkOk_by (own := [("figure", 2)]) (N := ["word", "figures", "figure"]) (sc := defScope s_read_number) (by decide +kernel)) (fun _ _ _ _ _ => (pg_name (i := 2) sc_read_number.nd rfl (Or.inl rfl))) (fun _ _ _ _ _ => pts_nil) (fun _ _ _ _ _ => (pe_cmpR op_in_sign (pv 2) (pe_glob (v := .str "0123456789") rfl (Classical.choose_spec T.g_FIGURES) ⟨_, rfl⟩) (by rfl)))) pa_nil))))
      (pss_one (ps_ret pe_non))
      pss_nil)
      (pss_one (ps_ret (pe_callTy call_int_str (by rfl) T.z_int (by decide +kernel) (pa_cons (pv 0) pa_nil))))))))), ?_⟩
    walk_at "go"
    refine ⟨fun σ' H' => ∃ fg : Str, σ' = [some (.str x), some (.str fg), none] ∧ H' = H ∧ TL.tl fg = figs (TL.tl x), ?_, ?_⟩
    · walk_at "go"
      refine iteD (fun q => ?_) (fun q => ?_)
      · have q2 : (TL.tl x).take 1 = [45] := by
          rw [← tl_cut1]
          exact str_eq.mp q
        walk_at "go"
        rw [tl_cut2]
        exact (if_pos q2).symm
      · have q2 : ¬ (TL.tl x).take 1 = [45] := fun z => q (str_eq.mpr (by rw [tl_cut1, z]; decide +kernel))
        walk_at "go"
        exact (if_neg q2).symm
    · rintro σ' H' ⟨fg, rfl, rfl, hf⟩
      have hfl : fg.length ≤ 100000 := by
        rw [TL.len_tl] at hx ⊢
        rw [hf, figs]
        split
        · rw [List.length_drop]; omega
        · exact hx
      have el : fg.length = (figs (TL.tl x)).length := by rw [TL.len_tl, hf]
      walk_at "go"
      refine ⟨fun σ' H'' => σ' = [some (.str x), some (.str fg), none] ∧ H'' = H' ∧ (1 ≤ (figs (TL.tl x)).length ∧ (figs (TL.tl x)).length ≤ 10) ∧ ¬ ((figs (TL.tl x)).take 1 = [48] ∧ TL.tl x ≠ [48]), ?_, ?_⟩
      · walk_at "go"
        refine iteD (fun q1 => ?_) (fun q1 => ?_)
        · walk_at "go"
          refine iteND (fun q2 => ?_) (fun q2 => ?_)
          · walk_at "go"
            refine optI_eq (k _ (Ex.refl _)) (readNum_no fun z => ?_)
            have := z.1.2
            omega
          · obtain ⟨c, r, hc⟩ : ∃ c r, TL.tl fg = c :: r := by
              cases e : TL.tl fg with
              | nil => rw [TL.len_tl, e] at q1; simp at q1
              | cons c r => exact ⟨c, r, rfl⟩
            have ha : atI fg.cps.toList 0 = some c := by
              rw [show fg.cps.toList = c :: r from hc]
              exact atI_nat (j := 0) rfl
            have ht : (figs (TL.tl x)).take 1 = [c] := by rw [← hf, hc]; rfl
            walk_at "go"
            refine iteD (fun q3 => ?_) (fun q3 => ?_)
            · have q4 : c = 48 := by
                have z := str_eq.mp q3
                rw [TL.tl_mk] at z
                exact List.head_eq_of_cons_eq (z.trans (by decide +kernel : TL.tl "0" = [48]))
              walk_at "go"
              refine iteND (fun q5 => ?_) (fun q5 => ?_)
              · walk_at "go"
                refine optI_eq (k _ (Ex.refl _)) (readNum_no fun z => z.2.1 ⟨by rw [ht, q4], fun z2 => q5 (str_eq.mpr (by rw [z2]; decide +kernel))⟩)
              · walk_at "go"
                rename_i z
                refine z.2 ?_
                rw [str_eq.mp q5]
                decide +kernel
            · walk_at "go"
              rename_i z
              refine q3 (str_eq.mpr ?_)
              rw [TL.tl_mk, ← ht, z.1]
              decide +kernel
        · walk_at "go"
          refine optI_eq (k _ (Ex.refl _)) (readNum_no fun z => ?_)
          have := z.1.1
          omega
      · rintro σ' H'' ⟨rfl, rfl, g1, g2⟩
        walk_at "go"
        rename_i D hD
        refine lc_pureS (z := fg) (((TL.tl fg).map fun c => decide (c ∈ (Str.ofString "0123456789").cps.toList)).map V.bl) hD (fun _ => rfl) (by rw [List.length_map, List.length_map]) (by rw [← TL.len_tl]; exact hfl) ?_ ?_
        · intro i c H2 y Q2 hy e hc k2
          rw [List.getElem?_map, List.getElem?_map, hc] at hy
          cases hy
          walk_at "go"
          exact k2 _ (Ex.refl _)
        · intro H2 e hl
          have e2 : Ex H'' H2 := e
          walk_at "go"
          refine iteB (fun q => ?_) (fun q => ?_)
          · walk_at "go"
            refine optI_eq (k _ e2) (readNum_no fun z => ?_)
            rw [all_map, Bool.not_eq_true', decide_eq_false_iff_not] at q
            refine q fun c hc => ?_
            rw [decide_eq_true_eq, digits_mem]
            rw [hf] at hc
            exact z.2.2 c hc
          · rw [all_map, Bool.not_eq_false', decide_eq_true_eq] at q
            have z : numOk (TL.tl x) := ⟨g1, g2, fun c hc => by
              rw [← hf] at hc
              exact digits_mem.mp (of_decide_eq_true (q c hc))⟩
            obtain ⟨n, hn⟩ := readNum_some z
            have hx2 : x.length ≤ 640 := by
              rw [TL.len_tl]
              have := g1.2
              unfold figs at this
              split at this
              · rw [List.length_drop] at this; omega
              · omega
            walk_at "go"
            exact optI_eq (b := some n) (k _ e2) ((if_pos z).trans hn)
end

end HB
namespace HB
open PySem PySem.Spec PyProof.Rows L2 Evl
local macro_rules | `(tactic| k_memK) => `(tactic| first
  | assumption
  | (refine Ne.symm ?_; assumption)
  | (refine @ne_of_none ?nh _ _ ?no ?n1 ?n2; (case n2 => assumption); (case n1 => kct_strs))
  | (refine Ne.symm (@ne_of_none ?nh _ _ ?no ?n1 ?n2); (case n2 => assumption); (case n1 => kct_strs)))
local macro_rules | `(tactic| kct_strs) => `(tactic| first
  | assumption
  | exact upd_same
  | (refine Eq.trans (upd_ne ?l1) ?l2; (case l1 => k_memK); (case l2 => kct_strs))
  | (refine (by assumption : Evl.Ex _ _) _ _ ?_; kct_strs))
local macro_rules | `(tactic| kbo_bools) => `(tactic| first
  | assumption
  | (refine SqL.of ?_; kct_strs)
  | (refine SqT.of ?_; kct_strs)
  | (refine Evl.ex_l (by assumption) ?_; assumption)
  | (refine Evl.ex_t (by assumption) ?_; assumption)
  | (refine Evl.ex_l (Evl.Ex.new ?e1) ?e2; (case e1 => assumption); (case e2 => kbo_bools))
  | (refine Evl.ex_t (Evl.Ex.new ?e1) ?e2; (case e1 => assumption); (case e2 => kbo_bools))
  | exact Txt.t_BOXES (by assumption) _
  )
local macro_rules | `(tactic| kd_p1) => `(tactic| first
  | exact ClsV.ty _
  | exact ClsV.own _
  | (refine TyX.base ?t1; first | exact TyOf.int _ | exact TyOf.str _ | exact TyOf.bl _ | exact TyOf.non | exact TyOf.flt _ | (refine @TyOf.lst _ _ _ ?t3 ?t2; (case t2 => kct_strs)) | (refine @TyOf.tup _ _ _ ?t3 ?t2; (case t2 => kct_strs)) | (refine @TyOf.dK _ _ _ ?t3 ?t2; (case t2 => kct_strs)))
  | exact kit_NoneType_bool | exact kit_NoneType_int | exact kit_NoneType_list | exact kit_NoneType_str | exact kit_NoneType_tuple | exact kit_bool_bool | exact kit_bool_int | exact kit_bool_list | exact kit_bool_str | exact kit_bool_tuple | exact kit_dict_bool | exact kit_dict_int | exact kit_dict_list | exact kit_dict_str | exact kit_dict_tuple | exact kit_float_bool | exact kit_float_int | exact kit_float_list | exact kit_float_str | exact kit_float_tuple | exact kit_int_bool | exact kit_int_int | exact kit_int_list | exact kit_int_str | exact kit_int_tuple | exact kit_list_bool | exact kit_list_int | exact kit_list_list | exact kit_list_str | exact kit_list_tuple | exact kit_str_bool | exact kit_str_int | exact kit_str_list | exact kit_str_str | exact kit_str_tuple | exact kit_tuple_bool | exact kit_tuple_int | exact kit_tuple_list | exact kit_tuple_str | exact kit_tuple_tuple)
local macro_rules | `(tactic| got_up) => `(tactic| first
  | ((with_reducible show (_ : Int) < _); omega)
  | ((with_reducible show (_ : Int) ≤ _); omega)
  | ((with_reducible show (_ : Nat) < _); omega)
  | ((with_reducible show (_ : Nat) ≤ _); omega)
  | exact rfl
  | assumption
  | omega
  | kbo_bools
  | kct_strs
  | exact Nat.le_of_ble_eq_true rfl
  | exact Evl.sz_of (Nat.le_of_ble_eq_true rfl)
  | exact Evl.sz_lt (Nat.le_of_ble_eq_true rfl)
  | kd_p1
  | exact ⟨_, rfl⟩
  | decide
  | (dsimp only; omega)
  | (dsimp only; decide)
  | (simp only [List.length_map, List.length_take, List.length_append, List.length_cons, List.length_nil, List.length_drop]; omega)
  | (refine ⟨?_, ?_⟩ <;> (dsimp only; omega))
  | (refine ⟨?_, ?_⟩ <;> omega)
  | (refine ⟨?_, ?_, ?_⟩ <;> omega)
  | (refine ⟨?_, ?_, ?_, ?_⟩ <;> omega)
  | (show CPow _ _; refine ⟨?_, ?_, ?_⟩ <;> first | omega | decide | (dsimp only; omega))
  | (show CDivN _ _; refine ⟨?_, ?_⟩ <;> first | omega | decide | (dsimp only; omega))
  | (show CMul _ _; refine Or.inl ?_; refine ⟨?_, ?_⟩ <;> first | omega | decide | (dsimp only; omega))
  | (show CMul _ _; refine Or.inr ?_; refine ⟨?_, ?_⟩ <;> first | omega | decide | (dsimp only; omega))
  | (refine Or.inl (Exists.intro ?x1 (And.intro ?x2 ?x3)); (case x2 => kbo_bools); (case x3 => rfl))
  | (refine Or.inr (Exists.intro ?x1 (And.intro ?x2 ?x3)); (case x2 => kbo_bools); (case x3 => rfl))
  | (refine Or.inl ?_; kbo_bools)
  | (refine Or.inr ?_; kbo_bools)
  | (refine Or.inl (And.intro rfl (Exists.intro ?x1 ?x2)); (case x2 => kbo_bools))
  | (refine Exists.intro ?x1 ?x2; (case x2 => kbo_bools))
  | (refine Evl.sz_of ?_; (try simp only [List.length_map, List.length_take, List.length_append, List.length_cons, List.length_nil, List.length_drop]); omega)
  | (refine Evl.sz_lt ?_; (try simp only [List.length_map, List.length_take, List.length_append, List.length_cons, List.length_nil, List.length_drop]); omega)
  | (refine And.intro ?x1 ?x2; (case x2 => rfl); (case x1 => first | assumption | (refine Evl.sz_of ?_; omega)))
  | (refine And.intro ?x1 ?x2; (case x1 => rfl); (case x2 => rfl)))
local macro_rules | `(tactic| kba_ints) => `(tactic| (
  (fail_if_success (refine Exists.intro (fun (_ _ : Nat) (_ : L2.St) (_ : Hp) => True) ?_));
  (fail_if_success (refine Exists.intro (fun (_ _ : Nat) (_ : Hp) => True) ?_));
  (fail_if_success (refine Exists.intro (fun (_ : Nat) (_ : L2.St) (_ : Hp) => True) ?_));
  (fail_if_success (refine Exists.intro (fun (_ : L2.St) (_ : Hp) => True) ?_));
  (first
  | (refine And.intro ?c1 ?c2; (case c1 => got_up))
  | (refine Or.inl (And.intro ?c1 ?c2); (case c1 => kbo_bools))
  | (refine Or.inr (And.intro ?c1 ?c2); (case c1 => kbo_bools))
  | (refine Exists.intro ?w1 ?w2; rotate_left)
  | intro _
  | (refine iteT ?_)
  | (refine iteF ?_))))
local macro_rules | `(tactic| walk_at "go") => `(tactic| (repeat kba_ints))
section
variable {P : Program} {w : World} {K : PySem.W.Frag} {mg : Str → Option Value} {base : Heap}
theorem ok_NoText_init {f : Addr} {fd : FuncData} (T : Txt w K mg) (F : FnP K "__init__" "NoText.__init__" s_NoText_init f fd) : FnOk P w K mg base CX0 1 f fd ["self", "at"] (spExc1 T.A_NoText "at") := by
  refine F.ok sc_NoText_init (fun vs H Q E h => ?_) (fun cdv A outer s H vs Q E hr h => ?_)
  · unfold spExc1 at h
    obtain ⟨a, v0, rfl, _⟩ := h
    rfl
  · unfold spExc1 at h
    obtain ⟨a, v0, rfl, ha, k⟩ := h
    refine ⟨_, (PSs.nox (pss_one (ps_ost (pv 0) (pv 1)))), ?_⟩
    exact ⟨_, rfl, _, rfl, a, _, rfl, T.ox_NoText, T.na_NoText_at, .inl ⟨ha, fun dx h1 h2 => k dx h1 h2⟩⟩
end

end HB
namespace HB
open PySem PySem.Spec PyProof.Rows L2 Evl
local macro_rules | `(tactic| k_memK) => `(tactic| first
  | assumption
  | (refine Ne.symm ?_; assumption)
  | (refine @ne_of_none ?nh _ _ ?no ?n1 ?n2; (case n2 => assumption); (case n1 => kct_strs))
  | (refine Ne.symm (@ne_of_none ?nh _ _ ?no ?n1 ?n2); (case n2 => assumption); (case n1 => kct_strs)))
local macro_rules | `(tactic| kct_strs) => `(tactic| first
  | assumption
  | exact upd_same
  | (refine Eq.trans (upd_ne ?l1) ?l2; (case l1 => k_memK); (case l2 => kct_strs))
  | (refine (by assumption : Evl.Ex _ _) _ _ ?_; kct_strs))
local macro_rules | `(tactic| kbo_bools) => `(tactic| first
  | assumption
  | (refine SqL.of ?_; kct_strs)
  | (refine SqT.of ?_; kct_strs)
  | (refine Evl.ex_l (by assumption) ?_; assumption)
  | (refine Evl.ex_t (by assumption) ?_; assumption)
  | (refine Evl.ex_l (Evl.Ex.new ?e1) ?e2; (case e1 => assumption); (case e2 => kbo_bools))
  | (refine Evl.ex_t (Evl.Ex.new ?e1) ?e2; (case e1 => assumption); (case e2 => kbo_bools))
  | exact Txt.t_BOXES (by assumption) _
  )
local macro_rules | `(tactic| kd_p1) => `(tactic| first
  | exact ClsV.ty _
  | exact ClsV.own _
  | (refine TyX.base ?t1; first | exact TyOf.int _ | exact TyOf.str _ | exact TyOf.bl _ | exact TyOf.non | exact TyOf.flt _ | (refine @TyOf.lst _ _ _ ?t3 ?t2; (case t2 => kct_strs)) | (refine @TyOf.tup _ _ _ ?t3 ?t2; (case t2 => kct_strs)) | (refine @TyOf.dK _ _ _ ?t3 ?t2; (case t2 => kct_strs)))
  | exact kit_NoneType_bool | exact kit_NoneType_int | exact kit_NoneType_list | exact kit_NoneType_str | exact kit_NoneType_tuple | exact kit_bool_bool | exact kit_bool_int | exact kit_bool_list | exact kit_bool_str | exact kit_bool_tuple | exact kit_dict_bool | exact kit_dict_int | exact kit_dict_list | exact kit_dict_str | exact kit_dict_tuple | exact kit_float_bool | exact kit_float_int | exact kit_float_list | exact kit_float_str | exact kit_float_tuple | exact kit_int_bool | exact kit_int_int | exact kit_int_list | exact kit_int_str | exact kit_int_tuple | exact kit_list_bool | exact kit_list_int | exact kit_list_list | exact kit_list_str | exact kit_list_tuple | exact kit_str_bool | exact kit_str_int | exact kit_str_list | exact kit_str_str | exact kit_str_tuple | exact kit_tuple_bool | exact kit_tuple_int | exact kit_tuple_list | exact kit_tuple_str | exact kit_tuple_tuple)
local macro_rules | `(tactic| got_up) => `(tactic| first
  | ((with_reducible show (_ : Int) < _); omega)
  | ((with_reducible show (_ : Int) ≤ _); omega)
  | ((with_reducible show (_ : Nat) < _); omega)
  | ((with_reducible show (_ : Nat) ≤ _); omega)
  | exact rfl
  | assumption
  | omega
  | kbo_bools
  | kct_strs
  | exact Nat.le_of_ble_eq_true rfl
  | exact Evl.sz_of (Nat.le_of_ble_eq_true rfl)
  | exact Evl.sz_lt (Nat.le_of_ble_eq_true rfl)
  | kd_p1
  | exact ⟨_, rfl⟩
  | decide
  | (dsimp only; omega)
  | (dsimp only; decide)
  | (simp only [List.length_map, List.length_take, List.length_append, List.length_cons, List.length_nil, List.length_drop]; omega)
  | (refine ⟨?_, ?_⟩ <;> (dsimp only; omega))
  | (refine ⟨?_, ?_⟩ <;> omega)
  | (refine ⟨?_, ?_, ?_⟩ <;> omega)
  | (refine ⟨?_, ?_, ?_, ?_⟩ <;> omega)
  | (show CPow _ _; refine ⟨?_, ?_, ?_⟩ <;> first | omega | decide | (dsimp only; omega))
  | (show CDivN _ _; refine ⟨?_, ?_⟩ <;> first | omega | decide | (dsimp only; omega))
  | (show CMul _ _; refine Or.inl ?_; refine ⟨?_, ?_⟩ <;> first | omega | decide | (dsimp only; omega))
  | (show CMul _ _; refine Or.inr ?_; refine ⟨?_, ?_⟩ <;> first | omega | decide | (dsimp only; omega))
  | (refine Or.inl (Exists.intro ?x1 (And.intro ?x2 ?x3)); (case x2 => kbo_bools); (case x3 => rfl))
  | (refine Or.inr (Exists.intro ?x1 (And.intro ?x2 ?x3)); (case x2 => kbo_bools); (case x3 => rfl))
  | (refine Or.inl ?_; kbo_bools)
  | (refine Or.inr ?_; kbo_bools)
  | (refine Or.inl (And.intro rfl (Exists.intro ?x1 ?x2)); (case x2 => kbo_bools))
  | (refine Exists.intro ?x1 ?x2; (case x2 => kbo_bools))
  | (refine Evl.sz_of ?_; (try simp only [List.length_map, List.length_take, List.length_append, List.length_cons, List.length_nil, List.length_drop]); omega)
  | (refine Evl.sz_lt ?_; (try simp only [List.length_map, List.length_take, List.length_append, List.length_cons, List.length_nil, List.length_drop]); omega)
  | (refine And.intro ?x1 ?x2; (case x2 => rfl); (case x1 => first | assumption | (refine Evl.sz_of ?_; omega)))
  | (refine And.intro ?x1 ?x2; (case x1 => rfl); (case x2 => rfl)))
local macro_rules | `(tactic| kba_ints) => `(tactic| (
  (fail_if_success (refine Exists.intro (fun (_ _ : Nat) (_ : L2.St) (_ : Hp) => True) ?_));
  (fail_if_success (refine Exists.intro (fun (_ _ : Nat) (_ : Hp) => True) ?_));
  (fail_if_success (refine Exists.intro (fun (_ : Nat) (_ : L2.St) (_ : Hp) => True) ?_));
  (fail_if_success (refine Exists.intro (fun (_ : L2.St) (_ : Hp) => True) ?_));
  (first
  | (refine And.intro ?c1 ?c2; (case c1 => got_up))
  | (refine Or.inl (And.intro ?c1 ?c2); (case c1 => kbo_bools))
  | (refine Or.inr (And.intro ?c1 ?c2); (case c1 => kbo_bools))
  | (refine Exists.intro ?w1 ?w2; rotate_left)
  | intro _
  | (refine iteT ?_)
  | (refine iteF ?_))))
local macro_rules | `(tactic| walk_at "go") => `(tactic| (repeat kba_ints))
section
variable {P : Program} {w : World} {K : PySem.W.Frag} {mg : Str → Option Value} {base : Heap}
def wordAt (ws : List Str) (at_ : Nat) : Rs Str := match ws[at_]? with
  | some x => .ok x
  | none => .no at_
def numberAt (ws : List Str) (at_ : Nat) (lo hi : Int) : Rs Int := match wordAt ws at_ with
  | .no i => .no i
  | .ok x => match readNum x with
    | some n => if lo ≤ n ∧ n ≤ hi then .ok n else .no at_
    | none => .no at_
/-- the words that stand at p -/
structure Words (K : PySem.W.Frag) (H : Hp) (p : Addr) (ws : List Str) : Prop where
  at_ : H p = some (.lst (ws.map V.str))
  few : ws.length ≤ 100000
  short : ∀ x ∈ ws, x.length ≤ 100000
theorem Words.ex {H H' : Hp} {p : Addr} {ws : List Str} (h : Words K H p ws) (e : Ex H H') : Words K H' p ws := ⟨e _ _ h.at_, h.few, h.short⟩
@[irreducible] def spWordAt (K : PySem.W.Frag) (C : Addr) : Sp := fun vs H Q E => ∃ (p : Addr) (ws : List Str) (n : Nat), vs = [.ref p, .int (n : Int)] ∧ Words K H p ws ∧
  match wordAt ws n with
  | .ok x => Q (.str x) H
  | .no i => ∀ (d : Addr) (H' : Hp), H d = none → Ex H H' → H' d = some (.xd [("at", .int i)]) → E (.ref C) (some d) H'
theorem use_wordAt {C p : Addr} {ws : List Str} {n : Nat} {H : Hp} {Q : VK} {E : XK} (h : Words K H p ws) (k1 : ∀ x, wordAt ws n = .ok x → x.length ≤ 100000 → Q (.str x) H)
    (k2 : ∀ (i : Int) (d : Addr) (H' : Hp), wordAt ws n = .no i → H d = none → Ex H H' → H' d = some (.xd [("at", .int i)]) → E (.ref C) (some d) H') : spWordAt K C [.ref p, .int (n : Int)] H Q E := by
  unfold spWordAt
  refine ⟨p, ws, n, rfl, h, ?_⟩
  cases e : wordAt ws n with
  | ok x =>
    refine k1 x e (h.short x ?_)
    unfold wordAt at e
    cases e2 : ws[n]? with
    | none => rw [e2] at e; cases e
    | some y =>
      rw [e2] at e
      cases e
      exact List.mem_of_getElem? e2
  | no i => exact fun d H' => k2 i d H' e
theorem ok_word_at {f : Addr} {fd : FuncData} (T : Txt w K mg) (F : FnP K "word_at" "word_at" s_word_at f fd) : FnOk P w K mg base (L2.CX P w) 3 f fd ["words", "at"] (spWordAt K T.A_NoText) := by
  refine F.ok sc_word_at (fun vs H Q E h => ?_) (fun cdv A outer s H vs Q E hr h => ?_)
  · unfold spWordAt at h
    obtain ⟨p, ws, n, rfl, _⟩ := h
    rfl
  · unfold spWordAt at h
    obtain ⟨p, ws, n, rfl, hw, k⟩ := h
    have hp := hw.at_
    refine ⟨_, (pss_cons (ps_if (pt_cmpR op_ge (pv 1) (pe_callB call_len (by rfl) T.z_len (by decide +kernel) (pa_cons (pv 0) pa_nil)) (nomark _))
      (pss_one (ps_raise rfl (takes_of rfl rfl rfl rfl) (pmk_oex T.ox_NoText T.ii_NoText T.ti_NoText (ok_NoText_init T T.F_NoText_init) (hr.mono (by decide)) (bd_NoText_init T.F_NoText_init) .nil pass0 rfl T.g_NoText (pa_cons (pv 1) pa_nil))))
      pss_nil)
      (pss_one (ps_ret (pe_ix ix_list (pv 0) (pv 1) (fun _ _ => rfl))))), ?_⟩
    walk_at "go"
    refine iteD (fun q => ?_) (fun q => ?_)
    · have e : wordAt ws n = .no n := by
        unfold wordAt
        rw [List.getElem?_eq_none (by rw [List.length_map] at q; omega)]
      rw [e] at k
      walk_at "go"
      rename_i a ha
      exact mk_one ha fun d H' hd e x => k d H' hd e x
    · have hn : n < ws.length := by rw [List.length_map] at q; omega
      have e : wordAt ws n = .ok ws[n] := by
        unfold wordAt
        rw [List.getElem?_eq_getElem hn]
      rw [e] at k
      have ha : atI (ws.map V.str) (n : Int) = some (V.str ws[n]) := atI_nat (by rw [List.getElem?_map, List.getElem?_eq_getElem hn]; rfl)
      walk_at "go"
end
section
variable {P : Program} {w : World} {K : PySem.W.Frag} {mg : Str → Option Value} {base : Heap}
@[irreducible] def spNumberAt (K : PySem.W.Frag) (C : Addr) : Sp := fun vs H Q E => ∃ (p : Addr) (ws : List Str) (n : Nat) (lo hi : Int), vs = [.ref p, .int (n : Int), .int lo, .int hi] ∧ Words K H p ws ∧
  match numberAt ws n lo hi with
  | .ok x => ∀ H', Ex H H' → Q (.int x) H'
  | .no i => ∀ (d : Addr) (H' : Hp), Ex H H' → H' d = some (.xd [("at", .int i)]) → E (.ref C) (some d) H'
theorem use_numberAt {C p : Addr} {ws : List Str} {n : Nat} {lo hi : Int} {H : Hp} {Q : VK} {E : XK} (h : Words K H p ws) (k1 : ∀ x H', numberAt ws n lo hi = .ok x → Ex H H' → Q (.int x) H')
    (k2 : ∀ (i : Int) (d : Addr) (H' : Hp), numberAt ws n lo hi = .no i → Ex H H' → H' d = some (.xd [("at", .int i)]) → E (.ref C) (some d) H') : spNumberAt K C [.ref p, .int (n : Int), .int lo, .int hi] H Q E := by
  unfold spNumberAt
  refine ⟨p, ws, n, lo, hi, rfl, h, ?_⟩
  cases e : numberAt ws n lo hi with
  | ok x => exact fun H' => k1 x H' e
  | no i => exact fun d H' => k2 i d H' e
theorem ok_number_at {f : Addr} {fd : FuncData} (T : Txt w K mg) (F : FnP K "number_at" "number_at" s_number_at f fd) : FnOk P w K mg base (L2.CX P w) 4 f fd ["words", "at", "low", "high"] (spNumberAt K T.A_NoText) := by
  refine F.ok sc_number_at (fun vs H Q E h => ?_) (fun cdv A outer s H vs Q E hr h => ?_)
  · unfold spNumberAt at h
    obtain ⟨p, ws, n, lo, hi, rfl, _⟩ := h
    rfl
  · unfold spNumberAt at h
    obtain ⟨p, ws, n, lo, hi, rfl, hw, k⟩ := h
    have hp := hw.at_
    refine ⟨_, (pss_cons (ps_set (i := 4) sc_number_at.nd rfl (Or.inl rfl) (pe_call (ok_read_number T T.F_read_number) (hr.mono (by decide)) rfl T.g_read_number T.F_read_number.kp (bd_read_number T.F_read_number) .nil pass0 (pa_cons (pe_call (ok_word_at T T.F_word_at) (hr.mono (by decide)) rfl T.g_word_at T.F_word_at.kp (bd_word_at T.F_word_at) .nil (passes_call (takes_of rfl rfl rfl rfl) (fun _ _ _ _ h => h)) (pa_cons (pv 0) (pa_cons (pv 1) pa_nil))) pa_nil)))
      (pss_cons (ps_if (PW.pt (pw_or (pt_cmpR op_isN (pv 4) pe_non (nomark _)) (pw_or1 (pt_not (pt_chain op_le op_le (pv 2) (pv 4) (pv 3))))))
      (pss_one (ps_raise rfl (takes_of rfl rfl rfl rfl) (pmk_oex T.ox_NoText T.ii_NoText T.ti_NoText (ok_NoText_init T T.F_NoText_init) (hr.mono (by decide)) (bd_NoText_init T.F_NoText_init) .nil pass0 rfl T.g_NoText (pa_cons (pv 1) pa_nil))))
      pss_nil)
      (pss_one (ps_ret (pv 4))))), ?_⟩
    walk_at "go"
    refine use_wordAt hw (fun x ex hx => ?_) (fun i d H' ei hd e hx => ?_)
    · walk_at "go"
      refine use_readNumber hx fun H1 e1 => ?_
      walk_at "go"
      cases er : readNum x with
      | none =>
        have en : numberAt ws n lo hi = .no n := by unfold numberAt; rw [ex]; show (match readNum x with | some n_1 => _ | none => _) = _; rw [er]
        rw [en] at k
        walk_at "go"
        rename_i a ha
        exact mk_one ha fun d H' hd e x => k d H' (Ex.trans e1 e) x
      | some z =>
        have en : numberAt ws n lo hi = if lo ≤ z ∧ z ≤ hi then .ok z else .no n := by unfold numberAt; rw [ex]; show (match readNum x with | some n_1 => _ | none => _) = _; rw [er]
        rw [en] at k
        walk_at "go"
        refine iteD (fun q => ?_) (fun q => ?_)
        · walk_at "go"
          refine iteND (fun q2 => ?_) (fun q2 => ?_)
          · rw [if_neg (fun z2 => q2 z2.2)] at k
            walk_at "go"
            rename_i a ha
            exact mk_one ha fun d H' hd e x => k d H' (Ex.trans e1 e) x
          · rw [if_pos ⟨q, q2⟩] at k
            walk_at "go"
            exact k _ e1
        · rw [if_neg (fun z2 => q z2.1)] at k
          walk_at "go"
          rename_i a ha
          exact mk_one ha fun d H' hd e x => k d H' (Ex.trans e1 e) x
    · have en : numberAt ws n lo hi = .no i := by unfold numberAt; rw [ei]
      rw [en] at k
      exact k d H' e hx
end

end HB
namespace HB
open PySem PySem.Spec PyProof.Rows L2 Evl
local macro_rules | `(tactic| k_memK) => `(tactic| first
  | assumption
  | (refine Ne.symm ?_; assumption)
  | (refine @ne_of_none ?nh _ _ ?no ?n1 ?n2; (case n2 => assumption); (case n1 => kct_strs))
  | (refine Ne.symm (@ne_of_none ?nh _ _ ?no ?n1 ?n2); (case n2 => assumption); (case n1 => kct_strs)))
local macro_rules | `(tactic| kct_strs) => `(tactic| first
  | assumption
  | exact upd_same
  | (refine Eq.trans (upd_ne ?l1) ?l2; (case l1 => k_memK); (case l2 => kct_strs))
  | (refine (by assumption : Evl.Ex _ _) _ _ ?_; kct_strs))
local macro_rules | `(tactic| kbo_bools) => `(tactic| first
  | assumption
  | (refine SqL.of ?_; kct_strs)
  | (refine SqT.of ?_; kct_strs)
  | (refine Evl.ex_l (by assumption) ?_; assumption)
  | (refine Evl.ex_t (by assumption) ?_; assumption)
  | (refine Evl.ex_l (Evl.Ex.new ?e1) ?e2; (case e1 => assumption); (case e2 => kbo_bools))
  | (refine Evl.ex_t (Evl.Ex.new ?e1) ?e2; (case e1 => assumption); (case e2 => kbo_bools))
  | exact Txt.t_BOXES (by assumption) _
  )
local macro_rules | `(tactic| kd_p1) => `(tactic| first
  | exact ClsV.ty _
  | exact ClsV.own _
  | (refine TyX.base ?t1; first | exact TyOf.int _ | exact TyOf.str _ | exact TyOf.bl _ | exact TyOf.non | exact TyOf.flt _ | (refine @TyOf.lst _ _ _ ?t3 ?t2; (case t2 => kct_strs)) | (refine @TyOf.tup _ _ _ ?t3 ?t2; (case t2 => kct_strs)) | (refine @TyOf.dK _ _ _ ?t3 ?t2; (case t2 => kct_strs)))
  | exact kit_NoneType_bool | exact kit_NoneType_int | exact kit_NoneType_list | exact kit_NoneType_str | exact kit_NoneType_tuple | exact kit_bool_bool | exact kit_bool_int | exact kit_bool_list | exact kit_bool_str | exact kit_bool_tuple | exact kit_dict_bool | exact kit_dict_int | exact kit_dict_list | exact kit_dict_str | exact kit_dict_tuple | exact kit_float_bool | exact kit_float_int | exact kit_float_list | exact kit_float_str | exact kit_float_tuple | exact kit_int_bool | exact kit_int_int | exact kit_int_list | exact kit_int_str | exact kit_int_tuple | exact kit_list_bool | exact kit_list_int | exact kit_list_list | exact kit_list_str | exact kit_list_tuple | exact kit_str_bool | exact kit_str_int | exact kit_str_list | exact kit_str_str | exact kit_str_tuple | exact kit_tuple_bool | exact kit_tuple_int | exact kit_tuple_list | exact kit_tuple_str | exact kit_tuple_tuple)
local macro_rules | `(tactic| got_up) => `(tactic| first
  | ((with_reducible show (_ : Int) < _); omega)
  | ((with_reducible show (_ : Int) ≤ _); omega)
  | ((with_reducible show (_ : Nat) < _); omega)
  | ((with_reducible show (_ : Nat) ≤ _); omega)
  | exact rfl
  | assumption
  | omega
  | kbo_bools
  | kct_strs
  | exact Nat.le_of_ble_eq_true rfl
  | exact Evl.sz_of (Nat.le_of_ble_eq_true rfl)
  | exact Evl.sz_lt (Nat.le_of_ble_eq_true rfl)
  | kd_p1
  | exact ⟨_, rfl⟩
  | decide
  | (dsimp only; omega)
  | (dsimp only; decide)
  | (simp only [List.length_map, List.length_take, List.length_append, List.length_cons, List.length_nil, List.length_drop]; omega)
  | (refine ⟨?_, ?_⟩ <;> (dsimp only; omega))
  | (refine ⟨?_, ?_⟩ <;> omega)
  | (refine ⟨?_, ?_, ?_⟩ <;> omega)
  | (refine ⟨?_, ?_, ?_, ?_⟩ <;> omega)
  | (show CPow _ _; refine ⟨?_, ?_, ?_⟩ <;> first | omega | decide | (dsimp only; omega))
  | (show CDivN _ _; refine ⟨?_, ?_⟩ <;> first | omega | decide | (dsimp only; omega))
  | (show CMul _ _; refine Or.inl ?_; refine ⟨?_, ?_⟩ <;> first | omega | decide | (dsimp only; omega))
  | (show CMul _ _; refine Or.inr ?_; refine ⟨?_, ?_⟩ <;> first | omega | decide | (dsimp only; omega))
  | (refine Or.inl (Exists.intro ?x1 (And.intro ?x2 ?x3)); (case x2 => kbo_bools); (case x3 => rfl))
  | (refine Or.inr (Exists.intro ?x1 (And.intro ?x2 ?x3)); (case x2 => kbo_bools); (case x3 => rfl))
  | (refine Or.inl ?_; kbo_bools)
  | (refine Or.inr ?_; kbo_bools)
  | (refine Or.inl (And.intro rfl (Exists.intro ?x1 ?x2)); (case x2 => kbo_bools))
  | (refine Exists.intro ?x1 ?x2; (case x2 => kbo_bools))
  | (refine Evl.sz_of ?_; (try simp only [List.length_map, List.length_take, List.length_append, List.length_cons, List.length_nil, List.length_drop]); omega)
  | (refine Evl.sz_lt ?_; (try simp only [List.length_map, List.length_take, List.length_append, List.length_cons, List.length_nil, List.length_drop]); omega)
  | (refine And.intro ?x1 ?x2; (case x2 => rfl); (case x1 => first | assumption | (refine Evl.sz_of ?_; omega)))
  | (refine And.intro ?x1 ?x2; (case x1 => rfl); (case x2 => rfl)))
local macro_rules | `(tactic| kba_ints) => `(tactic| (
  (fail_if_success (refine Exists.intro (fun (_ _ : Nat) (_ : L2.St) (_ : Hp) => True) ?_));
  (fail_if_success (refine Exists.intro (fun (_ _ : Nat) (_ : Hp) => True) ?_));
  (fail_if_success (refine Exists.intro (fun (_ : Nat) (_ : L2.St) (_ : Hp) => True) ?_));
  (fail_if_success (refine Exists.intro (fun (_ : L2.St) (_ : Hp) => True) ?_));
  (first
  | (refine And.intro ?c1 ?c2; (case c1 => got_up))
  | (refine Or.inl (And.intro ?c1 ?c2); (case c1 => kbo_bools))
  | (refine Or.inr (And.intro ?c1 ?c2); (case c1 => kbo_bools))
  | (refine Exists.intro ?w1 ?w2; rotate_left)
  | intro _
  | (refine iteT ?_)
  | (refine iteF ?_))))
local macro_rules | `(tactic| walk_at "go") => `(tactic| (repeat kba_ints))
section
variable {P : Program} {w : World} {K : PySem.W.Frag} {mg : Str → Option Value} {base : Heap}
def leavesAt (ws : List Str) (at_ : Nat) : Rs (List Str) := match wordAt ws at_ with
  | .no i => .no i
  | .ok x => if leafOk (TL.tl x) then .ok (leafNames (TL.tl x)) else .no at_
@[irreducible] def spLeavesAt (K : PySem.W.Frag) (C : Addr) : Sp := fun vs H Q E => ∃ (p : Addr) (ws : List Str) (n : Nat), vs = [.ref p, .int (n : Int)] ∧ Words K H p ws ∧
  match leavesAt ws n with
  | .ok xs => ∀ (l : Addr) (H' : Hp), Ex H H' → H l = none → H' l = some (.lst (xs.map V.str)) → Q (.ref l) H'
  | .no i => ∀ (d : Addr) (H' : Hp), Ex H H' → H' d = some (.xd [("at", .int i)]) → E (.ref C) (some d) H'
theorem use_leavesAt {C p : Addr} {ws : List Str} {n : Nat} {H : Hp} {Q : VK} {E : XK} (h : Words K H p ws) (k1 : ∀ xs (l : Addr) H', leavesAt ws n = .ok xs → Ex H H' → H l = none → H' l = some (.lst (xs.map V.str)) → Q (.ref l) H')
    (k2 : ∀ (i : Int) (d : Addr) (H' : Hp), leavesAt ws n = .no i → Ex H H' → H' d = some (.xd [("at", .int i)]) → E (.ref C) (some d) H') : spLeavesAt K C [.ref p, .int (n : Int)] H Q E := by
  unfold spLeavesAt
  refine ⟨p, ws, n, rfl, h, ?_⟩
  cases e : leavesAt ws n with
  | ok x => exact fun l H' => k1 x l H' e
  | no i => exact fun d H' => k2 i d H' e
theorem ok_leaves_at {f : Addr} {fd : FuncData} (T : Txt w K mg) (F : FnP K "leaves_at" "leaves_at" s_leaves_at f fd) : FnOk P w K mg base (L2.CX P w) 4 f fd ["words", "at"] (spLeavesAt K T.A_NoText) := by
  refine F.ok sc_leaves_at (fun vs H Q E h => ?_) (fun cdv A outer s H vs Q E hr h => ?_)
  · unfold spLeavesAt at h
    obtain ⟨p, ws, n, rfl, _⟩ := h
    rfl
  · unfold spLeavesAt at h
    obtain ⟨p, ws, n, rfl, hw, k⟩ := h
    have hp := hw.at_
    refine ⟨_, (pss_cons (ps_set (i := 2) sc_leaves_at.nd rfl (Or.inl rfl) (pe_call (ok_word_at T T.F_word_at) (hr.mono (by decide)) rfl T.g_word_at T.F_word_at.kp (bd_word_at T.F_word_at) .nil (passes_call (takes_of rfl rfl rfl rfl) (fun _ _ _ _ h => h)) (pa_cons (pv 0) (pa_cons (pv 1) pa_nil))))
      (Evl.pss_cut (ps_if (PW.pt (pw_or (pt_not (pt_chain op_le op_le pe_int (pe_callB call_len (by rfl) T.z_len (by decide +kernel) (pa_cons (pv 2) pa_nil)) (pe_glob (v := .int 60) rfl (Classical.choose_spec T.g_MOST_CELLS) ⟨_, rfl⟩))) (pw_or1 (pt_not (pt_val (pe_callB (cr_all rfl) (by rfl) T.z_all (by decide +kernel) (pa_cons (pe_lc (own := [("sign", 3)]) (g := (gName 3)) (tt := tYes) rfl sc_leaves_at.nd (pi_str (pv 2)) (blkOk_by (own := [("sign", 3)]) (N := ["words", "at", "word", "sign"]) (sc := defScope s_leaves_at) (by decide +kernel)) (fun _ _ _ _ _ => (pg_name (i := 3) sc_leaves_at.nd rfl (Or.inl rfl))) (fun _ _ _ _ _ => pts_nil) (fun _ _ _ _ _ => (pe_cmpR (op_in_kt T.kt_SIGNS) (pv 3) (pe_glob (v := .ref T.A_SIGNS) rfl T.g_SIGNS rfl) (by rfl)))) pa_nil)))))))
      (pss_one (ps_raise rfl (takes_of rfl rfl rfl rfl) (pmk_oex T.ox_NoText T.ii_NoText T.ti_NoText (ok_NoText_init T T.F_NoText_init) (hr.mono (by decide)) (bd_NoText_init T.F_NoText_init) .nil pass0 rfl T.g_NoText (pa_cons (pv 1) pa_nil))))
      pss_nil)
      (pss_one (ps_ret (pe_lc (own := [("sign", 3)]) (g := (gName 3)) (tt := tYes) rfl sc_leaves_at.nd (pi_str (pv 2)) (blkOk_by (own := [("sign", 3)]) (N := ["words", "at", "word", "sign"]) (sc := defScope s_leaves_at) (by decide +kernel)) (fun _ _ _ _ _ => (pg_name (i := 3) sc_leaves_at.nd rfl (Or.inl rfl))) (fun _ _ _ _ _ => pts_nil) (fun _ _ _ _ _ => (pe_ix (ix_kt T.kt_SIGNS) (pe_glob (v := .ref T.A_SIGNS) rfl T.g_SIGNS rfl) (pv 3) (fun _ _ => rfl)))))))), ?_⟩
    walk_at "go"
    refine use_wordAt hw (fun x ex hx => ?_) (fun i d H' ei hd e hx => ?_)
    · have ek : leavesAt ws n = if leafOk (TL.tl x) then .ok (leafNames (TL.tl x)) else .no n := by unfold leavesAt; rw [ex]
      rw [ek] at k
      have el : x.length = (TL.tl x).length := TL.len_tl x
      walk_at "go"
      refine ⟨fun σ' H' => σ' = [some (.ref p), some (.int (n : Int)), some (.str x), none] ∧ Ex H H' ∧ leafOk (TL.tl x), ?_, ?_⟩
      · walk_at "go"
        refine iteD (fun q1 => ?_) (fun q1 => ?_)
        · walk_at "go"
          refine iteND (fun q2 => ?_) (fun q2 => ?_)
          · rw [if_neg fun z => q2 (by have := z.1.2; omega)] at k
            walk_at "go"
            rename_i a ha
            exact mk_one ha fun d H' hd e x => k d H' e x
          · walk_at "go"
            rename_i D hD
            refine lc_pureS (z := x) (((TL.tl x).map fun c => (signOf c).isSome).map V.bl) hD (fun _ => rfl) (by rw [List.length_map, List.length_map]) (by omega) ?_ ?_
            · intro i c H2 y Q2 hy e hc k2
              rw [List.getElem?_map, List.getElem?_map, hc] at hy
              cases hy
              walk_at "go"
              refine bl_eq (k2 _ (Ex.refl _)) ?_
              have := leaf_look c
              unfold leafKvs at this
              rw [this, Option.isSome_map]
            · intro H2 e hl
              have e2 : Ex H H2 := e
              walk_at "go"
              refine iteB (fun q => ?_) (fun q => ?_)
              · rw [all_map, Bool.not_eq_true', decide_eq_false_iff_not] at q
                rw [if_neg fun z => q z.2] at k
                walk_at "go"
                rename_i a ha
                exact mk_one ha fun d H' hd e x => k d H' (Ex.trans e2 e) x
              · rw [all_map, Bool.not_eq_false', decide_eq_true_eq] at q
                walk_at "go"
                rename_i c hc
                exact q c hc
        · rw [if_neg fun z => q1 (by have := z.1.1; omega)] at k
          walk_at "go"
          rename_i a ha
          exact mk_one ha fun d H' hd e x => k d H' e x
      · rintro σ' H' ⟨rfl, e, ok⟩
        rw [if_pos ok] at k
        have hl := ok.1.2
        walk_at "go"
        rename_i D hD
        refine lc_pureS (z := x) ((leafNames (TL.tl x)).map V.str) hD (fun _ => rfl) (by unfold leafNames; rw [List.length_map, List.length_map]) (by omega) ?_ ?_
        · intro i c H2 y Q2 hy e hc k2
          unfold leafNames at hy
          rw [List.getElem?_map, List.getElem?_map, hc] at hy
          cases hy
          have hs := ok.2 c (List.mem_of_getElem? hc)
          have hk : leafKvs.lookup (⟨#[c]⟩ : Str) = some (V.str ((signOf c).getD "")) := by
            rw [leaf_look]
            cases e : signOf c with
            | none => rw [e] at hs; cases hs
            | some y => rfl
          walk_at "go"
          exact k2 _ (Ex.refl _)
        · intro H2 e2 hl2
          exact k D H2 (Ex.trans e e2) (fresh_back e hD) hl2
    · have ek : leavesAt ws n = .no i := by unfold leavesAt; rw [ei]
      rw [ek] at k
      exact k d H' e hx
end

end HB
namespace HB
open PySem PySem.Spec PyProof.Rows L2 Evl
local macro_rules | `(tactic| k_memK) => `(tactic| first
  | assumption
  | (refine Ne.symm ?_; assumption)
  | (refine @ne_of_none ?nh _ _ ?no ?n1 ?n2; (case n2 => assumption); (case n1 => kct_strs))
  | (refine Ne.symm (@ne_of_none ?nh _ _ ?no ?n1 ?n2); (case n2 => assumption); (case n1 => kct_strs)))
local macro_rules | `(tactic| kct_strs) => `(tactic| first
  | assumption
  | exact upd_same
  | (refine Eq.trans (upd_ne ?l1) ?l2; (case l1 => k_memK); (case l2 => kct_strs))
  | (refine (by assumption : Evl.Ex _ _) _ _ ?_; kct_strs))
local macro_rules | `(tactic| kbo_bools) => `(tactic| first
  | assumption
  | (refine SqL.of ?_; kct_strs)
  | (refine SqT.of ?_; kct_strs)
  | (refine Evl.ex_l (by assumption) ?_; assumption)
  | (refine Evl.ex_t (by assumption) ?_; assumption)
  | (refine Evl.ex_l (Evl.Ex.new ?e1) ?e2; (case e1 => assumption); (case e2 => kbo_bools))
  | (refine Evl.ex_t (Evl.Ex.new ?e1) ?e2; (case e1 => assumption); (case e2 => kbo_bools))
  | exact Txt.t_BOXES (by assumption) _
  )
local macro_rules | `(tactic| kd_p1) => `(tactic| first
  | exact ClsV.ty _
  | exact ClsV.own _
  | (refine TyX.base ?t1; first | exact TyOf.int _ | exact TyOf.str _ | exact TyOf.bl _ | exact TyOf.non | exact TyOf.flt _ | (refine @TyOf.lst _ _ _ ?t3 ?t2; (case t2 => kct_strs)) | (refine @TyOf.tup _ _ _ ?t3 ?t2; (case t2 => kct_strs)) | (refine @TyOf.dK _ _ _ ?t3 ?t2; (case t2 => kct_strs)))
  | exact kit_NoneType_bool | exact kit_NoneType_int | exact kit_NoneType_list | exact kit_NoneType_str | exact kit_NoneType_tuple | exact kit_bool_bool | exact kit_bool_int | exact kit_bool_list | exact kit_bool_str | exact kit_bool_tuple | exact kit_dict_bool | exact kit_dict_int | exact kit_dict_list | exact kit_dict_str | exact kit_dict_tuple | exact kit_float_bool | exact kit_float_int | exact kit_float_list | exact kit_float_str | exact kit_float_tuple | exact kit_int_bool | exact kit_int_int | exact kit_int_list | exact kit_int_str | exact kit_int_tuple | exact kit_list_bool | exact kit_list_int | exact kit_list_list | exact kit_list_str | exact kit_list_tuple | exact kit_str_bool | exact kit_str_int | exact kit_str_list | exact kit_str_str | exact kit_str_tuple | exact kit_tuple_bool | exact kit_tuple_int | exact kit_tuple_list | exact kit_tuple_str | exact kit_tuple_tuple)
local macro_rules | `(tactic| got_up) => `(tactic| first
  | ((with_reducible show (_ : Int) < _); omega)
  | ((with_reducible show (_ : Int) ≤ _); omega)
  | ((with_reducible show (_ : Nat) < _); omega)
  | ((with_reducible show (_ : Nat) ≤ _); omega)
  | exact rfl
  | assumption
  | omega
  | kbo_bools
  | kct_strs
  | exact Nat.le_of_ble_eq_true rfl
  | exact Evl.sz_of (Nat.le_of_ble_eq_true rfl)
  | exact Evl.sz_lt (Nat.le_of_ble_eq_true rfl)
  | kd_p1
  | exact ⟨_, rfl⟩
  | decide
  | (dsimp only; omega)
  | (dsimp only; decide)
  | (simp only [List.length_map, List.length_take, List.length_append, List.length_cons, List.length_nil, List.length_drop]; omega)
  | (refine ⟨?_, ?_⟩ <;> (dsimp only; omega))
  | (refine ⟨?_, ?_⟩ <;> omega)
  | (refine ⟨?_, ?_, ?_⟩ <;> omega)
  | (refine ⟨?_, ?_, ?_, ?_⟩ <;> omega)
  | (show CPow _ _; refine ⟨?_, ?_, ?_⟩ <;> first | omega | decide | (dsimp only; omega))
  | (show CDivN _ _; refine ⟨?_, ?_⟩ <;> first | omega | decide | (dsimp only; omega))
  | (show CMul _ _; refine Or.inl ?_; refine ⟨?_, ?_⟩ <;> first | omega | decide | (dsimp only; omega))
  | (show CMul _ _; refine Or.inr ?_; refine ⟨?_, ?_⟩ <;> first | omega | decide | (dsimp only; omega))
  | (refine Or.inl (Exists.intro ?x1 (And.intro ?x2 ?x3)); (case x2 => kbo_bools); (case x3 => rfl))
  | (refine Or.inr (Exists.intro ?x1 (And.intro ?x2 ?x3)); (case x2 => kbo_bools); (case x3 => rfl))
  | (refine Or.inl ?_; kbo_bools)
  | (refine Or.inr ?_; kbo_bools)
  | (refine Or.inl (And.intro rfl (Exists.intro ?x1 ?x2)); (case x2 => kbo_bools))
  | (refine Exists.intro ?x1 ?x2; (case x2 => kbo_bools))
  | (refine Evl.sz_of ?_; (try simp only [List.length_map, List.length_take, List.length_append, List.length_cons, List.length_nil, List.length_drop]); omega)
  | (refine Evl.sz_lt ?_; (try simp only [List.length_map, List.length_take, List.length_append, List.length_cons, List.length_nil, List.length_drop]); omega)
  | (refine And.intro ?x1 ?x2; (case x2 => rfl); (case x1 => first | assumption | (refine Evl.sz_of ?_; omega)))
  | (refine And.intro ?x1 ?x2; (case x1 => rfl); (case x2 => rfl)))
local macro_rules | `(tactic| kba_ints) => `(tactic| (
  (fail_if_success (refine Exists.intro (fun (_ _ : Nat) (_ : L2.St) (_ : Hp) => True) ?_));
  (fail_if_success (refine Exists.intro (fun (_ _ : Nat) (_ : Hp) => True) ?_));
  (fail_if_success (refine Exists.intro (fun (_ : Nat) (_ : L2.St) (_ : Hp) => True) ?_));
  (fail_if_success (refine Exists.intro (fun (_ : L2.St) (_ : Hp) => True) ?_));
  (first
  | (refine And.intro ?c1 ?c2; (case c1 => got_up))
  | (refine Or.inl (And.intro ?c1 ?c2); (case c1 => kbo_bools))
  | (refine Or.inr (And.intro ?c1 ?c2); (case c1 => kbo_bools))
  | (refine Exists.intro ?w1 ?w2; rotate_left)
  | intro _
  | (refine iteT ?_)
  | (refine iteF ?_))))
local macro_rules | `(tactic| walk_at "go") => `(tactic| (repeat kba_ints))
section
variable {P : Program} {w : World} {K : PySem.W.Frag} {mg : Str → Option Value} {base : Heap}
/-- f 0, f 1, .., f (n - 1), or the first refusal -/
def Rs.upto {α : Type} (f : Nat → Rs α) : Nat → Rs (List α)
  | 0 => .ok []
  | n + 1 => match Rs.upto f n with
    | .no i => .no i
    | .ok l => match f n with
      | .no i => .no i
      | .ok a => .ok (l ++ [a])
def boxAt (ws : List Str) (i : Nat) : Rs Int := match numberAt ws (1 + i) (-1000000000) 1000000000 with
  | .no j => .no j
  | .ok n => if fitsI (boxNames[i]?.getD "") n then .ok n else .no ((1 + i : Nat) : Int)
structure StateL where
  row : Int
  nums : List Int
  cells : List Int
  leaves : List Str
def readState (ws : List Str) : Rs StateL := match numberAt ws 0 0 24 with
  | .no i => .no i
  | .ok row => match Rs.upto (boxAt ws) 6 with
    | .no i => .no i
    | .ok nums => match leavesAt ws 7 with
      | .no i => .no i
      | .ok lv => match Rs.upto (fun k => numberAt ws (8 + k) 0 1000000000) lv.length with
        | .no i => .no i
        | .ok cs => if ws.length > 8 + cs.length then .no ((8 + cs.length : Nat) : Int) else .ok ⟨row, nums, cs, lv⟩
theorem Rs.upto_ok {α : Type} {f : Nat → Rs α} : ∀ {n : Nat} {l : List α}, Rs.upto f n = .ok l → l.length = n ∧ ∀ i x, l[i]? = some x → f i = .ok x
  | 0, l, h => by
    cases h
    exact ⟨rfl, fun i x e => by cases e⟩
  | n + 1, l, h => by
    unfold Rs.upto at h
    cases e : Rs.upto f n with
    | no i => rw [e] at h; cases h
    | ok l0 =>
      rw [e] at h
      obtain ⟨hl, hx⟩ := Rs.upto_ok e
      cases e2 : f n with
      | no i => rw [e2] at h; cases h
      | ok a =>
        rw [e2] at h
        cases h
        refine ⟨by rw [List.length_append, hl]; rfl, fun i x hi => ?_⟩
        by_cases q : i < n
        · rw [List.getElem?_append_left (by omega)] at hi
          exact hx i x hi
        · rw [List.getElem?_append_right (by omega)] at hi
          have e3 : i = n := by
            have := (List.getElem?_eq_some_iff.mp hi).1
            simp at this
            omega
          subst e3
          rw [hl, Nat.sub_self] at hi
          cases hi
          exact e2
theorem Rs.upto_take {α : Type} {f : Nat → Rs α} : ∀ {n : Nat} {l : List α}, Rs.upto f n = .ok l → ∀ m, m ≤ n → Rs.upto f m = .ok (l.take m)
  | 0, l, h, m, hm => by
    obtain rfl : m = 0 := by omega
    cases h
    rfl
  | n + 1, l, h, m, hm => by
    by_cases q : m = n + 1
    · subst q
      rw [List.take_of_length_le (by rw [(Rs.upto_ok h).1]; exact Nat.le_refl _)]
      exact h
    · have h0 := h
      unfold Rs.upto at h
      cases e : Rs.upto f n with
      | no i => rw [e] at h; cases h
      | ok l0 =>
        rw [e] at h
        cases e2 : f n with
        | no i => rw [e2] at h; cases h
        | ok a =>
          rw [e2] at h
          cases h
          rw [Rs.upto_take e m (by omega), List.take_append_of_le_length (by rw [(Rs.upto_ok e).1]; omega)]
theorem readState_inv {ws : List Str} {z : StateL} (h : readState ws = .ok z) : numberAt ws 0 0 24 = .ok z.row ∧ Rs.upto (boxAt ws) 6 = .ok z.nums ∧ leavesAt ws 7 = .ok z.leaves ∧ Rs.upto (fun k => numberAt ws (8 + k) 0 1000000000) z.leaves.length = .ok z.cells ∧ ¬ ws.length > 8 + z.cells.length := by
  unfold readState at h
  split at h
  · cases h
  · rename_i row e1
    split at h
    · cases h
    · rename_i nums e2
      split at h
      · cases h
      · rename_i lv e3
        split at h
        · cases h
        · rename_i cs e4
          split at h
          · cases h
          · rename_i e5
            cases h
            exact ⟨e1, e2, e3, e4, e5⟩
theorem leavesAt_few {ws : List Str} {i : Nat} {l : List Str} (h : leavesAt ws i = .ok l) : 1 ≤ l.length ∧ l.length ≤ 60 := by
  unfold leavesAt at h
  split at h
  · cases h
  · split at h
    · rename_i q
      cases h
      unfold leafNames
      rw [List.length_map]
      exact q.1
    · cases h
theorem boxAt_ok {ws : List Str} {i : Nat} {b : Str} {n : Int} (hb : boxNames[i]? = some b) (h : boxAt ws i = .ok n) : numberAt ws (1 + i) (-1000000000) 1000000000 = .ok n ∧ fitsI b n = true := by
  unfold boxAt at h
  rw [hb] at h
  cases e : numberAt ws (1 + i) (-1000000000) 1000000000 with
  | no j => rw [e] at h; cases h
  | ok u =>
    rw [e] at h
    have h2 : (if fitsI b u = true then Rs.ok u else Rs.no ((1 + i : Nat) : Int)) = Rs.ok n := h
    cases q : fitsI b u with
    | false => rw [q, if_neg Bool.false_ne_true] at h2; cases h2
    | true =>
      rw [q, if_pos rfl] at h2
      cases h2
      exact ⟨rfl, q⟩
abbrev splitW (z : Str) : List Str := Txt.split z " "
/-- a text that reads well -/
@[irreducible] def spReadOk (K : PySem.W.Frag) : Sp := fun vs H Q _ => ∃ (x : Str) (z : StateL), vs = [.str x] ∧ x.length ≤ 90000 ∧ (∀ y ∈ splitW x, y.length ≤ 100000) ∧ readState (splitW x) = .ok z ∧
  ∀ (q p n c l : Addr) (H' : Hp), Ex H H' → H c = none → H l = none → c ≠ l → H' q = some (.tup [.ref p, .ref l]) → H' p = some (.tup [.int z.row, .ref n, .ref c]) → H' n = some (.tup (z.nums.map V.int)) → H' c = some (.lst (z.cells.map V.int)) → H' l = some (.lst (z.leaves.map V.str)) → Q (.ref q) H'
theorem ok_read_state {f : Addr} {fd : FuncData} (T : Txt w K mg) (F : FnP K "read_state" "read_state" s_read_state f fd) : FnOk P w K mg base (L2.CX P w) 5 f fd ["text"] (spReadOk K) := by
  refine F.ok sc_read_state (fun vs H Q E h => ?_) (fun cdv A outer s H vs Q E hr h => ?_)
  · unfold spReadOk at h
    obtain ⟨x, z, rfl, _⟩ := h
    rfl
  · unfold spReadOk at h
    obtain ⟨x, z, rfl, hx, hs, hz, k⟩ := h
    obtain ⟨e1, e2, e3, e4, e5⟩ := readState_inv hz
    have hfew := leavesAt_few e3
    refine ⟨_, (pss_cons (ps_if (pt_not (pt_val (pe_callB call_isi (by rfl) T.z_isinstance (by decide +kernel) (pa_cons (pv 0) (pa_cons (pe_bltn (v := .ty "str") (u := .type "str") (by rfl) T.z_str (by decide +kernel) rfl) pa_nil)))))
      (pss_one (ps_raise rfl (takes_of rfl rfl rfl rfl) (pmk_oex T.ox_NoText T.ii_NoText T.ti_NoText (ok_NoText_init T T.F_NoText_init) (hr.mono (by decide)) (bd_NoText_init T.F_NoText_init) .nil pass0 rfl T.g_NoText (pa_cons (pe_un un_neg pe_int) pa_nil))))
      pss_nil)
      (pss_cons (ps_set (i := 1) sc_read_state.nd rfl (Or.inr rfl) (pe_split (pv 0) pe_str))
      (pss_cons (ps_set (i := 2) sc_read_state.nd rfl (Or.inl rfl) (pe_call (ok_number_at T T.F_number_at) (hr.mono (by decide)) rfl T.g_number_at T.F_number_at.kp (bd_number_at T.F_number_at) .nil (passes_call (takes_of rfl rfl rfl rfl) (fun _ _ _ _ h => h)) (pa_cons (pv 1) (pa_cons pe_int (pa_cons pe_int (pa_cons (pe_glob (v := .int 24) rfl (Classical.choose_spec T.g_MOST_ROWS) ⟨_, rfl⟩) pa_nil))))))
      (pss_cons (ps_set (i := 3) sc_read_state.nd rfl (Or.inl rfl) (pe_lst pa_nil))
      (pss_cons (ps_for (passes_of rfl) rfl (HB.pi_enumB (by rfl) T.z_enumerate (pa_cons (pe_glob (v := .ref T.A_BOXES) rfl T.g_BOXES rfl) pa_nil)) (pg_tup rfl (pgs_cons (pg_name (i := 4) sc_read_state.nd rfl (Or.inl rfl)) (pgs_cons (pg_name (i := 5) sc_read_state.nd rfl (Or.inl rfl)) pgs_nil)))
      (pss_cons (ps_set (i := 6) sc_read_state.nd rfl (Or.inl rfl) (pe_call (ok_number_at T T.F_number_at) (hr.mono (by decide)) rfl T.g_number_at T.F_number_at.kp (bd_number_at T.F_number_at) .nil (passes_call (takes_of rfl rfl rfl rfl) (fun _ _ _ _ h => h)) (pa_cons (pv 1) (pa_cons (pe_op op_add pe_int (pv 4)) (pa_cons (pe_un un_neg (pe_glob (v := .int 1000000000) rfl (Classical.choose_spec T.g_MOST_HELD) ⟨_, rfl⟩)) (pa_cons (pe_glob (v := .int 1000000000) rfl (Classical.choose_spec T.g_MOST_HELD) ⟨_, rfl⟩) pa_nil))))))
      (pss_cons (ps_if (pt_not (pt_val (pe_call (ok_fits T T.F_fits) (hr.mono (by decide)) rfl T.g_fits T.F_fits.kp (bd_fits T.F_fits) .nil pass0 (pa_cons (pv 5) (pa_cons (pv 6) pa_nil)))))
      (pss_one (ps_raise rfl (takes_of rfl rfl rfl rfl) (pmk_oex T.ox_NoText T.ii_NoText T.ti_NoText (ok_NoText_init T T.F_NoText_init) (hr.mono (by decide)) (bd_NoText_init T.F_NoText_init) .nil pass0 rfl T.g_NoText (pa_cons (pe_op op_add pe_int (pv 4)) pa_nil))))
      pss_nil)
      (pss_one (ps_expr (pe_bm PySem.F.plainAttrs_list PySem.F.slot_list_append PySem.F.type_list_append mt_append (pv 3) (pa_cons (pv 6) pa_nil)))))))
      (pss_cons (ps_set (i := 7) sc_read_state.nd rfl (Or.inr rfl) (pe_op op_add pe_int (pe_callB call_len (by rfl) T.z_len (by decide +kernel) (pa_cons (pe_glob (v := .ref T.A_BOXES) rfl T.g_BOXES rfl) pa_nil))))
      (pss_cons (ps_set (i := 8) sc_read_state.nd rfl (Or.inl rfl) (pe_call (ok_leaves_at T T.F_leaves_at) (hr.mono (by decide)) rfl T.g_leaves_at T.F_leaves_at.kp (bd_leaves_at T.F_leaves_at) .nil (passes_call (takes_of rfl rfl rfl rfl) (fun _ _ _ _ h => h)) (pa_cons (pv 1) (pa_cons (pe_op op_sub (pv 7) pe_int) pa_nil))))
      (pss_cons (ps_setLc (i := 9) (own := [("cell", 10)]) (g := (gName 10)) (tt := tYes) rfl sc_read_state.nd rfl rfl (sw_true rfl rfl rfl (by decide +kernel)) (pi_range1 (by rfl) T.z_range (pa_cons (pe_callB call_len (by rfl) T.z_len (by decide +kernel) (pa_cons (pv 8) pa_nil)) pa_nil)) (blkOk_by (own := [("cell", 10)]) (N := ["text", "words", "row", "numbers", "place", "box", "number", "first", "leaves", "cells", "cell"]) (sc := defScope s_read_state) (by decide +kernel)) (fun _ _ _ _ _ => (pg_name (i := 10) sc_read_state.nd rfl (Or.inl rfl))) (fun _ _ _ _ _ => pts_nil) (fun _ _ _ _ _ => (pe_call (ok_number_at T T.F_number_at) (hr.mono (by decide)) rfl T.g_number_at T.F_number_at.kp (bd_number_at T.F_number_at) .nil HB.pass_no (pa_cons (pv 1) (pa_cons (pe_op op_add (pv 7) (pv 10)) (pa_cons pe_int (pa_cons (pe_glob (v := .int 1000000000) rfl (Classical.choose_spec T.g_MOST_HELD) ⟨_, rfl⟩) pa_nil)))))))
      (pss_cons (ps_if (pt_cmpR op_gt (pe_callB call_len (by rfl) T.z_len (by decide +kernel) (pa_cons (pv 1) pa_nil)) (pe_op op_add (pv 7) (pe_callB call_len (by rfl) T.z_len (by decide +kernel) (pa_cons (pv 9) pa_nil))) (nomark _))
      (pss_one (ps_raise rfl (takes_of rfl rfl rfl rfl) (pmk_oex T.ox_NoText T.ii_NoText T.ti_NoText (ok_NoText_init T T.F_NoText_init) (hr.mono (by decide)) (bd_NoText_init T.F_NoText_init) .nil pass0 rfl T.g_NoText (pa_cons (pe_op op_add (pv 7) (pe_callB call_len (by rfl) T.z_len (by decide +kernel) (pa_cons (pv 9) pa_nil))) pa_nil))))
      pss_nil)
      (pss_one (ps_ret (pe_tup (pa_cons (pe_tup (pa_cons (pv 2) (pa_cons (pe_callTy call_tuple_of (by rfl) T.z_tuple (by decide +kernel) (pa_cons (pv 3) pa_nil)) (pa_cons (pv 9) pa_nil)))) (pa_cons (pv 8) pa_nil)))))))))))))), ?_⟩
    walk_at "go"
    rename_i p hp
    have hB : ∀ H, SqB K true H T.A_BOXES (boxNames.map V.str) := T.t_BOXES
    have hw : Words K (upd H p (.lst ((splitW x).map V.str))) p (splitW x) := ⟨upd_same, Nat.le_trans (PyProof.Rows.split_le x " ") (by omega), hs⟩
    have ep : Ex H (upd H p (.lst ((splitW x).map V.str))) := Ex.new hp
    generalize upd H p (.lst ((splitW x).map V.str)) = H1 at hw ep ⊢
    refine use_numberAt hw (fun row H2 er e12 => ?_) (fun i d H2 er => by rw [e1] at er; cases er)
    rw [e1] at er
    obtain rfl := Rs.ok.inj er
    have hw2 := hw.ex e12
    have ep2 := Ex.trans ep e12
    walk_at "go"
    rename_i l hl
    refine And.intro ?c1 ?_
    case c1 => exact hB _
    walk_at "go"
    refine for_enum (xs := boxNames.map V.str) (fun i σ H' => ∃ v4 v5 v6, σ = [some (.str x), some (.ref p), some (.int z.row), some (.ref l), v4, v5, v6, none, none, none, none] ∧ Ex H2 H' ∧ H' l = some (.lst ((z.nums.take i).map V.int))) ?_ ?_ ?_ ?_
    · exact ⟨none, none, none, rfl, Ex.new hl, upd_same⟩
    · exact fun i σ H _ => hB H
    · rintro i y t σ H' hy ⟨v4, v5, v6, rfl, e', hl'⟩ ht
      rw [List.getElem?_map] at hy
      obtain ⟨b, hb, rfl⟩ : ∃ b, boxNames[i]? = some b ∧ y = V.str b := by
        cases e : boxNames[i]? with
        | none => rw [e] at hy; cases hy
        | some b => rw [e] at hy; exact ⟨b, rfl, (Option.some.inj hy).symm⟩
      have hi : i < 6 := (List.getElem?_eq_some_iff.mp hb).1
      obtain ⟨hn6, hall⟩ := Rs.upto_ok e2
      have hni : i < z.nums.length := by omega
      obtain ⟨ebox, fu⟩ := boxAt_ok hb (hall i z.nums[i] (List.getElem?_eq_getElem hni))
      walk_at "go"
      have hwT := (hw2.ex e').ex (Ex.new (o := .tup [.int (i : Nat), .str b]) ht)
      have hlT : H' l = _ := hl'
      have ntl : l ≠ t := ne_of_none hl' ht
      show spNumberAt K T.A_NoText [.ref p, .int ((1 + i : Nat) : Int), .int (-1000000000), .int 1000000000] _ _ _
      refine use_numberAt hwT (fun u H3 eu e33 => ?_) (fun j d H3 ej => by rw [ebox] at ej; cases ej)
      rw [ebox] at eu
      obtain rfl := Rs.ok.inj eu
      walk_at "go"
      refine use_fitsI fun H4 e44 => ?_
      rw [fu]
      have hl4 : H4 l = some (.lst ((z.nums.take i).map V.int)) := e44 _ _ (e33 _ _ (by rw [upd_ne ntl]; exact hl'))
      walk_at "go"
      refine And.intro (Ex.mut (Ex.trans (Ex.trans (Ex.trans e' (Ex.new ht)) e33) e44) hl) ?_
      rw [upd_same, List.take_succ, List.getElem?_eq_getElem hni, List.map_append]
      rfl
    · rintro σ H3 ⟨v4, v5, v6, rfl, e', hl'⟩
      walk_at "go"
      show spLeavesAt K T.A_NoText [.ref p, .int ((7 : Nat) : Int)] _ _ _
      have ep3 := Ex.trans ep2 e'
      refine use_leavesAt (hw2.ex e') (fun lv m H4 em e34 hm hm4 => ?_) (fun j d H4 ej => by rw [e3] at ej; cases ej)
      rw [e3] at em
      obtain rfl := Rs.ok.inj em
      walk_at "go"
      rename_i D hD
      obtain ⟨hc, hcall⟩ := Rs.upto_ok e4
      have hw4 := (hw2.ex e').ex e34
      refine lc_pureR (lo := 0) (z.cells.map V.int) hD (fun _ => rfl) (by rw [List.length_map, List.length_map, Int.toNat_natCast, hc]) (by rw [List.length_map, Int.toNat_natCast]; omega) ?_ ?_
      · intro i H5 y Q2 hy e5' k2
        rw [List.getElem?_map] at hy
        cases eci : z.cells[i]? with
        | none => rw [eci] at hy; cases hy
        | some c =>
          rw [eci] at hy
          cases hy
          have hnum := hcall i c eci
          walk_at "go"
          have e8 : (2 + (([V.str "here", V.str "there", V.str "left", V.str "way", V.str "sign", V.str "met"] : List V).length : Int)) + (0 + (i : Int)) = ((8 + i : Nat) : Int) := by
            rw [show (([V.str "here", V.str "there", V.str "left", V.str "way", V.str "sign", V.str "met"] : List V).length : Int) = 6 from rfl]
            omega
          show spNumberAt K T.A_NoText [.ref p, .int _, .int 0, .int 1000000000] _ _ _
          rw [e8]
          refine use_numberAt (hw4.ex e5') (fun u H6 eu e66 => ?_) (fun j d H6 ej => by rw [hnum] at ej; cases ej)
          rw [hnum] at eu
          obtain rfl := Rs.ok.inj eu
          exact k2 H6 e66
      · intro H5 e55 hD5
        have hl5 : H5 l = some (.lst (z.nums.map V.int)) := by
          have hl3 : H3 l = some (.lst (z.nums.map V.int)) := by
            rw [hl', List.take_of_length_le (by rw [(Rs.upto_ok e2).1]; exact Nat.le_refl _)]
          exact e55 _ _ (e34 _ _ hl3)
        have hm5 := e55 _ _ hm4
        have hp5 := e55 _ _ hw4.at_
        walk_at "go"
        refine iteD (fun q => ?_) (fun q => ?_)
        · rw [show (([V.str "here", V.str "there", V.str "left", V.str "way", V.str "sign", V.str "met"] : List V).length : Int) = 6 from rfl, List.length_map, List.length_map] at q
          exact absurd q (by omega)
        · walk_at "go"
          rename_i n hn t1 ht1 t2 ht2
          have eA := Ex.trans (Ex.trans (Ex.trans (Ex.trans ep3 e34) e55) (Ex.new (o := .tup (z.nums.map V.int)) hn)) (Ex.trans (Ex.new (o := .tup [.int z.row, .ref n, .ref D]) ht1) (Ex.new (o := .tup [.ref t1, .ref m]) ht2))
          exact k t2 t1 n D m _ eA (fresh_back (Ex.trans ep3 e34) hD) (fresh_back ep3 hm) (Ne.symm (ne_of_none hm4 hD)) (by kct_strs) (by kct_strs) (by kct_strs) (by kct_strs) (by kct_strs)
theorem use_readOk {x : Str} {z : StateL} {H : Hp} {Q : VK} {E : XK} (hx : x.length ≤ 90000) (hs : ∀ y ∈ splitW x, y.length ≤ 100000) (hz : readState (splitW x) = .ok z)
    (k : ∀ (q p n c l : Addr) (H' : Hp), Ex H H' → H c = none → H l = none → c ≠ l → H' q = some (.tup [.ref p, .ref l]) → H' p = some (.tup [.int z.row, .ref n, .ref c]) → H' n = some (.tup (z.nums.map V.int)) → H' c = some (.lst (z.cells.map V.int)) → H' l = some (.lst (z.leaves.map V.str)) → Q (.ref q) H') :
    spReadOk K [.str x] H Q E := by
  unfold spReadOk
  exact ⟨x, z, rfl, hx, hs, hz, k⟩
end

end HB
namespace HB
open PySem PySem.Spec PyProof.Rows L2 Evl
local macro_rules | `(tactic| k_memK) => `(tactic| first
  | assumption
  | (refine Ne.symm ?_; assumption)
  | (refine @ne_of_none ?nh _ _ ?no ?n1 ?n2; (case n2 => assumption); (case n1 => kct_strs))
  | (refine Ne.symm (@ne_of_none ?nh _ _ ?no ?n1 ?n2); (case n2 => assumption); (case n1 => kct_strs)))
local macro_rules | `(tactic| kct_strs) => `(tactic| first
  | assumption
  | exact upd_same
  | (refine Eq.trans (upd_ne ?l1) ?l2; (case l1 => k_memK); (case l2 => kct_strs))
  | (refine (by assumption : Evl.Ex _ _) _ _ ?_; kct_strs))
local macro_rules | `(tactic| kbo_bools) => `(tactic| first
  | assumption
  | (refine SqL.of ?_; kct_strs)
  | (refine SqT.of ?_; kct_strs)
  | (refine Evl.ex_l (by assumption) ?_; assumption)
  | (refine Evl.ex_t (by assumption) ?_; assumption)
  | (refine Evl.ex_l (Evl.Ex.new ?e1) ?e2; (case e1 => assumption); (case e2 => kbo_bools))
  | (refine Evl.ex_t (Evl.Ex.new ?e1) ?e2; (case e1 => assumption); (case e2 => kbo_bools))
  | exact Txt.t_BOXES (by assumption) _
  )
local macro_rules | `(tactic| kd_p1) => `(tactic| first
  | exact ClsV.ty _
  | exact ClsV.own _
  | (refine TyX.base ?t1; first | exact TyOf.int _ | exact TyOf.str _ | exact TyOf.bl _ | exact TyOf.non | exact TyOf.flt _ | (refine @TyOf.lst _ _ _ ?t3 ?t2; (case t2 => kct_strs)) | (refine @TyOf.tup _ _ _ ?t3 ?t2; (case t2 => kct_strs)) | (refine @TyOf.dK _ _ _ ?t3 ?t2; (case t2 => kct_strs)))
  | exact kit_NoneType_bool | exact kit_NoneType_int | exact kit_NoneType_list | exact kit_NoneType_str | exact kit_NoneType_tuple | exact kit_bool_bool | exact kit_bool_int | exact kit_bool_list | exact kit_bool_str | exact kit_bool_tuple | exact kit_dict_bool | exact kit_dict_int | exact kit_dict_list | exact kit_dict_str | exact kit_dict_tuple | exact kit_float_bool | exact kit_float_int | exact kit_float_list | exact kit_float_str | exact kit_float_tuple | exact kit_int_bool | exact kit_int_int | exact kit_int_list | exact kit_int_str | exact kit_int_tuple | exact kit_list_bool | exact kit_list_int | exact kit_list_list | exact kit_list_str | exact kit_list_tuple | exact kit_str_bool | exact kit_str_int | exact kit_str_list | exact kit_str_str | exact kit_str_tuple | exact kit_tuple_bool | exact kit_tuple_int | exact kit_tuple_list | exact kit_tuple_str | exact kit_tuple_tuple)
local macro_rules | `(tactic| got_up) => `(tactic| first
  | ((with_reducible show (_ : Int) < _); omega)
  | ((with_reducible show (_ : Int) ≤ _); omega)
  | ((with_reducible show (_ : Nat) < _); omega)
  | ((with_reducible show (_ : Nat) ≤ _); omega)
  | exact rfl
  | assumption
  | omega
  | kbo_bools
  | kct_strs
  | exact Nat.le_of_ble_eq_true rfl
  | exact Evl.sz_of (Nat.le_of_ble_eq_true rfl)
  | exact Evl.sz_lt (Nat.le_of_ble_eq_true rfl)
  | kd_p1
  | exact ⟨_, rfl⟩
  | decide
  | (dsimp only; omega)
  | (dsimp only; decide)
  | (simp only [List.length_map, List.length_take, List.length_append, List.length_cons, List.length_nil, List.length_drop]; omega)
  | (refine ⟨?_, ?_⟩ <;> (dsimp only; omega))
  | (refine ⟨?_, ?_⟩ <;> omega)
  | (refine ⟨?_, ?_, ?_⟩ <;> omega)
  | (refine ⟨?_, ?_, ?_, ?_⟩ <;> omega)
  | (show CPow _ _; refine ⟨?_, ?_, ?_⟩ <;> first | omega | decide | (dsimp only; omega))
  | (show CDivN _ _; refine ⟨?_, ?_⟩ <;> first | omega | decide | (dsimp only; omega))
  | (show CMul _ _; refine Or.inl ?_; refine ⟨?_, ?_⟩ <;> first | omega | decide | (dsimp only; omega))
  | (show CMul _ _; refine Or.inr ?_; refine ⟨?_, ?_⟩ <;> first | omega | decide | (dsimp only; omega))
  | (refine Or.inl (Exists.intro ?x1 (And.intro ?x2 ?x3)); (case x2 => kbo_bools); (case x3 => rfl))
  | (refine Or.inr (Exists.intro ?x1 (And.intro ?x2 ?x3)); (case x2 => kbo_bools); (case x3 => rfl))
  | (refine Or.inl ?_; kbo_bools)
  | (refine Or.inr ?_; kbo_bools)
  | (refine Or.inl (And.intro rfl (Exists.intro ?x1 ?x2)); (case x2 => kbo_bools))
  | (refine Exists.intro ?x1 ?x2; (case x2 => kbo_bools))
  | (refine Evl.sz_of ?_; (try simp only [List.length_map, List.length_take, List.length_append, List.length_cons, List.length_nil, List.length_drop]); omega)
  | (refine Evl.sz_lt ?_; (try simp only [List.length_map, List.length_take, List.length_append, List.length_cons, List.length_nil, List.length_drop]); omega)
  | (refine And.intro ?x1 ?x2; (case x2 => rfl); (case x1 => first | assumption | (refine Evl.sz_of ?_; omega)))
  | (refine And.intro ?x1 ?x2; (case x1 => rfl); (case x2 => rfl)))
local macro_rules | `(tactic| kba_ints) => `(tactic| (
  (fail_if_success (refine Exists.intro (fun (_ _ : Nat) (_ : L2.St) (_ : Hp) => True) ?_));
  (fail_if_success (refine Exists.intro (fun (_ _ : Nat) (_ : Hp) => True) ?_));
  (fail_if_success (refine Exists.intro (fun (_ : Nat) (_ : L2.St) (_ : Hp) => True) ?_));
  (fail_if_success (refine Exists.intro (fun (_ : L2.St) (_ : Hp) => True) ?_));
  (first
  | (refine And.intro ?c1 ?c2; (case c1 => got_up))
  | (refine Or.inl (And.intro ?c1 ?c2); (case c1 => kbo_bools))
  | (refine Or.inr (And.intro ?c1 ?c2); (case c1 => kbo_bools))
  | (refine Exists.intro ?w1 ?w2; rotate_left)
  | intro _
  | (refine iteT ?_)
  | (refine iteF ?_))))
local macro_rules | `(tactic| walk_at "go") => `(tactic| (repeat kba_ints))
section
variable {P : Program} {w : World} {K : PySem.W.Frag} {mg : Str → Option Value} {base : Heap}
structure ShowOk (row : Int) (nums cells : List Int) (leaves : List Str) : Prop where
  hrow : row.natAbs < 100000000000
  hnums : ∀ x ∈ nums, x.natAbs < 100000000000
  numsL : nums.length ≤ 1000
  hcells : ∀ x ∈ cells, x.natAbs < 100000000000
  cellsL : cells.length ≤ 1000
  hleaves : ∀ x ∈ leaves, 1 ≤ x.length ∧ x.length ≤ 100
  leavesL : leaves.length ≤ 1000
theorem show_fits {row : Int} {nums cells : List Int} {leaves : List Str} (o : ShowOk row nums cells leaves) : ((showWords row nums cells leaves).map (·.length)).sum + (showWords row nums cells leaves).length * (" " : Str).length ≤ 16777216 := by
  have z := sum_le (fun s : Str => s.length) 1000 (showWords row nums cells leaves) fun x hx => by
    unfold showWords at hx
    rcases List.mem_cons.mp hx with rfl | hx
    · exact Nat.le_trans (numT_len o.hrow) (by decide)
    · rcases List.mem_append.mp hx with hx | hx
      · rcases List.mem_append.mp hx with hx | hx
        · obtain ⟨y, hy, rfl⟩ := List.mem_map.mp hx
          exact Nat.le_trans (numT_len (o.hnums y hy)) (by decide)
        · obtain rfl := List.mem_singleton.mp hx
          rw [TL.len_tl, tl_join0, List.length_flatten, List.map_map]
          have z := sum_le (List.length ∘ TL.tl) 1 (leaves.map sign1) fun x hx => by
            obtain ⟨y, _, rfl⟩ := List.mem_map.mp hx
            have := sign1_len y
            rw [TL.len_tl] at this
            exact this
          rw [List.length_map] at z
          have := o.leavesL
          omega
      · obtain ⟨y, hy, rfl⟩ := List.mem_map.mp hx
        exact Nat.le_trans (numT_len (o.hcells y hy)) (by decide)
  have hl : (showWords row nums cells leaves).length ≤ 2002 := by
    have h1 := o.numsL
    have h2 := o.cellsL
    unfold showWords
    simp only [List.length_cons, List.length_append, List.length_map, List.length_nil]
    omega
  have e1 : (" " : Str).length = 1 := by decide +kernel
  rw [e1]
  omega
@[irreducible] def spShow (K : PySem.W.Frag) : Sp := fun vs H Q _ => ∃ (q n c l : Addr) (row : Int) (nums cells : List Int) (leaves : List Str), vs = [.ref q, .ref l] ∧ ShowOk row nums cells leaves ∧
  SqT K H q [.int row, .ref n, .ref c] ∧ SqT K H n (nums.map V.int) ∧ SqL K H c (cells.map V.int) ∧ SqL K H l (leaves.map V.str) ∧ ∀ H', Ex H H' → Q (.str (showText row nums cells leaves)) H'
theorem use_show {q n c l : Addr} {row : Int} {nums cells : List Int} {leaves : List Str} {H : Hp} {Q : VK} {E : XK} (o : ShowOk row nums cells leaves) (h1 : SqT K H q [.int row, .ref n, .ref c]) (h2 : SqT K H n (nums.map V.int)) (h3 : SqL K H c (cells.map V.int)) (h4 : SqL K H l (leaves.map V.str))
    (k : ∀ H', Ex H H' → Q (.str (showText row nums cells leaves)) H') : spShow K [.ref q, .ref l] H Q E := by
  unfold spShow
  exact ⟨q, n, c, l, row, nums, cells, leaves, rfl, o, h1, h2, h3, h4, k⟩
theorem ok_show_state {f : Addr} {fd : FuncData} (T : Txt w K mg) (F : FnP K "show_state" "show_state" s_show_state f fd) : FnOk P w K mg base CX0 1 f fd ["state", "leaves"] (spShow K) := by
  refine F.ok sc_show_state (fun vs H Q E h => ?_) (fun cdv A outer s H vs Q E hr h => ?_)
  · unfold spShow at h
    obtain ⟨q, n, c, l, row, nums, cells, leaves, rfl, _⟩ := h
    rfl
  · unfold spShow at h
    obtain ⟨q, n, c, l, row, nums, cells, leaves, rfl, o, h1, h2, h3, h4, k⟩ := h
    have orow := log2_small o.hrow
    have nL := o.numsL
    have cL := o.cellsL
    have lL := o.leavesL
    refine ⟨_, (PSs.nox (pss_cons (ps_asg (pv 0) (pg_tup rfl (pgs_cons (pg_name (i := 2) sc_show_state.nd rfl (Or.inl rfl)) (pgs_cons (pg_name (i := 3) sc_show_state.nd rfl (Or.inl rfl)) (pgs_cons (pg_name (i := 4) sc_show_state.nd rfl (Or.inl rfl)) pgs_nil)))))
      (pss_cons (ps_set (i := 5) sc_show_state.nd rfl (Or.inl rfl) (pe_op op_cat (pe_lst (pa_cons (pe_callTy call_str_int (by rfl) T.z_str (by decide +kernel) (pa_cons (pv 2) pa_nil)) pa_nil)) (pe_lc (own := [("number", 6)]) (g := (gName 6)) (tt := tYes) rfl sc_show_state.nd (pi_tup (pv 3)) (blkOk_by (own := [("number", 6)]) (N := ["state", "leaves", "row", "numbers", "cells", "words", "number", "leave", "content"]) (sc := defScope s_show_state) (by decide +kernel)) (fun _ _ _ _ _ => (pg_name (i := 6) sc_show_state.nd rfl (Or.inl rfl))) (fun _ _ _ _ _ => pts_nil) (fun _ _ _ _ _ => (pe_callTy call_str_int (by rfl) T.z_str (by decide +kernel) (pa_cons (pv 6) pa_nil))))))
      (pss_cons (ps_expr (pe_bm PySem.F.plainAttrs_list PySem.F.slot_list_append PySem.F.type_list_append mt_append (pv 5) (pa_cons (pe_join pe_str (pe_lc (own := [("leave", 7)]) (g := (gName 7)) (tt := tYes) rfl sc_show_state.nd (pi_list (pv 1)) (blkOk_by (own := [("leave", 7)]) (N := ["state", "leaves", "row", "numbers", "cells", "words", "number", "leave", "content"]) (sc := defScope s_show_state) (by decide +kernel)) (fun _ _ _ _ _ => (pg_name (i := 7) sc_show_state.nd rfl (Or.inl rfl))) (fun _ _ _ _ _ => pts_nil) (fun _ _ _ _ _ => (pe_ix ix_str (pv 7) pe_int (fun _ _ => rfl))))) pa_nil)))
      (pss_one (ps_ret (pe_join pe_str (pe_op op_cat (pv 5) (pe_lc (own := [("content", 8)]) (g := (gName 8)) (tt := tYes) rfl sc_show_state.nd (pi_list (pv 4)) (blkOk_by (own := [("content", 8)]) (N := ["state", "leaves", "row", "numbers", "cells", "words", "number", "leave", "content"]) (sc := defScope s_show_state) (by decide +kernel)) (fun _ _ _ _ _ => (pg_name (i := 8) sc_show_state.nd rfl (Or.inl rfl))) (fun _ _ _ _ _ => pts_nil) (fun _ _ _ _ _ => (pe_callTy call_str_int (by rfl) T.z_str (by decide +kernel) (pa_cons (pv 8) pa_nil)))))))))))), ?_⟩
    walk_at "go"
    rename_i p hp D hD
    have lc : ∀ (ns : List Int) (i : Nat) (y : V), ((ns.map numT).map V.str)[i]? = some y → ∃ x, ns[i]? = some x ∧ y = V.str (numT x) := fun ns i y h => by
      rw [List.getElem?_map, List.getElem?_map] at h
      cases e : ns[i]? with
      | none => rw [e] at h; cases h
      | some x => rw [e] at h; exact ⟨x, rfl, (Option.some.inj h).symm⟩
    have hn' : SqT K (upd H p (.lst [V.str (numT row)])) n (nums.map V.int) := ex_t (Ex.new hp) h2
    refine lc_pureT ((nums.map numT).map V.str) hn' hD (fun _ => rfl) (by rw [List.length_map, List.length_map, List.length_map]) (by rw [List.length_map]; omega) ?_ ?_
    · intro i v H5 y Q2 hy e5 hv k2
      obtain ⟨x, hx, rfl⟩ := lc _ _ _ hy
      rw [List.getElem?_map, hx] at hv
      cases hv
      have hlog := log2_small (o.hnums x (List.mem_of_getElem? hx))
      walk_at "go"
      exact k2 _ (Ex.refl _)
    · intro H1 e1 hD1
      have hp1 : H1 p = _ := e1 _ _ upd_same
      have e01 : Ex H H1 := Ex.trans (Ex.new hp) e1
      have h4' : SqL K H1 l (leaves.map V.str) := ex_l e01 h4
      walk_at "go"
      rename_i p2 hp2 D2 hD2
      have h4'' : SqL K (upd H1 p2 (.lst ([V.str (numT row)] ++ (nums.map numT).map V.str))) l (leaves.map V.str) := ex_l (Ex.new hp2) h4'
      refine lc_pureL ((leaves.map sign1).map V.str) h4'' hD2 (fun _ => rfl) (by rw [List.length_map, List.length_map, List.length_map]) (by rw [List.length_map]; omega) ?_ ?_
      · intro i v H5 y Q2 hy e5 hv k2
        rw [List.getElem?_map, List.getElem?_map] at hy
        rw [List.getElem?_map] at hv
        cases ex : leaves[i]? with
        | none => rw [ex] at hy; cases hy
        | some x =>
          rw [ex] at hy hv
          cases hy
          cases hv
          have hx := o.hleaves x (List.mem_of_getElem? ex)
          obtain ⟨c0, r0, hx0⟩ : ∃ c0 r0, TL.tl x = c0 :: r0 := by
            cases q : TL.tl x with
            | nil =>
              have := TL.len_tl x
              rw [q] at this
              have h0 : x.length = 0 := this
              omega
            | cons a b => exact ⟨a, b, rfl⟩
          have e0 : atI x.cps.toList 0 = some c0 := by
            rw [show x.cps.toList = c0 :: r0 from hx0]
            exact atI_nat (j := 0) rfl
          have es : sign1 x = ⟨#[c0]⟩ := by unfold sign1; rw [hx0]; rfl
          have k2 : ∀ H4, Ex H5 H4 → Q2 (V.str ⟨#[c0]⟩) H4 := by rw [← es]; exact k2
          have hx2 := hx.2
          walk_at "go"
          exact k2 _ (Ex.refl _)
      · intro H6 e6 hD6
        have jl : ((leaves.map sign1).map (·.length)).sum + (leaves.map sign1).length * ("" : Str).length ≤ 16777216 := by
          have z := sum_le (fun s : Str => s.length) 1 (leaves.map sign1) fun x hx => by
            obtain ⟨y, _, rfl⟩ := List.mem_map.mp hx
            exact sign1_len y
          rw [List.length_map] at z ⊢
          have z2 : ("" : Str).length = 0 := by decide +kernel
          rw [z2]
          omega
        walk_at "go"
        have hp6 : H6 p2 = some (.lst ([V.str (numT row)] ++ (nums.map numT).map V.str)) := e6 _ _ upd_same
        have e06 : Ex H H6 := Ex.trans (Ex.trans e01 (Ex.new hp2)) e6
        have e07 : Ex H (upd H6 p2 (.lst ([V.str (numT row)] ++ (nums.map numT).map V.str ++ [V.str (Txt.join "" (leaves.map sign1))]))) := Ex.mut e06 (fresh_back e01 hp2)
        refine And.intro ⟨_, ex_l e07 h3⟩ ?_
        walk_at "go"
        rename_i D3 hD3
        refine lc_pureL ((cells.map numT).map V.str) (ex_l e07 h3) hD3 (fun _ => rfl) (by rw [List.length_map, List.length_map, List.length_map]) (by rw [List.length_map]; omega) ?_ ?_
        · intro i v H5 y Q2 hy e5 hv k2
          obtain ⟨x, hx, rfl⟩ := lc _ _ _ hy
          rw [List.getElem?_map, hx] at hv
          cases hv
          have hlog := log2_small (o.hcells x (List.mem_of_getElem? hx))
          walk_at "go"
          exact k2 _ (Ex.refl _)
        · intro H8 e8 hD8
          have hp8 : H8 p2 = _ := e8 _ _ upd_same
          have e08 : Ex H H8 := Ex.trans e07 e8
          walk_at "go"
          rename_i p3 hp3
          have ew : [V.str (numT row)] ++ (nums.map numT).map V.str ++ [V.str (Txt.join "" (leaves.map sign1))] ++ (cells.map numT).map V.str = (showWords row nums cells leaves).map V.str := by
            unfold showWords
            simp only [List.map_cons, List.map_append, List.map_nil, List.cons_append, List.nil_append, List.append_assoc]
          have hs : SqL K (upd H8 p3 (.lst ([V.str (numT row)] ++ (nums.map numT).map V.str ++ [V.str (Txt.join "" (leaves.map sign1))] ++ (cells.map numT).map V.str))) p3 ((showWords row nums cells leaves).map V.str) := SqL.of (by rw [upd_same, ew])
          refine And.intro ?j1 (And.intro ?j2 ?j3)
          case j1 =>
            refine Or.inl ?_
            exact hs
          case j2 => exact show_fits o
          case j3 => exact k _ (Ex.trans e08 (Ex.new hp3))
end

end HB
namespace HB
open PySem PySem.Spec PyProof.Rows L2 Evl
/-! ### comprehensions whose elements draw -/
section
variable {J : It} {n : Nat} {G : Hp → Prop} {Y : Nat → Hp → V → Hp → Prop}
theorem lc_hand (wk : Walk J n G Y) {te : TE} {vs : List Nat} {j : Nat} {σ : L2.St} {H1 : Hp} {D : Addr} {Qd : Hp → Prop} {Hs : Hp} {h c : Addr} {ns : List Int} {m k : Nat} (d : Hand Hs H1 h c ns m) (P : Nat → V → Prop) (hD : H1 D = none)
    (hG : ∀ H', Ex Hs H' → G H') (hY : ∀ i H x H', Y i H x H' → H' = H) (hw : ∀ x, wipe ((wipe σ vs).set j (some x)) vs = wipe σ vs) (hz : n ≤ 100000)
    (hs : ∀ (i : Nat) (x : V) (Hs' H' : Hp) (Q : VK), i < n → Ex Hs Hs' → Hand Hs' H' h c ns (m + i * k) → Y i H' x H' → (∀ y H4, P i y → Hand Hs' H4 h c ns (m + (i + 1) * k) → Q y H4) → te ((wipe σ vs).set j (some x)) H' Q)
    (hd : ∀ ys H', ys.length = n → (∀ i y, ys[i]? = some y → P i y) → Hand Hs H' h c ns (m + n * k) → H' D = some (.lst ys) → Qd H') :
    ∃ W : Nat → Nat → Hp → Prop, (∃ m, W 0 m (upd H1 D (.lst []))) ∧ ∀ i m H, W i m H →
      (J.stop i H ∧ Qd H) ∨ (J.go i H ∧ ∃ Nx : Hp → Prop, (∀ H', Nx H' → ∃ m', m' < m ∧ W (i + 1) m' H') ∧ ∀ x H', J.yld i H x H' → gName j x (wipe σ vs) H' fun σ2 H2 => wipe σ2 vs = wipe σ vs ∧ tYes σ2 H2 fun b H3 =>
        if b = true then te σ2 H3 fun y H4 => ∃ acc, H4 D = some (.lst acc) ∧ acc.length < sizeLine ∧ Nx (upd H4 D (.lst (acc ++ [y]))) else Nx H3) := by
  have hDs : Hs D = none := fresh_back d.ex hD
  have hDh : h ≠ D := by
    obtain ⟨_, _, _, _, e, _⟩ := d.it
    exact ne_of_none e hD
  refine lc_it wk (fun i H' => Hand Hs H' h c ns (m + i * k) ∧ ∃ ys, H' D = some (.lst ys) ∧ ys.length = i ∧ ∀ i y, ys[i]? = some y → P i y)
    ⟨by rw [Nat.zero_mul, Nat.add_zero]; exact d.own hDs hDh, [], upd_same, rfl, fun i y e => by cases e⟩ (fun i H _ p => hG H p.1.ex) (fun i x H H' hi p y => ⟨hw x, ?_⟩) (fun H p => ?_)
  · have e := hY i H x H' y
    subst e
    obtain ⟨dh, ys, h1, h2, h3⟩ := p
    show te _ H' _
    refine hs i x (upd Hs D (.lst ys)) H' _ hi (Ex.new hDs) (dh.grow h1 (Ne.symm hDh)) y fun z H4 hz d4 => ⟨ys, d4.ex _ _ upd_same, sz_lt (by omega), (d4.less (Ex.new hDs) d.cl).own hDs hDh, ys ++ [z], upd_same, by rw [List.length_append, h2]; rfl, fun a b hab => ?_⟩
    by_cases q : a < ys.length
    · rw [List.getElem?_append_left q] at hab
      exact h3 a b hab
    · rw [List.getElem?_append_right (by omega)] at hab
      have ha : a = i := by
        have := (List.getElem?_eq_some_iff.mp hab).1
        simp at this
        omega
      subst ha
      rw [h2, Nat.sub_self] at hab
      cases hab
      exact hz
  · obtain ⟨dh, ys, h1, h2, h3⟩ := p
    exact hd ys H h2 h3 dh h1
end
section
variable {K : PySem.W.Frag} {te : TE} {vs : List Nat} {j : Nat} {σ : L2.St} {H1 : Hp} {D a : Addr} {Qd : Hp → Prop} {xs : List V} {Hs : Hp} {h c : Addr} {ns : List Int} {m : Nat}
theorem lc_handR {lo : Int} {n : Nat} (k : Nat) (d : Hand Hs H1 h c ns m) (P : Nat → V → Prop) (hD : H1 D = none) (hw : ∀ x, wipe ((wipe σ vs).set j (some x)) vs = wipe σ vs) (hz : n ≤ 100000)
    (hs : ∀ (i : Nat) (Hs' H' : Hp) (Q : VK), i < n → Ex Hs Hs' → Hand Hs' H' h c ns (m + i * k) → (∀ y H4, P i y → Hand Hs' H4 h c ns (m + (i + 1) * k) → Q y H4) → te ((wipe σ vs).set j (some (.int (lo + i)))) H' Q)
    (hd : ∀ ys H', ys.length = n → (∀ i y, ys[i]? = some y → P i y) → Hand Hs H' h c ns (m + n * k) → H' D = some (.lst ys) → Qd H') :
    ∃ W : Nat → Nat → Hp → Prop, (∃ m, W 0 m (upd H1 D (.lst []))) ∧ ∀ i m H, W i m H →
      ((Itr lo n).stop i H ∧ Qd H) ∨ ((Itr lo n).go i H ∧ ∃ Nx : Hp → Prop, (∀ H', Nx H' → ∃ m', m' < m ∧ W (i + 1) m' H') ∧ ∀ x H', (Itr lo n).yld i H x H' → gName j x (wipe σ vs) H' fun σ2 H2 => wipe σ2 vs = wipe σ vs ∧ tYes σ2 H2 fun b H3 =>
        if b = true then te σ2 H3 fun y H4 => ∃ acc, H4 D = some (.lst acc) ∧ acc.length < sizeLine ∧ Nx (upd H4 D (.lst (acc ++ [y]))) else Nx H3) := by
  refine lc_hand walk_range d P hD (fun _ _ => True.intro) (fun _ _ _ _ y => y.1) hw hz (fun i x Hs' H' Q hi e d' y q => ?_) hd
  obtain ⟨_, rfl⟩ := y
  exact hs i Hs' H' Q hi e d' q
theorem lc_handL (k : Nat) (d : Hand Hs H1 h c ns m) (P : Nat → V → Prop) (hx : SqL K Hs a xs) (hD : H1 D = none) (hw : ∀ x, wipe ((wipe σ vs).set j (some x)) vs = wipe σ vs) (hz : xs.length ≤ 100000)
    (hs : ∀ (i : Nat) (x : V) (Hs' H' : Hp) (Q : VK), xs[i]? = some x → Ex Hs Hs' → Hand Hs' H' h c ns (m + i * k) → (∀ y H4, P i y → Hand Hs' H4 h c ns (m + (i + 1) * k) → Q y H4) → te ((wipe σ vs).set j (some x)) H' Q)
    (hd : ∀ ys H', ys.length = xs.length → (∀ i y, ys[i]? = some y → P i y) → Hand Hs H' h c ns (m + xs.length * k) → H' D = some (.lst ys) → Qd H') :
    ∃ W : Nat → Nat → Hp → Prop, (∃ m, W 0 m (upd H1 D (.lst []))) ∧ ∀ i m H, W i m H →
      ((Itl K a).stop i H ∧ Qd H) ∨ ((Itl K a).go i H ∧ ∃ Nx : Hp → Prop, (∀ H', Nx H' → ∃ m', m' < m ∧ W (i + 1) m' H') ∧ ∀ x H', (Itl K a).yld i H x H' → gName j x (wipe σ vs) H' fun σ2 H2 => wipe σ2 vs = wipe σ vs ∧ tYes σ2 H2 fun b H3 =>
        if b = true then te σ2 H3 fun y H4 => ∃ acc, H4 D = some (.lst acc) ∧ acc.length < sizeLine ∧ Nx (upd H4 D (.lst (acc ++ [y]))) else Nx H3) :=
  lc_hand (walk_list (K := K) (a := a) (xs := xs)) d P hD (fun H' e => ex_l e hx) (fun _ _ _ _ y => y.1) hw hz (fun i x Hs' H' Q hi e d' y q => hs i x Hs' H' Q y.2 e d' q) hd
end
theorem of_all {α : Type} {p : α → Prop} {f : α → V} : ∀ {ys : List V}, (∀ (i : Nat) (y : V), ys[i]? = some y → ∃ z, y = f z ∧ p z) → ∃ zs : List α, ys = zs.map f ∧ ∀ z ∈ zs, p z
  | [], _ => ⟨[], rfl, fun z hz => by cases hz⟩
  | y :: ys, h => by
    obtain ⟨z, rfl, hz⟩ := h 0 y rfl
    obtain ⟨zs, rfl, hzs⟩ := of_all (ys := ys) fun i y e => h (i + 1) y e
    exact ⟨z :: zs, rfl, fun x hx => (List.mem_cons.mp hx).elim (fun e => e ▸ hz) (hzs x)⟩
/-- an item picked from a list just laid -/
theorem atI_mem {xs : List V} {i : Int} (h0 : 0 ≤ i) (h1 : i < xs.length) : ∃ y, atI xs i = some y ∧ y ∈ xs := by
  obtain ⟨j, rfl⟩ := Int.eq_ofNat_of_zero_le h0
  have h2 : j < xs.length := by omega
  exact ⟨xs[j], atI_nat (List.getElem?_eq_getElem h2), List.getElem_mem h2⟩
/-! ### leaves -/
def isLeaf (s : Str) : Prop := s = "open" ∨ s = "look" ∨ s = "shut"
theorem rep_one (v : V) (n : Nat) : (List.replicate n [v]).flatten = List.replicate n v := by
  induction n with
  | zero => rfl
  | succ n ih => rw [List.replicate_succ, List.flatten_cons, ih]; rfl
theorem set_map {α : Type} (f : α → V) (l : List α) (i : Nat) (a : α) : (l.map f).set i (f a) = (l.set i a).map f := by
  rw [List.map_set]
theorem mem_of_set {α : Type} {p : α → Prop} {l : List α} {i : Nat} {a : α} (h : ∀ x ∈ l, p x) (ha : p a) : ∀ x ∈ l.set i a, p x := fun x hx => by
  rcases List.mem_or_eq_of_mem_set hx with h1 | h1
  · exact h x h1
  · exact h1 ▸ ha
theorem Hand.old {Hs H : Hp} {h c : Addr} {ns : List Int} {n : Nat} (d : Hand Hs H h c ns n) {p : Addr} (hp : H p = none) : h ≠ p := by
  obtain ⟨_, _, _, _, e, _⟩ := d.it
  exact ne_of_none e hp
theorem ixN_in {n : Nat} {i : Int} (h0 : 0 ≤ i) (h1 : i < n) : ixN n i = some i.toNat := by
  obtain ⟨j, rfl⟩ := Int.eq_ofNat_of_zero_le h0
  rw [Int.toNat_natCast]
  exact ixN_nat (by omega)
end HB
namespace HB
open PySem PySem.Spec PyProof.Rows L2 Evl
local macro_rules | `(tactic| k_memK) => `(tactic| first
  | assumption
  | (refine Ne.symm ?_; assumption)
  | (refine @ne_of_none ?nh _ _ ?no ?n1 ?n2; (case n2 => assumption); (case n1 => kct_strs))
  | (refine Ne.symm (@ne_of_none ?nh _ _ ?no ?n1 ?n2); (case n2 => assumption); (case n1 => kct_strs)))
local macro_rules | `(tactic| kct_strs) => `(tactic| first
  | assumption
  | exact upd_same
  | (refine Eq.trans (upd_ne ?l1) ?l2; (case l1 => k_memK); (case l2 => kct_strs))
  | (refine (by assumption : Evl.Ex _ _) _ _ ?_; kct_strs))
local macro_rules | `(tactic| kbo_bools) => `(tactic| first
  | assumption
  | (refine SqL.of ?_; kct_strs)
  | (refine SqT.of ?_; kct_strs)
  | (refine Evl.ex_l (by assumption) ?_; assumption)
  | (refine Evl.ex_t (by assumption) ?_; assumption)
  | (refine Evl.ex_l (Evl.Ex.new ?e1) ?e2; (case e1 => assumption); (case e2 => kbo_bools))
  | (refine Evl.ex_t (Evl.Ex.new ?e1) ?e2; (case e1 => assumption); (case e2 => kbo_bools))
  | exact Txt.t_BOXES (by assumption) _
  )
local macro_rules | `(tactic| kd_p1) => `(tactic| first
  | exact ClsV.ty _
  | exact ClsV.own _
  | (refine TyX.base ?t1; first | exact TyOf.int _ | exact TyOf.str _ | exact TyOf.bl _ | exact TyOf.non | exact TyOf.flt _ | (refine @TyOf.lst _ _ _ ?t3 ?t2; (case t2 => kct_strs)) | (refine @TyOf.tup _ _ _ ?t3 ?t2; (case t2 => kct_strs)) | (refine @TyOf.dK _ _ _ ?t3 ?t2; (case t2 => kct_strs)))
  | exact kit_NoneType_bool | exact kit_NoneType_int | exact kit_NoneType_list | exact kit_NoneType_str | exact kit_NoneType_tuple | exact kit_bool_bool | exact kit_bool_int | exact kit_bool_list | exact kit_bool_str | exact kit_bool_tuple | exact kit_dict_bool | exact kit_dict_int | exact kit_dict_list | exact kit_dict_str | exact kit_dict_tuple | exact kit_float_bool | exact kit_float_int | exact kit_float_list | exact kit_float_str | exact kit_float_tuple | exact kit_int_bool | exact kit_int_int | exact kit_int_list | exact kit_int_str | exact kit_int_tuple | exact kit_list_bool | exact kit_list_int | exact kit_list_list | exact kit_list_str | exact kit_list_tuple | exact kit_str_bool | exact kit_str_int | exact kit_str_list | exact kit_str_str | exact kit_str_tuple | exact kit_tuple_bool | exact kit_tuple_int | exact kit_tuple_list | exact kit_tuple_str | exact kit_tuple_tuple)
local macro_rules | `(tactic| got_up) => `(tactic| first
  | ((with_reducible show (_ : Int) < _); omega)
  | ((with_reducible show (_ : Int) ≤ _); omega)
  | ((with_reducible show (_ : Nat) < _); omega)
  | ((with_reducible show (_ : Nat) ≤ _); omega)
  | exact rfl
  | assumption
  | omega
  | kbo_bools
  | kct_strs
  | exact Nat.le_of_ble_eq_true rfl
  | exact Evl.sz_of (Nat.le_of_ble_eq_true rfl)
  | exact Evl.sz_lt (Nat.le_of_ble_eq_true rfl)
  | kd_p1
  | exact ⟨_, rfl⟩
  | decide
  | (dsimp only; omega)
  | (dsimp only; decide)
  | (simp only [List.length_map, List.length_take, List.length_append, List.length_cons, List.length_nil, List.length_drop]; omega)
  | (refine ⟨?_, ?_⟩ <;> (dsimp only; omega))
  | (refine ⟨?_, ?_⟩ <;> omega)
  | (refine ⟨?_, ?_, ?_⟩ <;> omega)
  | (refine ⟨?_, ?_, ?_, ?_⟩ <;> omega)
  | (show CPow _ _; refine ⟨?_, ?_, ?_⟩ <;> first | omega | decide | (dsimp only; omega))
  | (show CDivN _ _; refine ⟨?_, ?_⟩ <;> first | omega | decide | (dsimp only; omega))
  | (show CMul _ _; refine Or.inl ?_; refine ⟨?_, ?_⟩ <;> first | omega | decide | (dsimp only; omega))
  | (show CMul _ _; refine Or.inr ?_; refine ⟨?_, ?_⟩ <;> first | omega | decide | (dsimp only; omega))
  | (refine Or.inl (Exists.intro ?x1 (And.intro ?x2 ?x3)); (case x2 => kbo_bools); (case x3 => rfl))
  | (refine Or.inr (Exists.intro ?x1 (And.intro ?x2 ?x3)); (case x2 => kbo_bools); (case x3 => rfl))
  | (refine Or.inl ?_; kbo_bools)
  | (refine Or.inr ?_; kbo_bools)
  | (refine Or.inl (And.intro rfl (Exists.intro ?x1 ?x2)); (case x2 => kbo_bools))
  | (refine Exists.intro ?x1 ?x2; (case x2 => kbo_bools))
  | (refine Evl.sz_of ?_; (try simp only [List.length_map, List.length_take, List.length_append, List.length_cons, List.length_nil, List.length_drop]); omega)
  | (refine Evl.sz_lt ?_; (try simp only [List.length_map, List.length_take, List.length_append, List.length_cons, List.length_nil, List.length_drop]); omega)
  | (refine And.intro ?x1 ?x2; (case x2 => rfl); (case x1 => first | assumption | (refine Evl.sz_of ?_; omega)))
  | (refine And.intro ?x1 ?x2; (case x1 => rfl); (case x2 => rfl)))
local macro_rules | `(tactic| kba_ints) => `(tactic| (
  (fail_if_success (refine Exists.intro (fun (_ _ : Nat) (_ : L2.St) (_ : Hp) => True) ?_));
  (fail_if_success (refine Exists.intro (fun (_ _ : Nat) (_ : Hp) => True) ?_));
  (fail_if_success (refine Exists.intro (fun (_ : Nat) (_ : L2.St) (_ : Hp) => True) ?_));
  (fail_if_success (refine Exists.intro (fun (_ : L2.St) (_ : Hp) => True) ?_));
  (first
  | (refine And.intro ?c1 ?c2; (case c1 => got_up))
  | (refine Or.inl (And.intro ?c1 ?c2); (case c1 => kbo_bools))
  | (refine Or.inr (And.intro ?c1 ?c2); (case c1 => kbo_bools))
  | (refine Exists.intro ?w1 ?w2; rotate_left)
  | intro _
  | (refine iteT ?_)
  | (refine iteF ?_))))
local macro_rules | `(tactic| walk_at "go") => `(tactic| (repeat kba_ints))
section
variable {P : Program} {w : World} {K : PySem.W.Frag} {mg : Str → Option Value} {base : Heap}
/-! ### _law_content -/
@[irreducible] def spContent (K : PySem.W.Frag) : Sp := fun vs H Q _ => ∃ (Hs : Hp) (h c : Addr) (ns : List Int) (n : Nat), vs = [.ref h] ∧ Hand Hs H h c ns n ∧ n < 10000000000 ∧
  ∀ (r : Int) (H' : Hp), 0 ≤ r → r ≤ 1000000000 → Hand Hs H' h c ns (n + 3) → Q (.int r) H'
theorem use_content {K : PySem.W.Frag} {Hs H : Hp} {h c : Addr} {ns : List Int} {n : Nat} {Q : VK} {E : XK} (d : Hand Hs H h c ns n) (hn : n < 10000000000)
    (k : ∀ (r : Int) (H' : Hp), 0 ≤ r → r ≤ 1000000000 → Hand Hs H' h c ns (n + 3) → Q (.int r) H') : spContent K [.ref h] H Q E := by
  unfold spContent
  exact ⟨Hs, h, c, ns, n, rfl, d, hn, k⟩
theorem ok__law_content {f : Addr} {fd : FuncData} (T : Txt w K mg) (F : FnP K "_law_content" "_law_content" s__law_content f fd) : FnOk P w K mg base CX0 2 f fd ["_law_hand_here"] (spContent K) := by
  refine F.ok sc__law_content (fun vs H Q E h => ?_) (fun cdv A outer s H vs Q E hr h => ?_)
  · unfold spContent at h
    obtain ⟨Hs, h, c, ns, n, rfl, _⟩ := h
    rfl
  · unfold spContent at h
    obtain ⟨Hs, h, c, ns, n, rfl, d, hn, k⟩ := h
    refine ⟨_, (PSs.nox (pss_cons (ps_set (i := 1) sc__law_content.nd rfl (Or.inl rfl) (pe_call (ok__law_draw T T.F__law_draw) (hr.mono (by decide)) rfl T.g__law_draw T.F__law_draw.kp (bd__law_draw T.F__law_draw) .nil pass0 (pa_cons (pv 0) (pa_cons pe_int pa_nil))))
      (pss_cons (ps_if (pt_cmpR op_eq (pv 1) pe_int (nomark _))
      (pss_one (ps_ret (pe_call (ok__law_draw T T.F__law_draw) (hr.mono (by decide)) rfl T.g__law_draw T.F__law_draw.kp (bd__law_draw T.F__law_draw) .nil pass0 (pa_cons (pv 0) (pa_cons pe_int pa_nil)))))
      pss_nil)
      (pss_cons (ps_if (pt_cmpR op_eq (pv 1) pe_int (nomark _))
      (pss_one (ps_ret (pe_op op_sub (pe_op op_pow pe_int pe_int) (pe_call (ok__law_draw T T.F__law_draw) (hr.mono (by decide)) rfl T.g__law_draw T.F__law_draw.kp (bd__law_draw T.F__law_draw) .nil pass0 (pa_cons (pv 0) (pa_cons pe_int pa_nil))))))
      pss_nil)
      (pss_cons (ps_if (pt_cmpR op_eq (pv 1) pe_int (nomark _))
      (pss_one (ps_ret (pe_call (ok__law_draw T T.F__law_draw) (hr.mono (by decide)) rfl T.g__law_draw T.F__law_draw.kp (bd__law_draw T.F__law_draw) .nil pass0 (pa_cons (pv 0) (pa_cons pe_int pa_nil)))))
      pss_nil)
      (pss_one (ps_ret (pe_op op_mod (pe_op op_add (pe_op op_mul (pe_call (ok__law_draw T T.F__law_draw) (hr.mono (by decide)) rfl T.g__law_draw T.F__law_draw.kp (bd__law_draw T.F__law_draw) .nil pass0 (pa_cons (pv 0) (pa_cons pe_int pa_nil))) pe_int) (pe_call (ok__law_draw T T.F__law_draw) (hr.mono (by decide)) rfl T.g__law_draw T.F__law_draw.kp (bd__law_draw T.F__law_draw) .nil pass0 (pa_cons (pv 0) (pa_cons pe_int pa_nil)))) (pe_op op_add (pe_op op_pow pe_int pe_int) pe_int))))))))), ?_⟩
    walk_at "go"
    refine use_draw d (by omega) (by decide) (by decide) fun r H1 r0 r1 d1 => ?_
    walk_at "go"
    refine iteD (fun q => ?_) (fun q => ?_)
    · walk_at "go"
      refine use_draw d1 (by omega) (by decide) (by decide) fun r2 H2 a b d2 => ?_
      exact k r2 H2 a (by omega) (d2.le (by omega))
    · walk_at "go"
      refine iteD (fun q => ?_) (fun q => ?_)
      · walk_at "go"
        refine use_draw d1 (by omega) (by decide) (by decide) fun r2 H2 a b d2 => ?_
        walk_at "go"
        have e9 : (10 : Int) ^ Int.toNat 9 = 1000000000 := rfl
        refine k _ H2 ?_ ?_ (d2.le (by omega)) <;> omega
      · walk_at "go"
        refine iteD (fun q => ?_) (fun q => ?_)
        · walk_at "go"
          refine use_draw d1 (by omega) (by decide) (by decide) fun r2 H2 a b d2 => ?_
          exact k r2 H2 a (by omega) (d2.le (by omega))
        · walk_at "go"
          refine use_draw d1 (by omega) (by decide) (by decide) fun r2 H2 a b d2 => ?_
          walk_at "go"
          refine use_draw d2 (by omega) (by decide) (by decide) fun r3 H3 a3 b3 d3 => ?_
          walk_at "go"
          refine k _ H3 ?_ ?_ (d3.le (by omega))
          · exact Int.emod_nonneg _ (by decide)
          · exact Int.le_of_lt_add_one (Int.emod_lt_of_pos (r2 * 10001 + r3) (show (0 : Int) < 10 ^ Int.toNat 9 + 1 by decide))
/-! ### _law_cells -/
@[irreducible] def spCells (K : PySem.W.Frag) : Sp := fun vs H Q _ => ∃ (Hs : Hp) (h c : Addr) (ns : List Int) (n : Nat) (m : Int), vs = [.ref h, .int m] ∧ Hand Hs H h c ns n ∧ n < 1000000000 ∧ 1 ≤ m ∧ m ≤ 1000 ∧
  ∀ (cs : List Int) (D : Addr) (H' : Hp), 1 ≤ cs.length → (cs.length : Int) ≤ m → (∀ x ∈ cs, 0 ≤ x ∧ x ≤ 1000000000) → Hand (upd Hs D (.lst (cs.map V.int))) H' h c ns (n + 5000) → Hs D = none → Q (.ref D) H'
theorem use_cells {K : PySem.W.Frag} {Hs H : Hp} {h c : Addr} {ns : List Int} {n : Nat} {m : Int} {Q : VK} {E : XK} (d : Hand Hs H h c ns n) (hn : n < 1000000000) (m0 : 1 ≤ m) (m1 : m ≤ 1000)
    (k : ∀ (cs : List Int) (D : Addr) (H' : Hp), 1 ≤ cs.length → (cs.length : Int) ≤ m → (∀ x ∈ cs, 0 ≤ x ∧ x ≤ 1000000000) → Hand (upd Hs D (.lst (cs.map V.int))) H' h c ns (n + 5000) → Hs D = none → Q (.ref D) H') : spCells K [.ref h, .int m] H Q E := by
  unfold spCells
  exact ⟨Hs, h, c, ns, n, m, rfl, d, hn, m0, m1, k⟩
theorem ok__law_cells {f : Addr} {fd : FuncData} (T : Txt w K mg) (F : FnP K "_law_cells" "_law_cells" s__law_cells f fd) : FnOk P w K mg base CX0 3 f fd ["_law_hand_here", "_law_most"] (spCells K) := by
  refine F.ok sc__law_cells (fun vs H Q E h => ?_) (fun cdv A outer s H vs Q E hr h => ?_)
  · unfold spCells at h
    obtain ⟨Hs, h, c, ns, n, m, rfl, _⟩ := h
    rfl
  · unfold spCells at h
    obtain ⟨Hs, h, c, ns, n, m, rfl, d, hn, m0, m1, k⟩ := h
    refine ⟨_, (PSs.nox (pss_cons (ps_set (i := 2) sc__law_cells.nd rfl (Or.inl rfl) (pe_call (ok__law_draw T T.F__law_draw) (hr.mono (by decide)) rfl T.g__law_draw T.F__law_draw.kp (bd__law_draw T.F__law_draw) .nil pass0 (pa_cons (pv 0) (pa_cons pe_int pa_nil))))
      (pss_cons (ps_set (i := 3) sc__law_cells.nd rfl (Or.inl rfl) (pe_op op_add pe_int (pe_call (ok__law_draw T T.F__law_draw) (hr.mono (by decide)) rfl T.g__law_draw T.F__law_draw.kp (bd__law_draw T.F__law_draw) .nil pass0 (pa_cons (pv 0) (pa_cons (pv 1) pa_nil)))))
      (pss_cons (ps_if (pt_cmpR op_eq (pv 2) pe_int (nomark _))
      (pss_one (ps_ret (pe_lc (own := [("_law_k", 4)]) (g := (gName 4)) (tt := tYes) rfl sc__law_cells.nd (pi_range1 (by rfl) T.z_range (pa_cons (pv 3) pa_nil)) (blkOk_by (own := [("_law_k", 4)]) (N := ["_law_hand_here", "_law_most", "_law_way", "_law_many", "_law_k"]) (sc := defScope s__law_cells) (by decide +kernel)) (fun _ _ _ _ _ => (pg_name (i := 4) sc__law_cells.nd rfl (Or.inl rfl))) (fun _ _ _ _ _ => pts_nil) (fun _ _ _ _ _ => (pe_call (ok__law_draw T T.F__law_draw) (hr.mono (by decide)) rfl T.g__law_draw T.F__law_draw.kp (bd__law_draw T.F__law_draw) .nil pass0 (pa_cons (pv 0) (pa_cons pe_int pa_nil)))))))
      pss_nil)
      (pss_cons (ps_if (pt_cmpR op_eq (pv 2) pe_int (nomark _))
      (pss_one (ps_ret (pe_lc (own := [("_law_k", 4)]) (g := (gName 4)) (tt := tYes) rfl sc__law_cells.nd (pi_range1 (by rfl) T.z_range (pa_cons (pv 3) pa_nil)) (blkOk_by (own := [("_law_k", 4)]) (N := ["_law_hand_here", "_law_most", "_law_way", "_law_many", "_law_k"]) (sc := defScope s__law_cells) (by decide +kernel)) (fun _ _ _ _ _ => (pg_name (i := 4) sc__law_cells.nd rfl (Or.inl rfl))) (fun _ _ _ _ _ => pts_nil) (fun _ _ _ _ _ => (pe_op op_add (pe_op op_mul pe_int (pv 4)) (pe_call (ok__law_draw T T.F__law_draw) (hr.mono (by decide)) rfl T.g__law_draw T.F__law_draw.kp (bd__law_draw T.F__law_draw) .nil pass0 (pa_cons (pv 0) (pa_cons pe_int pa_nil))))))))
      pss_nil)
      (pss_one (ps_ret (pe_lc (own := [("_law_k", 4)]) (g := (gName 4)) (tt := tYes) rfl sc__law_cells.nd (pi_range1 (by rfl) T.z_range (pa_cons (pv 3) pa_nil)) (blkOk_by (own := [("_law_k", 4)]) (N := ["_law_hand_here", "_law_most", "_law_way", "_law_many", "_law_k"]) (sc := defScope s__law_cells) (by decide +kernel)) (fun _ _ _ _ _ => (pg_name (i := 4) sc__law_cells.nd rfl (Or.inl rfl))) (fun _ _ _ _ _ => pts_nil) (fun _ _ _ _ _ => (pe_call (ok__law_content T T.F__law_content) (hr.mono (by decide)) rfl T.g__law_content T.F__law_content.kp (bd__law_content T.F__law_content) .nil pass0 (pa_cons (pv 0) pa_nil))))))))))), ?_⟩
    walk_at "go"
    refine use_draw d (by omega) (by decide) (by decide) fun way H1 w0 w1 d1 => ?_
    walk_at "go"
    refine use_draw d1 (by omega) (by omega) (by omega) fun r H2 r0 r1 d2 => ?_
    have fin : ∀ (D : Addr) (ys : List V) (q : Nat) (H' : Hp), H2 D = none → ys.length = (1 + r).toNat → (∀ (i : Nat) (y : V), ys[i]? = some y → ∃ z, y = V.int z ∧ (0 ≤ z ∧ z ≤ 1000000000)) → Hand Hs H' h c ns (n + 1 + 1 + q) → q ≤ 4000 → H' D = some (.lst ys) → Q (.ref D) H' := fun D ys q H' hD hl hys d' hq hD' => by
      obtain ⟨cs, rfl, hcs⟩ := of_all hys
      rw [List.length_map] at hl
      have hDs : Hs D = none := fresh_back d2.ex hD
      obtain ⟨_, _, _, _, eh, _⟩ := d2.it
      exact k cs D H' (by omega) (by omega) hcs ((d'.grow hD' (ne_of_none eh hD).symm).le (by omega)) hDs
    walk_at "go"
    refine iteD (fun q => ?_) (fun q => ?_)
    · walk_at "go"
      rename_i D hD
      refine lc_handR (lo := 0) 1 d2 (fun _ y => ∃ z, y = V.int z ∧ (0 ≤ z ∧ z ≤ 1000000000)) hD (fun _ => rfl) (by omega) ?_ ?_
      · intro i Hs' H' Q2 hi e d' k2
        walk_at "go"
        refine use_draw d' (by omega) (by decide) (by decide) fun r2 H3 a b d3 => ?_
        exact k2 _ H3 ⟨r2, rfl, a, by omega⟩ (d3.le (by omega))
      · intro ys H' hl hys d' hD'
        exact fin D ys _ H' hD hl hys d' (by omega) hD'
    · walk_at "go"
      refine iteD (fun q2 => ?_) (fun q2 => ?_)
      · walk_at "go"
        rename_i D hD
        refine lc_handR (lo := 0) 1 d2 (fun _ y => ∃ z, y = V.int z ∧ (0 ≤ z ∧ z ≤ 1000000000)) hD (fun _ => rfl) (by omega) ?_ ?_
        · intro i Hs' H' Q2 hi e d' k2
          walk_at "go"
          refine use_draw d' (by omega) (by decide) (by decide) fun r2 H3 a b d3 => ?_
          walk_at "go"
          exact k2 _ H3 ⟨_, rfl, by omega, by omega⟩ (d3.le (by omega))
        · intro ys H' hl hys d' hD'
          exact fin D ys _ H' hD hl hys d' (by omega) hD'
      · walk_at "go"
        rename_i D hD
        refine lc_handR (lo := 0) 3 d2 (fun _ y => ∃ z, y = V.int z ∧ (0 ≤ z ∧ z ≤ 1000000000)) hD (fun _ => rfl) (by omega) ?_ ?_
        · intro i Hs' H' Q2 hi e d' k2
          walk_at "go"
          refine use_content d' (by omega) fun r2 H3 a b d3 => ?_
          exact k2 _ H3 ⟨r2, rfl, a, b⟩ (d3.le (by omega))
        · intro ys H' hl hys d' hD'
          exact fin D ys _ H' hD hl hys d' (by omega) hD'
end

end HB
namespace HB
open PySem PySem.Spec PyProof.Rows L2 Evl
local macro_rules | `(tactic| k_memK) => `(tactic| first
  | assumption
  | (refine Ne.symm ?_; assumption)
  | (refine @ne_of_none ?nh _ _ ?no ?n1 ?n2; (case n2 => assumption); (case n1 => kct_strs))
  | (refine Ne.symm (@ne_of_none ?nh _ _ ?no ?n1 ?n2); (case n2 => assumption); (case n1 => kct_strs)))
local macro_rules | `(tactic| kct_strs) => `(tactic| first
  | assumption
  | exact upd_same
  | (refine Eq.trans (upd_ne ?l1) ?l2; (case l1 => k_memK); (case l2 => kct_strs))
  | (refine (by assumption : Evl.Ex _ _) _ _ ?_; kct_strs))
local macro_rules | `(tactic| kbo_bools) => `(tactic| first
  | assumption
  | (refine SqL.of ?_; kct_strs)
  | (refine SqT.of ?_; kct_strs)
  | (refine Evl.ex_l (by assumption) ?_; assumption)
  | (refine Evl.ex_t (by assumption) ?_; assumption)
  | (refine Evl.ex_l (Evl.Ex.new ?e1) ?e2; (case e1 => assumption); (case e2 => kbo_bools))
  | (refine Evl.ex_t (Evl.Ex.new ?e1) ?e2; (case e1 => assumption); (case e2 => kbo_bools))
  | exact Txt.t_BOXES (by assumption) _
  )
local macro_rules | `(tactic| kd_p1) => `(tactic| first
  | exact ClsV.ty _
  | exact ClsV.own _
  | (refine TyX.base ?t1; first | exact TyOf.int _ | exact TyOf.str _ | exact TyOf.bl _ | exact TyOf.non | exact TyOf.flt _ | (refine @TyOf.lst _ _ _ ?t3 ?t2; (case t2 => kct_strs)) | (refine @TyOf.tup _ _ _ ?t3 ?t2; (case t2 => kct_strs)) | (refine @TyOf.dK _ _ _ ?t3 ?t2; (case t2 => kct_strs)))
  | exact kit_NoneType_bool | exact kit_NoneType_int | exact kit_NoneType_list | exact kit_NoneType_str | exact kit_NoneType_tuple | exact kit_bool_bool | exact kit_bool_int | exact kit_bool_list | exact kit_bool_str | exact kit_bool_tuple | exact kit_dict_bool | exact kit_dict_int | exact kit_dict_list | exact kit_dict_str | exact kit_dict_tuple | exact kit_float_bool | exact kit_float_int | exact kit_float_list | exact kit_float_str | exact kit_float_tuple | exact kit_int_bool | exact kit_int_int | exact kit_int_list | exact kit_int_str | exact kit_int_tuple | exact kit_list_bool | exact kit_list_int | exact kit_list_list | exact kit_list_str | exact kit_list_tuple | exact kit_str_bool | exact kit_str_int | exact kit_str_list | exact kit_str_str | exact kit_str_tuple | exact kit_tuple_bool | exact kit_tuple_int | exact kit_tuple_list | exact kit_tuple_str | exact kit_tuple_tuple)
local macro_rules | `(tactic| got_up) => `(tactic| first
  | ((with_reducible show (_ : Int) < _); omega)
  | ((with_reducible show (_ : Int) ≤ _); omega)
  | ((with_reducible show (_ : Nat) < _); omega)
  | ((with_reducible show (_ : Nat) ≤ _); omega)
  | exact rfl
  | assumption
  | omega
  | kbo_bools
  | kct_strs
  | exact Nat.le_of_ble_eq_true rfl
  | exact Evl.sz_of (Nat.le_of_ble_eq_true rfl)
  | exact Evl.sz_lt (Nat.le_of_ble_eq_true rfl)
  | kd_p1
  | exact ⟨_, rfl⟩
  | decide
  | (dsimp only; omega)
  | (dsimp only; decide)
  | (simp only [List.length_map, List.length_take, List.length_append, List.length_cons, List.length_nil, List.length_drop]; omega)
  | (refine ⟨?_, ?_⟩ <;> (dsimp only; omega))
  | (refine ⟨?_, ?_⟩ <;> omega)
  | (refine ⟨?_, ?_, ?_⟩ <;> omega)
  | (refine ⟨?_, ?_, ?_, ?_⟩ <;> omega)
  | (show CPow _ _; refine ⟨?_, ?_, ?_⟩ <;> first | omega | decide | (dsimp only; omega))
  | (show CDivN _ _; refine ⟨?_, ?_⟩ <;> first | omega | decide | (dsimp only; omega))
  | (show CMul _ _; refine Or.inl ?_; refine ⟨?_, ?_⟩ <;> first | omega | decide | (dsimp only; omega))
  | (show CMul _ _; refine Or.inr ?_; refine ⟨?_, ?_⟩ <;> first | omega | decide | (dsimp only; omega))
  | (refine Or.inl (Exists.intro ?x1 (And.intro ?x2 ?x3)); (case x2 => kbo_bools); (case x3 => rfl))
  | (refine Or.inr (Exists.intro ?x1 (And.intro ?x2 ?x3)); (case x2 => kbo_bools); (case x3 => rfl))
  | (refine Or.inl ?_; kbo_bools)
  | (refine Or.inr ?_; kbo_bools)
  | (refine Or.inl (And.intro rfl (Exists.intro ?x1 ?x2)); (case x2 => kbo_bools))
  | (refine Exists.intro ?x1 ?x2; (case x2 => kbo_bools))
  | (refine Evl.sz_of ?_; (try simp only [List.length_map, List.length_take, List.length_append, List.length_cons, List.length_nil, List.length_drop]); omega)
  | (refine Evl.sz_lt ?_; (try simp only [List.length_map, List.length_take, List.length_append, List.length_cons, List.length_nil, List.length_drop]); omega)
  | (refine And.intro ?x1 ?x2; (case x2 => rfl); (case x1 => first | assumption | (refine Evl.sz_of ?_; omega)))
  | (refine And.intro ?x1 ?x2; (case x1 => rfl); (case x2 => rfl)))
local macro_rules | `(tactic| kba_ints) => `(tactic| (
  (fail_if_success (refine Exists.intro (fun (_ _ : Nat) (_ : L2.St) (_ : Hp) => True) ?_));
  (fail_if_success (refine Exists.intro (fun (_ _ : Nat) (_ : Hp) => True) ?_));
  (fail_if_success (refine Exists.intro (fun (_ : Nat) (_ : L2.St) (_ : Hp) => True) ?_));
  (fail_if_success (refine Exists.intro (fun (_ : L2.St) (_ : Hp) => True) ?_));
  (first
  | (refine And.intro ?c1 ?c2; (case c1 => got_up))
  | (refine Or.inl (And.intro ?c1 ?c2); (case c1 => kbo_bools))
  | (refine Or.inr (And.intro ?c1 ?c2); (case c1 => kbo_bools))
  | (refine Exists.intro ?w1 ?w2; rotate_left)
  | intro _
  | (refine iteT ?_)
  | (refine iteF ?_))))
local macro_rules | `(tactic| walk_at "go") => `(tactic| (repeat kba_ints))
section
variable {P : Program} {w : World} {K : PySem.W.Frag} {mg : Str → Option Value} {base : Heap}
/-! ### _law_leaves -/
@[irreducible] def spLeaves (K : PySem.W.Frag) : Sp := fun vs H Q _ => ∃ (Hs : Hp) (h c : Addr) (ns : List Int) (n m : Nat), vs = [.ref h, .int m] ∧ Hand Hs H h c ns n ∧ n < 1000000000 ∧ 1 ≤ m ∧ m ≤ 1000 ∧
  ∀ (lv : List Str) (D : Addr) (H' : Hp), lv.length = m → (∀ x ∈ lv, isLeaf x) → Hand (upd Hs D (.lst (lv.map V.str))) H' h c ns (n + 13) → Hs D = none → Q (.ref D) H'
theorem use_leaves {K : PySem.W.Frag} {Hs H : Hp} {h c : Addr} {ns : List Int} {n m : Nat} {Q : VK} {E : XK} (d : Hand Hs H h c ns n) (hn : n < 1000000000) (m0 : 1 ≤ m) (m1 : m ≤ 1000)
    (k : ∀ (lv : List Str) (D : Addr) (H' : Hp), lv.length = m → (∀ x ∈ lv, isLeaf x) → Hand (upd Hs D (.lst (lv.map V.str))) H' h c ns (n + 13) → Hs D = none → Q (.ref D) H') : spLeaves K [.ref h, .int m] H Q E := by
  unfold spLeaves
  exact ⟨Hs, h, c, ns, n, m, rfl, d, hn, m0, m1, k⟩
theorem ok__law_leaves {f : Addr} {fd : FuncData} (T : Txt w K mg) (F : FnP K "_law_leaves" "_law_leaves" s__law_leaves f fd) : FnOk P w K mg base CX0 2 f fd ["_law_hand_here", "_law_many"] (spLeaves K) := by
  refine F.ok sc__law_leaves (fun vs H Q E h => ?_) (fun cdv A outer s H vs Q E hr h => ?_)
  · unfold spLeaves at h
    obtain ⟨Hs, h, c, ns, n, m, rfl, _⟩ := h
    rfl
  · unfold spLeaves at h
    obtain ⟨Hs, h, c, ns, n, m, rfl, d, hn, m0, m1, k⟩ := h
    refine ⟨_, (PSs.nox (pss_cons (ps_set (i := 2) sc__law_leaves.nd rfl (Or.inl rfl) (pe_op op_rep (pe_lst (pa_cons pe_str pa_nil)) (pv 1)))
      (pss_cons (ps_for PassesOwn.never rfl (pi_range1 (by rfl) T.z_range (pa_cons (pe_ix ix_list (pe_lst (pa_cons pe_int (pa_cons pe_int (pa_cons pe_int (pa_cons pe_int (pa_cons pe_int pa_nil)))))) (pe_call (ok__law_draw T T.F__law_draw) (hr.mono (by decide)) rfl T.g__law_draw T.F__law_draw.kp (bd__law_draw T.F__law_draw) .nil pass0 (pa_cons (pv 0) (pa_cons pe_int pa_nil))) (fun _ _ => rfl)) pa_nil)) (pg_name (i := 3) sc__law_leaves.nd rfl (Or.inl rfl))
      (pss_cons (ps_set (i := 4) sc__law_leaves.nd rfl (Or.inl rfl) (pe_ix ix_list (pe_lst (pa_cons pe_str (pa_cons pe_str (pa_cons pe_str (pa_cons pe_str pa_nil))))) (pe_call (ok__law_draw T T.F__law_draw) (hr.mono (by decide)) rfl T.g__law_draw T.F__law_draw.kp (bd__law_draw T.F__law_draw) .nil pass0 (pa_cons (pv 0) (pa_cons pe_int pa_nil))) (fun _ _ => rfl)))
      (pss_cons (ps_set (i := 5) sc__law_leaves.nd rfl (Or.inl rfl) (pe_call (ok__law_draw T T.F__law_draw) (hr.mono (by decide)) rfl T.g__law_draw T.F__law_draw.kp (bd__law_draw T.F__law_draw) .nil pass0 (pa_cons (pv 0) (pa_cons (pv 1) pa_nil))))
      (pss_one (ps_for PassesOwn.never rfl (pi_range2 (by rfl) T.z_range (pa_cons (pv 5) (pa_cons (pe_op op_add (pv 5) (pe_call (ok__law_draw T T.F__law_draw) (hr.mono (by decide)) rfl T.g__law_draw T.F__law_draw.kp (bd__law_draw T.F__law_draw) .nil pass0 (pa_cons (pv 0) (pa_cons (pe_op op_add (pe_op op_sub (pv 1) (pv 5)) pe_int) pa_nil)))) pa_nil))) (pg_name (i := 6) sc__law_leaves.nd rfl (Or.inl rfl))
      (pss_one (ps_asg (pv 4) (pg_sub (pv 2) (pv 6) set_list))))))))
      (pss_one (ps_ret (pv 2)))))), ?_⟩
    have em : (List.replicate ((m : Nat) : Int).toNat [V.str "open"]).flatten = (List.replicate m ("open" : Str)).map V.str := by rw [Int.toNat_natCast, rep_one, List.map_replicate]
    walk_at "go"
    rename_i p2 hp2 l hl p0 hp0
    rw [em] at hp0 ⊢
    have d3 := ((d.laid (o := .lst [V.str "open"]) hp2).laid (o := .lst ((List.replicate m ("open" : Str)).map V.str)) hl).laid (o := .lst [V.int 0, V.int 0, V.int 1, V.int 2, V.int 4]) hp0
    have l0 : Hs l = none := fresh_back d.ex (by by_cases e : l = p2; · rw [e, upd_same] at hl; cases hl
                                                 · rw [upd_ne e] at hl; exact hl)
    have hnl : h ≠ l := d.old (by by_cases e : l = p2; · rw [e, upd_same] at hl; cases hl
                                  · rw [upd_ne e] at hl; exact hl)
    have nlp : l ≠ p0 := fun e => by rw [e, upd_same] at hp0; cases hp0
    have np2 : p2 ≠ l := fun e => by rw [e, upd_same] at hl; cases hl
    refine use_draw d3 (by omega) (by decide) (by decide) fun r H1 r0 r1 d4 => ?_
    obtain ⟨y, hy, hym⟩ := atI_mem (xs := [V.int 0, V.int 0, V.int 1, V.int 2, V.int 4]) r0 r1
    have hy2 : ∃ t : Nat, y = V.int t ∧ t ≤ 4 := by
      simp only [List.mem_cons, List.not_mem_nil, or_false] at hym
      rcases hym with rfl | rfl | rfl | rfl | rfl
      · exact ⟨0, rfl, by omega⟩
      · exact ⟨0, rfl, by omega⟩
      · exact ⟨1, rfl, by omega⟩
      · exact ⟨2, rfl, by omega⟩
      · exact ⟨4, rfl, by omega⟩
    obtain ⟨t, rfl, ht⟩ := hy2
    have hp01 : H1 p0 = some (.lst [V.int 0, V.int 0, V.int 1, V.int 2, V.int 4]) := d4.ex _ _ upd_same
    have hl1 : H1 l = some (.lst ((List.replicate m ("open" : Str)).map V.str)) := d4.ex _ _ (by rw [upd_ne nlp, upd_same])
    have d5 : Hand Hs H1 h c ns (n + 1) := d4.less (Ex.trans (Ex.trans (Ex.new (fresh_back d.ex hp2)) (Ex.new (fresh_back (d.laid (o := .lst [V.str "open"]) hp2).ex hl))) (Ex.new (fresh_back ((d.laid (o := .lst [V.str "open"]) hp2).laid (o := .lst ((List.replicate m ("open" : Str)).map V.str)) hl).ex hp0))) d.cl
    walk_at "go"
    refine for_range (lo := 0) (fun i σ H' => ∃ v3 v4 v5 v6, σ = [some (.ref h), some (.int m), some (.ref l), v3, v4, v5, v6] ∧ Hand Hs H' h c ns (n + 1 + 3 * i) ∧ ∃ lv : List Str, H' l = some (.lst (lv.map V.str)) ∧ lv.length = m ∧ ∀ x ∈ lv, isLeaf x) ?_ ?_ ?_
    · refine ⟨none, none, none, none, rfl, d5, List.replicate m ("open" : Str), hl1, List.length_replicate, fun x hx => ?_⟩
      exact .inl (List.eq_of_mem_replicate hx)
    · rintro i σ H' hi ⟨v3, v4, v5, v6, rfl, d', lv, hl', hlen, hlv⟩
      have hi4 : i < 4 := by omega
      walk_at "go"
      rename_i p hp
      have dg : Hand (upd Hs l (.lst (lv.map V.str))) H' h c ns (n + 1 + 3 * i) := d'.grow hl' (Ne.symm hnl)
      have nlp' : l ≠ p := ne_of_none hl' hp
      refine use_draw (dg.laid (o := .lst [V.str "look", V.str "shut", V.str "look", V.str "open"]) hp) (by omega) (by decide) (by decide) fun r2 H2 a2 b2 d6 => ?_
      obtain ⟨y, hy, hym⟩ := atI_mem (xs := [V.str "look", V.str "shut", V.str "look", V.str "open"]) a2 b2
      obtain ⟨wd, rfl, hwd⟩ : ∃ wd, y = V.str wd ∧ isLeaf wd := by
        simp only [List.mem_cons, List.not_mem_nil, or_false] at hym
        rcases hym with rfl | rfl | rfl | rfl
        · exact ⟨_, rfl, .inr (.inl rfl)⟩
        · exact ⟨_, rfl, .inr (.inr rfl)⟩
        · exact ⟨_, rfl, .inr (.inl rfl)⟩
        · exact ⟨_, rfl, .inl rfl⟩
      have hp2' : H2 p = some (.lst [V.str "look", V.str "shut", V.str "look", V.str "open"]) := d6.ex _ _ upd_same
      walk_at "go"
      refine use_draw d6 (by omega) (by omega) (by omega) fun low H3 a3 b3 d7 => ?_
      walk_at "go"
      refine use_draw d7 (by omega) (by omega) (by omega) fun far H4 a4 b4 d8 => ?_
      have hl4 : H4 l = some (.lst (lv.map V.str)) := d8.ex _ _ (by rw [upd_ne nlp', upd_same])
      have d9 : Hand Hs H4 h c ns (n + 1 + 3 * (i + 1)) := (d8.less (Ex.trans (Ex.new l0) (Ex.new (fresh_back dg.ex hp))) d.cl).le (by omega)
      walk_at "go"
      refine for_range (lo := low) (fun j σ H' => ∃ v6, σ = [some (.ref h), some (.int m), some (.ref l), some (.int (0 + (i : Int))), some (.str wd), some (.int low), v6] ∧ Hand Hs H' h c ns (n + 1 + 3 * (i + 1)) ∧ ∃ lv : List Str, H' l = some (.lst (lv.map V.str)) ∧ lv.length = m ∧ ∀ x ∈ lv, isLeaf x) ?_ ?_ ?_
      · exact ⟨v6, rfl, d9, lv, hl4, hlen, hlv⟩
      · rintro j σ H5 hj ⟨v6, rfl, d10, lv2, hl5, hlen2, hlv2⟩
        have hx : ixN (lv2.map V.str).length (low + (j : Int)) = some (low + (j : Int)).toNat := ixN_in (by omega) (by rw [List.length_map]; omega)
        walk_at "go"
        refine And.intro (d10.own l0 hnl) ⟨lv2.set (low + (j : Int)).toNat wd, ?_, by rw [List.length_set]; exact hlen2, mem_of_set hlv2 hwd⟩
        rw [upd_same, set_map]
      · rintro σ H5 ⟨v6, rfl, d10, lv2, hl5, hlen2, hlv2⟩
        exact ⟨_, _, _, _, rfl, d10, lv2, hl5, hlen2, hlv2⟩
    · rintro σ H' ⟨v3, v4, v5, v6, rfl, d', lv, hl', hlen, hlv⟩
      walk_at "go"
      exact k lv l H' hlen hlv ((d'.grow hl' (Ne.symm hnl)).le (by omega)) l0
end

end HB
namespace HB
open PySem PySem.Spec PyProof.Rows L2 Evl
theorem huOf {k : Nat} {A : Around} (hr : Room k A) : A.units + 1 < cLine := by
  have := hr.units
  omega
/-! ### data, for == and != -/
theorem lay_ints : ∀ ns : List Int, PyData.canLayAll0 (ns.map PyData.int) = true
  | [] => by simp [PyData.canLayAll0]
  | n :: r => by simp [PyData.canLayAll0, PyData.canLay0, lay_ints r]
theorem deep_ints : ∀ ns : List Int, PyData.depthAll (ns.map PyData.int) = 0
  | [] => by simp [PyData.depthAll]
  | n :: r => by simp [PyData.depthAll, PyData.depth, deep_ints r]
theorem lay_strs : ∀ {xs : List Str}, (∀ x ∈ xs, PyData.strOk x = true) → PyData.canLayAll0 (xs.map PyData.str) = true
  | [], _ => by simp [PyData.canLayAll0]
  | x :: r, h => by simp [PyData.canLayAll0, PyData.canLay0, h x List.mem_cons_self, lay_strs fun y hy => h y (List.mem_cons_of_mem _ hy)]
theorem deep_strs : ∀ xs : List Str, PyData.depthAll (xs.map PyData.str) = 0
  | [] => by simp [PyData.depthAll]
  | x :: r => by simp [PyData.depthAll, PyData.depth, deep_strs r]
section
variable {K : PySem.W.Frag} {H : Hp} {a : Addr}
theorem dpa_ints : ∀ ns : List Int, DpAll K H (ns.map V.int) (ns.map PyData.int)
  | [] => .nil
  | n :: r => .cons (.int n) (dpa_ints r)
theorem dpa_strs : ∀ xs : List Str, DpAll K H (xs.map V.str) (xs.map PyData.str)
  | [] => .nil
  | x :: r => .cons (.str x) (dpa_strs r)
theorem dp_ints {ns : List Int} (h : SqL K H a (ns.map V.int)) : Dp K H (.ref a) (.list (ns.map PyData.int)) := .lst h (dpa_ints ns)
theorem dp_intsT {ns : List Int} (h : SqT K H a (ns.map V.int)) : Dp K H (.ref a) (.tuple (ns.map PyData.int)) := .tup h (dpa_ints ns)
theorem dp_strs {xs : List Str} (h : SqL K H a (xs.map V.str)) : Dp K H (.ref a) (.list (xs.map PyData.str)) := .lst h (dpa_strs xs)
end
theorem shaped_mk {d : PyData} (h1 : d.canLay0 = true) (h2 : d.depth ≤ 64) : SeqAt.shaped d = true := by
  show (d.canLay0 && decide (d.depth ≤ 64)) = true
  rw [h1, decide_eq_true h2]
  rfl
theorem eqv_of {d : PyData} (h : SeqAt.shaped d = true) : PyData.eqv d d = true := SeqAt.eqv_refl d (SeqAt.canLay_of_shaped h)
theorem leaf_strOk {x : Str} (h : isLeaf x) : PyData.strOk x = true := by
  rcases h with rfl | rfl | rfl <;> decide +kernel
/-- a state as data -/
def stD (row : Int) (nums cells : List Int) : PyData := .tuple [.int row, .tuple (nums.map PyData.int), .list (cells.map PyData.int)]
theorem stD_shaped (row : Int) (nums cells : List Int) : SeqAt.shaped (stD row nums cells) = true := by
  refine shaped_mk ?_ ?_
  · simp only [stD, PyData.canLay0, PyData.canLayAll0, lay_ints, Bool.and_self]
  · simp only [stD, PyData.depth, PyData.depthAll, deep_ints]
    decide
theorem lvD_shaped {lv : List Str} (h : ∀ x ∈ lv, isLeaf x) : SeqAt.shaped (.list (lv.map PyData.str)) = true := by
  refine shaped_mk ?_ ?_
  · simp only [PyData.canLay0, lay_strs fun x hx => leaf_strOk (h x hx)]
  · simp only [PyData.depth, deep_strs]
    decide
theorem bothD_shaped {lv : List Str} {row : Int} {nums cells : List Int} (h : ∀ x ∈ lv, isLeaf x) : SeqAt.shaped (.tuple [stD row nums cells, .list (lv.map PyData.str)]) = true := by
  refine shaped_mk ?_ ?_
  · simp only [stD, PyData.canLay0, PyData.canLayAll0, lay_ints, lay_strs fun x hx => leaf_strOk (h x hx), Bool.and_self]
  · simp only [stD, PyData.depth, PyData.depthAll, deep_ints, deep_strs]
    decide
theorem dp_st {K : PySem.W.Frag} {H : Hp} {q n c : Addr} {row : Int} {nums cells : List Int} (h1 : SqT K H q [.int row, .ref n, .ref c]) (h2 : SqT K H n (nums.map V.int)) (h3 : SqL K H c (cells.map V.int)) : Dp K H (.ref q) (stD row nums cells) :=
  .tup h1 (.cons (.int _) (.cons (dp_intsT h2) (.cons (dp_ints h3) .nil)))
theorem dp_both {K : PySem.W.Frag} {H : Hp} {t q n c l : Addr} {row : Int} {nums cells : List Int} {lv : List Str} (h0 : SqT K H t [.ref q, .ref l]) (h1 : SqT K H q [.int row, .ref n, .ref c]) (h2 : SqT K H n (nums.map V.int)) (h3 : SqL K H c (cells.map V.int)) (h4 : SqL K H l (lv.map V.str)) :
    Dp K H (.ref t) (.tuple [stD row nums cells, .list (lv.map PyData.str)]) := .tup h0 (.cons (dp_st h1 h2 h3) (.cons (dp_strs h4) .nil))
/-! ### a text that shows a state reads as that state -/
theorem sign1_leaf {x : Str} (h : isLeaf x) : ∃ c, sign1 x = ⟨#[c]⟩ ∧ signOf c = some x := by
  rcases h with rfl | rfl | rfl
  · exact ⟨111, by decide +kernel, by decide +kernel⟩
  · exact ⟨108, by decide +kernel, by decide +kernel⟩
  · exact ⟨115, by decide +kernel, by decide +kernel⟩
theorem signs_flat : ∀ {lv : List Str}, (∀ x ∈ lv, isLeaf x) → ∃ cs : List Nat, TL.tl (Txt.join "" (lv.map sign1)) = cs ∧ cs.length = lv.length ∧ leafNames cs = lv ∧ (∀ c ∈ cs, (signOf c).isSome = true) ∧ 32 ∉ cs := by
  intro lv h
  rw [tl_join0]
  induction lv with
  | nil => exact ⟨[], rfl, rfl, rfl, (fun c hc => by cases hc), (fun hc => by cases hc)⟩
  | cons x r ih =>
    obtain ⟨cs, e1, e2, e3, e4, e5⟩ := ih fun y hy => h y (List.mem_cons_of_mem _ hy)
    obtain ⟨c, hc1, hc2⟩ := sign1_leaf (h x List.mem_cons_self)
    refine ⟨c :: cs, ?_, by rw [List.length_cons, e2, List.length_cons], ?_, fun d hd => ?_, ?_⟩
    · rw [List.map_cons, List.map_cons, List.flatten_cons, e1, hc1]
      rfl
    · show (signOf c).getD "" :: leafNames cs = x :: r
      rw [e3, hc2]
      rfl
    · rcases List.mem_cons.mp hd with rfl | hd
      · rw [hc2]; rfl
      · exact e4 d hd
    · intro z
      rcases List.mem_cons.mp z with rfl | z
      · have : signOf 32 = none := by decide +kernel
        rw [this] at hc2
        cases hc2
      · exact e5 z
/-- what a state to be shown keeps -/
structure StOk (row : Int) (nums cells : List Int) (lv : List Str) : Prop where
  hrow : 0 ≤ row ∧ row ≤ 24
  numsL : nums.length = 6
  hnums : ∀ (i : Nat) (b : Str) (n : Int), boxNames[i]? = some b → nums[i]? = some n → fitsI b n = true ∧ -1000000000 ≤ n ∧ n ≤ 1000000000
  hcells : ∀ x ∈ cells, 0 ≤ x ∧ x ≤ 1000000000
  hlv : ∀ x ∈ lv, isLeaf x
  len : cells.length = lv.length
  some1 : 1 ≤ lv.length
  few : lv.length ≤ 60
theorem StOk.num {row : Int} {nums cells : List Int} {lv : List Str} (o : StOk row nums cells lv) : ∀ x ∈ nums, -1000000000 ≤ x ∧ x ≤ 1000000000 := fun x hx => by
  obtain ⟨i, hi, e⟩ := List.mem_iff_getElem.mp hx
  have h6 : i < boxNames.length := by rw [show boxNames.length = 6 from rfl, ← o.numsL]; exact hi
  exact (o.hnums i _ x (List.getElem?_eq_getElem h6) (by rw [List.getElem?_eq_getElem hi, e])).2
theorem split_show {row : Int} {nums cells : List Int} {lv : List Str} (hlv : ∀ x ∈ lv, isLeaf x) : Txt.split (showText row nums cells lv) " " = showWords row nums cells lv := by
  refine TL.split_join (s := 32) (S := []) (by decide +kernel) (by decide +kernel) (by unfold showWords; simp) fun p hp => ?_
  unfold showWords at hp
  rcases List.mem_cons.mp hp with rfl | hp
  · exact numT_free
  · rcases List.mem_append.mp hp with hp | hp
    · rcases List.mem_append.mp hp with hp | hp
      · obtain ⟨y, _, rfl⟩ := List.mem_map.mp hp
        exact numT_free
      · obtain rfl := List.mem_singleton.mp hp
        obtain ⟨cs, e1, _, _, _, e5⟩ := signs_flat hlv
        rw [e1]
        exact e5
    · obtain ⟨y, _, rfl⟩ := List.mem_map.mp hp
      exact numT_free
theorem showWords_get {row : Int} {nums cells : List Int} {lv : List Str} (h6 : nums.length = 6) : (showWords row nums cells lv)[0]? = some (numT row) ∧ (∀ i n, nums[i]? = some n → (showWords row nums cells lv)[1 + i]? = some (numT n)) ∧
    (showWords row nums cells lv)[7]? = some (Txt.join "" (lv.map sign1)) ∧ (∀ i n, cells[i]? = some n → (showWords row nums cells lv)[8 + i]? = some (numT n)) ∧ (showWords row nums cells lv).length = 8 + cells.length := by
  unfold showWords
  refine ⟨rfl, fun i n e => ?_, ?_, fun i n e => ?_, ?_⟩
  · have hi := (List.getElem?_eq_some_iff.mp e).1
    rw [Nat.add_comm, List.getElem?_cons_succ, List.append_assoc, List.getElem?_append_left (by rw [List.length_map]; exact hi), List.getElem?_map, e]
    rfl
  · rw [show (7 : Nat) = 6 + 1 from rfl, List.getElem?_cons_succ, List.append_assoc, List.getElem?_append_right (by rw [List.length_map]; omega), List.length_map, h6]
    rfl
  · rw [show 8 + i = (7 + i) + 1 from by omega, List.getElem?_cons_succ, List.getElem?_append_right (by rw [List.length_append, List.length_map, h6]; simp), List.length_append, List.length_map, h6, List.getElem?_map]
    rw [show 7 + i - (6 + [Txt.join "" (lv.map sign1)].length) = i from by simp, e]
    rfl
  · simp only [List.length_cons, List.length_append, List.length_map, h6, List.length_nil]
    omega
theorem numberAt_num {ws : List Str} {i : Nat} {n lo hi : Int} (h : ws[i]? = some (numT n)) (h1 : lo ≤ n) (h2 : n ≤ hi) (h3 : n.natAbs < 10000000000) : numberAt ws i lo hi = .ok n := by
  unfold numberAt wordAt
  rw [h]
  show (match readNum (numT n) with
    | some n_1 => if lo ≤ n_1 ∧ n_1 ≤ hi then Rs.ok n_1 else Rs.no i
    | none => Rs.no i) = _
  rw [readNum_num h3]
  exact if_pos ⟨h1, h2⟩
theorem Rs.upto_eq {α : Type} {f : Nat → Rs α} {l : List α} : ∀ {n : Nat}, n ≤ l.length → (∀ i x, i < n → l[i]? = some x → f i = .ok x) → Rs.upto f n = .ok (l.take n)
  | 0, _, _ => by rw [List.take_zero]; rfl
  | n + 1, hn, h => by
    have e := Rs.upto_eq (n := n) (by omega) fun i x hi => h i x (by omega)
    have e2 := h n l[n] (by omega) (List.getElem?_eq_getElem (by omega))
    unfold Rs.upto
    rw [e]
    show (match f n with
      | .no i => Rs.no i
      | .ok a => Rs.ok (l.take n ++ [a])) = _
    rw [e2, List.take_succ, List.getElem?_eq_getElem (by omega)]
    rfl
theorem read_show {row : Int} {nums cells : List Int} {lv : List Str} (o : StOk row nums cells lv) : readState (splitW (showText row nums cells lv)) = .ok ⟨row, nums, cells, lv⟩ := by
  rw [splitW, split_show o.hlv]
  obtain ⟨w0, w1, w7, w8, wl⟩ := showWords_get (row := row) (cells := cells) (lv := lv) o.numsL
  unfold readState
  rw [numberAt_num w0 o.hrow.1 o.hrow.2 (by have := o.hrow; omega)]
  have e1 : Rs.upto (boxAt (showWords row nums cells lv)) 6 = .ok (nums.take 6) := by
    refine Rs.upto_eq (by rw [o.numsL]; exact Nat.le_refl _) fun i n hi hn => ?_
    have hb : boxNames[i]? = some (boxNames[i]'(by rw [show boxNames.length = 6 from rfl]; exact hi)) := List.getElem?_eq_getElem _
    have f := o.hnums i _ n hb hn
    unfold boxAt
    rw [hb, numberAt_num (w1 i n hn) f.2.1 f.2.2 (by have := f.2; omega)]
    exact if_pos f.1
  rw [List.take_of_length_le (by rw [o.numsL]; exact Nat.le_refl _)] at e1
  have e2 : leavesAt (showWords row nums cells lv) 7 = .ok lv := by
    obtain ⟨cs, c1, c2, c3, c4, _⟩ := signs_flat o.hlv
    unfold leavesAt wordAt
    rw [w7]
    show (if leafOk (TL.tl (Txt.join "" (lv.map sign1))) then Rs.ok (leafNames (TL.tl (Txt.join "" (lv.map sign1)))) else Rs.no _) = _
    rw [c1, if_pos ⟨⟨by have := o.some1; omega, by have := o.few; omega⟩, c4⟩, c3]
  have e3 : Rs.upto (fun k => numberAt (showWords row nums cells lv) (8 + k) 0 1000000000) lv.length = .ok cells := by
    have z := Rs.upto_eq (f := fun k => numberAt (showWords row nums cells lv) (8 + k) 0 1000000000) (l := cells) (n := lv.length) (by rw [o.len]; exact Nat.le_refl _) fun i n hi hn => by
      have f := o.hcells n (List.mem_of_getElem? hn)
      exact numberAt_num (w8 i n hn) f.1 f.2 (by omega)
    rw [List.take_of_length_le (by rw [o.len]; exact Nat.le_refl _)] at z
    exact z
  show (match Rs.upto (boxAt (showWords row nums cells lv)) 6 with
    | .no i => Rs.no i
    | .ok nums => _) = _
  rw [e1]
  show (match leavesAt (showWords row nums cells lv) 7 with
    | .no i => Rs.no i
    | .ok lv => _) = _
  rw [e2]
  show (match Rs.upto (fun k => numberAt (showWords row nums cells lv) (8 + k) 0 1000000000) lv.length with
    | .no i => Rs.no i
    | .ok cs => _) = _
  rw [e3]
  exact if_neg (by rw [wl]; omega)
end HB
namespace HB
open PySem PySem.Spec PyProof.Rows L2 Evl
local macro_rules | `(tactic| k_memK) => `(tactic| first
  | assumption
  | (refine Ne.symm ?_; assumption)
  | (refine @ne_of_none ?nh _ _ ?no ?n1 ?n2; (case n2 => assumption); (case n1 => kct_strs))
  | (refine Ne.symm (@ne_of_none ?nh _ _ ?no ?n1 ?n2); (case n2 => assumption); (case n1 => kct_strs)))
local macro_rules | `(tactic| kct_strs) => `(tactic| first
  | assumption
  | exact upd_same
  | (refine Eq.trans (upd_ne ?l1) ?l2; (case l1 => k_memK); (case l2 => kct_strs))
  | (refine (by assumption : Evl.Ex _ _) _ _ ?_; kct_strs))
local macro_rules | `(tactic| kbo_bools) => `(tactic| first
  | assumption
  | (refine SqL.of ?_; kct_strs)
  | (refine SqT.of ?_; kct_strs)
  | (refine Evl.ex_l (by assumption) ?_; assumption)
  | (refine Evl.ex_t (by assumption) ?_; assumption)
  | (refine Evl.ex_l (Evl.Ex.new ?e1) ?e2; (case e1 => assumption); (case e2 => kbo_bools))
  | (refine Evl.ex_t (Evl.Ex.new ?e1) ?e2; (case e1 => assumption); (case e2 => kbo_bools))
  | exact Txt.t_BOXES (by assumption) _
  )
local macro_rules | `(tactic| kd_p1) => `(tactic| first
  | exact ClsV.ty _
  | exact ClsV.own _
  | (refine TyX.base ?t1; first | exact TyOf.int _ | exact TyOf.str _ | exact TyOf.bl _ | exact TyOf.non | exact TyOf.flt _ | (refine @TyOf.lst _ _ _ ?t3 ?t2; (case t2 => kct_strs)) | (refine @TyOf.tup _ _ _ ?t3 ?t2; (case t2 => kct_strs)) | (refine @TyOf.dK _ _ _ ?t3 ?t2; (case t2 => kct_strs)))
  | exact kit_NoneType_bool | exact kit_NoneType_int | exact kit_NoneType_list | exact kit_NoneType_str | exact kit_NoneType_tuple | exact kit_bool_bool | exact kit_bool_int | exact kit_bool_list | exact kit_bool_str | exact kit_bool_tuple | exact kit_dict_bool | exact kit_dict_int | exact kit_dict_list | exact kit_dict_str | exact kit_dict_tuple | exact kit_float_bool | exact kit_float_int | exact kit_float_list | exact kit_float_str | exact kit_float_tuple | exact kit_int_bool | exact kit_int_int | exact kit_int_list | exact kit_int_str | exact kit_int_tuple | exact kit_list_bool | exact kit_list_int | exact kit_list_list | exact kit_list_str | exact kit_list_tuple | exact kit_str_bool | exact kit_str_int | exact kit_str_list | exact kit_str_str | exact kit_str_tuple | exact kit_tuple_bool | exact kit_tuple_int | exact kit_tuple_list | exact kit_tuple_str | exact kit_tuple_tuple)
local macro_rules | `(tactic| got_up) => `(tactic| first
  | ((with_reducible show (_ : Int) < _); omega)
  | ((with_reducible show (_ : Int) ≤ _); omega)
  | ((with_reducible show (_ : Nat) < _); omega)
  | ((with_reducible show (_ : Nat) ≤ _); omega)
  | exact rfl
  | assumption
  | omega
  | kbo_bools
  | kct_strs
  | exact Nat.le_of_ble_eq_true rfl
  | exact Evl.sz_of (Nat.le_of_ble_eq_true rfl)
  | exact Evl.sz_lt (Nat.le_of_ble_eq_true rfl)
  | kd_p1
  | exact ⟨_, rfl⟩
  | decide
  | (dsimp only; omega)
  | (dsimp only; decide)
  | (simp only [List.length_map, List.length_take, List.length_append, List.length_cons, List.length_nil, List.length_drop]; omega)
  | (refine ⟨?_, ?_⟩ <;> (dsimp only; omega))
  | (refine ⟨?_, ?_⟩ <;> omega)
  | (refine ⟨?_, ?_, ?_⟩ <;> omega)
  | (refine ⟨?_, ?_, ?_, ?_⟩ <;> omega)
  | (show CPow _ _; refine ⟨?_, ?_, ?_⟩ <;> first | omega | decide | (dsimp only; omega))
  | (show CDivN _ _; refine ⟨?_, ?_⟩ <;> first | omega | decide | (dsimp only; omega))
  | (show CMul _ _; refine Or.inl ?_; refine ⟨?_, ?_⟩ <;> first | omega | decide | (dsimp only; omega))
  | (show CMul _ _; refine Or.inr ?_; refine ⟨?_, ?_⟩ <;> first | omega | decide | (dsimp only; omega))
  | (refine Or.inl (Exists.intro ?x1 (And.intro ?x2 ?x3)); (case x2 => kbo_bools); (case x3 => rfl))
  | (refine Or.inr (Exists.intro ?x1 (And.intro ?x2 ?x3)); (case x2 => kbo_bools); (case x3 => rfl))
  | (refine Or.inl ?_; kbo_bools)
  | (refine Or.inr ?_; kbo_bools)
  | (refine Or.inl (And.intro rfl (Exists.intro ?x1 ?x2)); (case x2 => kbo_bools))
  | (refine Exists.intro ?x1 ?x2; (case x2 => kbo_bools))
  | (refine Evl.sz_of ?_; (try simp only [List.length_map, List.length_take, List.length_append, List.length_cons, List.length_nil, List.length_drop]); omega)
  | (refine Evl.sz_lt ?_; (try simp only [List.length_map, List.length_take, List.length_append, List.length_cons, List.length_nil, List.length_drop]); omega)
  | (refine And.intro ?x1 ?x2; (case x2 => rfl); (case x1 => first | assumption | (refine Evl.sz_of ?_; omega)))
  | (refine And.intro ?x1 ?x2; (case x1 => rfl); (case x2 => rfl)))
local macro_rules | `(tactic| kba_ints) => `(tactic| (
  (fail_if_success (refine Exists.intro (fun (_ _ : Nat) (_ : L2.St) (_ : Hp) => True) ?_));
  (fail_if_success (refine Exists.intro (fun (_ _ : Nat) (_ : Hp) => True) ?_));
  (fail_if_success (refine Exists.intro (fun (_ : Nat) (_ : L2.St) (_ : Hp) => True) ?_));
  (fail_if_success (refine Exists.intro (fun (_ : L2.St) (_ : Hp) => True) ?_));
  (first
  | (refine And.intro ?c1 ?c2; (case c1 => got_up))
  | (refine Or.inl (And.intro ?c1 ?c2); (case c1 => kbo_bools))
  | (refine Or.inr (And.intro ?c1 ?c2); (case c1 => kbo_bools))
  | (refine Exists.intro ?w1 ?w2; rotate_left)
  | intro _
  | (refine iteT ?_)
  | (refine iteF ?_))))
local macro_rules | `(tactic| walk_at "go") => `(tactic| (repeat kba_ints))
section
variable {P : Program} {w : World} {K : PySem.W.Frag} {mg : Str → Option Value} {base : Heap}
/-! ### _law_whole -/
theorem ok__law_whole {f : Addr} {fd : FuncData} (T : Txt w K mg) (F : FnP K "_law_whole" "_law_whole" s__law_whole f fd) : FnOk P w K mg base CX0 1 f fd ["_law_thing"] (spIsWhole K) := by
  refine F.ok sc__law_whole (fun vs H Q E h => ?_) (fun cdv A outer s H vs Q E hr h => ?_)
  · unfold spIsWhole at h
    obtain ⟨x, t, b1, b2, rfl, _⟩ := h
    rfl
  · unfold spIsWhole at h
    obtain ⟨x, t, b1, b2, rfl, ty, k1, k2, k⟩ := h
    refine ⟨_, (PSs.nox (pss_one (ps_ret (pe_and (pe_callB call_isi (by rfl) T.z_isinstance (by decide +kernel) (pa_cons (pv 0) (pa_cons (pe_bltn (v := .ty "int") (u := .type "int") (by rfl) T.z_int (by decide +kernel) rfl) pa_nil))) (pe_one (pe_not (pe_callB call_isi (by rfl) T.z_isinstance (by decide +kernel) (pa_cons (pv 0) (pa_cons (pe_bltn (v := .ty "bool") (u := .type "bool") (by rfl) T.z_bool (by decide +kernel) rfl) pa_nil))))))))), ?_⟩
    refine ⟨_, rfl, _, _, _, _, _, rfl, .ty _, ty, k1, _, rfl, iteB (fun q => ?_) (fun q => ?_)⟩
    · subst q
      exact ⟨_, rfl, _, _, _, _, _, rfl, .ty _, ty, k2, _, rfl, k⟩
    · subst q
      exact k
/-! ### _law_numbers -/
@[irreducible] def spNumbers (K : PySem.W.Frag) : Sp := fun vs H Q _ => ∃ (Hs : Hp) (h c : Addr) (ns : List Int) (n : Nat), vs = [.ref h] ∧ Hand Hs H h c ns n ∧ n < 1000000000 ∧
  ∀ (nums : List Int) (D : Addr) (H' : Hp), nums.length = 6 → (∀ (i : Nat) (b : Str) (n : Int), boxNames[i]? = some b → nums[i]? = some n → fitsI b n = true ∧ -1000000000 ≤ n ∧ n ≤ 1000000000) → Hand (upd Hs D (.lst (nums.map V.int))) H' h c ns (n + 20) → Hs D = none → Q (.ref D) H'
theorem use_numbers {K : PySem.W.Frag} {Hs H : Hp} {h c : Addr} {ns : List Int} {n : Nat} {Q : VK} {E : XK} (d : Hand Hs H h c ns n) (hn : n < 1000000000)
    (k : ∀ (nums : List Int) (D : Addr) (H' : Hp), nums.length = 6 → (∀ (i : Nat) (b : Str) (n : Int), boxNames[i]? = some b → nums[i]? = some n → fitsI b n = true ∧ -1000000000 ≤ n ∧ n ≤ 1000000000) → Hand (upd Hs D (.lst (nums.map V.int))) H' h c ns (n + 20) → Hs D = none → Q (.ref D) H') : spNumbers K [.ref h] H Q E := by
  unfold spNumbers
  exact ⟨Hs, h, c, ns, n, rfl, d, hn, k⟩
theorem six_fit {x0 x1 x2 x3 x4 x5 : Int} (h0 : -1000000000 ≤ x0 ∧ x0 ≤ 1000000000) (h1 : -1000000000 ≤ x1 ∧ x1 ≤ 1000000000) (h2 : 0 ≤ x2 ∧ x2 ≤ 1000000000) (h3 : x3 = 1 ∨ x3 = -1) (h4 : 0 ≤ x4 ∧ x4 ≤ 1000000000) (h5 : x5 = 0 ∨ x5 = 1) :
    ∀ (i : Nat) (b : Str) (n : Int), boxNames[i]? = some b → [x0, x1, x2, x3, x4, x5][i]? = some n → fitsI b n = true ∧ -1000000000 ≤ n ∧ n ≤ 1000000000 := by
  intro i b n hb hn
  match i, hb, hn with
  | 0, hb, hn =>
    cases hb; cases hn
    refine ⟨?_, h0⟩
    unfold fitsI
    rw [if_neg (by decide +kernel), if_neg (by decide +kernel), if_neg (by decide +kernel), if_neg (by decide +kernel)]
    exact decide_eq_true h0
  | 1, hb, hn =>
    cases hb; cases hn
    refine ⟨?_, h1⟩
    unfold fitsI
    rw [if_neg (by decide +kernel), if_neg (by decide +kernel), if_neg (by decide +kernel), if_neg (by decide +kernel)]
    exact decide_eq_true h1
  | 2, hb, hn =>
    cases hb; cases hn
    refine ⟨?_, by omega⟩
    unfold fitsI
    rw [if_neg (by decide +kernel), if_neg (by decide +kernel), if_neg (by decide +kernel), if_pos rfl]
    exact decide_eq_true h2
  | 3, hb, hn =>
    cases hb; cases hn
    refine ⟨?_, by omega⟩
    unfold fitsI
    rw [if_pos rfl]
    exact decide_eq_true h3
  | 4, hb, hn =>
    cases hb; cases hn
    refine ⟨?_, by omega⟩
    unfold fitsI
    rw [if_neg (by decide +kernel), if_neg (by decide +kernel), if_pos rfl]
    exact decide_eq_true h4
  | 5, hb, hn =>
    cases hb; cases hn
    refine ⟨?_, by omega⟩
    unfold fitsI
    rw [if_neg (by decide +kernel), if_pos rfl]
    exact decide_eq_true h5
  | k + 6, hb, hn => cases hb
theorem ok__law_numbers {f : Addr} {fd : FuncData} (T : Txt w K mg) (F : FnP K "_law_numbers" "_law_numbers" s__law_numbers f fd) : FnOk P w K mg base CX0 3 f fd ["_law_hand_here"] (spNumbers K) := by
  refine F.ok sc__law_numbers (fun vs H Q E h => ?_) (fun cdv A outer s H vs Q E hr h => ?_)
  · unfold spNumbers at h
    obtain ⟨Hs, h, c, ns, n, rfl, _⟩ := h
    rfl
  · unfold spNumbers at h
    obtain ⟨Hs, h, c, ns, n, rfl, d, hn, k⟩ := h
    refine ⟨_, (PSs.nox (pss_cons (ps_set (i := 1) sc__law_numbers.nd rfl (Or.inl rfl) (pe_lst pa_nil))
      (pss_cons (ps_for PassesOwn.never rfl (pi_range1 (by rfl) T.z_range (pa_cons pe_int pa_nil)) (pg_name (i := 2) sc__law_numbers.nd rfl (Or.inl rfl))
      (pss_cons (ps_set (i := 3) sc__law_numbers.nd rfl (Or.inl rfl) (pe_ix ix_list (pe_lst (pa_cons pe_int (pa_cons (pe_op op_pow pe_int pe_int) (pa_cons (pe_un un_neg (pe_op op_pow pe_int pe_int)) (pa_cons (pe_call (ok__law_draw T T.F__law_draw) (hr.mono (by decide)) rfl T.g__law_draw T.F__law_draw.kp (bd__law_draw T.F__law_draw) .nil pass0 (pa_cons (pv 0) (pa_cons pe_int pa_nil))) (pa_cons (pe_op op_sub (pe_un un_neg pe_int) (pe_call (ok__law_draw T T.F__law_draw) (hr.mono (by decide)) rfl T.g__law_draw T.F__law_draw.kp (bd__law_draw T.F__law_draw) .nil pass0 (pa_cons (pv 0) (pa_cons (pe_op op_pow pe_int pe_int) pa_nil)))) pa_nil)))))) (pe_call (ok__law_draw T T.F__law_draw) (hr.mono (by decide)) rfl T.g__law_draw T.F__law_draw.kp (bd__law_draw T.F__law_draw) .nil pass0 (pa_cons (pv 0) (pa_cons pe_int pa_nil))) (fun _ _ => rfl)))
      (pss_one (ps_expr (pe_bm PySem.F.plainAttrs_list PySem.F.slot_list_append PySem.F.type_list_append mt_append (pv 1) (pa_cons (pv 3) pa_nil))))))
      (pss_cons (ps_expr (pe_bm PySem.F.plainAttrs_list PySem.F.slot_list_append PySem.F.type_list_append mt_append (pv 1) (pa_cons (pe_ix ix_list (pe_lst (pa_cons pe_int (pa_cons (pe_op op_pow pe_int pe_int) (pa_cons (pe_call (ok__law_draw T T.F__law_draw) (hr.mono (by decide)) rfl T.g__law_draw T.F__law_draw.kp (bd__law_draw T.F__law_draw) .nil pass0 (pa_cons (pv 0) (pa_cons pe_int pa_nil))) pa_nil)))) (pe_call (ok__law_draw T T.F__law_draw) (hr.mono (by decide)) rfl T.g__law_draw T.F__law_draw.kp (bd__law_draw T.F__law_draw) .nil pass0 (pa_cons (pv 0) (pa_cons pe_int pa_nil))) (fun _ _ => rfl)) pa_nil)))
      (pss_cons (ps_expr (pe_bm PySem.F.plainAttrs_list PySem.F.slot_list_append PySem.F.type_list_append mt_append (pv 1) (pa_cons (pe_op op_sub pe_int (pe_op op_mul pe_int (pe_call (ok__law_draw T T.F__law_draw) (hr.mono (by decide)) rfl T.g__law_draw T.F__law_draw.kp (bd__law_draw T.F__law_draw) .nil pass0 (pa_cons (pv 0) (pa_cons pe_int pa_nil))))) pa_nil)))
      (pss_cons (ps_expr (pe_bm PySem.F.plainAttrs_list PySem.F.slot_list_append PySem.F.type_list_append mt_append (pv 1) (pa_cons (pe_call (ok__law_content T T.F__law_content) (hr.mono (by decide)) rfl T.g__law_content T.F__law_content.kp (bd__law_content T.F__law_content) .nil pass0 (pa_cons (pv 0) pa_nil)) pa_nil)))
      (pss_cons (ps_expr (pe_bm PySem.F.plainAttrs_list PySem.F.slot_list_append PySem.F.type_list_append mt_append (pv 1) (pa_cons (pe_call (ok__law_draw T T.F__law_draw) (hr.mono (by decide)) rfl T.g__law_draw T.F__law_draw.kp (bd__law_draw T.F__law_draw) .nil pass0 (pa_cons (pv 0) (pa_cons pe_int pa_nil))) pa_nil)))
      (pss_one (ps_ret (pv 1)))))))))), ?_⟩
    have e9 : (10 : Int) ^ Int.toNat 9 = 1000000000 := rfl
    have e8 : (10 : Int) ^ Int.toNat 8 = 100000000 := rfl
    walk_at "go"
    rename_i l hl
    have l0 : Hs l = none := fresh_back d.ex hl
    have hnl : h ≠ l := d.old hl
    refine for_range (lo := 0) (fun i σ H' => ∃ v2 v3, σ = [some (.ref h), some (.ref l), v2, v3] ∧ Hand Hs H' h c ns (n + 3 * i) ∧ ∃ acc : List Int, H' l = some (.lst (acc.map V.int)) ∧ acc.length = i ∧ ∀ x ∈ acc, -1000000000 ≤ x ∧ x ≤ 1000000000) ?_ ?_ ?_
    · exact ⟨none, none, rfl, d.own l0 hnl, [], upd_same, rfl, fun x hx => by cases hx⟩
    · rintro i σ H' hi ⟨v2, v3, rfl, d', acc, hl', hlen, hacc⟩
      walk_at "go"
      have dg := d'.grow hl' (Ne.symm hnl)
      refine use_draw dg (by omega) (by decide) (by decide) fun r1 H1 a1 b1 d1 => ?_
      walk_at "go"
      refine use_draw d1 (by omega) (by decide) (by decide) fun r2 H2 a2 b2 d2 => ?_
      walk_at "go"
      rename_i p hp
      refine use_draw (d2.laid hp) (by omega) (by decide) (by decide) fun r3 H3 a3 b3 d3 => ?_
      obtain ⟨y, hy, hym⟩ := atI_mem (xs := [V.int 0, V.int (10 ^ Int.toNat 9), V.int (-(10 ^ Int.toNat 9)), V.int r1, V.int (-1 - r2)]) a3 b3
      obtain ⟨z, rfl, hz⟩ : ∃ z, y = V.int z ∧ (-1000000000 ≤ z ∧ z ≤ 1000000000) := by
        simp only [List.mem_cons, List.not_mem_nil, or_false] at hym
        rcases hym with rfl | rfl | rfl | rfl | rfl
        · exact ⟨_, rfl, by omega, by omega⟩
        · exact ⟨_, rfl, by omega, by omega⟩
        · exact ⟨_, rfl, by omega, by omega⟩
        · exact ⟨_, rfl, by omega, by omega⟩
        · exact ⟨_, rfl, by omega, by omega⟩
      have hp3 := d3.ex _ _ upd_same
      have hlp : l ≠ p := ne_of_none (d2.ex _ _ upd_same) hp
      have hl3 : H3 l = some (.lst (acc.map V.int)) := d3.ex _ _ (by rw [upd_ne hlp, upd_same])
      have d4 : Hand Hs H3 h c ns (n + 3 * (i + 1)) := (d3.less (Ex.trans (Ex.new l0) (Ex.new (fresh_back d2.ex hp))) d.cl).le (by omega)
      walk_at "go"
      refine And.intro (d4.own l0 hnl) ⟨acc ++ [z], ?_, by rw [List.length_append, hlen]; rfl, fun x hx => ?_⟩
      · rw [upd_same, List.map_append]
        rfl
      · rcases List.mem_append.mp hx with hx | hx
        · exact hacc x hx
        · obtain rfl := List.mem_singleton.mp hx
          exact hz
    · rintro σ H' ⟨v2, v3, rfl, d', acc, hl', hlen, hacc⟩
      have hlen2 : acc.length = 2 := hlen
      obtain ⟨x0, x1, rfl⟩ : ∃ x0 x1, acc = [x0, x1] := by
        match acc, hlen2 with
        | [a, b], _ => exact ⟨a, b, rfl⟩
      have hx0 := hacc x0 (by simp)
      have hx1 := hacc x1 (by simp)
      have dg := d'.grow hl' (Ne.symm hnl)
      walk_at "go"
      refine use_draw dg (by omega) (by decide) (by decide) fun r1 H1 a1 b1 d1 => ?_
      walk_at "go"
      rename_i p hp
      refine use_draw (d1.laid hp) (by omega) (m := 3) (by decide) (by decide) fun r2 H2 a2 b2 d2 => ?_
      obtain ⟨y, hy, hym⟩ := atI_mem (xs := [V.int 0, V.int (10 ^ Int.toNat 9), V.int r1]) a2 b2
      obtain ⟨x2, rfl, hx2⟩ : ∃ z, y = V.int z ∧ (0 ≤ z ∧ z ≤ 1000000000) := by
        simp only [List.mem_cons, List.not_mem_nil, or_false] at hym
        rcases hym with rfl | rfl | rfl
        · exact ⟨_, rfl, by omega, by omega⟩
        · exact ⟨_, rfl, by omega, by omega⟩
        · exact ⟨_, rfl, by omega, by omega⟩
      have hp3 := d2.ex _ _ upd_same
      have hlp : l ≠ p := ne_of_none (d1.ex _ _ upd_same) hp
      have hl2 : H2 l = some (.lst ([x0, x1].map V.int)) := d2.ex _ _ (by rw [upd_ne hlp, upd_same])
      have d4 : Hand Hs H2 h c ns (n + 8) := (d2.less (Ex.trans (Ex.new l0) (Ex.new (fresh_back d1.ex hp))) d.cl).le (by show n + 3 * 2 + 1 + 1 ≤ n + 8; omega)
      walk_at "go"
      have hl2b : upd H2 l (.lst ([x0, x1].map V.int ++ [V.int x2])) l = some (.lst ([x0, x1, x2].map V.int)) := upd_same
      have d5 := (d4.own (o := .lst ([x0, x1].map V.int ++ [V.int x2])) l0 hnl).grow hl2b (Ne.symm hnl)
      refine use_draw d5 (by omega) (by decide) (by decide) fun r3 H3 a3 b3 d6 => ?_
      have hl3 : H3 l = some (.lst ([x0, x1, x2].map V.int)) := d6.ex _ _ upd_same
      walk_at "go"
      have hl3b : upd H3 l (.lst ([x0, x1, x2].map V.int ++ [V.int (1 - 2 * r3)])) l = some (.lst ([x0, x1, x2, 1 - 2 * r3].map V.int)) := upd_same
      have d7 := ((d6.less (Ex.new l0) d.cl).own (o := .lst ([x0, x1, x2].map V.int ++ [V.int (1 - 2 * r3)])) l0 hnl).grow hl3b (Ne.symm hnl)
      refine use_content d7 (by omega) fun x4 H4 a4 b4 d8 => ?_
      have hl4 : H4 l = some (.lst ([x0, x1, x2, 1 - 2 * r3].map V.int)) := d8.ex _ _ upd_same
      walk_at "go"
      have hl4b : upd H4 l (.lst ([x0, x1, x2, 1 - 2 * r3].map V.int ++ [V.int x4])) l = some (.lst ([x0, x1, x2, 1 - 2 * r3, x4].map V.int)) := upd_same
      have d9 := ((d8.less (Ex.new l0) d.cl).own (o := .lst ([x0, x1, x2, 1 - 2 * r3].map V.int ++ [V.int x4])) l0 hnl).grow hl4b (Ne.symm hnl)
      refine use_draw d9 (by omega) (by decide) (by decide) fun x5 H5 a5 b5 d10 => ?_
      have hl5 : H5 l = some (.lst ([x0, x1, x2, 1 - 2 * r3, x4].map V.int)) := d10.ex _ _ upd_same
      walk_at "go"
      have hl6 : upd H5 l (.lst ([x0, x1, x2, 1 - 2 * r3, x4].map V.int ++ [V.int x5])) l = some (.lst ([x0, x1, x2, 1 - 2 * r3, x4, x5].map V.int)) := upd_same
      exact k [x0, x1, x2, 1 - 2 * r3, x4, x5] l _ rfl (six_fit hx0 hx1 hx2 (by omega) ⟨a4, b4⟩ (by omega)) ((((d10.less (Ex.new l0) d.cl).own l0 hnl).grow hl6 (Ne.symm hnl)).le (by omega)) l0
end

end HB
namespace HB
open PySem PySem.Spec PyProof.Rows L2 Evl
local macro_rules | `(tactic| k_memK) => `(tactic| first
  | assumption
  | (refine Ne.symm ?_; assumption)
  | (refine @ne_of_none ?nh _ _ ?no ?n1 ?n2; (case n2 => assumption); (case n1 => kct_strs))
  | (refine Ne.symm (@ne_of_none ?nh _ _ ?no ?n1 ?n2); (case n2 => assumption); (case n1 => kct_strs)))
local macro_rules | `(tactic| kct_strs) => `(tactic| first
  | assumption
  | exact upd_same
  | (refine Eq.trans (upd_ne ?l1) ?l2; (case l1 => k_memK); (case l2 => kct_strs))
  | (refine (by assumption : Evl.Ex _ _) _ _ ?_; kct_strs))
local macro_rules | `(tactic| kbo_bools) => `(tactic| first
  | assumption
  | (refine SqL.of ?_; kct_strs)
  | (refine SqT.of ?_; kct_strs)
  | (refine Evl.ex_l (by assumption) ?_; assumption)
  | (refine Evl.ex_t (by assumption) ?_; assumption)
  | (refine Evl.ex_l (Evl.Ex.new ?e1) ?e2; (case e1 => assumption); (case e2 => kbo_bools))
  | (refine Evl.ex_t (Evl.Ex.new ?e1) ?e2; (case e1 => assumption); (case e2 => kbo_bools))
  | exact Txt.t_BOXES (by assumption) _
  )
local macro_rules | `(tactic| kd_p1) => `(tactic| first
  | exact ClsV.ty _
  | exact ClsV.own _
  | (refine TyX.base ?t1; first | exact TyOf.int _ | exact TyOf.str _ | exact TyOf.bl _ | exact TyOf.non | exact TyOf.flt _ | (refine @TyOf.lst _ _ _ ?t3 ?t2; (case t2 => kct_strs)) | (refine @TyOf.tup _ _ _ ?t3 ?t2; (case t2 => kct_strs)) | (refine @TyOf.dK _ _ _ ?t3 ?t2; (case t2 => kct_strs)))
  | exact kit_NoneType_bool | exact kit_NoneType_int | exact kit_NoneType_list | exact kit_NoneType_str | exact kit_NoneType_tuple | exact kit_bool_bool | exact kit_bool_int | exact kit_bool_list | exact kit_bool_str | exact kit_bool_tuple | exact kit_dict_bool | exact kit_dict_int | exact kit_dict_list | exact kit_dict_str | exact kit_dict_tuple | exact kit_float_bool | exact kit_float_int | exact kit_float_list | exact kit_float_str | exact kit_float_tuple | exact kit_int_bool | exact kit_int_int | exact kit_int_list | exact kit_int_str | exact kit_int_tuple | exact kit_list_bool | exact kit_list_int | exact kit_list_list | exact kit_list_str | exact kit_list_tuple | exact kit_str_bool | exact kit_str_int | exact kit_str_list | exact kit_str_str | exact kit_str_tuple | exact kit_tuple_bool | exact kit_tuple_int | exact kit_tuple_list | exact kit_tuple_str | exact kit_tuple_tuple)
local macro_rules | `(tactic| got_up) => `(tactic| first
  | ((with_reducible show (_ : Int) < _); omega)
  | ((with_reducible show (_ : Int) ≤ _); omega)
  | ((with_reducible show (_ : Nat) < _); omega)
  | ((with_reducible show (_ : Nat) ≤ _); omega)
  | exact rfl
  | assumption
  | omega
  | kbo_bools
  | kct_strs
  | exact Nat.le_of_ble_eq_true rfl
  | exact Evl.sz_of (Nat.le_of_ble_eq_true rfl)
  | exact Evl.sz_lt (Nat.le_of_ble_eq_true rfl)
  | kd_p1
  | exact ⟨_, rfl⟩
  | decide
  | (dsimp only; omega)
  | (dsimp only; decide)
  | (simp only [List.length_map, List.length_take, List.length_append, List.length_cons, List.length_nil, List.length_drop]; omega)
  | (refine ⟨?_, ?_⟩ <;> (dsimp only; omega))
  | (refine ⟨?_, ?_⟩ <;> omega)
  | (refine ⟨?_, ?_, ?_⟩ <;> omega)
  | (refine ⟨?_, ?_, ?_, ?_⟩ <;> omega)
  | (show CPow _ _; refine ⟨?_, ?_, ?_⟩ <;> first | omega | decide | (dsimp only; omega))
  | (show CDivN _ _; refine ⟨?_, ?_⟩ <;> first | omega | decide | (dsimp only; omega))
  | (show CMul _ _; refine Or.inl ?_; refine ⟨?_, ?_⟩ <;> first | omega | decide | (dsimp only; omega))
  | (show CMul _ _; refine Or.inr ?_; refine ⟨?_, ?_⟩ <;> first | omega | decide | (dsimp only; omega))
  | (refine Or.inl (Exists.intro ?x1 (And.intro ?x2 ?x3)); (case x2 => kbo_bools); (case x3 => rfl))
  | (refine Or.inr (Exists.intro ?x1 (And.intro ?x2 ?x3)); (case x2 => kbo_bools); (case x3 => rfl))
  | (refine Or.inl ?_; kbo_bools)
  | (refine Or.inr ?_; kbo_bools)
  | (refine Or.inl (And.intro rfl (Exists.intro ?x1 ?x2)); (case x2 => kbo_bools))
  | (refine Exists.intro ?x1 ?x2; (case x2 => kbo_bools))
  | (refine Evl.sz_of ?_; (try simp only [List.length_map, List.length_take, List.length_append, List.length_cons, List.length_nil, List.length_drop]); omega)
  | (refine Evl.sz_lt ?_; (try simp only [List.length_map, List.length_take, List.length_append, List.length_cons, List.length_nil, List.length_drop]); omega)
  | (refine And.intro ?x1 ?x2; (case x2 => rfl); (case x1 => first | assumption | (refine Evl.sz_of ?_; omega)))
  | (refine And.intro ?x1 ?x2; (case x1 => rfl); (case x2 => rfl)))
local macro_rules | `(tactic| kba_ints) => `(tactic| (
  (fail_if_success (refine Exists.intro (fun (_ _ : Nat) (_ : L2.St) (_ : Hp) => True) ?_));
  (fail_if_success (refine Exists.intro (fun (_ _ : Nat) (_ : Hp) => True) ?_));
  (fail_if_success (refine Exists.intro (fun (_ : Nat) (_ : L2.St) (_ : Hp) => True) ?_));
  (fail_if_success (refine Exists.intro (fun (_ : L2.St) (_ : Hp) => True) ?_));
  (first
  | (refine And.intro ?c1 ?c2; (case c1 => got_up))
  | (refine Or.inl (And.intro ?c1 ?c2); (case c1 => kbo_bools))
  | (refine Or.inr (And.intro ?c1 ?c2); (case c1 => kbo_bools))
  | (refine Exists.intro ?w1 ?w2; rotate_left)
  | intro _
  | (refine iteT ?_)
  | (refine iteF ?_))))
local macro_rules | `(tactic| walk_at "go") => `(tactic| (repeat kba_ints))
section
variable {P : Program} {w : World} {K : PySem.W.Frag} {mg : Str → Option Value} {base : Heap}
/-! ### _law_written -/
@[irreducible] def spWritten (K : PySem.W.Frag) : Sp := fun vs H Q _ => ∃ (n l c : Addr) (row : Int) (nums cells : List Int) (lv : List Str), vs = [.int row, .ref n, .ref l, .ref c] ∧ StOk row nums cells lv ∧ SqL K H n (nums.map V.int) ∧ SqL K H l (lv.map V.str) ∧ SqL K H c (cells.map V.int) ∧
  ∀ H', Ex H H' → Q (.str (showText row nums cells lv)) H'
theorem use_written {n l c : Addr} {row : Int} {nums cells : List Int} {lv : List Str} {H : Hp} {Q : VK} {E : XK} (o : StOk row nums cells lv) (h2 : SqL K H n (nums.map V.int)) (h4 : SqL K H l (lv.map V.str)) (h3 : SqL K H c (cells.map V.int))
    (k : ∀ H', Ex H H' → Q (.str (showText row nums cells lv)) H') : spWritten K [.int row, .ref n, .ref l, .ref c] H Q E := by
  unfold spWritten
  exact ⟨n, l, c, row, nums, cells, lv, rfl, o, h2, h4, h3, k⟩
theorem StOk.show {row : Int} {nums cells : List Int} {lv : List Str} (o : StOk row nums cells lv) : ShowOk row nums cells lv := by
  refine ⟨by have := o.hrow; omega, fun x hx => by have := o.num x hx; omega, by rw [o.numsL]; decide, fun x hx => by have := o.hcells x hx; omega, by rw [o.len]; have := o.few; omega, fun x hx => ?_, by have := o.few; omega⟩
  rcases o.hlv x hx with rfl | rfl | rfl <;> decide +kernel
theorem leaf_val {x : Str} (h : isLeaf x) : valV (mergeK [] [(.inr "open", V.str "o"), (.inr "look", V.str "l"), (.inr "shut", V.str "s")]) (.inr x) = some (.str (sign1 x)) := by
  rcases h with rfl | rfl | rfl <;> decide +kernel
theorem ok__law_written {f : Addr} {fd : FuncData} (T : Txt w K mg) (F : FnP K "_law_written" "_law_written" s__law_written f fd) : FnOk P w K mg base CX0 1 f fd ["_law_at", "_law_numbers_here", "_law_leaves_here", "_law_cells_here"] (spWritten K) := by
  refine F.ok sc__law_written (fun vs H Q E h => ?_) (fun cdv A outer s H vs Q E hr h => ?_)
  · unfold spWritten at h
    obtain ⟨n, l, c, row, nums, cells, lv, rfl, _⟩ := h
    rfl
  · unfold spWritten at h
    obtain ⟨n, l, c, row, nums, cells, lv, rfl, ok, h2, h4, h3, k⟩ := h
    have o := ok.show
    have orow := log2_small o.hrow
    have nL := o.numsL
    have cL := o.cellsL
    have lL := o.leavesL
    refine ⟨_, (PSs.nox (pss_cons (ps_set (i := 4) sc__law_written.nd rfl (Or.inl rfl) (pe_op op_cat (pe_lst (pa_cons (pe_callTy call_str_int (by rfl) T.z_str (by decide +kernel) (pa_cons (pv 0) pa_nil)) pa_nil)) (pe_lc (own := [("_law_number", 5)]) (g := (gName 5)) (tt := tYes) rfl sc__law_written.nd (pi_list (pv 1)) (blkOk_by (own := [("_law_number", 5)]) (N := ["_law_at", "_law_numbers_here", "_law_leaves_here", "_law_cells_here", "_law_words", "_law_number", "_law_leave", "_law_content_here"]) (sc := defScope s__law_written) (by decide +kernel)) (fun _ _ _ _ _ => (pg_name (i := 5) sc__law_written.nd rfl (Or.inl rfl))) (fun _ _ _ _ _ => pts_nil) (fun _ _ _ _ _ => (pe_callTy call_str_int (by rfl) T.z_str (by decide +kernel) (pa_cons (pv 5) pa_nil))))))
      (pss_cons (ps_expr (pe_bm PySem.F.plainAttrs_list PySem.F.slot_list_append PySem.F.type_list_append mt_append (pv 4) (pa_cons (pe_join pe_str (pe_lc (own := [("_law_leave", 6)]) (g := (gName 6)) (tt := tYes) rfl sc__law_written.nd (pi_list (pv 2)) (blkOk_by (own := [("_law_leave", 6)]) (N := ["_law_at", "_law_numbers_here", "_law_leaves_here", "_law_cells_here", "_law_words", "_law_number", "_law_leave", "_law_content_here"]) (sc := defScope s__law_written) (by decide +kernel)) (fun _ _ _ _ _ => (pg_name (i := 6) sc__law_written.nd rfl (Or.inl rfl))) (fun _ _ _ _ _ => pts_nil) (fun _ _ _ _ _ => (pe_dget (HB.huOf hr) (pe_disp (pps_cons pe_str pe_str (pps_cons pe_str pe_str (pps_cons pe_str pe_str pps_nil))) (by rfl) (by rfl) (fun z => by cases z) (by decide)) (pv 6) (fun _ _ => rfl))))) pa_nil)))
      (pss_one (ps_ret (pe_join pe_str (pe_op op_cat (pv 4) (pe_lc (own := [("_law_content_here", 7)]) (g := (gName 7)) (tt := tYes) rfl sc__law_written.nd (pi_list (pv 3)) (blkOk_by (own := [("_law_content_here", 7)]) (N := ["_law_at", "_law_numbers_here", "_law_leaves_here", "_law_cells_here", "_law_words", "_law_number", "_law_leave", "_law_content_here"]) (sc := defScope s__law_written) (by decide +kernel)) (fun _ _ _ _ _ => (pg_name (i := 7) sc__law_written.nd rfl (Or.inl rfl))) (fun _ _ _ _ _ => pts_nil) (fun _ _ _ _ _ => (pe_callTy call_str_int (by rfl) T.z_str (by decide +kernel) (pa_cons (pv 7) pa_nil))))))))))), ?_⟩
    walk_at "go"
    rename_i p hp D hD
    have lc : ∀ (ns : List Int) (i : Nat) (y : V), ((ns.map numT).map V.str)[i]? = some y → ∃ x, ns[i]? = some x ∧ y = V.str (numT x) := fun ns i y h => by
      rw [List.getElem?_map, List.getElem?_map] at h
      cases e : ns[i]? with
      | none => rw [e] at h; cases h
      | some x => rw [e] at h; exact ⟨x, rfl, (Option.some.inj h).symm⟩
    have hn' : SqL K (upd H p (.lst [V.str (numT row)])) n (nums.map V.int) := ex_l (Ex.new hp) h2
    refine lc_pureL ((nums.map numT).map V.str) hn' hD (fun _ => rfl) (by rw [List.length_map, List.length_map, List.length_map]) (by rw [List.length_map]; omega) ?_ ?_
    · intro i v H5 y Q2 hy e5 hv k2
      obtain ⟨x, hx, rfl⟩ := lc _ _ _ hy
      rw [List.getElem?_map, hx] at hv
      cases hv
      have hlog := log2_small (o.hnums x (List.mem_of_getElem? hx))
      walk_at "go"
      exact k2 _ (Ex.refl _)
    · intro H1 e1 hD1
      have hp1 : H1 p = _ := e1 _ _ upd_same
      have e01 : Ex H H1 := Ex.trans (Ex.new hp) e1
      have h4' : SqL K H1 l (lv.map V.str) := ex_l e01 h4
      walk_at "go"
      rename_i p2 hp2 D2 hD2
      have h4'' : SqL K (upd H1 p2 (.lst ([V.str (numT row)] ++ (nums.map numT).map V.str))) l (lv.map V.str) := ex_l (Ex.new hp2) h4'
      refine lc_pureL ((lv.map sign1).map V.str) h4'' hD2 (fun _ => rfl) (by rw [List.length_map, List.length_map, List.length_map]) (by rw [List.length_map]; omega) ?_ ?_
      · intro i v H5 y Q2 hy e5 hv k2
        rw [List.getElem?_map, List.getElem?_map] at hy
        rw [List.getElem?_map] at hv
        cases ex : lv[i]? with
        | none => rw [ex] at hy; cases hy
        | some x =>
          rw [ex] at hy hv
          cases hy
          cases hv
          have hx := ok.hlv x (List.mem_of_getElem? ex)
          intro p3 hp3
          walk_at "go"
          refine And.intro ?q1 ?q2
          case q1 => exact (rfl : _ = List.map (fun kv : Key × V => (kV kv.1, kv.2)) [(.inr "open", V.str "o"), (.inr "look", V.str "l"), (.inr "shut", V.str "s")])
          have hd3 := leaf_val hx
          walk_at "go"
          refine And.intro ?r1 ?r2
          case r1 =>
            have z := DGet.k (H := upd (upd H5 p3 (HO.dK [])) p3 (HO.dK (mergeK [] [(.inr "open", V.str "o"), (.inr "look", V.str "l"), (.inr "shut", V.str "s")]))) (k := .inr x) upd_same
            rw [hd3] at z
            exact z
          case r2 =>
            refine k2 _ ?_
            exact Ex.mut (Ex.new hp3) hp3
      · intro H6 e6 hD6
        have jl : ((lv.map sign1).map (·.length)).sum + (lv.map sign1).length * ("" : Str).length ≤ 16777216 := by
          have z := sum_le (fun s : Str => s.length) 1 (lv.map sign1) fun x hx => by
            obtain ⟨y, _, rfl⟩ := List.mem_map.mp hx
            exact sign1_len y
          rw [List.length_map] at z ⊢
          have z2 : ("" : Str).length = 0 := by decide +kernel
          rw [z2]
          omega
        have hp6 : H6 p2 = some (.lst ([V.str (numT row)] ++ (nums.map numT).map V.str)) := e6 _ _ upd_same
        walk_at "go"
        have e06 : Ex H H6 := Ex.trans (Ex.trans e01 (Ex.new hp2)) e6
        have e07 : Ex H (upd H6 p2 (.lst ([V.str (numT row)] ++ (nums.map numT).map V.str ++ [V.str (Txt.join "" (lv.map sign1))]))) := Ex.mut e06 (fresh_back e01 hp2)
        refine And.intro ⟨_, ex_l e07 h3⟩ ?_
        walk_at "go"
        rename_i D3 hD3
        refine lc_pureL ((cells.map numT).map V.str) (ex_l e07 h3) hD3 (fun _ => rfl) (by rw [List.length_map, List.length_map, List.length_map]) (by rw [List.length_map]; omega) ?_ ?_
        · intro i v H5 y Q2 hy e5 hv k2
          obtain ⟨x, hx, rfl⟩ := lc _ _ _ hy
          rw [List.getElem?_map, hx] at hv
          cases hv
          have hlog := log2_small (o.hcells x (List.mem_of_getElem? hx))
          walk_at "go"
          exact k2 _ (Ex.refl _)
        · intro H8 e8 hD8
          have hp8 : H8 p2 = _ := e8 _ _ upd_same
          have e08 : Ex H H8 := Ex.trans e07 e8
          walk_at "go"
          rename_i p3 hp3
          have ew : [V.str (numT row)] ++ (nums.map numT).map V.str ++ [V.str (Txt.join "" (lv.map sign1))] ++ (cells.map numT).map V.str = (showWords row nums cells lv).map V.str := by
            unfold showWords
            simp only [List.map_cons, List.map_append, List.map_nil, List.cons_append, List.nil_append, List.append_assoc]
          have hs : SqL K (upd H8 p3 (.lst ([V.str (numT row)] ++ (nums.map numT).map V.str ++ [V.str (Txt.join "" (lv.map sign1))] ++ (cells.map numT).map V.str))) p3 ((showWords row nums cells lv).map V.str) := SqL.of (by rw [upd_same, ew])
          refine And.intro ?j1 (And.intro ?j2 ?j3)
          case j1 =>
            refine Or.inl ?_
            exact hs
          case j2 => exact show_fits o
          case j3 => exact k _ (Ex.trans e08 (Ex.new hp3))
/-! ### _law_right, of what is right -/
@[irreducible] def spRight (K : PySem.W.Frag) : Sp := fun vs H Q _ => ∃ (t q m1 c1 l1 n c l : Addr) (row : Int) (nums cells : List Int) (lv : List Str), vs = [.ref t, .int row, .ref n, .ref l, .ref c] ∧ StOk row nums cells lv ∧
  H t = some (.tup [.ref q, .ref l1]) ∧ H q = some (.tup [.int row, .ref m1, .ref c1]) ∧ H m1 = some (.tup (nums.map V.int)) ∧ H c1 = some (.lst (cells.map V.int)) ∧ H l1 = some (.lst (lv.map V.str)) ∧
  H n = some (.lst (nums.map V.int)) ∧ H l = some (.lst (lv.map V.str)) ∧ H c = some (.lst (cells.map V.int)) ∧ ∀ H', Ex H H' → Q (.bl true) H'
theorem use_right {t q m1 c1 l1 n c l : Addr} {row : Int} {nums cells : List Int} {lv : List Str} {H : Hp} {Q : VK} {E : XK} (o : StOk row nums cells lv)
    (h1 : H t = some (.tup [.ref q, .ref l1])) (h2 : H q = some (.tup [.int row, .ref m1, .ref c1])) (h3 : H m1 = some (.tup (nums.map V.int))) (h4 : H c1 = some (.lst (cells.map V.int))) (h5 : H l1 = some (.lst (lv.map V.str)))
    (h6 : H n = some (.lst (nums.map V.int))) (h7 : H l = some (.lst (lv.map V.str))) (h8 : H c = some (.lst (cells.map V.int))) (k : ∀ H', Ex H H' → Q (.bl true) H') : spRight K [.ref t, .int row, .ref n, .ref l, .ref c] H Q E := by
  unfold spRight
  exact ⟨t, q, m1, c1, l1, n, c, l, row, nums, cells, lv, rfl, o, h1, h2, h3, h4, h5, h6, h7, h8, k⟩
theorem ok__law_right {f : Addr} {fd : FuncData} (T : Txt w K mg) (F : FnP K "_law_right" "_law_right" s__law_right f fd) : FnOk P w K mg base CX0 2 f fd ["_law_found", "_law_at", "_law_numbers_here", "_law_leaves_here", "_law_cells_here"] (spRight K) := by
  refine F.ok sc__law_right (fun vs H Q E h => ?_) (fun cdv A outer s H vs Q E hr h => ?_)
  · unfold spRight at h
    obtain ⟨t, q, m1, c1, l1, n, c, l, row, nums, cells, lv, rfl, _⟩ := h
    rfl
  · unfold spRight at h
    obtain ⟨t, q, m1, c1, l1, n, c, l, row, nums, cells, lv, rfl, o, h1, h2, h3, h4, h5, h6, h7, h8, k⟩ := h
    have nL := o.numsL
    have cL := o.len
    have lF := o.few
    refine ⟨_, (PSs.nox (pss_cons (ps_if (PW.pt (pw_or (pt_not (pt_val (pe_callB call_isi (by rfl) T.z_isinstance (by decide +kernel) (pa_cons (pv 0) (pa_cons (pe_bltn (v := .ty "tuple") (u := .type "tuple") (by rfl) T.z_tuple (by decide +kernel) rfl) pa_nil))))) (pw_or (pt_cmpR op_ne (pe_callB call_len (by rfl) T.z_len (by decide +kernel) (pa_cons (pv 0) pa_nil)) pe_int (nomark _)) (pw_or (pt_not (pt_val (pe_callB call_isi (by rfl) T.z_isinstance (by decide +kernel) (pa_cons (pe_ix ix_tup (pv 0) pe_int (fun _ _ => rfl)) (pa_cons (pe_bltn (v := .ty "tuple") (u := .type "tuple") (by rfl) T.z_tuple (by decide +kernel) rfl) pa_nil))))) (pw_or1 (pt_cmpR op_ne (pe_callB call_len (by rfl) T.z_len (by decide +kernel) (pa_cons (pe_ix ix_tup (pv 0) pe_int (fun _ _ => rfl)) pa_nil)) pe_int (nomark _)))))))
      (pss_one (ps_ret pe_bl))
      pss_nil)
      (pss_cons (ps_set (i := 5) sc__law_right.nd rfl (Or.inl rfl) (pe_ix ix_tup (pv 0) pe_int (fun _ _ => rfl)))
      (pss_cons (ps_if (PW.pt (pw_or (pt_not (pt_val (pe_callB call_isi (by rfl) T.z_isinstance (by decide +kernel) (pa_cons (pe_ix ix_tup (pv 5) pe_int (fun _ _ => rfl)) (pa_cons (pe_bltn (v := .ty "tuple") (u := .type "tuple") (by rfl) T.z_tuple (by decide +kernel) rfl) pa_nil))))) (pw_or (pt_not (pt_val (pe_callB call_isi (by rfl) T.z_isinstance (by decide +kernel) (pa_cons (pe_ix ix_tup (pv 5) pe_int (fun _ _ => rfl)) (pa_cons (pe_bltn (v := .ty "list") (u := .type "list") (by rfl) T.z_list (by decide +kernel) rfl) pa_nil))))) (pw_or1 (pt_not (pt_val (pe_callB call_isi (by rfl) T.z_isinstance (by decide +kernel) (pa_cons (pe_ix ix_tup (pv 0) pe_int (fun _ _ => rfl)) (pa_cons (pe_bltn (v := .ty "list") (u := .type "list") (by rfl) T.z_list (by decide +kernel) rfl) pa_nil)))))))))
      (pss_one (ps_ret pe_bl))
      pss_nil)
      (pss_cons (ps_if (pt_not (pt_val (pe_callB (cr_all rfl) (by rfl) T.z_all (by decide +kernel) (pa_cons (pe_lc (own := [("_law_number", 6)]) (g := (gName 6)) (tt := tYes) rfl sc__law_right.nd (pi_list (pe_op op_cat (pe_op op_cat (pe_lst (pa_cons (pe_ix ix_tup (pv 5) pe_int (fun _ _ => rfl)) pa_nil)) (pe_callTy call_list_of (by rfl) T.z_list (by decide +kernel) (pa_cons (pe_ix ix_tup (pv 5) pe_int (fun _ _ => rfl)) pa_nil))) (pe_ix ix_tup (pv 5) pe_int (fun _ _ => rfl)))) (blkOk_by (own := [("_law_number", 6)]) (N := ["_law_found", "_law_at", "_law_numbers_here", "_law_leaves_here", "_law_cells_here", "_law_state", "_law_number"]) (sc := defScope s__law_right) (by decide +kernel)) (fun _ _ _ _ _ => (pg_name (i := 6) sc__law_right.nd rfl (Or.inl rfl))) (fun _ _ _ _ _ => pts_nil) (fun _ _ _ _ _ => (pe_call (ok__law_whole T T.F__law_whole) (hr.mono (by decide)) rfl T.g__law_whole T.F__law_whole.kp (bd__law_whole T.F__law_whole) .nil pass0 (pa_cons (pv 6) pa_nil)))) pa_nil))))
      (pss_one (ps_ret pe_bl))
      pss_nil)
      (pss_one (ps_ret (pe_cmpR (op_eqD hr.units) (pv 0) (pe_tup (pa_cons (pe_tup (pa_cons (pv 1) (pa_cons (pe_callTy call_tuple_of (by rfl) T.z_tuple (by decide +kernel) (pa_cons (pv 2) pa_nil)) (pa_cons (pv 4) pa_nil)))) (pa_cons (pv 3) pa_nil))) (nomark _))))))))), ?_⟩
    walk_at "go"
    rename_i pa hpa pb hpb pc hpc pd hpd D hD
    have ea : [V.int row] ++ nums.map V.int ++ cells.map V.int = (row :: (nums ++ cells)).map V.int := by simp
    have e0 : Ex H (upd (upd (upd (upd H pa (HO.lst [V.int row])) pb (HO.lst (nums.map V.int))) pc (HO.lst ([V.int row] ++ nums.map V.int))) pd (HO.lst ([V.int row] ++ nums.map V.int ++ cells.map V.int))) := Ex.trans (Ex.trans (Ex.trans (Ex.new hpa) (Ex.new hpb)) (Ex.new hpc)) (Ex.new hpd)
    refine lc_pureL (K := K) (a := pd) (xs := (row :: (nums ++ cells)).map V.int) (((row :: (nums ++ cells)).map fun _ => true).map V.bl) (SqL.of (by rw [upd_same, ea])) hD (fun _ => rfl) (by simp) (by simp; omega) ?_ ?_
    · intro i v H5 y Q2 hy e5 hv k2
      rw [List.getElem?_map, List.getElem?_map] at hy
      rw [List.getElem?_map] at hv
      cases ex : (row :: (nums ++ cells))[i]? with
      | none => rw [ex] at hy; cases hy
      | some x =>
        rw [ex] at hy hv
        cases hy
        cases hv
        walk_at "go"
        exact use_isWhole_int (k2 _ (Ex.refl _))
    · intro H6 e6 hD6
      have e06 := Ex.trans e0 e6
      have h1' := e06 _ _ h1
      have h2' := e06 _ _ h2
      have h3' := e06 _ _ h3
      have h4' := e06 _ _ h4
      have h5' := e06 _ _ h5
      have h6' := e06 _ _ h6
      have h7' := e06 _ _ h7
      have h8' := e06 _ _ h8
      have ht : ((row :: (nums ++ cells)).map fun _ => true).all id = true := by simp
      walk_at "go"
      rw [ht]
      walk_at "go"
      rename_i pe hpe pf hpf pg hpg
      have e67 := Ex.trans (Ex.trans (Ex.new (o := .tup (nums.map V.int)) hpe) (Ex.new (o := .tup [.int row, .ref pe, .ref c]) hpf)) (Ex.new (o := .tup [.ref pf, .ref l]) hpg)
      refine And.intro ?r1 (And.intro ?r2 (And.intro ?r3 (And.intro ?r4 ?r5)))
      case r1 => exact dp_both (SqT.of (e67 _ _ h1')) (SqT.of (e67 _ _ h2')) (SqT.of (e67 _ _ h3')) (SqL.of (e67 _ _ h4')) (SqL.of (e67 _ _ h5'))
      case r2 => exact dp_both (SqT.of (by kct_strs)) (SqT.of (by kct_strs)) (SqT.of (by kct_strs)) (SqL.of (e67 _ _ h8')) (SqL.of (e67 _ _ h7'))
      case r3 => exact bothD_shaped o.hlv
      case r4 => exact bothD_shaped o.hlv
      case r5 =>
        rw [eqv_of (bothD_shaped o.hlv)]
        exact k _ (Ex.trans e06 e67)
end

end HB
namespace HB
open PySem PySem.Spec PyProof.Rows L2 Evl
/-! ### rules with the law's own K told (within comprehensions) -/
section
variable (K : PySem.W.Frag) {X : Cx}
theorem ixLK (h : X.K = K) : IxR X (rIxL K) := by subst h; exact ix_list
theorem ixTK (h : X.K = K) : IxR X (rIxT K) := by subst h; exact ix_tup
theorem lenK (h : X.K = K) : CallR X (.builtin "len") (fun xs H Q => ∃ x n, xs = [x] ∧ LenV K x H n ∧ Q (.int n) H) := by subst h; exact call_len
theorem isiK (h : X.K = K) : CallR X (.builtin "isinstance") (rIsi K) := by subst h; exact call_isi
end
end HB
namespace HB
open PySem PySem.Spec PyProof.Rows L2 Evl
local macro_rules | `(tactic| k_memK) => `(tactic| first
  | assumption
  | (refine Ne.symm ?_; assumption)
  | (refine @ne_of_none ?nh _ _ ?no ?n1 ?n2; (case n2 => assumption); (case n1 => kct_strs))
  | (refine Ne.symm (@ne_of_none ?nh _ _ ?no ?n1 ?n2); (case n2 => assumption); (case n1 => kct_strs)))
local macro_rules | `(tactic| kct_strs) => `(tactic| first
  | assumption
  | exact upd_same
  | (refine Eq.trans (upd_ne ?l1) ?l2; (case l1 => k_memK); (case l2 => kct_strs))
  | (refine (by assumption : Evl.Ex _ _) _ _ ?_; kct_strs))
local macro_rules | `(tactic| kbo_bools) => `(tactic| first
  | assumption
  | (refine SqL.of ?_; kct_strs)
  | (refine SqT.of ?_; kct_strs)
  | (refine Evl.ex_l (by assumption) ?_; assumption)
  | (refine Evl.ex_t (by assumption) ?_; assumption)
  | (refine Evl.ex_l (Evl.Ex.new ?e1) ?e2; (case e1 => assumption); (case e2 => kbo_bools))
  | (refine Evl.ex_t (Evl.Ex.new ?e1) ?e2; (case e1 => assumption); (case e2 => kbo_bools))
  | exact Txt.t_BOXES (by assumption) _
  )
local macro_rules | `(tactic| kd_p1) => `(tactic| first
  | exact ClsV.ty _
  | exact ClsV.own _
  | (refine TyX.base ?t1; first | exact TyOf.int _ | exact TyOf.str _ | exact TyOf.bl _ | exact TyOf.non | exact TyOf.flt _ | (refine @TyOf.lst _ _ _ ?t3 ?t2; (case t2 => kct_strs)) | (refine @TyOf.tup _ _ _ ?t3 ?t2; (case t2 => kct_strs)) | (refine @TyOf.dK _ _ _ ?t3 ?t2; (case t2 => kct_strs)))
  | exact kit_NoneType_bool | exact kit_NoneType_int | exact kit_NoneType_list | exact kit_NoneType_str | exact kit_NoneType_tuple | exact kit_bool_bool | exact kit_bool_int | exact kit_bool_list | exact kit_bool_str | exact kit_bool_tuple | exact kit_dict_bool | exact kit_dict_int | exact kit_dict_list | exact kit_dict_str | exact kit_dict_tuple | exact kit_float_bool | exact kit_float_int | exact kit_float_list | exact kit_float_str | exact kit_float_tuple | exact kit_int_bool | exact kit_int_int | exact kit_int_list | exact kit_int_str | exact kit_int_tuple | exact kit_list_bool | exact kit_list_int | exact kit_list_list | exact kit_list_str | exact kit_list_tuple | exact kit_str_bool | exact kit_str_int | exact kit_str_list | exact kit_str_str | exact kit_str_tuple | exact kit_tuple_bool | exact kit_tuple_int | exact kit_tuple_list | exact kit_tuple_str | exact kit_tuple_tuple)
local macro_rules | `(tactic| got_up) => `(tactic| first
  | ((with_reducible show (_ : Int) < _); omega)
  | ((with_reducible show (_ : Int) ≤ _); omega)
  | ((with_reducible show (_ : Nat) < _); omega)
  | ((with_reducible show (_ : Nat) ≤ _); omega)
  | exact rfl
  | assumption
  | omega
  | kbo_bools
  | kct_strs
  | exact Nat.le_of_ble_eq_true rfl
  | exact Evl.sz_of (Nat.le_of_ble_eq_true rfl)
  | exact Evl.sz_lt (Nat.le_of_ble_eq_true rfl)
  | kd_p1
  | exact ⟨_, rfl⟩
  | decide
  | (dsimp only; omega)
  | (dsimp only; decide)
  | (simp only [List.length_map, List.length_take, List.length_append, List.length_cons, List.length_nil, List.length_drop]; omega)
  | (refine ⟨?_, ?_⟩ <;> (dsimp only; omega))
  | (refine ⟨?_, ?_⟩ <;> omega)
  | (refine ⟨?_, ?_, ?_⟩ <;> omega)
  | (refine ⟨?_, ?_, ?_, ?_⟩ <;> omega)
  | (show CPow _ _; refine ⟨?_, ?_, ?_⟩ <;> first | omega | decide | (dsimp only; omega))
  | (show CDivN _ _; refine ⟨?_, ?_⟩ <;> first | omega | decide | (dsimp only; omega))
  | (show CMul _ _; refine Or.inl ?_; refine ⟨?_, ?_⟩ <;> first | omega | decide | (dsimp only; omega))
  | (show CMul _ _; refine Or.inr ?_; refine ⟨?_, ?_⟩ <;> first | omega | decide | (dsimp only; omega))
  | (refine Or.inl (Exists.intro ?x1 (And.intro ?x2 ?x3)); (case x2 => kbo_bools); (case x3 => rfl))
  | (refine Or.inr (Exists.intro ?x1 (And.intro ?x2 ?x3)); (case x2 => kbo_bools); (case x3 => rfl))
  | (refine Or.inl ?_; kbo_bools)
  | (refine Or.inr ?_; kbo_bools)
  | (refine Or.inl (And.intro rfl (Exists.intro ?x1 ?x2)); (case x2 => kbo_bools))
  | (refine Exists.intro ?x1 ?x2; (case x2 => kbo_bools))
  | (refine Evl.sz_of ?_; (try simp only [List.length_map, List.length_take, List.length_append, List.length_cons, List.length_nil, List.length_drop]); omega)
  | (refine Evl.sz_lt ?_; (try simp only [List.length_map, List.length_take, List.length_append, List.length_cons, List.length_nil, List.length_drop]); omega)
  | (refine And.intro ?x1 ?x2; (case x2 => rfl); (case x1 => first | assumption | (refine Evl.sz_of ?_; omega)))
  | (refine And.intro ?x1 ?x2; (case x1 => rfl); (case x2 => rfl)))
local macro_rules | `(tactic| kba_ints) => `(tactic| (
  (fail_if_success (refine Exists.intro (fun (_ _ : Nat) (_ : L2.St) (_ : Hp) => True) ?_));
  (fail_if_success (refine Exists.intro (fun (_ _ : Nat) (_ : Hp) => True) ?_));
  (fail_if_success (refine Exists.intro (fun (_ : Nat) (_ : L2.St) (_ : Hp) => True) ?_));
  (fail_if_success (refine Exists.intro (fun (_ : L2.St) (_ : Hp) => True) ?_));
  (first
  | (refine And.intro ?c1 ?c2; (case c1 => got_up))
  | (refine Or.inl (And.intro ?c1 ?c2); (case c1 => kbo_bools))
  | (refine Or.inr (And.intro ?c1 ?c2); (case c1 => kbo_bools))
  | (refine Exists.intro ?w1 ?w2; rotate_left)
  | intro _
  | (refine iteT ?_)
  | (refine iteF ?_))))
local macro_rules | `(tactic| walk_at "go") => `(tactic| (repeat kba_ints))
section
variable {P : Program} {w : World} {K : PySem.W.Frag} {mg : Str → Option Value} {base : Heap}
theorem Hand.ext {Hs H H' : Hp} {h c : Addr} {ns : List Int} {n : Nat} (d : Hand Hs H h c ns n) (e : Ex H H') : Hand Hs H' h c ns n := by
  obtain ⟨fold, idx, rest, cnt, q, r⟩ := d.it
  exact ⟨d.fr, Ex.trans d.ex e, d.cl, fold, idx, rest, cnt, e _ _ q, r⟩
theorem joinL_len (S : List Nat) : ∀ ps : List (List Nat), (TL.joinL S ps).length ≤ (ps.map (·.length)).sum + ps.length * S.length
  | [] => by simp [TL.joinL]
  | [p] => by simp [TL.joinL]
  | p :: q :: r => by
    have ih := joinL_len S (q :: r)
    show (p ++ (S ++ TL.joinL S (q :: r))).length ≤ _
    rw [List.length_append, List.length_append, List.map_cons, List.sum_cons, List.length_cons, Nat.succ_mul]
    omega
theorem word_short {row : Int} {nums cells : List Int} {lv : List Str} (o : StOk row nums cells lv) : ∀ x ∈ showWords row nums cells lv, x.length ≤ 60 := fun x hx => by
  have os := o.show
  unfold showWords at hx
  rcases List.mem_cons.mp hx with rfl | hx
  · exact Nat.le_trans (numT_len os.hrow) (by decide)
  · rcases List.mem_append.mp hx with hx | hx
    · rcases List.mem_append.mp hx with hx | hx
      · obtain ⟨y, hy, rfl⟩ := List.mem_map.mp hx
        exact Nat.le_trans (numT_len (os.hnums y hy)) (by decide)
      · obtain rfl := List.mem_singleton.mp hx
        obtain ⟨cs, e1, e2, _⟩ := signs_flat o.hlv
        rw [TL.len_tl, e1, e2]
        exact o.few
    · obtain ⟨y, hy, rfl⟩ := List.mem_map.mp hx
      exact Nat.le_trans (numT_len (os.hcells y hy)) (by decide)
theorem show_short {row : Int} {nums cells : List Int} {lv : List Str} (o : StOk row nums cells lv) : (showText row nums cells lv).length ≤ 90000 := by
  unfold showText
  rw [TL.len_tl, TL.join_eq, TL.tl_join]
  refine Nat.le_trans (joinL_len _ _) ?_
  have z := sum_le (fun s : Str => s.length) 60 _ (word_short o)
  have e : ((showWords row nums cells lv).map TL.tl).map (·.length) = (showWords row nums cells lv).map (·.length) := by
    rw [List.map_map]
    exact List.map_congr_left fun x _ => (TL.len_tl x).symm
  have e1 : (TL.tl (" " : Str)).length = 1 := by decide +kernel
  rw [e, List.length_map, e1]
  have hl : (showWords row nums cells lv).length ≤ 68 := by
    rw [(showWords_get (row := row) (cells := cells) (lv := lv) o.numsL).2.2.2.2, o.len]
    have := o.few
    omega
  omega
/-! ### law -/
@[irreducible] def spLaw (K : PySem.W.Frag) : Sp := fun vs H Q _ => ∃ (a : Addr) (ns : List Int), vs = [.ref a] ∧ SqL K H a (ns.map V.int) ∧ ns.length ≤ 63 ∧ ∀ H', Q (.bl true) H'
theorem spLaw_use {K : PySem.W.Frag} {H : Hp} {a : Addr} {ns : List Int} {E : XK} (hS : SqL K H a (ns.map V.int)) (hl : ns.length ≤ 63) : spLaw K [.ref a] H (fun v _ => v = .bl true) E := by
  unfold spLaw
  exact ⟨a, ns, rfl, hS, hl, fun _ => rfl⟩
theorem use_hand {K : PySem.W.Frag} {H : Hp} {a : Addr} {ns : List Int} {Q : VK} {E : XK} (hS : SqL K H a (ns.map V.int)) (hl : ns.length ≤ 63)
    (k : ∀ (H' : Hp) (h c : Addr) (ns' : List Int), Hand (upd H c (.lst (ns'.map V.int))) H' h c ns' 0 → Evl.Ex H (upd H c (.lst (ns'.map V.int))) → Q (.ref h) H') : spHand K [.ref a] H Q E := by
  unfold spHand
  exact ⟨a, ns, rfl, hS, hl, k⟩
theorem ok_law {f : Addr} {fd : FuncData} (T : Txt w K mg) (F : FnP K "law" "law" s_law f fd) : FnOk P w K mg base CX0 6 f fd ["_law_script"] (spLaw K) := by
  refine F.ok sc_law (fun vs H Q E h => ?_) (fun cdv A outer s H vs Q E hr h => ?_)
  · unfold spLaw at h
    obtain ⟨a, ns, rfl, _⟩ := h
    rfl
  · unfold spLaw at h
    obtain ⟨a, ns, rfl, hS, hl, k⟩ := h
    refine ⟨_, (PSs.nox (pss_cons (ps_set (i := 1) sc_law.nd rfl (Or.inr rfl) (pe_call (ok__law_hand T T.F__law_hand) (hr.mono (by decide)) rfl T.g__law_hand T.F__law_hand.kp (bd__law_hand T.F__law_hand) .nil pass0 (pa_cons (pv 0) pa_nil)))
      (pss_cons (ps_for PassesOwn.never rfl (pi_range1 (by rfl) T.z_range (pa_cons pe_int pa_nil)) (pg_name (i := 2) sc_law.nd rfl (Or.inl rfl))
      (pss_cons (ps_set (i := 3) sc_law.nd rfl (Or.inl rfl) (pe_call (ok__law_cells T T.F__law_cells) (hr.mono (by decide)) rfl T.g__law_cells T.F__law_cells.kp (bd__law_cells T.F__law_cells) .nil pass0 (pa_cons (pv 1) (pa_cons (pe_ix ix_list (pe_lst (pa_cons pe_int (pa_cons pe_int pa_nil))) (pe_call (ok__law_draw T T.F__law_draw) (hr.mono (by decide)) rfl T.g__law_draw T.F__law_draw.kp (bd__law_draw T.F__law_draw) .nil pass0 (pa_cons (pv 1) (pa_cons pe_int pa_nil))) (fun _ _ => rfl)) pa_nil))))
      (pss_cons (ps_set (i := 4) sc_law.nd rfl (Or.inl rfl) (pe_call (ok__law_leaves T T.F__law_leaves) (hr.mono (by decide)) rfl T.g__law_leaves T.F__law_leaves.kp (bd__law_leaves T.F__law_leaves) .nil pass0 (pa_cons (pv 1) (pa_cons (pe_callB call_len (by rfl) T.z_len (by decide +kernel) (pa_cons (pv 3) pa_nil)) pa_nil))))
      (Evl.pss_cut (ps_if (pt_cmpR op_eq (pe_call (ok__law_draw T T.F__law_draw) (hr.mono (by decide)) rfl T.g__law_draw T.F__law_draw.kp (bd__law_draw T.F__law_draw) .nil pass0 (pa_cons (pv 1) (pa_cons pe_int pa_nil))) pe_int (nomark _))
      (pss_one (ps_setLc (i := 4) (own := [("_law_cell", 12)]) (g := (gName 12)) (tt := tYes) rfl sc_law.nd rfl rfl (sw_true rfl rfl rfl (by decide +kernel)) (pi_list (pv 3)) (blkOk_by (own := [("_law_cell", 12)]) (N := ["_law_script", "_law_hand_here", "_law_turn", "_law_cells_here", "_law_leaves_here", "_law_numbers_here", "_law_at", "_law_text", "_law_state", "_law_handed", "_law_k", "_law_found", "_law_cell"]) (sc := defScope s_law) (by decide +kernel)) (fun _ _ _ _ _ => (pg_name (i := 12) sc_law.nd rfl (Or.inl rfl))) (fun _ _ _ _ _ => pts_nil) (fun _ _ _ _ _ => (pe_ix (HB.ixLK K rfl) (pe_lst (pa_cons pe_str (pa_cons pe_str (pa_cons pe_str pa_nil)))) (pe_call (ok__law_draw T T.F__law_draw) (hr.mono (by decide)) rfl T.g__law_draw T.F__law_draw.kp (bd__law_draw T.F__law_draw) .nil pass0 (pa_cons (pv 1) (pa_cons pe_int pa_nil))) (fun _ _ => rfl)))))
      pss_nil)
      (pss_cons (ps_set (i := 5) sc_law.nd rfl (Or.inl rfl) (pe_call (ok__law_numbers T T.F__law_numbers) (hr.mono (by decide)) rfl T.g__law_numbers T.F__law_numbers.kp (bd__law_numbers T.F__law_numbers) .nil pass0 (pa_cons (pv 1) pa_nil)))
      (pss_cons (ps_set (i := 6) sc_law.nd rfl (Or.inl rfl) (pe_ix ix_list (pe_lst (pa_cons pe_int (pa_cons pe_int (pa_cons (pe_call (ok__law_draw T T.F__law_draw) (hr.mono (by decide)) rfl T.g__law_draw T.F__law_draw.kp (bd__law_draw T.F__law_draw) .nil pass0 (pa_cons (pv 1) (pa_cons pe_int pa_nil))) pa_nil)))) (pe_call (ok__law_draw T T.F__law_draw) (hr.mono (by decide)) rfl T.g__law_draw T.F__law_draw.kp (bd__law_draw T.F__law_draw) .nil pass0 (pa_cons (pv 1) (pa_cons pe_int pa_nil))) (fun _ _ => rfl)))
      (pss_cons (ps_set (i := 7) sc_law.nd rfl (Or.inl rfl) (pe_call (ok__law_written T T.F__law_written) (hr.mono (by decide)) rfl T.g__law_written T.F__law_written.kp (bd__law_written T.F__law_written) .nil pass0 (pa_cons (pv 6) (pa_cons (pv 5) (pa_cons (pv 4) (pa_cons (pv 3) pa_nil))))))
      (pss_cons (ps_set (i := 8) sc_law.nd rfl (Or.inl rfl) (pe_tup (pa_cons (pv 6) (pa_cons (pe_callTy call_tuple_of (by rfl) T.z_tuple (by decide +kernel) (pa_cons (pv 5) pa_nil)) (pa_cons (pe_callTy call_list_of (by rfl) T.z_list (by decide +kernel) (pa_cons (pv 3) pa_nil)) pa_nil)))))
      (pss_cons (ps_set (i := 9) sc_law.nd rfl (Or.inl rfl) (pe_callTy call_list_of (by rfl) T.z_list (by decide +kernel) (pa_cons (pv 4) pa_nil)))
      (pss_one (ps_for PassesOwn.never rfl (pi_range1 (by rfl) T.z_range (pa_cons pe_int pa_nil)) (pg_name (i := 10) sc_law.nd rfl (Or.inl rfl))
      (pss_cons (ps_if (PW.pt (pw_or (pt_cmpR op_ne (pe_call (ok_show_state T T.F_show_state) (hr.mono (by decide)) rfl T.g_show_state T.F_show_state.kp (bd_show_state T.F_show_state) .nil pass0 (pa_cons (pv 8) (pa_cons (pv 9) pa_nil))) (pv 7) (nomark _)) (pw_or (pt_cmpR (op_neD hr.units) (pv 8) (pe_tup (pa_cons (pv 6) (pa_cons (pe_callTy call_tuple_of (by rfl) T.z_tuple (by decide +kernel) (pa_cons (pv 5) pa_nil)) (pa_cons (pv 3) pa_nil)))) (nomark _)) (pw_or1 (pt_cmpR (op_neD hr.units) (pv 9) (pv 4) (nomark _))))))
      (pss_one (ps_ret pe_bl))
      pss_nil)
      (pss_cons (ps_set (i := 11) sc_law.nd rfl (Or.inl rfl) (pe_call (ok_read_state T T.F_read_state) (hr.mono (by decide)) rfl T.g_read_state T.F_read_state.kp (bd_read_state T.F_read_state) .nil HB.pass_no (pa_cons (pv 7) pa_nil)))
      (pss_cons (ps_if (PW.pt (pw_or (pt_not (pt_val (pe_call (ok__law_right T T.F__law_right) (hr.mono (by decide)) rfl T.g__law_right T.F__law_right.kp (bd__law_right T.F__law_right) .nil pass0 (pa_cons (pv 11) (pa_cons (pv 6) (pa_cons (pv 5) (pa_cons (pv 4) (pa_cons (pv 3) pa_nil)))))))) (pw_or1 (pt_cmpR op_ne (pe_call (ok_show_state T T.F_show_state) (hr.mono (by decide)) rfl T.g_show_state T.F_show_state.kp (bd_show_state T.F_show_state) .nil pass0 (pa_cons (pe_ix ix_tup (pv 11) pe_int (fun _ _ => rfl)) (pa_cons (pe_ix ix_tup (pv 11) pe_int (fun _ _ => rfl)) pa_nil))) (pv 7) (nomark _)))))
      (pss_one (ps_ret pe_bl))
      pss_nil)
      (pss_cons (ps_expr (pe_bm0 PySem.F.plainAttrs_list PySem.F.slot_list_clear PySem.F.type_list_clear mt_clear (pe_ix ix_tup (pe_ix ix_tup (pv 11) pe_int (fun _ _ => rfl)) pe_int (fun _ _ => rfl))))
      (pss_one (ps_expr (pe_bm PySem.F.plainAttrs_list PySem.F.slot_list_append PySem.F.type_list_append mt_append (pe_ix ix_tup (pv 11) pe_int (fun _ _ => rfl)) (pa_cons pe_str pa_nil)))))))))))))))))))
      (pss_one (ps_ret pe_bl))))), ?_⟩
    walk_at "go"
    refine use_hand hS hl fun H0 h c ns' d0 _ => ?_
    generalize upd H c (.lst (ns'.map V.int)) = Hs at d0
    walk_at "go"
    refine for_range (lo := 0) (fun i σ H' => ∃ v2 v3 v4 v5 v6 v7 v8 v9 v10 v11 v12, σ = [some (.ref a), some (.ref h), v2, v3, v4, v5, v6, v7, v8, v9, v10, v11, v12] ∧ Hand Hs H' h c ns' (10000 * i)) ?_ ?_ ?_
    · exact ⟨_, _, _, _, _, _, _, _, _, _, _, rfl, d0⟩
    · rintro i σ H' hi ⟨v2, v3, v4, v5, v6, v7, v8, v9, v10, v11, v12, rfl, d1⟩
      have hi6 : i < 6 := hi
      walk_at "go"
      rename_i p hp
      refine use_draw (d1.laid hp) (by omega) (by decide) (by decide) fun r1 H1 a1 b1 d2 => ?_
      obtain ⟨y, hy, hym⟩ := atI_mem (xs := [V.int 4, V.int 60]) a1 b1
      obtain ⟨m, rfl, hm⟩ : ∃ m : Int, y = V.int m ∧ (1 ≤ m ∧ m ≤ 60) := by
        simp only [List.mem_cons, List.not_mem_nil, or_false] at hym
        rcases hym with rfl | rfl
        · exact ⟨_, rfl, by omega, by omega⟩
        · exact ⟨_, rfl, by omega, by omega⟩
      have hp1 : H1 p = some (.lst [V.int 4, V.int 60]) := d2.ex _ _ upd_same
      have es1 : Ex Hs (upd Hs p (.lst [V.int 4, V.int 60])) := Ex.new (fresh_back d1.ex hp)
      generalize upd Hs p (.lst [V.int 4, V.int 60]) = Hs1 at d2 es1
      walk_at "go"
      refine use_cells d2 (by omega) hm.1 (by omega) fun cs D H2 c0 c1 cv d3 hD => ?_
      have es2 : Ex Hs (upd Hs1 D (.lst (cs.map V.int))) := Ex.trans es1 (Ex.new hD)
      have hDs : upd Hs1 D (.lst (cs.map V.int)) D = some (.lst (cs.map V.int)) := upd_same
      generalize upd Hs1 D (.lst (cs.map V.int)) = Hs2 at d3 es2 hDs
      have hD2 := d3.ex _ _ hDs
      walk_at "go"
      have el : ((cs.map V.int).length : Int) = ((cs.length : Nat) : Int) := by rw [List.length_map]
      rw [el]
      refine use_leaves d3 (by omega) c0 (by omega) fun lv L H3 lvl lvk d4 hL => ?_
      have es3 : Ex Hs2 (upd Hs2 L (.lst (lv.map V.str))) := Ex.new hL
      have hLs : upd Hs2 L (.lst (lv.map V.str)) L = some (.lst (lv.map V.str)) := upd_same
      generalize upd Hs2 L (.lst (lv.map V.str)) = Hs3 at d4 es3 hLs
      walk_at "go"
      refine ⟨fun σ' H' => ∃ (v12' : Option V) (L : Addr) (lv : List Str) (Hs3 : Hp), σ' = [some (.ref a), some (.ref h), some (.int (0 + (i : Int))), some (.ref D), some (.ref L), v5, v6, v7, v8, v9, v10, v11, v12'] ∧ Ex Hs2 Hs3 ∧ Hand Hs3 H' h c ns' (10000 * i + 6000) ∧
        Hs3 L = some (.lst (lv.map V.str)) ∧ lv.length = cs.length ∧ ∀ x ∈ lv, isLeaf x, ?_, ?_⟩
      · walk_at "go"
        refine use_draw d4 (by omega) (by decide) (by decide) fun r3 H4 a3 b3 d5 => ?_
        walk_at "go"
        refine iteD (fun q => ?_) (fun q => ?_)
        · walk_at "go"
          have hD4 := d5.ex _ _ (es3 _ _ hDs)
          refine And.intro ⟨_, SqL.of hD4⟩ ?_
          intro D2 hD2'
          refine lc_handL (K := K) (a := D) (xs := cs.map V.int) 1 d5 (fun _ y => ∃ s, y = V.str s ∧ isLeaf s) (SqL.of (es3 _ _ hDs)) hD2' (fun _ => rfl) (by rw [List.length_map]; omega) ?_ ?_
          · intro j x Hs' H5 Q2 hx e5 d6 k2
            have hj : j < cs.length := by have := (List.getElem?_eq_some_iff.mp hx).1; rw [List.length_map] at this; exact this
            walk_at "go"
            rename_i p5 hp5
            refine use_draw (d6.laid hp5) (by omega) (by decide) (by decide) fun r4 H6 a4 b4 d7 => ?_
            obtain ⟨y, hy, hym⟩ := atI_mem (xs := [V.str "open", V.str "look", V.str "shut"]) a4 b4
            obtain ⟨z, rfl, hz⟩ : ∃ z, y = V.str z ∧ isLeaf z := by
              simp only [List.mem_cons, List.not_mem_nil, or_false] at hym
              rcases hym with rfl | rfl | rfl
              · exact ⟨_, rfl, .inl rfl⟩
              · exact ⟨_, rfl, .inr (.inl rfl)⟩
              · exact ⟨_, rfl, .inr (.inr rfl)⟩
            have hp6 : H6 p5 = some (.lst [V.str "open", V.str "look", V.str "shut"]) := d7.ex _ _ upd_same
            walk_at "go"
            exact k2 _ H6 ⟨z, rfl, hz⟩ ((d7.less (Ex.new (fresh_back d6.ex hp5)) d6.cl).le (by omega))
          · intro ys H5 yl yk d6 hD5
            obtain ⟨lv2, rfl, lk2⟩ := of_all yk
            rw [List.length_map] at yl
            rw [List.length_map] at yl d6
            have hn5 : h ≠ D2 := d5.old hD2'
            have hf5 : Hs3 D2 = none := fresh_back d5.ex hD2'
            exact ⟨_, D2, lv2, upd Hs3 D2 (.lst (lv2.map V.str)), rfl, Ex.trans es3 (Ex.new hf5), ((d6.grow hD5 (Ne.symm hn5)).le (by omega)), upd_same, yl, lk2⟩
        · exact ⟨_, L, lv, Hs3, rfl, es3, d5.le (by omega), hLs, lvl, lvk⟩
      · rintro σ' H4 ⟨v12', L, lv, Hs3, rfl, es3, d5, hLs, lvl, lvk⟩
        walk_at "go"
        refine use_numbers d5 (by omega) fun nums N H5 n6 nf d6 hN => ?_
        have es4 : Ex Hs3 (upd Hs3 N (.lst (nums.map V.int))) := Ex.new hN
        have hNs : upd Hs3 N (.lst (nums.map V.int)) N = some (.lst (nums.map V.int)) := upd_same
        generalize upd Hs3 N (.lst (nums.map V.int)) = Hs4 at d6 es4 hNs
        walk_at "go"
        refine use_draw d6 (by omega) (by decide) (by decide) fun r5 H6 a5 b5 d7 => ?_
        walk_at "go"
        rename_i p7 hp7
        refine use_draw (d7.laid hp7) (by omega) (m := 3) (by decide) (by decide) fun r6 H7 a6 b6 d8 => ?_
        obtain ⟨y, hy, hym⟩ := atI_mem (xs := [V.int 0, V.int 24, V.int r5]) a6 b6
        obtain ⟨row, rfl, hrow⟩ : ∃ m : Int, y = V.int m ∧ (0 ≤ m ∧ m ≤ 24) := by
          simp only [List.mem_cons, List.not_mem_nil, or_false] at hym
          rcases hym with rfl | rfl | rfl
          · exact ⟨_, rfl, by omega, by omega⟩
          · exact ⟨_, rfl, by omega, by omega⟩
          · exact ⟨_, rfl, by omega, by omega⟩
        have hp77 : H7 p7 = some (.lst [V.int 0, V.int 24, V.int r5]) := d8.ex _ _ upd_same
        have es5 : Ex Hs4 (upd Hs4 p7 (.lst [V.int 0, V.int 24, V.int r5])) := Ex.new (fresh_back d7.ex hp7)
        have d9 : Hand Hs H7 h c ns' (10000 * (i + 1)) := (d8.less (Ex.trans es2 (Ex.trans es3 (Ex.trans es4 es5))) d1.cl).le (by omega)
        have hN7 : H7 N = some (.lst (nums.map V.int)) := d8.ex _ _ (es5 _ _ hNs)
        have hL7 : H7 L = some (.lst (lv.map V.str)) := d8.ex _ _ (es5 _ _ (es4 _ _ hLs))
        have hD7 : H7 D = some (.lst (cs.map V.int)) := d8.ex _ _ (es5 _ _ (es4 _ _ (es3 _ _ hDs)))
        have ok : StOk row nums cs lv := ⟨hrow, n6, nf, cv, lvk, lvl.symm, by omega, by omega⟩
        clear d2 d3 d4 d5 d6 d7 d8
        walk_at "go"
        refine use_written ok (SqL.of hN7) (SqL.of hL7) (SqL.of hD7) fun H8 e8 => ?_
        have hN8 := e8 _ _ hN7
        have hL8 := e8 _ _ hL7
        have hD8 := e8 _ _ hD7
        walk_at "go"
        rename_i m1 hm1 c1 hc1 q1 hq1 l1 hl1
        have hm1' : upd (upd (upd (upd H8 m1 (HO.tup (nums.map V.int))) c1 (HO.lst (cs.map V.int))) q1 (HO.tup [V.int row, V.ref m1, V.ref c1])) l1 (HO.lst (lv.map V.str)) m1 = some (.tup (nums.map V.int)) := by kct_strs
        have hc1' : upd (upd (upd (upd H8 m1 (HO.tup (nums.map V.int))) c1 (HO.lst (cs.map V.int))) q1 (HO.tup [V.int row, V.ref m1, V.ref c1])) l1 (HO.lst (lv.map V.str)) c1 = some (.lst (cs.map V.int)) := by kct_strs
        have hq1' : upd (upd (upd (upd H8 m1 (HO.tup (nums.map V.int))) c1 (HO.lst (cs.map V.int))) q1 (HO.tup [V.int row, V.ref m1, V.ref c1])) l1 (HO.lst (lv.map V.str)) q1 = some (.tup [V.int row, V.ref m1, V.ref c1]) := by kct_strs
        have hl1' : upd (upd (upd (upd H8 m1 (HO.tup (nums.map V.int))) c1 (HO.lst (cs.map V.int))) q1 (HO.tup [V.int row, V.ref m1, V.ref c1])) l1 (HO.lst (lv.map V.str)) l1 = some (.lst (lv.map V.str)) := upd_same
        have e9 : Ex H8 (upd (upd (upd (upd H8 m1 (HO.tup (nums.map V.int))) c1 (HO.lst (cs.map V.int))) q1 (HO.tup [V.int row, V.ref m1, V.ref c1])) l1 (HO.lst (lv.map V.str))) := Ex.trans (Ex.trans (Ex.trans (Ex.new hm1) (Ex.new hc1)) (Ex.new hq1)) (Ex.new hl1)
        generalize upd (upd (upd (upd H8 m1 (HO.tup (nums.map V.int))) c1 (HO.lst (cs.map V.int))) q1 (HO.tup [V.int row, V.ref m1, V.ref c1])) l1 (HO.lst (lv.map V.str)) = HB at hm1' hc1' hq1' hl1' e9 ⊢
        have d10 : Hand Hs HB h c ns' (10000 * (i + 1)) := (d9.ext e8).ext e9
        have hNB := e9 _ _ hN8
        have hLB := e9 _ _ hL8
        have hDB := e9 _ _ hD8
        refine for_range (lo := 0) (fun j σ H' => ∃ v10 v11, σ = [some (.ref a), some (.ref h), some (.int (0 + (i : Int))), some (.ref D), some (.ref L), some (.ref N), some (.int row), some (.str (showText row nums cs lv)), some (.ref q1), some (.ref l1), v10, v11, v12'] ∧ Ex HB H') ?_ ?_ ?_
        · exact ⟨_, _, rfl, Ex.refl _⟩
        · rintro j σ H9 hj ⟨v10, v11, rfl, eB⟩
          walk_at "go"
          refine use_show ok.show (SqT.of (eB _ _ hq1')) (SqT.of (eB _ _ hm1')) (SqL.of (eB _ _ hc1')) (SqL.of (eB _ _ hl1')) fun H10 e10 => ?_
          have eB2 := Ex.trans eB e10
          walk_at "go"
          refine iteND (fun q => absurd rfl q) (fun _ => ?_)
          walk_at "go"
          rename_i pe hpe pf hpf
          have e11 := Ex.trans (Ex.new (o := .tup (nums.map V.int)) hpe) (Ex.new (o := .tup [.int row, .ref pe, .ref D]) hpf)
          have eB3 := Ex.trans eB2 e11
          refine And.intro ?r1 (And.intro ?r2 (And.intro ?r3 (And.intro ?r4 ?r5)))
          case r1 => exact dp_st (SqT.of (eB3 _ _ hq1')) (SqT.of (eB3 _ _ hm1')) (SqL.of (eB3 _ _ hc1'))
          case r2 => exact dp_st (SqT.of upd_same) (SqT.of (by kct_strs)) (SqL.of (eB3 _ _ hDB))
          case r3 => exact stD_shaped _ _ _
          case r4 => exact stD_shaped _ _ _
          rw [eqv_of (stD_shaped _ _ _)]
          walk_at "go"
          refine And.intro ?s1 (And.intro ?s2 (And.intro ?s3 (And.intro ?s4 ?s5)))
          case s1 => exact dp_strs (SqL.of (eB3 _ _ hl1'))
          case s2 => exact dp_strs (SqL.of (eB3 _ _ hLB))
          case s3 => exact lvD_shaped ok.hlv
          case s4 => exact lvD_shaped ok.hlv
          rw [eqv_of (lvD_shaped ok.hlv)]
          walk_at "go"
          refine use_readOk (show_short ok) (fun y hy => by
            rw [splitW, split_show ok.hlv] at hy
            exact Nat.le_trans (word_short ok y hy) (by decide)) (read_show ok) fun t2 q2 n2 c2 l2 H12 e12 hc2 hl2 hcl2 ht2 hq2 hn2 hcc2 hll2 => ?_
          have eB4 := Ex.trans eB3 e12
          walk_at "go"
          refine use_right ok ht2 hq2 hn2 hcc2 hll2 (eB4 _ _ hNB) (eB4 _ _ hLB) (eB4 _ _ hDB) fun H13 e13 => ?_
          have eB5 := Ex.trans eB4 e13
          have ht3 := e13 _ _ ht2
          have hq3 := e13 _ _ hq2
          have hn3 := e13 _ _ hn2
          have hcc3 := e13 _ _ hcc2
          have hll3 := e13 _ _ hll2
          walk_at "go"
          refine use_show ok.show (SqT.of hq3) (SqT.of hn3) (SqL.of hcc3) (SqL.of hll3) fun H14 e14 => ?_
          have eB6 := Ex.trans eB5 e14
          have ht4 := e14 _ _ ht3
          have hq4 := e14 _ _ hq3
          have hcc4 := e14 _ _ hcc3
          have hll4 := e14 _ _ hll3
          walk_at "go"
          refine iteND (fun q => absurd rfl q) (fun _ => ?_)
          have ntc : t2 ≠ c2 := fun e => by rw [e, hcc4] at ht4; cases ht4
          have nlc : l2 ≠ c2 := Ne.symm hcl2
          walk_at "go"
          exact Ex.mut (Ex.mut eB6 (fresh_back eB3 hc2)) (fresh_back eB3 hl2) _ _ (by assumption)
        · rintro σ H9 ⟨v10, v11, rfl, eB⟩
          exact ⟨_, _, _, _, _, _, _, _, _, _, _, rfl, d10.ext eB⟩
    · rintro σ H' ⟨v2, v3, v4, v5, v6, v7, v8, v9, v10, v11, v12, rfl, d1⟩
      walk_at "go"
      exact k _
end

end HB
set_option maxHeartbeats 0
namespace HB
open PySem PySem.Spec PyProof.Rows L2
def d_is_whole : He.DefD := ⟨("is_whole", none), "is_whole", "is_whole", defArgs s_is_whole, defBody s_is_whole, defScope s_is_whole, [], []⟩
def d_is_content : He.DefD := ⟨("is_content", none), "is_content", "is_content", defArgs s_is_content, defBody s_is_content, defScope s_is_content, [], []⟩
def d_fits : He.DefD := ⟨("fits", none), "fits", "fits", defArgs s_fits, defBody s_fits, defScope s_fits, [], []⟩
def d_read_number : He.DefD := ⟨("read_number", none), "read_number", "read_number", defArgs s_read_number, defBody s_read_number, defScope s_read_number, [], []⟩
def d_word_at : He.DefD := ⟨("word_at", none), "word_at", "word_at", defArgs s_word_at, defBody s_word_at, defScope s_word_at, [], []⟩
def d_number_at : He.DefD := ⟨("number_at", none), "number_at", "number_at", defArgs s_number_at, defBody s_number_at, defScope s_number_at, [], []⟩
def d_leaves_at : He.DefD := ⟨("leaves_at", none), "leaves_at", "leaves_at", defArgs s_leaves_at, defBody s_leaves_at, defScope s_leaves_at, [], []⟩
def d_read_state : He.DefD := ⟨("read_state", none), "read_state", "read_state", defArgs s_read_state, defBody s_read_state, defScope s_read_state, [], []⟩
def d_show_state : He.DefD := ⟨("show_state", none), "show_state", "show_state", defArgs s_show_state, defBody s_show_state, defScope s_show_state, [], []⟩
def d__law_hand : He.DefD := ⟨("_law_hand", none), "_law_hand", "_law_hand", defArgs s__law_hand, defBody s__law_hand, defScope s__law_hand, [], []⟩
def d__law_draw : He.DefD := ⟨("_law_draw", none), "_law_draw", "_law_draw", defArgs s__law_draw, defBody s__law_draw, defScope s__law_draw, [], []⟩
def d__law_content : He.DefD := ⟨("_law_content", none), "_law_content", "_law_content", defArgs s__law_content, defBody s__law_content, defScope s__law_content, [], []⟩
def d__law_cells : He.DefD := ⟨("_law_cells", none), "_law_cells", "_law_cells", defArgs s__law_cells, defBody s__law_cells, defScope s__law_cells, [], []⟩
def d__law_leaves : He.DefD := ⟨("_law_leaves", none), "_law_leaves", "_law_leaves", defArgs s__law_leaves, defBody s__law_leaves, defScope s__law_leaves, [], []⟩
def d__law_whole : He.DefD := ⟨("_law_whole", none), "_law_whole", "_law_whole", defArgs s__law_whole, defBody s__law_whole, defScope s__law_whole, [], []⟩
def d__law_numbers : He.DefD := ⟨("_law_numbers", none), "_law_numbers", "_law_numbers", defArgs s__law_numbers, defBody s__law_numbers, defScope s__law_numbers, [], []⟩
def d__law_written : He.DefD := ⟨("_law_written", none), "_law_written", "_law_written", defArgs s__law_written, defBody s__law_written, defScope s__law_written, [], []⟩
def d__law_right : He.DefD := ⟨("_law_right", none), "_law_right", "_law_right", defArgs s__law_right, defBody s__law_right, defScope s__law_right, [], []⟩
def d_law : He.DefD := ⟨("law", none), "law", "law", defArgs s_law, defBody s_law, defScope s_law, [], []⟩
def d_NoText_init : He.DefD := ⟨("NoText", some "__init__"), "__init__", "NoText.__init__", defArgs s_NoText_init, defBody s_NoText_init, defScope s_NoText_init, [], []⟩
def fn : List He.DefD := [d_is_whole, d_is_content, d_fits, d_read_number, d_word_at, d_number_at, d_leaves_at, d_read_state, d_show_state, d__law_hand, d__law_draw, d__law_content, d__law_cells, d__law_leaves, d__law_whole, d__law_numbers, d__law_written, d__law_right, d_law, d_NoText_init]
def fa : List He.Fa := [.glo "is_whole", .glo "is_content", .glo "fits", .glo "read_number", .glo "word_at", .glo "number_at", .glo "leaves_at", .glo "read_state", .glo "show_state", .glo "_law_hand", .glo "_law_draw", .glo "_law_content", .glo "_law_cells", .glo "_law_leaves", .glo "_law_whole", .glo "_law_numbers", .glo "_law_written", .glo "_law_right", .glo "law", .glo "HaulError", .glo "NoText", .noat "NoText" "at", .int "MOST_CONTENT" 1000000000, .glo "BOXES", .int "MOST_HELD" 1000000000, .str "FIGURES" "0123456789", .int "MOST_FIGURES" 10, .int "MOST_ROWS" 24, .int "MOST_CELLS" 60, .glo "SIGNS", .free "len", .free "list", .free "isinstance", .free "range", .free "str", .free "int", .free "bool", .free "tuple", .free "all", .free "abs", .free "enumerate", .free "ValueError"]
def ts : List He.Tab := [(fun K => He.ga K "SIGNS", ["o", "l", "s"])]
def ex0 (K : PySem.W.Frag) : Bool := HB.oexB K (He.ga K "HaulError")
def ex1 (K : PySem.W.Frag) : Bool := xfB K (He.ga K "HaulError")
def ex2 (K : PySem.W.Frag) : Bool := HB.oexB K (He.ga K "NoText")
def ex3 (K : PySem.W.Frag) : Bool := xfB K (He.ga K "NoText")
def ex4 (K : PySem.W.Frag) : Bool := He.eqO (PySem.W.findIn K (.ref (He.ga K "NoText")) "__init__") (some (some (.ref (He.ma K (He.ga K "NoText") "__init__"))))
def ex5 (K : PySem.W.Frag) : Bool := decide (PySem.W.typeIn K (.ref (He.ma K (He.ga K "NoText") "__init__")) = some (.type "function"))
def ex6 (K : PySem.W.Frag) : Bool := He.tupB K "BOXES" [.str "here", .str "there", .str "left", .str "way", .str "sign", .str "met"]
def ex7 (K : PySem.W.Frag) : Bool := He.valsB K (He.ga K "SIGNS") [("o", .str "open"), ("l", .str "look"), ("s", .str "shut")]
def exs : List (PySem.W.Frag → Bool) := [ex0, ex1, ex2, ex3, ex4, ex5, ex6, ex7]
def ex (K : PySem.W.Frag) : Bool := exs.all fun f => f K
theorem ex_at {K : PySem.W.Frag} (h : ex K = true) (i : Nat) {f : PySem.W.Frag → Bool} (e : exs[i]? = some f) : f K = true := List.all_eq_true.mp h f (List.mem_of_getElem? e)
abbrev RR : PySem.W.OpenRow := PySem.W.OpenLaw.row PySem.Challenge.rw_haulbell_k93_states_written
abbrev hk : PySem.W.Hook := He.hookX 5 fa fn ts [] ex
def ob (s : PySem.W.SharedT) : He.AlX := He.obsX 5 fa fn ts [] ex (HandSHeadRun.getT s)
theorem ob_eq (s : PySem.W.SharedT) : ob s = hk.obs s.abs := He.obsX_eq (HandSHeadRun.getT_eq s)
def names0 : List PySem.Str := ["BOXES", "FIGURES", "HaulError", "MOST_CELLS", "MOST_CONTENT", "MOST_FIGURES", "MOST_HELD", "MOST_ROWS", "NoText", "SIGNS", "_law_cells", "_law_content", "_law_draw", "_law_hand", "_law_leaves", "_law_numbers", "_law_right", "_law_whole", "_law_written", "fits", "is_content", "is_whole", "leaves_at", "number_at", "read_number", "read_state", "show_state", "word_at"]
def names : List PySem.Str := names0
theorem run_false (w : World) : HandSHeadRun.RunEq RR (PySem.W.view RR.prog [33]) hk ob 4000 names (w.withFollow "special-get-raises" false) := by
  intro os
  kernel_rfl
theorem run_true (w : World) : HandSHeadRun.RunEq RR (PySem.W.view RR.prog [33]) hk ob 4000 names (w.withFollow "special-get-raises" true) := by
  intro os
  kernel_rfl
theorem run (w : World) : HandSHeadRun.RunEq RR (PySem.W.view RR.prog [33]) hk ob 4000 names w := PySem.W.byRow2 "special-get-raises" run_false run_true w
theorem txt_of {w : World} {K : PySem.W.Frag} {h : Heap} {mg : Str → Option Value} (X : K.In h) (G : h.Ns mainGlobals mg) (c0 : He.SaysX fa fn ts [] ex w h K) : ∃ T : Txt w K mg, T.A_law = He.ga K "law" := by
  have c := c0.t.d
  obtain ⟨fd_is_whole, F_is_whole⟩ := c.def_ 0 (d := d_is_whole) rfl
  obtain ⟨fd_is_content, F_is_content⟩ := c.def_ 1 (d := d_is_content) rfl
  obtain ⟨fd_fits, F_fits⟩ := c.def_ 2 (d := d_fits) rfl
  obtain ⟨fd_read_number, F_read_number⟩ := c.def_ 3 (d := d_read_number) rfl
  obtain ⟨fd_word_at, F_word_at⟩ := c.def_ 4 (d := d_word_at) rfl
  obtain ⟨fd_number_at, F_number_at⟩ := c.def_ 5 (d := d_number_at) rfl
  obtain ⟨fd_leaves_at, F_leaves_at⟩ := c.def_ 6 (d := d_leaves_at) rfl
  obtain ⟨fd_read_state, F_read_state⟩ := c.def_ 7 (d := d_read_state) rfl
  obtain ⟨fd_show_state, F_show_state⟩ := c.def_ 8 (d := d_show_state) rfl
  obtain ⟨fd__law_hand, F__law_hand⟩ := c.def_ 9 (d := d__law_hand) rfl
  obtain ⟨fd__law_draw, F__law_draw⟩ := c.def_ 10 (d := d__law_draw) rfl
  obtain ⟨fd__law_content, F__law_content⟩ := c.def_ 11 (d := d__law_content) rfl
  obtain ⟨fd__law_cells, F__law_cells⟩ := c.def_ 12 (d := d__law_cells) rfl
  obtain ⟨fd__law_leaves, F__law_leaves⟩ := c.def_ 13 (d := d__law_leaves) rfl
  obtain ⟨fd__law_whole, F__law_whole⟩ := c.def_ 14 (d := d__law_whole) rfl
  obtain ⟨fd__law_numbers, F__law_numbers⟩ := c.def_ 15 (d := d__law_numbers) rfl
  obtain ⟨fd__law_written, F__law_written⟩ := c.def_ 16 (d := d__law_written) rfl
  obtain ⟨fd__law_right, F__law_right⟩ := c.def_ 17 (d := d__law_right) rfl
  obtain ⟨fd_law, F_law⟩ := c.def_ 18 (d := d_law) rfl
  obtain ⟨fd_NoText_init, F_NoText_init⟩ := c.def_ 19 (d := d_NoText_init) rfl
  refine ⟨{
    A_is_whole := He.fAd K ("is_whole", none)
    D_is_whole := fd_is_whole
    A_is_content := He.fAd K ("is_content", none)
    D_is_content := fd_is_content
    A_fits := He.fAd K ("fits", none)
    D_fits := fd_fits
    A_read_number := He.fAd K ("read_number", none)
    D_read_number := fd_read_number
    A_word_at := He.fAd K ("word_at", none)
    D_word_at := fd_word_at
    A_number_at := He.fAd K ("number_at", none)
    D_number_at := fd_number_at
    A_leaves_at := He.fAd K ("leaves_at", none)
    D_leaves_at := fd_leaves_at
    A_read_state := He.fAd K ("read_state", none)
    D_read_state := fd_read_state
    A_show_state := He.fAd K ("show_state", none)
    D_show_state := fd_show_state
    A__law_hand := He.fAd K ("_law_hand", none)
    D__law_hand := fd__law_hand
    A__law_draw := He.fAd K ("_law_draw", none)
    D__law_draw := fd__law_draw
    A__law_content := He.fAd K ("_law_content", none)
    D__law_content := fd__law_content
    A__law_cells := He.fAd K ("_law_cells", none)
    D__law_cells := fd__law_cells
    A__law_leaves := He.fAd K ("_law_leaves", none)
    D__law_leaves := fd__law_leaves
    A__law_whole := He.fAd K ("_law_whole", none)
    D__law_whole := fd__law_whole
    A__law_numbers := He.fAd K ("_law_numbers", none)
    D__law_numbers := fd__law_numbers
    A__law_written := He.fAd K ("_law_written", none)
    D__law_written := fd__law_written
    A__law_right := He.fAd K ("_law_right", none)
    D__law_right := fd__law_right
    A_law := He.fAd K ("law", none)
    D_law := fd_law
    A_HaulError := He.ga K "HaulError"
    A_NoText := He.ga K "NoText"
    A_NoText_init := He.fAd K ("NoText", some "__init__")
    D_NoText_init := fd_NoText_init
    A_BOXES := He.ga K "BOXES"
    A_SIGNS := He.ga K "SIGNS"
    F_is_whole := F_is_whole
    F_is_content := F_is_content
    F_fits := F_fits
    F_read_number := F_read_number
    F_word_at := F_word_at
    F_number_at := F_number_at
    F_leaves_at := F_leaves_at
    F_read_state := F_read_state
    F_show_state := F_show_state
    F__law_hand := F__law_hand
    F__law_draw := F__law_draw
    F__law_content := F__law_content
    F__law_cells := F__law_cells
    F__law_leaves := F__law_leaves
    F__law_whole := F__law_whole
    F__law_numbers := F__law_numbers
    F__law_written := F__law_written
    F__law_right := F__law_right
    F_law := F_law
    F_NoText_init := F_NoText_init
    g_is_whole := He.glo_ok X G (c.fact 0 (f := .glo "is_whole") rfl)
    g_is_content := He.glo_ok X G (c.fact 1 (f := .glo "is_content") rfl)
    g_fits := He.glo_ok X G (c.fact 2 (f := .glo "fits") rfl)
    g_read_number := He.glo_ok X G (c.fact 3 (f := .glo "read_number") rfl)
    g_word_at := He.glo_ok X G (c.fact 4 (f := .glo "word_at") rfl)
    g_number_at := He.glo_ok X G (c.fact 5 (f := .glo "number_at") rfl)
    g_leaves_at := He.glo_ok X G (c.fact 6 (f := .glo "leaves_at") rfl)
    g_read_state := He.glo_ok X G (c.fact 7 (f := .glo "read_state") rfl)
    g_show_state := He.glo_ok X G (c.fact 8 (f := .glo "show_state") rfl)
    g__law_hand := He.glo_ok X G (c.fact 9 (f := .glo "_law_hand") rfl)
    g__law_draw := He.glo_ok X G (c.fact 10 (f := .glo "_law_draw") rfl)
    g__law_content := He.glo_ok X G (c.fact 11 (f := .glo "_law_content") rfl)
    g__law_cells := He.glo_ok X G (c.fact 12 (f := .glo "_law_cells") rfl)
    g__law_leaves := He.glo_ok X G (c.fact 13 (f := .glo "_law_leaves") rfl)
    g__law_whole := He.glo_ok X G (c.fact 14 (f := .glo "_law_whole") rfl)
    g__law_numbers := He.glo_ok X G (c.fact 15 (f := .glo "_law_numbers") rfl)
    g__law_written := He.glo_ok X G (c.fact 16 (f := .glo "_law_written") rfl)
    g__law_right := He.glo_ok X G (c.fact 17 (f := .glo "_law_right") rfl)
    g_law := He.glo_ok X G (c.fact 18 (f := .glo "law") rfl)
    g_HaulError := He.glo_ok X G (c.fact 19 (f := .glo "HaulError") rfl)
    g_NoText := He.glo_ok X G (c.fact 20 (f := .glo "NoText") rfl)
    na_NoText_at := He.noat_ok (c.fact 21 (f := .noat "NoText" "at") rfl)
    g_MOST_CONTENT := He.int_ok X G (c.fact 22 (f := .int "MOST_CONTENT" 1000000000) rfl)
    g_BOXES := He.glo_ok X G (c.fact 23 (f := .glo "BOXES") rfl)
    g_MOST_HELD := He.int_ok X G (c.fact 24 (f := .int "MOST_HELD" 1000000000) rfl)
    g_FIGURES := He.str_ok X G (c.fact 25 (f := .str "FIGURES" "0123456789") rfl)
    g_MOST_FIGURES := He.int_ok X G (c.fact 26 (f := .int "MOST_FIGURES" 10) rfl)
    g_MOST_ROWS := He.int_ok X G (c.fact 27 (f := .int "MOST_ROWS" 24) rfl)
    g_MOST_CELLS := He.int_ok X G (c.fact 28 (f := .int "MOST_CELLS" 60) rfl)
    g_SIGNS := He.glo_ok X G (c.fact 29 (f := .glo "SIGNS") rfl)
    kt_SIGNS := ktab_mk [("o", .str "open"), ("l", .str "look"), ("s", .str "shut")] (tab_raw c0.t 0 (t := (fun K => He.ga K "SIGNS", ["o", "l", "s"])) rfl) (ex_at c0.more 7 (f := ex7) rfl)
    z_len := He.free_ok X G (c.fact 30 (f := .free "len") rfl)
    z_list := He.free_ok X G (c.fact 31 (f := .free "list") rfl)
    z_isinstance := He.free_ok X G (c.fact 32 (f := .free "isinstance") rfl)
    z_range := He.free_ok X G (c.fact 33 (f := .free "range") rfl)
    z_str := He.free_ok X G (c.fact 34 (f := .free "str") rfl)
    z_int := He.free_ok X G (c.fact 35 (f := .free "int") rfl)
    z_bool := He.free_ok X G (c.fact 36 (f := .free "bool") rfl)
    z_tuple := He.free_ok X G (c.fact 37 (f := .free "tuple") rfl)
    z_all := He.free_ok X G (c.fact 38 (f := .free "all") rfl)
    z_abs := He.free_ok X G (c.fact 39 (f := .free "abs") rfl)
    z_enumerate := He.free_ok X G (c.fact 40 (f := .free "enumerate") rfl)
    z_ValueError := He.free_ok X G (c.fact 41 (f := .free "ValueError") rfl)
    ox_HaulError := HB.oexB_ok (ex_at c0.more 0 (f := ex0) rfl)
    xf_HaulError := xfB_ok (ex_at c0.more 1 (f := ex1) rfl)
    ox_NoText := HB.oexB_ok (ex_at c0.more 2 (f := ex2) rfl)
    xf_NoText := xfB_ok (ex_at c0.more 3 (f := ex3) rfl)
    ii_NoText := He.eqO_ok (ex_at c0.more 4 (f := ex4) rfl)
    ti_NoText := of_decide_eq_true (ex_at c0.more 5 (f := ex5) rfl)
    t_BOXES := fun H => He.tupB_ok (ex_at c0.more 6 (f := ex6) rfl) H
  }, rfl⟩
end HB
namespace HB
open PySem PySem.Spec PyProof.Rows L2 Evl
abbrev lvl : Nat := 6
abbrev CXl (l : PySem.W.OpenLaw) : CXT := CX0
theorem CXl_no {l : PySem.W.OpenLaw} (H : Hp) (s : Shared) (e : Value) (s' : Shared) : CXl l [] H s (fun _ _ _ => False) e s' → False := fun z => z
theorem law_end {w : World} {K : PySem.W.Frag} {h : Heap} {mg : Str → Option Value} {fa0 : Addr} (X : K.In h) (G : h.Ns mainGlobals mg) (hmg : mg ("law" : Str) = some (.ref fa0)) (c : He.SaysX fa fn ts [] ex w h K) :
    ∃ (K : PySem.W.Frag) (fd : FuncData) (sp : Sp), K.In h ∧ (∀ (s : Shared) (u : Value), BindsTo s fd ⟨[u], []⟩ [("_law_script", u)]) ∧
        (∀ (H : Hp) (a : Addr) (ns : List Int), ns.length ≤ 63 → Only H → SqL K H a (ns.map V.int) → sp [.ref a] H (fun v _ => v = .bl true) fun _ _ _ => False) ∧
        ∀ base : Heap, K.In base → base.Ns mainGlobals mg → FnOk (PySem.Challenge.rw_haulbell_k93_states_written).prog w K mg base (CXl PySem.Challenge.rw_haulbell_k93_states_written) lvl fa0 fd ["_law_script"] sp := by
  obtain ⟨T, eT⟩ := txt_of X G c
  have e : fa0 = T.A_law := by
    have h1 := hmg.symm.trans T.g_law
    cases h1
    rfl
  subst e
  have b := FunD.bindsA (ps := ["_law_script"]) T.F_law fun _ _ _ _ _ _ us hl => match us, hl with | [_], _ => rfl
  refine ⟨K, T.D_law, spLaw K, X, fun s u => b s [u] rfl, fun H a ns hl _ hS => ?_, fun base _ _ => ok_law T T.F_law⟩
  exact spLaw_use hS hl
end HB

open PySem PySem.W PySem.Calls PyProof.Rows
set_option maxRecDepth 100000 in
set_option maxHeartbeats 0 in
theorem PySem.Challenge.cw_haulbell_k93_states_written_holds : PySem.Challenge.rw_haulbell_k93_states_written.Holds := by
  w_on; o_law
  refine HandSHeadRun.head_any (r := OpenLaw.row PySem.Challenge.rw_haulbell_k93_states_written) (q := view (OpenLaw.row PySem.Challenge.rw_haulbell_k93_states_written).prog [33]) (H := HB.hk) (ob := HB.ob) (M := 4000) (loose := HB.names) (d := HandSHeadRun.topDef (OpenLaw.row PySem.Challenge.rw_haulbell_k93_states_written).prog 33) (kwd := []) HB.ob_eq
    (by kernel_rfl) (fun s => by kernel_rfl) HB.run (by kernel_rfl) (by kernel_rfl) (by kernel_rfl) (by rfl) (by first | assumption | decide +kernel) (by decide +kernel) ⟨rfl, rfl, rfl, rfl, rfl, by decide +kernel⟩ ?hw ?hc
  case hw => w_witness2
  case hc =>
    refine L2.walk_ofE (l := PySem.Challenge.rw_haulbell_k93_states_written) (n := 63) (k := HB.lvl) (x := "_law_script") (CX := HB.CXl PySem.Challenge.rw_haulbell_k93_states_written) rfl (by decide) (by kernel_rfl) ⟨rfl, by decide, by decide⟩ ?F HB.CXl_no
    intro w mg fa h Y G hmg0
    obtain ⟨K, KX, c⟩ := Y
    have hmg : mg ("law" : PySem.Str) = some (.ref fa) := by
      have e : (HandSHeadRun.topDef (OpenLaw.row PySem.Challenge.rw_haulbell_k93_states_written).prog 33).name = ("law" : PySem.Str) := by kernel_rfl
      rw [← e]
      exact hmg0
    exact HB.law_end KX G hmg c

