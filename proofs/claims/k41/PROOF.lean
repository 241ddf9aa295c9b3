import PyProof.Rows.All
import Wide.All
import OpenK.AllK
import Wide.FinOn
import HandS.ForMost
import HandS.IsInst
import HandS.CallLocal
import HandS.TupAny
import HandS.TupMul
import HandS.Wide
import HandS.EndBits
import HandS.Slots
import HandS.SlotsVar
import HandS.SortKw
import HandS.DictComp
import HandS.Walk
import HandS.Conv
import HandS.More
import HandS.Flow
import HandS.Small
import HandS.Star
import HandS.TupSets
import HandS.Deep
import KE.KDictKeyed
import KE.KeyNested
import KE.SortKeyHeap
import KE.SortData
import KE.GoesDict
import KE.KIndexOf
import KE.KDictWalk
import HandS.TupLen
import KE.LtSeq
import KE.GoesMore
import KE.GoesEnum
import PySem.Challenge.RW_madeatonce_k41_whole_one_hand_is_a_row
import PyProof.DictUpdate
import KE.KDictDisplayH
import HandS.Style
import HandS.WordsDict
import KE.DataMinMax
import HandS.SetFor
import HandS.Strs
import KE.KDictPairs
import HandS.EndTab
import KE.KNestM
set_option Elab.async false
set_option linter.all false
set_option maxRecDepth 100000
set_option maxHeartbeats 8000000
/-! data without change: None, numbers, texts, tuples of such, told as keys -/
namespace M
open PySem PySem.Spec PyProof.Rows L2
abbrev NK := NestedKey
mutual
/-- the value v is the datum k in the heap H -/
inductive At (K : PySem.W.Frag) (H : Hp) : V → NK → Prop
  | non : At K H .non .none
  | int (i : Int) : At K H (.int i) (.num i)
  | str (x : Str) : PyData.strOk x = true → At K H (.str x) (.text x)
  | tup {a : Addr} {xs : List V} {ks : List NK} : SqT K H a xs → Ats K H xs ks → At K H (.ref a) (.tup ks)
inductive Ats (K : PySem.W.Frag) (H : Hp) : List V → List NK → Prop
  | nil : Ats K H [] []
  | cons {v : V} {vs : List V} {k : NK} {ks : List NK} : At K H v k → Ats K H vs ks → Ats K H (v :: vs) (k :: ks)
end
/-- all tuples stand as they stood -/
def Ext (K : PySem.W.Frag) (H H' : Hp) : Prop := ∀ a xs, SqT K H a xs → SqT K H' a xs
section
variable {K : PySem.W.Frag} {H H1 H2 H' : Hp}
theorem Ext.refl (H : Hp) : Ext K H H := fun _ _ h => h
theorem Ext.trans (a : Ext K H H1) (b : Ext K H1 H2) : Ext K H H2 := fun x xs h => b x xs (a x xs h)
theorem Ext.of_same (s : Same H H') : Ext K H H' := fun a xs h => by
  rcases h with (h | ⟨o, h⟩) | h
  · exact .inl (.inl (s _ _ h))
  · exact .inl (.inr ⟨o, s _ _ h⟩)
  · exact .inr h
/-- where nothing tracked stood, or what can be written -/
theorem Ext.upd {a : Addr} {o : HO} (h : ∀ u, H a = some u → (∀ xs, u ≠ .tup xs) ∧ ∀ q w, u ≠ .frz q w) : Ext K H (upd H a o) := fun b xs q => by
  rcases q with (q | ⟨p, q⟩) | q
  · by_cases e : b = a
    · subst e
      exact absurd rfl ((h _ q).1 xs)
    · exact .inl (.inl (by rw [upd_ne e]; exact q))
  · by_cases e : b = a
    · subst e
      exact absurd rfl ((h _ q).2 p _)
    · exact .inl (.inr ⟨p, by rw [upd_ne e]; exact q⟩)
  · exact .inr q
theorem Ext.new {a : Addr} {o : HO} (h : H a = none) : Ext K H (L2.upd H a o) := Ext.upd fun u e => by
  rw [h] at e
  cases e
theorem Ext.mut {a : Addr} {o u : HO} (h : H a = some u) (m : Mut (some u)) : Ext K H (L2.upd H a o) := Ext.upd fun w e => by
  rw [h] at e
  cases e
  refine ⟨fun xs z => ?_, fun q w z => ?_⟩
  · rw [z] at m
    exact m
  · rw [z] at m
    exact m
mutual
theorem At.mono (x : Ext K H H') : ∀ (k : NK) (v : V), At K H v k → At K H' v k
  | .none, _, h => by
    cases h
    exact .non
  | .num i, _, h => by
    cases h
    exact .int i
  | .text y, _, h => by
    cases h with
    | str _ e => exact .str y e
  | .tup ks, _, h => by
    cases h with
    | tup s r => exact .tup (x _ _ s) (Ats.mono x ks _ r)
theorem Ats.mono (x : Ext K H H') : ∀ (ks : List NK) (vs : List V), Ats K H vs ks → Ats K H' vs ks
  | [], _, h => by
    cases h
    exact .nil
  | k :: ks, _, h => by
    cases h with
    | cons a r => exact .cons (At.mono x k _ a) (Ats.mono x ks _ r)
end
theorem At.ext {k : NK} {v : V} (h : At K H v k) (x : Ext K H H') : At K H' v k := At.mono x k v h
theorem Ats.ext {ks : List NK} {vs : List V} (h : Ats K H vs ks) (x : Ext K H H') : Ats K H' vs ks := Ats.mono x ks vs h
theorem At.same {k : NK} {v : V} (h : At K H v k) (x : Same H H') : At K H' v k := h.ext (.of_same x)
theorem Ats.same {ks : List NK} {vs : List V} (h : Ats K H vs ks) (x : Same H H') : Ats K H' vs ks := h.ext (.of_same x)
theorem Ats.length : ∀ {ks : List NK} {vs : List V}, Ats K H vs ks → vs.length = ks.length
  | [], _, h => by
    cases h
    rfl
  | _ :: ks, _, h => by
    cases h with
    | cons a r => simp [Ats.length r]
theorem Ats.get : ∀ {ks : List NK} {vs : List V} {i : Nat} {k : NK}, Ats K H vs ks → ks[i]? = some k → ∃ v, vs[i]? = some v ∧ At K H v k
  | [], _, i, k, h, e => by simp at e
  | _ :: ks, _, 0, k, h, e => by
    cases h with
    | cons a r =>
      have e' : _ = k := Option.some.inj e
      subst e'
      exact ⟨_, rfl, a⟩
  | _ :: ks, _, i + 1, k, h, e => by
    cases h with
    | cons a r =>
      obtain ⟨v, h1, h2⟩ := Ats.get (i := i) (k := k) r (by simpa using e)
      exact ⟨v, by simpa using h1, h2⟩
theorem Ats.back : ∀ {ks : List NK} {vs : List V} {i : Nat} {v : V}, Ats K H vs ks → vs[i]? = some v → ∃ k, ks[i]? = some k ∧ At K H v k
  | [], _, i, v, h, e => by
    cases h
    simp at e
  | k :: ks, _, 0, v, h, e => by
    cases h with
    | cons a r =>
      have e' : _ = v := Option.some.inj e
      subst e'
      exact ⟨_, rfl, a⟩
  | k :: ks, _, i + 1, v, h, e => by
    cases h with
    | cons a r =>
      obtain ⟨k', h1, h2⟩ := Ats.back (i := i) (v := v) r (by simpa using e)
      exact ⟨k', by simpa using h1, h2⟩
theorem Ats.append : ∀ {ks ls : List NK} {vs ws : List V}, Ats K H vs ks → Ats K H ws ls → Ats K H (vs ++ ws) (ks ++ ls)
  | [], _, _, _, h, g => by
    cases h
    exact g
  | _ :: _, _, _, _, h, g => by
    cases h with
    | cons a r => exact .cons a (Ats.append r g)
theorem Ats.take : ∀ {ks : List NK} {vs : List V} (n : Nat), Ats K H vs ks → Ats K H (vs.take n) (ks.take n)
  | _, _, 0, _ => .nil
  | [], _, n + 1, h => by
    cases h
    exact .nil
  | _ :: _, _, n + 1, h => by
    cases h with
    | cons a r => exact .cons a (Ats.take n r)
theorem Ats.drop : ∀ {ks : List NK} {vs : List V} (n : Nat), Ats K H vs ks → Ats K H (vs.drop n) (ks.drop n)
  | _, _, 0, h => h
  | [], _, n + 1, h => by
    cases h
    exact .nil
  | _ :: _, _, n + 1, h => by
    cases h with
    | cons a r => exact Ats.drop n r
theorem Ats.one {v : V} {k : NK} (h : At K H v k) : Ats K H [v] [k] := .cons h .nil
theorem Ats.two {v w : V} {k l : NK} (h : At K H v k) (g : At K H w l) : Ats K H [v, w] [k, l] := .cons h (.cons g .nil)
theorem At.num_inv {v : V} {i : Int} (h : At K H v (.num i)) : v = .int i := by
  cases h
  rfl
theorem At.text_inv {v : V} {x : Str} (h : At K H v (.text x)) : v = .str x := by
  cases h
  rfl
theorem At.none_inv {v : V} (h : At K H v .none) : v = .non := by
  cases h
  rfl
theorem At.tup_inv {v : V} {ks : List NK} (h : At K H v (.tup ks)) : ∃ a xs, v = .ref a ∧ SqT K H a xs ∧ Ats K H xs ks := by
  cases h with
  | tup s r => exact ⟨_, _, rfl, s, r⟩
end
section
variable {X : Cx} {pins : List (Addr × Obj)} {σ : L2.St} {H : Hp} {s : Shared}
mutual
theorem At.is (I : Inv X pins σ H s) : ∀ (k : NK) (v : V) (u : Value), At X.K H v k → RelV v u → NestedIs s.heap k u
  | .none, _, _, h, r => by
    cases h
    cases r
    exact .none
  | .num i, _, _, h, r => by
    cases h
    obtain ⟨t, rfl⟩ := r
    exact .int i t
  | .text x, _, _, h, r => by
    cases h
    obtain ⟨t, rfl⟩ := r
    exact .text x t
  | .tup ks, _, _, h, r => by
    cases h with
    | tup hs ha =>
      cases r
      obtain ⟨its, rv, ⟨o, ho, hc, n, hd⟩, _⟩ := I.tuple hs
      exact .tup ho hc hd (Ats.is I ks _ its ha rv)
theorem Ats.is (I : Inv X pins σ H s) : ∀ (ks : List NK) (vs : List V) (us : List Value), Ats X.K H vs ks → Vals vs us → NestedAll s.heap ks us
  | [], _, _, h, r => by
    cases h
    cases r
    exact .nil
  | k :: ks, _, _, h, r => by
    cases h with
    | cons h1 h2 =>
      cases r with
      | cons r1 r2 => exact .cons (At.is I k _ _ h1 r1) (Ats.is I ks _ _ h2 r2)
end
end
end M

namespace M
open PySem PySem.Spec PyProof.Rows L2
/-! ### data as the library's data -/
mutual
theorem dp_of {K : PySem.W.Frag} {H : Hp} : ∀ (k : NK) (v : V), At K H v k → Dp K H v k.data
  | .none, _, h => by
    cases h
    exact .non
  | .num i, _, h => by
    cases h
    exact .int i
  | .text y, _, h => by
    cases h
    exact .str y
  | .tup ks, _, h => by
    cases h with
    | tup s r => exact .tup s (dps_of ks _ r)
theorem dps_of {K : PySem.W.Frag} {H : Hp} : ∀ (ks : List NK) (vs : List V), Ats K H vs ks → DpAll K H vs (NestedKey.datas ks)
  | [], _, h => by
    cases h
    exact .nil
  | k :: ks, _, h => by
    cases h with
    | cons a r => exact .cons (dp_of k _ a) (dps_of ks _ r)
end
mutual
theorem lay_data {K : PySem.W.Frag} {H : Hp} : ∀ (k : NK) (v : V), At K H v k → PyData.canLay0 k.data = true
  | .none, _, _ => rfl
  | .num _, _, _ => rfl
  | .text x, _, h => by
    cases h with
    | str _ e => simpa [NestedKey.data, PyData.canLay0] using e
  | .tup ks, _, h => by
    cases h with
    | tup s r =>
      simp only [NestedKey.data, PyData.canLay0]
      exact lay_datas ks _ r
theorem lay_datas {K : PySem.W.Frag} {H : Hp} : ∀ (ks : List NK) (vs : List V), Ats K H vs ks → PyData.canLayAll0 (NestedKey.datas ks) = true
  | [], _, _ => rfl
  | k :: ks, _, h => by
    cases h with
    | cons a r => simp only [NestedKey.datas, PyData.canLayAll0, lay_data k _ a, lay_datas ks _ r, Bool.and_self]
end
mutual
theorem depth_data : ∀ k : NK, k.data.depth = k.depth
  | .none => rfl
  | .num _ => rfl
  | .text _ => rfl
  | .tup ks => by
    simp only [NestedKey.data, PyData.depth, NestedKey.depth, depth_datas ks]
theorem depth_datas : ∀ ks : List NK, PyData.depthAll (NestedKey.datas ks) = NestedKey.depthAll ks
  | [] => rfl
  | k :: ks => by
    simp only [NestedKey.datas, PyData.depthAll, NestedKey.depthAll, depth_data k, depth_datas ks]
end
mutual
theorem eqv_data : ∀ k l : NK, PyData.eqv k.data l.data = NestedKey.beq k l
  | .none, .none => rfl
  | .num a, .num b => by
    simp only [NestedKey.data, PyData.eqv, NestedKey.beq]
    by_cases e : a = b <;> simp [e]
  | .text a, .text b => by
    simp only [NestedKey.data, PyData.eqv, NestedKey.beq]
    by_cases e : a = b <;> simp [e]
  | .tup a, .tup b => by
    simp only [NestedKey.data, PyData.eqv, NestedKey.beq]
    exact eqv_datas a b
  | .none, .num _ => rfl
  | .none, .text _ => rfl
  | .none, .tup _ => rfl
  | .num _, .none => rfl
  | .num _, .text _ => rfl
  | .num _, .tup _ => rfl
  | .text _, .none => rfl
  | .text _, .num _ => rfl
  | .text _, .tup _ => rfl
  | .tup _, .none => rfl
  | .tup _, .num _ => rfl
  | .tup _, .text _ => rfl
theorem eqv_datas : ∀ k l : List NK, PyData.eqvAll (NestedKey.datas k) (NestedKey.datas l) = NestedKey.beqAll k l
  | [], [] => rfl
  | a :: as, b :: bs => by
    simp only [NestedKey.datas, PyData.eqvAll, NestedKey.beqAll, eqv_data a b, eqv_datas as bs]
  | [], _ :: _ => rfl
  | _ :: _, [] => rfl
end
theorem eqv_dec (k l : NK) : PyData.eqv k.data l.data = decide (k = l) := by
  rw [eqv_data, NestedKey.decide_eq]
theorem any_data (k : NK) : ∀ ls : List NK, ((NestedKey.datas ls).any fun y => PyData.eqv y k.data) = decide (k ∈ ls)
  | [] => by simp [NestedKey.datas]
  | l :: ls => by
    rw [NestedKey.datas, List.any_cons, any_data k ls, eqv_dec]
    by_cases e : l = k
    · subst e
      simp
    · have e' : ¬ k = l := fun z => e z.symm
      simp [e, e']
section
variable {X : Cx}
/-! ### rules -/
def rIxN (K : PySem.W.Frag) : R2 := fun x y H Q => ∃ (ks : List NK) (j : Nat) (k : NK), At K H x (.tup ks) ∧ y = .int (j : Int) ∧ ks[j]? = some k ∧ ∀ v, At K H v k → Q v H
/-- t[j] -/
theorem ix_n : IxR X (rIxN X.K) := fun value slice pins s σ H x y v u Q I rx ry h hs => by
  obtain ⟨ks, j, k, hx, rfl, hk, q⟩ := h
  obtain ⟨a, xs, rfl, hq, ha⟩ := hx.tup_inv
  obtain ⟨w, hw, hv⟩ := ha.get hk
  exact ix_tup value slice pins s σ H _ _ v u Q I rx ry ⟨a, xs, j, w, rfl, rfl, hq, atI_nat hw, q w hv⟩ hs
def rEqN (K : PySem.W.Frag) : R2 := fun x y H Q => ∃ k l : NK, At K H x k ∧ At K H y l ∧ min k.depth l.depth ≤ 40 ∧ Q (.bl (decide (k = l))) H
def rNeN (K : PySem.W.Frag) : R2 := fun x y H Q => ∃ k l : NK, At K H x k ∧ At K H y l ∧ min k.depth l.depth ≤ 40 ∧ Q (.bl (!decide (k = l))) H
theorem op_eqN (hu : X.A.units + 64 < cLine) : OpR X (compareOp .Eq) (rEqN X.K) := fun pins s σ H x y v u Q I rx ry h => by
  obtain ⟨k, l, hk, hl, hd, q⟩ := h
  obtain ⟨as, r1⟩ := Dp.reads I _ _ _ (dp_of k x hk) rx
  obtain ⟨bs, r2⟩ := Dp.reads I _ _ _ (dp_of l y hl) ry
  refine SeqAt.compareEq_reads r1 r2 (lay_data k x hk) (lay_data l y hl) (by rw [depth_data, depth_data]; omega) ?_
  rw [eqv_dec]
  exact ⟨.bl _, H, I, rfl, q⟩
theorem op_neN (hu : X.A.units + 64 < cLine) : OpR X (compareOp .NotEq) (rNeN X.K) := fun pins s σ H x y v u Q I rx ry h => by
  obtain ⟨k, l, hk, hl, hd, q⟩ := h
  obtain ⟨as, r1⟩ := Dp.reads I _ _ _ (dp_of k x hk) rx
  obtain ⟨bs, r2⟩ := Dp.reads I _ _ _ (dp_of l y hl) ry
  refine SeqAt.compareNe_reads r1 r2 (lay_data k x hk) (lay_data l y hl) (by rw [depth_data, depth_data]; omega) ?_
  rw [eqv_dec]
  exact ⟨.bl _, H, I, rfl, q⟩
/-- a list of data, or a tuple of data -/
def Seq (K : PySem.W.Frag) (H : Hp) (v : V) (ks : List NK) : Prop := ∃ a xs, v = .ref a ∧ (SqL K H a xs ∨ SqT K H a xs) ∧ Ats K H xs ks
theorem At.seq {K : PySem.W.Frag} {H : Hp} {v : V} {ks : List NK} (h : At K H v (.tup ks)) : Seq K H v ks := by
  obtain ⟨a, xs, e, s, r⟩ := h.tup_inv
  exact ⟨a, xs, e, .inr s, r⟩
theorem Seq.lst {K : PySem.W.Frag} {H : Hp} {a : Addr} {xs : List V} {ks : List NK} (h : SqL K H a xs) (r : Ats K H xs ks) : Seq K H (.ref a) ks := ⟨a, xs, rfl, .inl h, r⟩
def rInN (K : PySem.W.Frag) (neg : Bool) : R2 := fun x y H Q => ∃ (k : NK) (ls : List NK), At K H x k ∧ Seq K H y ls ∧ k.depth ≤ 40 ∧ Q (.bl (xor neg (decide (k ∈ ls)))) H
theorem op_inN (hu : X.A.units + 64 < cLine) : OpR X (compareOp .In) (rInN X.K false) := fun pins s σ H x y v u Q I rx ry h => by
  obtain ⟨k, ls, hk, ⟨a, xs, rfl, hs, hr⟩, hd, q⟩ := h
  obtain ⟨as, r1⟩ := Dp.reads I _ _ _ (dp_of k x hk) rx
  have hroom : X.A.units + 1 + min (PyData.depthAll (NestedKey.datas ls)) k.data.depth < cLine := by
    rw [depth_data]
    omega
  rw [Bool.false_xor] at q
  rcases hs with hs | hs
  · obtain ⟨bs, r2⟩ := Dp.reads I _ _ _ (Dp.lst hs (dps_of ls xs hr)) ry
    refine SeqAt.in_list_reads r2 r1 (lay_datas ls xs hr) (lay_data k x hk) hroom ?_
    rw [any_data]
    exact ⟨.bl _, H, I, rfl, q⟩
  · obtain ⟨bs, r2⟩ := Dp.reads I _ _ _ (Dp.tup hs (dps_of ls xs hr)) ry
    refine SeqAt.in_tuple_reads r2 r1 (lay_datas ls xs hr) (lay_data k x hk) hroom ?_
    rw [any_data]
    exact ⟨.bl _, H, I, rfl, q⟩
theorem op_notInN (hu : X.A.units + 64 < cLine) : OpR X (compareOp .NotIn) (rInN X.K true) := fun pins s σ H x y v u Q I rx ry h => by
  obtain ⟨k, ls, hk, ⟨a, xs, rfl, hs, hr⟩, hd, q⟩ := h
  obtain ⟨as, r1⟩ := Dp.reads I _ _ _ (dp_of k x hk) rx
  have hroom : X.A.units + 1 + min (PyData.depthAll (NestedKey.datas ls)) k.data.depth < cLine := by
    rw [depth_data]
    omega
  rw [Bool.true_xor] at q
  rcases hs with hs | hs
  · obtain ⟨bs, r2⟩ := Dp.reads I _ _ _ (Dp.lst hs (dps_of ls xs hr)) ry
    refine SeqAt.notIn_list_reads r2 r1 (lay_datas ls xs hr) (lay_data k x hk) hroom ?_
    rw [any_data]
    exact ⟨.bl _, H, I, rfl, q⟩
  · obtain ⟨bs, r2⟩ := Dp.reads I _ _ _ (Dp.tup hs (dps_of ls xs hr)) ry
    refine SeqAt.notIn_tuple_reads r2 r1 (lay_datas ls xs hr) (lay_data k x hk) hroom ?_
    rw [any_data]
    exact ⟨.bl _, H, I, rfl, q⟩
/-- len of a list or a tuple of data -/
theorem len_n : CallR X (.builtin "len") (fun xs H Q => ∃ v ks, xs = [v] ∧ Seq X.K H v ks ∧ Q (.int (ks.length : Nat)) H) := fun pins s σ H xs us Q I r h => by
  obtain ⟨v, ks, rfl, ⟨a, ys, rfl, hs, hr⟩, q⟩ := h
  refine call_len_seq pins s σ H _ us Q I r ⟨a, ys, rfl, hs, ?_⟩
  rw [hr.length]
  exact q
/-! displays -/
variable {es : List Expr} {pos : Pos} {t : TA}
def tTupN (K : PySem.W.Frag) (t : TA) : TE := fun σ H Q => t σ H fun xs H1 => ∃ ks : List NK, Ats K H1 xs ks ∧ ks.length ≤ 1000 ∧ ∀ v H2, Same H1 H2 → At K H2 v (.tup ks) → Q v H2
theorem same_upd {H : Hp} {p : Addr} {o : HO} (h : H p = none) : Same H (upd H p o) := fun b x e => by
  rw [upd_ne (ne_of_none e h)]
  exact e
theorem pe_tupN {x1} (h : PA X es t) : PE X (.Tuple es x1 pos) (tTupN X.K t) := ⟨fun pins s σ H Q I hq =>
  wpAny_Tuple_spliced (thn (h.run pos pins s σ H _ I hq) fun us s1 ⟨xs, H1, I1, r, ks, ha, hl, q⟩ => by
    have hz : xs.length ≤ sizeLine := by
      rw [ha.length, sizeLine_eq]
      omega
    have hf : H1 s1.heap.objs.size = none := I1.hok.fresh (Nat.le_refl _)
    refine ⟨by rw [← r.length]; exact hz, .ref s1.heap.objs.size, upd H1 s1.heap.objs.size (.tup xs), I1.laid (t' := s1.toks) (fun b u e => Heap.get?_push_of_some _ e) (Nat.le_refl _) ⟨hz, us, r, ⟨_, Heap.get?_push_size _ rfl, rfl, _, rfl⟩⟩, rfl, ?_⟩
    exact q _ _ (same_upd hf) (.tup (SqT.of upd_same) (ha.same (same_upd hf))))⟩
/-- a tuple that is known to be a bare one: its methods can be asked -/
def Bare (K : PySem.W.Frag) (H : Hp) (v : V) (ks : List NK) : Prop := ∃ a xs, v = .ref a ∧ (∃ o, H a = some (.frz o (.tup xs)) ∧ o.cls = .type "tuple" ∧ o.dict = none) ∧ Ats K H xs ks
theorem Bare.at {K : PySem.W.Frag} {H : Hp} {v : V} {ks : List NK} (h : Bare K H v ks) : At K H v (.tup ks) := by
  obtain ⟨a, xs, rfl, ⟨o, e, _⟩, r⟩ := h
  exact .tup (.inl (.inr ⟨o, e⟩)) r
theorem Bare.same {K : PySem.W.Frag} {H H' : Hp} {v : V} {ks : List NK} (h : Bare K H v ks) (s : Same H H') : Bare K H' v ks := by
  obtain ⟨a, xs, rfl, ⟨o, e, q⟩, r⟩ := h
  exact ⟨a, xs, rfl, ⟨o, s _ _ e, q⟩, r.same s⟩
def tTupB (K : PySem.W.Frag) (t : TA) : TE := fun σ H Q => t σ H fun xs H1 => ∃ ks : List NK, Ats K H1 xs ks ∧ ks.length ≤ 1000 ∧ ∀ v H2, Same H1 H2 → Bare K H2 v ks → Q v H2
theorem pe_tupB {x1} (h : PA X es t) : PE X (.Tuple es x1 pos) (tTupB X.K t) := ⟨fun pins s σ H Q I hq =>
  wpAny_Tuple_spliced (thn (h.run pos pins s σ H _ I hq) fun us s1 ⟨xs, H1, I1, r, ks, ha, hl, q⟩ => by
    have hz : xs.length ≤ sizeLine := by
      rw [ha.length, sizeLine_eq]
      omega
    have hf : H1 s1.heap.objs.size = none := I1.hok.fresh (Nat.le_refl _)
    have ho : (s1.heap.push { cls := .type "tuple", data := .seq us.toArray }).get? s1.heap.objs.size = some { cls := .type "tuple", data := .seq us.toArray } := Heap.get?_push_size _ rfl
    refine ⟨by rw [← r.length]; exact hz, .ref s1.heap.objs.size, upd H1 s1.heap.objs.size (.frz { cls := .type "tuple", data := .seq us.toArray } (.tup xs)),
      I1.laid (t' := s1.toks) (fun b u e => Heap.get?_push_of_some _ e) (Nat.le_refl _) ⟨ho, hz, us, r, ⟨_, ho, rfl, _, rfl⟩⟩, rfl, ?_⟩
    exact q _ _ (same_upd hf) ⟨_, xs, rfl, ⟨_, upd_same, rfl, rfl⟩, ha.same (same_upd hf)⟩)⟩
theorem one_of {P : V → Prop} {vs : List V} (h : match vs with | [y] => P y | _ => False) : ∃ y, vs = [y] ∧ P y := by
  match vs, h with
  | [y], h => exact ⟨y, rfl, h⟩
/-! t.index(x) of a bare tuple -/
def tIdx (K : PySem.W.Frag) (to te : TE) : TE := fun σ H Q => to σ H fun x H1 => ∃ ks : List NK, Bare K H1 x ks ∧ te σ H1 fun y H2 => ∃ k : NK, Bare K H2 x ks ∧ At K H2 y k ∧ k ∈ ks ∧ k.depth ≤ 40 ∧ Q (.int ((ks.idxOf k : Nat) : Int)) H2
variable {o e : Expr} {to te : TE} {apos cpos : Pos}
theorem pe_idx (ho : PE X o to) (he : PE X e te) (hu : X.A.units + 64 < cLine)
    (hbase : attributeBase o "index" X.env (eval o X.env) = eval o X.env := by rfl)
    (hfew : ((backTo cpos (starEach [e] X.env)).all (fun x => !x.1) && (backToKw cpos (keywordEach [] X.env)).all (fun x => x.1.isSome)
      && decide ([e].length + ([] : List Keyword).length + (if ([] : List Keyword).isEmpty then 0 else 1) < 30)) = true := by rfl)
    (hline : (apos.endLine == cpos.line) = true := by rfl) (hs : starEach [e] X.env = (false, eval e X.env) :: starEach [] X.env := by rfl) (hs' : starEach [e] X.env = [(false, eval e X.env)] := by rfl) :
    PE X (.Call (.Attribute o "index" apos) [e] [] cpos) (tIdx X.K to te) := by
  refine ⟨fun pins s σ H Q I h => ?_⟩
  refine wpAny_Call_method_late hbase hfew hline rfl (thn (ho.run pins s σ H _ I h) fun v s1 ⟨x, H1, I1, r1, ks, hb, q1⟩ => ?_)
  obtain ⟨a, xs, rfl, ⟨ob, eo, hc, hd⟩, ha⟩ := id hb
  cases r1
  obtain ⟨hg, _, its, rv, ob', hg', hc', n, hdt⟩ := (show ObjOk X.prog X.w H1 s1.heap a (.frz ob (.tup xs)) from I1.hok a _ eo)
  refine ⟨"tuple", "tuple.index", PySem.F.plainAttrs_tuple, PySem.F.slot_tuple_index, PySem.F.type_tuple_index, ⟨ob, hg, hc⟩, fun b eb => ?_, ?_⟩
  · cases eb
    exact ⟨ob, hg, hd⟩
  have hA := (pa_cons he pa_nil (hs := hs)).run cpos pins s1 σ H1 (fun ys H2 => match ys with | [y] => ∃ k : NK, Bare X.K H2 (.ref a) ks ∧ At X.K H2 y k ∧ k ∈ ks ∧ k.depth ≤ 40 ∧ Q (.int ((ks.idxOf k : Nat) : Int)) H2 | _ => False) I1 q1
  rw [hs] at hA ⊢
  refine Calls.callWith_builtin (by rfl) (Calls.evalArgs_plain ?_)
  refine thn hA fun us s2 ⟨vs, H2, I2, r2, q3⟩ => ?_
  obtain ⟨y, rfl, k, hb2, hy, hm, hk, q2⟩ := one_of q3
  obtain ⟨u, rfl, ry⟩ := Vals.one r2
  obtain ⟨a2, xs2, ea, ⟨ob2, eo2, hc2, hd2⟩, ha2⟩ := hb2
  cases ea
  obtain ⟨hg2, _, its2, rv2, ob3, hg3, hc3, n3, hdt3⟩ := (show ObjOk X.prog X.w H2 s2.heap a (.frz ob2 (.tup xs2)) from I2.hok a _ eo2)
  refine SeqAt.call_tuple_index (ks := ks) (k := k) (vs := its2) ⟨ob3, hg3, hc3, n3, hdt3⟩ (SeqAt.ItemsEq.nested (Ats.is I2 ks xs2 its2 ha2 rv2) (At.is I2 k y u hy ry) (by show X.A.units + 1 + k.depth < cLine; omega)) hm ?_
  exact ⟨.int _, H2, I2.tok _, ⟨_, rfl⟩, q2⟩
end
end M

namespace M
open PySem PySem.Spec PyProof.Rows L2
/-- a def of the top that keeps its promise -/
structure Kn (P : Program) (w : World) (K : PySem.W.Frag) (mg : Str → Option Value) (base : Heap) (k : Nat) (x : Str) (ps : List Str) (sp : Sp) : Prop where
  ex : ∃ f fd, FnOk P w K mg base CX0 k f fd ps sp ∧ mg x = some (.ref f) ∧ PySem.W.keepIn K (.ref f) = true ∧ Binds K fd ps []
/-- where a def of the top stands -/
structure Df (K : PySem.W.Frag) (mg : Str → Option Value) (x : Str) (st : Stmt) (ps : List Str) : Prop where
  ex : ∃ f fd, Fun K x x st f fd ∧ mg x = some (.ref f) ∧ Binds K fd ps []
section
variable {X : Cx} {x : Str} {k : Nat} {ps : List Str} {sp : Sp} {e : Expr} {es : List Expr} {t : TA} {p pos : Pos}
theorem pe_kn (F : Kn X.prog X.w X.K X.mg X.base k x ps sp) (hr : Room k X.A) (ha : PA X (e :: es) t) (hg : Gl X x := by rfl)
    (hdb : (x == ("__debug__" : Str)) = false := by decide) (he : starEach (e :: es) X.env = (false, eval e X.env) :: starEach es X.env := by rfl) (hpl : (backTo pos (starEach es X.env)).any (·.1) = false := by rfl) :
    PE X (.Call (.Name x p) (e :: es) [] pos) (tCall sp [] E0 t) := by
  obtain ⟨f, fd, F, hm, hk, hb⟩ := F.ex
  exact pe_call F hr hg hm hk hb .nil pass0 ha hdb he hpl
theorem Kn.up {P : Program} {w : World} {K : PySem.W.Frag} {mg : Str → Option Value} {base : Heap} {j : Nat} (F : Kn P w K mg base j x ps sp) (h : j ≤ k) : Kn P w K mg base k x ps sp := by
  obtain ⟨f, fd, F, r⟩ := F.ex
  exact ⟨⟨f, fd, F.mono h, r⟩⟩
theorem Df.kn {P : Program} {w : World} {K : PySem.W.Frag} {mg : Str → Option Value} {base : Heap} {st : Stmt} {N : List Str} (D : Df K mg x st ps) (S : FnScope N ps (defScope st)) (len : ∀ vs H Q E, sp vs H Q E → vs.length = ps.length)
    (hbody : ∀ (f : Addr) (cdv : Value) (A : Around) (outer : List Env) (s : Shared) (H : Hp) (vs : List V) (Q : VK) (E : XK), Room k (A.deeper (envOfC x (defScope st) s.heap.objs.size f cdv)) → sp vs H Q E →
      ∃ t, PSs (cxOf CX0 P w K mg base N x (defScope st) f cdv A outer s H E).nox (defBody st) t ∧ t { nx := fun _ H' => Q .non H', rt := Q } (start N vs) H) : Kn P w K mg base (k + 1) x ps sp := by
  obtain ⟨f, fd, F, hm, hb⟩ := D.ex
  exact ⟨⟨f, fd, F.ok S len (hbody f), hm, F.kp, hb⟩⟩
/-- isinstance(v, T), one built-in class -/
theorem pe_isi {a : Expr} {ta : TE} {T : String} {n : Str} {p1 : Pos} (ha : PE X a ta) (hm : X.mg "isinstance" = none) (hT : X.mg n = none) (hb : bootBuiltins n = some (.type T)) (hg : Gl X "isinstance" := by rfl) (hg2 : Gl X n := by rfl)
    (hn : n ≠ "__name__" := by decide) (hd : (n == ("__debug__" : Str)) = false := by decide) (hs : starEach [a, .Name n p1] X.env = (false, eval a X.env) :: starEach [.Name n p1] X.env := by rfl) (hs2 : starEach [.Name n p1] X.env = (false, eval (.Name n p1) X.env) :: starEach [] X.env := by rfl) :
    PE X (.Call (.Name "isinstance" p) [a, .Name n p1] [] pos) (tCB (rIsi X.K) (tCons ta (tCons (tC (.ty T)) tNil))) :=
  pe_callB call_isi hg hm (by decide +kernel) (pa_cons ha (pa_cons (pe_bltn hg2 hT hb rfl hn hd) pa_nil hs2) hs) (he := hs)
end
/-- the built-in names stand bare -/
structure Bl (mg : Str → Option Value) : Prop where
  ex : ∀ x ∈ ([Str.ofString "isinstance", Str.ofString "int", Str.ofString "bool", Str.ofString "str", Str.ofString "tuple", Str.ofString "list", Str.ofString "dict", Str.ofString "set", Str.ofString "len", Str.ofString "all", Str.ofString "any", Str.ofString "sorted",
    Str.ofString "enumerate", Str.ofString "range", Str.ofString "min", Str.ofString "abs"] : List Str), mg x = none
end M

namespace M
open PySem PySem.Spec PyProof.Rows L2
theorem tyx_tup {K : PySem.W.Frag} {H : Hp} {v : V} {ks : List NK} (h : At K H v (.tup ks)) : TyX K H v (.type "tuple") := by
  obtain ⟨a, xs, rfl, s, r⟩ := h.tup_inv
  rcases s with (e | ⟨o, e⟩) | ⟨o, its, n, e, c, _⟩
  · exact .base (.tup e)
  · exact .fTuple e
  · exact .kTuple e c
theorem lc_yes {te : TE} {σ : L2.St} {H : Hp} {k : V → Hp → Prop} {k0 : Hp → Prop} (h : te σ H k) : tYes σ H (fun b H3 => if b = true then te σ H3 k else k0 H3) := h
/-- a comprehension's reading: R tells of the turn and of the list made so far -/
theorem lc_acc {K : PySem.W.Frag} {J : It} {n : Nat} {G : Hp → Prop} {Yd : Nat → Hp → V → Hp → Prop} {g : TG} {tt : TT} {te : TE} {vs : List Nat} {σ : L2.St} {H1 : Hp} {D : Addr} {Qd : Hp → Prop}
    (w : L2.Walk J n G Yd) (nD : H1 D = none) (hn : n ≤ 1000000) (hG : ∀ H, Same H1 H → G H) (R : Nat → List V → Hp → Prop) (mono : ∀ i acc H H', Ext K H H' → R i acc H → R i acc H') (h0 : R 0 [] H1)
    (hs : ∀ i x H H' acc (k : V → Hp → Prop) (k0 : Hp → Prop), i < n → Same H1 H → H D = some (.lst acc) → R i acc H → Yd i H x H' → (∀ y H4, Same H H4 → R (i + 1) (acc ++ [y]) H4 → k y H4) → (∀ H3, Same H H3 → R (i + 1) acc H3 → k0 H3) →
      g x (wipe σ vs) H' fun σ2 H2 => wipe σ2 vs = wipe σ vs ∧ tt σ2 H2 fun b H3 => if b = true then te σ2 H3 k else k0 H3)
    (hd : ∀ H acc, Same H1 H → H D = some (.lst acc) → R n acc H → Qd H) :
    ∃ W : Nat → Nat → Hp → Prop, (∃ m, W 0 m (upd H1 D (.lst []))) ∧ ∀ i m H, W i m H →
      (J.stop i H ∧ Qd H) ∨ (J.go i H ∧ ∃ Nx : Hp → Prop, (∀ H', Nx H' → ∃ m', m' < m ∧ W (i + 1) m' H') ∧ ∀ x H', J.yld i H x H' → g x (wipe σ vs) H' fun σ2 H2 => wipe σ2 vs = wipe σ vs ∧ tt σ2 H2 fun b H3 =>
        if b = true then te σ2 H3 fun y H4 => ∃ acc, H4 D = some (.lst acc) ∧ acc.length < sizeLine ∧ Nx (upd H4 D (.lst (acc ++ [y]))) else Nx H3) := by
  refine lc_it w (fun i H => Same H1 H ∧ ∃ acc, H D = some (.lst acc) ∧ acc.length ≤ i ∧ R i acc H) ⟨same_upd nD, [], upd_same, Nat.le_refl _, mono _ _ _ _ (Ext.new nD) h0⟩ (fun i H _ p => hG H p.1) (fun i x H H' hi p y => ?_) fun H p => ?_
  · obtain ⟨sm, acc, eD, hl, r⟩ := p
    refine hs i x H H' acc _ _ hi sm eD r y (fun v H4 q4 q5 => ?_) fun H3 q4 q5 => ?_
    · have e4 : H4 D = some (.lst acc) := q4 _ _ eD
      refine ⟨acc, e4, by rw [sizeLine_eq]; omega, fun b o e => ?_, acc ++ [v], upd_same, by rw [List.length_append, List.length_singleton]; omega, mono _ _ _ _ (Ext.mut e4 trivial) q5⟩
      have nb : b ≠ D := ne_of_none e nD
      rw [upd_ne nb]
      exact q4 _ _ (sm _ _ e)
    · exact ⟨sm.trans q4, acc, q4 _ _ eD, by omega, q5⟩
  · obtain ⟨sm, acc, eD, hl, r⟩ := p
    exact hd H acc sm eD r
end M

namespace M
open PySem PySem.Spec PyProof.Rows L2
/-- the words that are no names -/
def wordsL : List Str := ["at", "back", "call", "cell", "else", "end", "give", "if", "is", "less", "loop", "not", "plus", "read", "set", "stop", "swap", "text", "then", "to", "wait", "write"]
/-- the built-in names that the program asks, and the numbers and texts of its top -/
structure Tx (K : PySem.W.Frag) (mg : Str → Option Value) : Prop where
  isi : mg "isinstance" = none
  int : mg "int" = none
  bool : mg "bool" = none
  str : mg "str" = none
  tuple : mg "tuple" = none
  list : mg "list" = none
  dict : mg "dict" = none
  set : mg "set" = none
  len : mg "len" = none
  all : mg "all" = none
  any : mg "any" = none
  sorted : mg "sorted" = none
  enumerate : mg "enumerate" = none
  range : mg "range" = none
  min : mg "min" = none
  abs : mg "abs" = none
  letters : ∃ t, mg "LETTERS" = some (.str "abcdefghijklmnopqrstuvwxyz" t)
  digits : ∃ t, mg "DIGITS" = some (.str "0123456789" t)
  mostLetters : ∃ t, mg "MOST_LETTERS" = some (.int 8 t)
  mostNumber : ∃ t, mg "MOST_NUMBER" = some (.int 9 t)
  mostBeliefs : ∃ t, mg "MOST_BELIEFS" = some (.int 4000 t)
  mostSpots : ∃ t, mg "MOST_SPOTS" = some (.int 200000 t)
  mostLots : ∃ t, mg "MOST_LOTS" = some (.int 5000 t)
  asks : ∃ t, mg "ASKS" = some (.str "asks" t)
  has : ∃ t, mg "HAS" = some (.str "has" t)
  words : ∃ a, mg "WORDS" = some (.ref a) ∧ ∀ H, At K H (.ref a) (.tup (wordsL.map .text))
theorem q_bl {Q : VK} {b c : Bool} {H : Hp} (e : b = c) (q : Q (.bl c) H) : Q (.bl b) H := by
  rw [e]
  exact q
theorem q_v {Q : VK} {b c : V} {H : Hp} (e : b = c) (q : Q c H) : Q b H := by
  rw [e]
  exact q
section
variable {X : Cx} {x : Str} {pos : Pos}
theorem pe_gi {i : Int} (h : ∃ t, X.mg x = some (.int i t)) (hg : Gl X x := by rfl) (hd : (x == ("__debug__" : Str)) = false := by decide) : PE X (.Name x pos) (tC (.int i)) := by
  obtain ⟨t, h⟩ := h
  exact pe_glob hg h ⟨t, rfl⟩ hd
theorem pe_gs {y : Str} (h : ∃ t, X.mg x = some (.str y t)) (hg : Gl X x := by rfl) (hd : (x == ("__debug__" : Str)) = false := by decide) : PE X (.Name x pos) (tC (.str y)) := by
  obtain ⟨t, h⟩ := h
  exact pe_glob hg h ⟨t, rfl⟩ hd
end
end M

namespace M
open PySem PySem.Spec PyProof.Rows L2
/-- a piece of a row, by whole numbers from 0 on -/
def cutK (ks : List NK) (lo hi : Option Nat) : List NK :=
  match lo, hi with
  | some a, some b => (ks.drop a).take (b - a)
  | some a, none => ks.drop a
  | none, some b => ks.take b
  | none, none => ks
def cutX (xs : List V) (lo hi : Option Nat) : List V :=
  match lo, hi with
  | some a, some b => (xs.drop a).take (b - a)
  | some a, none => xs.drop a
  | none, some b => xs.take b
  | none, none => xs
theorem cutV_nat (xs : List V) (lo hi : Option Nat) : cutV xs (lo.map fun n => (n : Int)) (hi.map fun n => (n : Int)) = cutX xs lo hi := by
  cases lo with
  | none =>
    cases hi with
    | none =>
      show (xs.drop (HT.sIx xs.length 0 none)).take (HT.sIx xs.length xs.length none - HT.sIx xs.length 0 none) = xs
      rw [HT.sIx_none, HT.sIx_none]
      simp
    | some b =>
      show (xs.drop (HT.sIx xs.length 0 none)).take (HT.sIx xs.length xs.length (some (b : Int)) - HT.sIx xs.length 0 none) = xs.take b
      rw [HT.sIx_none, HT.sIx_nat]
      simp [List.take_eq_take_iff]
  | some a =>
    cases hi with
    | none =>
      show (xs.drop (HT.sIx xs.length 0 (some (a : Int)))).take (HT.sIx xs.length xs.length none - HT.sIx xs.length 0 (some (a : Int))) = xs.drop a
      rw [HT.sIx_none, HT.sIx_nat]
      by_cases h : a ≤ xs.length
      · rw [Nat.min_eq_left h, ← List.length_drop, List.take_length]
      · rw [Nat.min_eq_right (by omega), List.drop_eq_nil_of_le (Nat.le_refl _), List.drop_eq_nil_of_le (by omega)]
        simp
    | some b =>
      show (xs.drop (HT.sIx xs.length 0 (some (a : Int)))).take (HT.sIx xs.length xs.length (some (b : Int)) - HT.sIx xs.length 0 (some (a : Int))) = (xs.drop a).take (b - a)
      rw [HT.sIx_nat, HT.sIx_nat]
      by_cases h : a ≤ xs.length
      · rw [Nat.min_eq_left h]
        by_cases h2 : b ≤ xs.length
        · rw [Nat.min_eq_left h2]
        · rw [Nat.min_eq_right (by omega), List.take_of_length_le (by rw [List.length_drop]; omega), List.take_of_length_le (by rw [List.length_drop]; omega)]
      · rw [Nat.min_eq_right (show xs.length ≤ a by omega), List.drop_eq_nil_of_le (Nat.le_refl _), List.drop_eq_nil_of_le (show xs.length ≤ a by omega)]
        simp
theorem Ats.cut {K : PySem.W.Frag} {H : Hp} {xs : List V} {ks : List NK} (h : Ats K H xs ks) (lo hi : Option Nat) : Ats K H (cutX xs lo hi) (cutK ks lo hi) := by
  cases lo <;> cases hi
  · exact h
  · exact h.take _
  · exact h.drop _
  · exact (h.drop _).take _
section
variable {X : Cx}
/-- t[a:b], a and b from 0 on -/
def rSlN (K : PySem.W.Frag) : V → Option Int → Option Int → Hp → VK → Prop := fun x lo hi H Q => ∃ (ks : List NK) (a b : Option Nat), At K H x (.tup ks) ∧ lo = a.map (fun n => (n : Int)) ∧ hi = b.map (fun n => (n : Int)) ∧
  ∀ v H', Same H H' → At K H' v (.tup (cutK ks a b)) → Q v H'
theorem cut_whole {xs : List V} {lo hi : Option Int} (h : HT.sIx xs.length 0 lo = 0 ∧ HT.sIx xs.length xs.length hi = xs.length) : cutV xs lo hi = xs := by
  show (xs.drop (HT.sIx xs.length 0 lo)).take (HT.sIx xs.length xs.length hi - HT.sIx xs.length 0 lo) = xs
  rw [h.1, h.2]
  simp
theorem sl_n : SlR X (rSlN X.K) := by
  intro pins s σ H x v vl vu lo hi sl Q I rx hs pl pu q
  obtain ⟨ks, a, b, hx, rfl, rfl, q⟩ := q
  obtain ⟨p, xs, rfl, hq, ha⟩ := hx.tup_inv
  refine sl_tupA pins s σ H _ v vl vu _ _ sl Q I rx hs pl pu ⟨p, xs, rfl, hq, fun hw => ?_, fun _ r hr => ?_⟩
  · have e := cutV_nat xs a b
    rw [cut_whole hw] at e
    have h2 := ha.cut a b
    rw [← e] at h2
    exact q _ H (Same.refl _) (.tup hq h2)
  · rw [cutV_nat]
    exact q _ _ (same_upd hr) (.tup (SqT.of upd_same) ((ha.cut a b).same (same_upd hr)))
end
end M

/-! the things of the law, plain -/
namespace M
open PySem PySem.Spec PyProof.Rows L2
/-- a name: here a or b -/
def Nm (x : Str) : Prop := x = "a" ∨ x = "b"
abbrev Call := Str × Nat
def COk (c : Call) : Prop := Nm c.1 ∧ c.2 ≤ 9
def eC (c : Call) : NK := .tup [.text c.1, .num c.2]
/-- events of the one hand -/
inductive Ev where
  | call (c : Call)
  | back (r : Nat)
  deriving DecidableEq
def eE : Ev → NK
  | .call c => .tup [.text "call", .num 0, .text c.1, .num c.2]
  | .back r => .tup [.text "back", .num 0, .num r]
def EOk : Ev → Prop
  | .call c => COk c
  | .back r => r ≤ 9
def eO (o : Nat × Nat) : NK := .tup [.num o.1, .num o.2]
structure Th where
  calls : List Call
  sts : List (List (List (Nat × Nat)))
def eSt (st : List (List (Nat × Nat))) : NK := .tup (st.map fun lot => .tup (lot.map eO))
def eSts (T : Th) : NK := .tup (T.sts.map eSt)
def eT (T : Th) : NK := .tup [.tup (T.calls.map eC), eSts T]
structure TOk (T : Th) : Prop where
  ne : T.calls ≠ []
  few : T.calls.length ≤ 3
  nd : T.calls.Nodup
  cok : ∀ c ∈ T.calls, COk c
  one : 1 ≤ T.sts.length
  four : T.sts.length ≤ 4
  len : ∀ st ∈ T.sts, st.length = T.calls.length
  lne : ∀ st ∈ T.sts, ∀ lot ∈ st, lot ≠ []
  ok : ∀ st ∈ T.sts, ∀ lot ∈ st, ∀ o ∈ lot, o.1 ≤ 9 ∧ o.2 < T.sts.length
  lot : ∀ st ∈ T.sts, ∀ lot ∈ st, lot.length ≤ 12
def Th.n (T : Th) : Nat := T.sts.length
/-- the outcomes of a call in a state -/
def Th.out (T : Th) (s : Nat) (c : Call) : List (Nat × Nat) := ((T.sts.getD s []).getD (T.calls.idxOf c) [])
theorem eC_inj {c d : Call} (h : eC c = eC d) : c = d := by
  obtain ⟨a, b⟩ := c
  obtain ⟨a', b'⟩ := d
  simp only [eC, NestedKey.tup.injEq, List.cons.injEq, NestedKey.text.injEq, NestedKey.num.injEq, and_true] at h
  obtain ⟨h1, h2⟩ := h
  have : b = b' := by omega
  rw [h1, this]
theorem idxOf_map {α β : Type} [DecidableEq α] [DecidableEq β] {f : α → β} (hf : ∀ a b, f a = f b → a = b) (a : α) : ∀ l : List α, (l.map f).idxOf (f a) = l.idxOf a
  | [] => rfl
  | b :: l => by
    rw [List.map_cons, List.idxOf_cons, List.idxOf_cons, idxOf_map hf a l]
    by_cases e : b = a
    · subst e
      rw [beq_self_eq_true, beq_self_eq_true]
    · have e' : ¬ f b = f a := fun z => e (hf _ _ z)
      rw [show (b == a) = false from beq_eq_false_iff_ne.mpr e, show (f b == f a) = false from beq_eq_false_iff_ne.mpr e']
/-- the value is the thing: its row of calls is a bare tuple -/
def Tg (K : PySem.W.Frag) (H : Hp) (v : V) (T : Th) : Prop := ∃ a vc vs, v = .ref a ∧ SqT K H a [vc, vs] ∧ Bare K H vc (T.calls.map eC) ∧ At K H vs (eSts T)
section
variable {K : PySem.W.Frag} {H H' : Hp} {v : V} {T : Th}
theorem Tg.same (h : Tg K H v T) (s : Same H H') : Tg K H' v T := by
  obtain ⟨a, vc, vs, e, q, b, r⟩ := h
  exact ⟨a, vc, vs, e, Ext.of_same s _ _ q, b.same s, r.same s⟩
theorem Tg.at (h : Tg K H v T) : At K H v (eT T) := by
  obtain ⟨a, vc, vs, rfl, q, b, r⟩ := h
  exact .tup q (.two b.at r)
theorem at_strs {x : Str} (h : PyData.strOk x = true) : At K H (.str x) (.text x) := .str x h
theorem Nm.ok {x : Str} (h : Nm x) : PyData.strOk x = true := by
  rcases h with rfl | rfl <;> decide +kernel
/-- what stands under an event, in the heap -/
theorem at_call {c : Call} (h : At K H v (eE (.call c))) : ∃ a v2, v = .ref a ∧ SqT K H a [.str "call", .int 0, .str c.1, .int c.2] ∧ v2 = v := by
  obtain ⟨a, xs, rfl, s, r⟩ := h.tup_inv
  cases r with
  | cons h1 r => cases r with
    | cons h2 r => cases r with
      | cons h3 r => cases r with
        | cons h4 r =>
          cases r
          rw [h1.text_inv, h2.num_inv, h3.text_inv, h4.num_inv] at s
          exact ⟨a, _, rfl, s, rfl⟩
end
section
variable {X : Cx}
/-- thing[0] -/
theorem ix_t0 : IxR X (fun x y H Q => ∃ T, Tg X.K H x T ∧ y = .int 0 ∧ ∀ v, Bare X.K H v (T.calls.map eC) → Q v H) := fun value slice pins s σ H x y v u Q I rx ry h hs => by
  obtain ⟨T, ⟨a, vc, vs, rfl, hq, hb, _⟩, rfl, q⟩ := h
  exact ix_tup value slice pins s σ H _ _ v u Q I rx ry ⟨a, [vc, vs], 0, vc, rfl, rfl, hq, atI_nat (j := 0) rfl, q vc hb⟩ hs
/-- thing[1] -/
theorem ix_t1 : IxR X (fun x y H Q => ∃ T, Tg X.K H x T ∧ y = .int 1 ∧ ∀ v, At X.K H v (eSts T) → Q v H) := fun value slice pins s σ H x y v u Q I rx ry h hs => by
  obtain ⟨T, ⟨a, vc, vs, rfl, hq, _, hb⟩, rfl, q⟩ := h
  exact ix_tup value slice pins s σ H _ _ v u Q I rx ry ⟨a, [vc, vs], 1, vs, rfl, rfl, hq, atI_nat (j := 1) rfl, q vs hb⟩ hs
end
end M

/-! dicts whose keys are tuples of any depth -/
namespace M
open PySem PySem.Spec PyProof.Rows L2
abbrev Nent := NK × Addr × Value
/-- the dict object at d, known to the object -/
def NdO (d : Addr) (o : Obj) : HO := .ext fun h => h.get? d = some o
/-- an entry told -/
def NdR (K : PySem.W.Frag) (H : Hp) : NK × V → Nent → Prop := fun p q => p.1 = q.1 ∧ At K H (.ref q.2.1) p.1 ∧ p.1.depth ≤ 8 ∧ RelV p.2 q.2.2
/-- the object o, a dict with these entries -/
structure NdD (P : Program) (w : World) (o : Obj) (xs : List Nent) : Prop where
  ex : ∃ es ep, o.ExactDict ∧ o.data = .dict es ep ∧ es.toList = xs.map (entryOfKey (nestedKind P w))
/-- the entries of the dict at d -/
structure DKe (K : PySem.W.Frag) (H : Hp) (d : Addr) (kvs : List (NK × V)) (xs : List Nent) : Prop where
  low : (d == sysModules) = false
  nd : (kvs.map (·.1)).Nodup
  rel : Paired (NdR K H) kvs xs
/-- at d stands the dict o, with these keys and values -/
def DO (P : Program) (w : World) (K : PySem.W.Frag) (H : Hp) (d : Addr) (o : Obj) (kvs : List (NK × V)) : Prop := H d = some (NdO d o) ∧ ∃ xs, NdD P w o xs ∧ DKe K H d kvs xs
/-- a dict with these keys and values -/
def DK (P : Program) (w : World) (K : PySem.W.Frag) (H : Hp) (d : Addr) (kvs : List (NK × V)) : Prop := ∃ o, DO P w K H d o kvs
section
variable {P : Program} {w : World} {K : PySem.W.Frag} {H H' : Hp} {d : Addr} {kvs : List (NK × V)} {xs : List Nent}
theorem paired_map {α β γ : Type} {F : α → β → Prop} {f : α → γ} {g : β → γ} {l : List α} {m : List β} (h : Paired F l m) (e : ∀ a b, F a b → f a = g b) : l.map f = m.map g := by
  induction h with
  | nil => rfl
  | cons r t ih => rw [List.map_cons, List.map_cons, e _ _ r, ih]
theorem DKe.ext (h : DKe K H d kvs xs) (x : Ext K H H') : DKe K H' d kvs xs := ⟨h.low, h.nd, Paired.mapP h.rel fun _ _ r => ⟨r.1, r.2.1.ext x, r.2.2⟩⟩
theorem DKe.keys (h : DKe K H d kvs xs) : kvs.map (·.1) = xs.map (·.1) := paired_map h.rel fun _ _ r => r.1
theorem DO.mono {o : Obj} (h : DO P w K H d o kvs) (x : Ext K H H') (e : ∀ o, H d = some o → H' d = some o) : DO P w K H' d o kvs := by
  obtain ⟨hd, xs, z, r⟩ := h
  exact ⟨e _ hd, xs, z, r.ext x⟩
theorem DO.same {o : Obj} (h : DO P w K H d o kvs) (x : Same H H') : DO P w K H' d o kvs := h.mono (.of_same x) fun o e => x _ _ e
theorem DK.mono (h : DK P w K H d kvs) (x : Ext K H H') (e : ∀ o, H d = some o → H' d = some o) : DK P w K H' d kvs := by
  obtain ⟨o, h⟩ := h
  exact ⟨o, h.mono x e⟩
theorem DK.same (h : DK P w K H d kvs) (x : Same H H') : DK P w K H' d kvs := h.mono (.of_same x) fun o e => x _ _ e
theorem DK.mut (h : DK P w K H d kvs) : ∃ u, H d = some u ∧ Mut (some u) := by
  obtain ⟨o, hd, _⟩ := h
  exact ⟨_, hd, trivial⟩
/-- another object written -/
theorem DK.other {b : Addr} {o u : HO} (h : DK P w K H d kvs) (hb : H b = some u) (m : Mut (some u)) (ne : d ≠ b) : DK P w K (upd H b o) d kvs := h.mono (Ext.mut hb m) fun o e => by
  rw [upd_ne ne]
  exact e
theorem ndr_val (r : Paired (NdR K H) kvs xs) (k : NK) : RelO (valV kvs k) ((atKey xs k).map (·.2)) := by
  induction r with
  | nil => exact True.intro
  | @cons a b as bs hab t ih =>
    by_cases e : a.1 = k
    · have eb : b.1 = k := by rw [← hab.1]; exact e
      have q : atKey (b :: bs) k = some b.2 := by
        unfold atKey
        rw [List.find?_cons, decide_eq_true eb]
        rfl
      rw [valV_pos e, q]
      exact hab.2.2.2
    · have eb : ¬ b.1 = k := by rw [← hab.1]; exact e
      have q : atKey (b :: bs) k = atKey bs k := by
        unfold atKey
        rw [List.find?_cons, decide_eq_false eb]
      rw [valV_neg e, q]
      exact ih
theorem ndr_put (r : Paired (NdR K H) kvs xs) {k : NK} {b : Addr} {y : V} {u : Value} (hb : At K H (.ref b) k) (hk : k.depth ≤ 8) (ry : RelV y u) : Paired (NdR K H) (putK kvs k y) (storedH xs k b u) := by
  have e : (valV kvs k).isSome = (atKey xs k).isSome := by
    have := (ndr_val r k).isSome_eq
    rwa [Option.isSome_map] at this
  cases hv : (atKey xs k).isSome with
  | true =>
    have e1 : storedH xs k b u = xs.map (putAt k u) := by
      unfold storedH
      rw [hv]
      rfl
    have e2 : putK kvs k y = kvs.map fun kv => if kv.1 = k then (kv.1, y) else kv := by
      unfold putK
      rw [valV_any, e, hv]
      rfl
    rw [e1, e2]
    clear e e1 e2 hv
    induction r with
    | nil => exact .nil
    | @cons p q ps qs hpq t ih =>
      refine .cons ?_ ih
      obtain ⟨z1, z2, z3, z4⟩ := hpq
      by_cases c : p.1 = k
      · have c' : q.1 = k := by rw [← z1]; exact c
        simp only [putAt, c, c', if_true]
        exact ⟨rfl, by rw [← c]; exact z2, by rw [← c]; exact z3, ry⟩
      · have c' : ¬ q.1 = k := by rw [← z1]; exact c
        simp only [putAt, c, c', if_false]
        exact ⟨z1, z2, z3, z4⟩
  | false =>
    have e1 : storedH xs k b u = xs ++ [(k, b, u)] := by
      unfold storedH
      rw [hv]
      rfl
    have e2 : putK kvs k y = kvs ++ [(k, y)] := by
      unfold putK
      rw [valV_any, e, hv]
      rfl
    rw [e1, e2]
    exact Paired.snoc r ⟨rfl, hb, hk, ry⟩
theorem keys_put (k : NK) (y : V) (h : (kvs.map (·.1)).Nodup) : ((putK kvs k y).map (·.1)).Nodup := by
  cases hv : valV kvs k with
  | none =>
    rw [putK_new y hv, List.map_append]
    refine List.nodup_append.mpr ⟨h, by simp, fun a ha b hb e => ?_⟩
    have hb' : b = k := by simpa using hb
    obtain ⟨p, hp, rfl⟩ := List.mem_map.mp ha
    have : (kvs.any fun kv => decide (kv.1 = k)) = true := List.any_eq_true.mpr ⟨p, hp, decide_eq_true (e.trans hb')⟩
    rw [valV_any, hv] at this
    cases this
  | some v =>
    have e2 : putK kvs k y = kvs.map fun kv => if kv.1 = k then (kv.1, y) else kv := by
      unfold putK
      rw [valV_any, hv]
      rfl
    rw [e2, List.map_map]
    have e3 : ((fun x : NK × V => x.1) ∘ fun kv : NK × V => if kv.1 = k then (kv.1, y) else kv) = fun x => x.1 := by
      funext p
      by_cases c : p.1 = k <;> simp [c]
    rw [e3]
    exact h
end
section
variable {X : Cx} {pins : List (Addr × Obj)} {σ : L2.St} {H : Hp} {s : Shared} {d a : Addr} {kvs : List (NK × V)} {k : NK} {v : V} {u : Value} {A : Around} {E : Value → Shared → Prop} {xs : List Nent}
theorem nd_is (I : Inv X pins σ H s) (h : At X.K H (.ref a) k) (hk : k.depth ≤ 8) : (nestedKind X.prog X.w).is s.heap k a := ⟨At.is I k _ _ h rfl, hk⟩
theorem nd_all (I : Inv X pins σ H s) (r : Paired (NdR X.K H) kvs xs) : ∀ x ∈ xs, (nestedKind X.prog X.w).is s.heap x.1 x.2.1 := by
  intro x hx
  obtain ⟨p, hp⟩ : ∃ p, NdR X.K H p x := by
    induction r with
    | nil => cases hx
    | cons q t ih =>
      rcases List.mem_cons.mp hx with e | hx
      · exact ⟨_, e ▸ q⟩
      · exact ih hx
  rw [← hp.1]
  exact nd_is I hp.2.1 hp.2.2.1
theorem nd_get {h : Heap} {o : Obj} (hok : HOk X.prog X.w H h) (hd : H d = some (NdO d o)) : h.get? d = some o := (show ObjOk X.prog X.w H h d (NdO d o) from hok d _ hd).1
theorem nd_dict {o : Obj} (I : Inv X pins σ H s) (hd : H d = some (NdO d o)) (z : NdD X.prog X.w o xs) (r : DKe X.K H d kvs xs) : s.heap.DictOfH (nestedKind X.prog X.w) d xs := by
  obtain ⟨es, ep, h2, h3, h4⟩ := z.ex
  exact ⟨o, es, ep, nd_get I.hok hd, h2, h3, h4, nd_all I r.rel, by rw [← r.keys]; exact r.nd⟩
theorem room_nd (hu : A.units + 64 < cLine) : (nestedKind X.prog X.w).room A.in1 := by
  show A.in1.units + 8 < cLine
  have : A.in1.units = A.units + 1 := rfl
  omega
/-- x in d -/
theorem nd_in {Q : Value → Shared → Prop} (hu : A.units + 64 < cLine) (I : Inv X pins σ H s) (g : DK X.prog X.w X.K H d kvs) (hy : At X.K H v k) (hk : k.depth ≤ 8) (ht : ∃ ks, k = .tup ks) (ry : RelV v u)
    (h : ∀ s', Inv X pins σ H s' → Q (.bool (valV kvs k).isSome) s') : wpAny (model X.prog X.w) A (compareOp .In u (.ref d)) Q E s := by
  obtain ⟨o, hd, xs, hz, r⟩ := g
  obtain ⟨ks, rfl⟩ := ht
  obtain ⟨a, zs, rfl, _⟩ := hy.tup_inv
  cases ry
  refine wpAny_in_heap (room_nd hu) (nd_is I hy hk) r.low (nd_dict I hd hz r) ?_
  have q := (ndr_val r.rel (.tup ks)).isSome_eq
  rw [Option.isSome_map] at q
  rw [← q]
  exact h _ (I.tok _)
theorem nd_notIn {Q : Value → Shared → Prop} (hu : A.units + 64 < cLine) (I : Inv X pins σ H s) (g : DK X.prog X.w X.K H d kvs) (hy : At X.K H v k) (hk : k.depth ≤ 8) (ht : ∃ ks, k = .tup ks) (ry : RelV v u)
    (h : ∀ s', Inv X pins σ H s' → Q (.bool (!(valV kvs k).isSome)) s') : wpAny (model X.prog X.w) A (compareOp .NotIn u (.ref d)) Q E s := by
  obtain ⟨o, hd, xs, hz, r⟩ := g
  obtain ⟨ks, rfl⟩ := ht
  obtain ⟨a, zs, rfl, _⟩ := hy.tup_inv
  cases ry
  refine wpAny_notIn_heap (room_nd hu) (nd_is I hy hk) r.low (nd_dict I hd hz r) ?_
  have q := (ndr_val r.rel (.tup ks)).isSome_eq
  rw [Option.isSome_map] at q
  rw [← q]
  exact h _ (I.tok _)
theorem nd_getItem {Q : Value → Shared → Prop} {y : V} (hu : A.units + 64 < cLine) (I : Inv X pins σ H s) (g : DK X.prog X.w X.K H d kvs) (hy : At X.K H v k) (hk : k.depth ≤ 8) (ht : ∃ ks, k = .tup ks) (ry : RelV v u) (hv : valV kvs k = some y)
    (h : ∀ z s', Inv X pins σ H s' → RelV y z → Q z s') : wpAny (model X.prog X.w) A (getItem (.ref d) u) Q E s := by
  obtain ⟨o, hd, xs, hz, r⟩ := g
  obtain ⟨ks, rfl⟩ := ht
  obtain ⟨a, zs, rfl, _⟩ := hy.tup_inv
  cases ry
  obtain ⟨z, hzz, rz⟩ := RelO.some_of (v := y) (o := (atKey xs (.tup ks)).map (·.2)) (by rw [← hv]; exact ndr_val r.rel _)
  obtain ⟨p, hp, rfl⟩ := Option.map_eq_some_iff.mp hzz
  exact wpAny_getItem_heap (room_nd hu) (nd_is I hy hk) (nd_dict I hd hz r) hp (h _ _ (I.tok _) rz)
/-- what stands at d behind a change -/
theorem nd_now {h' : Heap} {t' : Nat} {ys : List Nent} {o : Obj} (I : Inv X pins σ H s) (hd : H d = some (NdO d o)) (hs : Heap.SameBut d s.heap h') (dd : h'.DictOfH (nestedKind X.prog X.w) d ys) :
    ∃ q, NdD X.prog X.w q ys ∧ Inv X pins σ (upd H d (NdO d q)) { s with heap := h', toks := t' } := by
  obtain ⟨q, es, ep, hq, h2, h3, h4, _⟩ := dd
  exact ⟨q, ⟨es, ep, h2, h3, h4⟩, d_write I (by rw [hd]; trivial) hs ⟨q, hq⟩ ⟨hq, ⟨q, hq⟩, fun h1 h2 p st => st _ p⟩⟩
theorem dke_put {q : Obj} (r : DKe X.K H d kvs xs) (hd : H d = some (NdO d q)) {b : Addr} {y : V} {u : Value} {o : HO} (hb : At X.K H (.ref b) k) (hk : k.depth ≤ 8) (ry : RelV y u) : DKe X.K (upd H d o) d (putK kvs k y) (storedH xs k b u) :=
  (⟨r.low, keys_put k y r.nd, ndr_put r.rel hb hk ry⟩ : DKe X.K H d (putK kvs k y) (storedH xs k b u)).ext (Ext.mut hd trivial)
theorem nd_setItem {Q : Unit → Shared → Prop} {y : V} {z : Value} (hu : A.units + 64 < cLine) (I : Inv X pins σ H s) (g : DK X.prog X.w X.K H d kvs) (hl : kvs.length ≤ 1000000) (hy : At X.K H v k) (hk : k.depth ≤ 8) (ht : ∃ ks, k = .tup ks) (ry : RelV v u) (rz : RelV y z)
    (h : ∀ o s', DK X.prog X.w X.K (upd H d o) d (putK kvs k y) → Inv X pins σ (upd H d o) s' → Q () s') : wpAny (model X.prog X.w) A (setItem (.ref d) u z) Q E s := by
  obtain ⟨o, hd, xs, hz, r⟩ := g
  obtain ⟨ks, rfl⟩ := ht
  obtain ⟨a, zs, rfl, _⟩ := hy.tup_inv
  cases ry
  have hsz : xs.length ≤ sizeLine := by
    rw [← Paired.length r.rel, sizeLine_eq]
    omega
  refine wpAny_setItem_heap (hsz := hsz) (room_nd hu) (nd_is I hy hk) (nd_dict I hd hz r) fun h' dd hs => ?_
  obtain ⟨q, hq, I'⟩ := nd_now (t' := _) I hd hs dd
  exact h _ _ ⟨q, upd_same, _, hq, dke_put r hd hy hk rz⟩ I'
theorem nd_dictSet {Q : Unit → Shared → Prop} {y : V} {z : Value} (hu : X.A.units + 64 < cLine) (I : Inv X pins σ H s) (g : DK X.prog X.w X.K H d kvs) (hl : kvs.length ≤ 1000000) (hy : At X.K H v k) (hk : k.depth ≤ 8) (ht : ∃ ks, k = .tup ks) (ry : RelV v u) (rz : RelV y z)
    (h : ∀ o s', DK X.prog X.w X.K (upd H d o) d (putK kvs k y) → Inv X pins σ (upd H d o) s' → Q () s') : wpAny (model X.prog X.w) X.A (dictSet d u z) Q E s := by
  obtain ⟨o, hd, xs, hz, r⟩ := g
  obtain ⟨ks, rfl⟩ := ht
  obtain ⟨a, zs, rfl, _⟩ := hy.tup_inv
  cases ry
  have hsz : xs.length ≤ sizeLine := by
    rw [← Paired.length r.rel, sizeLine_eq]
    omega
  refine wpAny_dictSet_heap (hsz := hsz) (show X.A.units + 8 < cLine by omega) (nd_is I hy hk) (nd_dict I hd hz r) fun h' dd hs => ?_
  obtain ⟨q, hq, I'⟩ := nd_now (t' := _) I hd hs dd
  exact h _ _ ⟨q, upd_same, _, hq, dke_put r hd hy hk rz⟩ I'
theorem nd_typeIs (I : Inv X pins σ H s) (g : DK X.prog X.w X.K H d kvs) : s.TypeIs (.ref d) "dict" := by
  obtain ⟨o, hd, xs, hz, r⟩ := g
  exact (nd_dict I hd hz r).typeIs
theorem nd_noDict (I : Inv X pins σ H s) (g : DK X.prog X.w X.K H d kvs) : ∀ b, Value.ref d = .ref b → ∃ ob, s.heap.get? b = some ob ∧ ob.dict = none := fun b e => by
  cases e
  obtain ⟨o, hd, xs, hz, r⟩ := g
  obtain ⟨_, _, h2, _⟩ := hz.ex
  exact ⟨o, nd_get I.hok hd, h2.2.1⟩
end
/-! ### readings -/
section
variable {X : Cx} {o i e value : Expr} {pos pos' tpos : Pos} {td ty tv : TE}
def rInD (P : Program) (w : World) (K : PySem.W.Frag) (neg : Bool) : R2 := fun x y H Q => ∃ (k : NK) (d : Addr) (kvs : List (NK × V)), At K H x k ∧ y = .ref d ∧ DK P w K H d kvs ∧ k.depth ≤ 8 ∧ (∃ ks, k = .tup ks) ∧ Q (.bl (xor neg (decide (k ∈ kvs.map (·.1))))) H
theorem isSome_mem {kvs : List (NK × V)} {k : NK} : (valV kvs k).isSome = decide (k ∈ kvs.map (·.1)) := by
  rw [← valV_any]
  rw [Bool.eq_iff_iff, List.any_eq_true, decide_eq_true_iff, List.mem_map]
  constructor
  · rintro ⟨p, hp, e⟩
    exact ⟨p, hp, of_decide_eq_true e⟩
  · rintro ⟨p, hp, e⟩
    exact ⟨p, hp, decide_eq_true e⟩
/-- k in d -/
theorem op_inD (hu : X.A.units + 64 < cLine) : OpR X (compareOp .In) (rInD X.prog X.w X.K false) := fun pins s σ H x y v u Q I rx ry h => by
  obtain ⟨k, d, kvs, hk, rfl, g, hd, ht, q⟩ := h
  cases ry
  rw [Bool.false_xor] at q
  refine nd_in hu I g hk hd ht rx fun s' I' => ⟨.bl _, H, I', rfl, ?_⟩
  rw [isSome_mem]
  exact q
theorem op_notInD (hu : X.A.units + 64 < cLine) : OpR X (compareOp .NotIn) (rInD X.prog X.w X.K true) := fun pins s σ H x y v u Q I rx ry h => by
  obtain ⟨k, d, kvs, hk, rfl, g, hd, ht, q⟩ := h
  cases ry
  rw [Bool.true_xor] at q
  refine nd_notIn hu I g hk hd ht rx fun s' I' => ⟨.bl _, H, I', rfl, ?_⟩
  rw [isSome_mem]
  exact q
/-- d[k], there -/
def tNdGet (P : Program) (w : World) (K : PySem.W.Frag) (td ty : TE) : TE := fun σ H Q => td σ H fun x H1 => ty σ H1 fun y H2 => ∃ d kvs k v, x = .ref d ∧ DK P w K H2 d kvs ∧ At K H2 y k ∧ k.depth ≤ 8 ∧ (∃ ks, k = .tup ks) ∧ valV kvs k = some v ∧ Q v H2
theorem pe_ndGet (hu : X.A.units + 64 < cLine) (ho : PE X o td) (hi : PE X i ty) (hs : NoSl i) : PE X (.Subscript o i pos) (tNdGet X.prog X.w X.K td ty) := ⟨fun pins s σ H Q I h =>
  subD_of PySem.F.slot_dict_getitem.lookup hs (thn (ho.run pins s σ H _ I h) fun u s1 ⟨x, H1, I1, rx, q1⟩ => thn (hi.run pins s1 σ H1 _ I1 q1) fun iv s2 ⟨y, H2, I2, ry, d, kvs, k, v, ex, g, hy, hk, ht, hv, q⟩ => by
    subst ex
    cases rx
    exact ⟨nd_typeIs I2 g, nd_getItem hu I2 g hy hk ht ry hv fun z s3 I3 rz => ⟨v, H2, I3, rz, q⟩⟩)⟩
/-- d[k] = v -/
def sNdPut (P : Program) (w : World) (K : PySem.W.Frag) (td ty tv : TE) : TS := fun D σ H => tv σ H fun v H1 => td σ H1 fun x H2 => ty σ H2 fun y H3 => ∃ d kvs k, x = .ref d ∧ DK P w K H3 d kvs ∧ kvs.length ≤ 1000000 ∧ At K H3 y k ∧ k.depth ≤ 8 ∧ (∃ ks, k = .tup ks) ∧
  ∀ ob, DK P w K (upd H3 d ob) d (putK kvs k v) → D.nx σ (upd H3 d ob)
theorem ps_ndPut (hu : X.A.units + 64 < cLine) (ho : PE X o td) (hi : PE X i ty) (hv : PE X value tv) (hs : swapsWith value (some (.Subscript o i pos')) pos.line X.env = pure false := by rfl) :
    PS X (.Assign [.Subscript o i pos'] value pos) (sNdPut X.prog X.w X.K td ty tv) := ⟨fun pins s σ H D I h =>
  wpAny_Assign_Subscript (thn (hv.run pins s σ H _ I h) fun r s1 ⟨v, H1, I1, rv, q1⟩ => thn (ho.run pins s1 σ H1 _ I1 q1) fun u s2 ⟨x, H2, I2, rx, q2⟩ => thn (hi.run pins s2 σ H2 _ I2 q2) fun iv s3 ⟨y, H3, I3, ry, d, kvs, k, ex, g, hl, hy, hk, ht, q⟩ => by
    subst ex
    cases rx
    exact nd_setItem hu I3 g hl hy hk ht ry rv fun ob s4 g' I4 => ⟨σ, _, I4, q ob g'⟩) hs⟩
/-- {} -/
def emptyD : Obj := { cls := .type "dict", data := .dict #[] }
theorem nd_empty {P : Program} {w : World} {H : Hp} (h : Heap) : ObjOk P w H (h.push emptyD) h.objs.size (NdO h.objs.size emptyD) :=
  ⟨Heap.get?_push_size _ rfl, ⟨_, Heap.get?_push_size _ rfl⟩, fun h1 h2 p st => st _ p⟩
theorem dk_nil {P : Program} {w : World} {K : PySem.W.Frag} {H : Hp} {d : Addr} (hb : sysModules < d) : DK P w K (upd H d (NdO d emptyD)) d [] :=
  ⟨emptyD, upd_same, [], ⟨#[], 0, ⟨rfl, rfl, rfl⟩, rfl, rfl⟩, beq_eq_false_iff_ne.mpr (Ne.symm (Nat.ne_of_lt hb)), List.nodup_nil, .nil⟩
def tNdNew (P : Program) (w : World) (K : PySem.W.Frag) : TE := fun _ H Q => ∀ d ob, H d = none → DK P w K (upd H d ob) d [] → Q (.ref d) (upd H d ob)
theorem pe_ndNew : PE X (.Dict [] [] pos) (tNdNew X.prog X.w X.K) := ⟨fun pins s σ H Q I h =>
  wpAny_Dict_empty ⟨.ref s.heap.objs.size, _, I.laid (a := s.heap.objs.size) (o := NdO s.heap.objs.size emptyD) (t' := s.toks) (fun _ _ q => Heap.get?_push_of_some _ q) (Nat.le_refl _) (nd_empty s.heap), rfl,
    h _ _ (I.hok.fresh (Nat.le_refl _)) (dk_nil I.big)⟩⟩
end
end M

/-! such dicts walked, listed, measured -/
namespace M
open PySem PySem.Spec PyProof.Rows L2
section
variable {X : Cx} {pins : List (Addr × Obj)} {σ : L2.St} {H : Hp} {s : Shared} {d : Addr} {kvs : List (NK × V)} {o : Obj}
theorem paired_nth {α β : Type} {F : α → β → Prop} {l : List α} {m : List β} (h : Paired F l m) : ∀ {i : Nat} {a : α}, l[i]? = some a → ∃ b, m[i]? = some b ∧ F a b := by
  induction h with
  | nil => exact fun e => by simp at e
  | cons r t ih =>
    intro i a e
    cases i with
    | zero => exact ⟨_, rfl, by have := Option.some.inj e; subst this; exact r⟩
    | succ j => exact ih (by simpa using e)
/-- the object there, entry by entry -/
structure NdAt (K : PySem.W.Frag) (H : Hp) (h : Heap) (d : Addr) (o : Obj) (kvs : List (NK × V)) (es : Array DictEntry) (ep : Nat) : Prop where
  low : (d == sysModules) = false
  get : h.get? d = some o
  ex : o.ExactDict
  dat : o.data = .dict es ep
  size : es.size = kvs.length
  ent : ∀ (i : Nat) (k : NK) (v : V), kvs[i]? = some (k, v) → ∃ (en : DictEntry) (q : Addr), es[i]? = some en ∧ en.key = .ref q ∧ At K H (.ref q) k ∧ RelV v en.val
theorem nd_at (I : Inv X pins σ H s) (g : DO X.prog X.w X.K H d o kvs) : ∃ es ep, NdAt X.K H s.heap d o kvs es ep := by
  obtain ⟨hd, xs, ⟨es, ep, hx, hdt, he⟩, r⟩ := g
  refine ⟨es, ep, r.low, nd_get I.hok hd, hx, hdt, ?_, fun i k v e => ?_⟩
  · have := Paired.length r.rel
    have := size_of_entries he
    omega
  · obtain ⟨x, hx', hr⟩ := paired_nth r.rel e
    have hq := entry_at he i
    rw [hx'] at hq
    exact ⟨_, x.2.1, hq, rfl, hr.2.1, hr.2.2.2⟩
theorem NdAt.raw {K : PySem.W.Frag} {h : Heap} {es : Array DictEntry} {ep : Nat} (z : NdAt K H h d o kvs es ep) : h.DictRaw d es ep := ⟨o, z.get, z.ex, z.dat⟩
theorem NdAt.same {K : PySem.W.Frag} {H' : Hp} {h h' : Heap} {es es' : Array DictEntry} {ep ep' : Nat} {lvs : List (NK × V)} (z : NdAt K H h d o kvs es ep) (y : NdAt K H' h' d o lvs es' ep') : es' = es ∧ ep' = ep := dict_ep z.dat y.dat
end
/-- the keys, in order -/
def ItN (P : Program) (w : World) (K : PySem.W.Frag) (d : Addr) (o : Obj) (kvs : List (NK × V)) : It :=
  ⟨fun i H => DO P w K H d o kvs ∧ i < kvs.length, fun i H x H' => H' = H ∧ ∃ k v, kvs[i]? = some (k, v) ∧ At K H x k, fun i H => DO P w K H d o kvs ∧ kvs.length ≤ i⟩
/-- keys and values, each couple in a new tuple -/
def ItNi (P : Program) (w : World) (K : PySem.W.Frag) (d : Addr) (o : Obj) (kvs : List (NK × V)) : It :=
  ⟨fun i H => DO P w K H d o kvs ∧ i < kvs.length, fun i H x H' => ∃ T y k v, kvs[i]? = some (k, v) ∧ At K H y k ∧ x = .ref T ∧ H T = none ∧ H' = upd H T (.tup [y, v]), fun i H => DO P w K H d o kvs ∧ kvs.length ≤ i⟩
section
variable {P : Program} {w : World} {K : PySem.W.Frag} {tg : Expr} {d : Addr} {o : Obj} {es : Array DictEntry} {ep : Nat} {kvs : List (NK × V)}
theorem turnN (it : Addr) (hod : o.data = .dict es ep) : Turn P w K tg (ItN P w K d o kvs) [it] it (fun i h => h.IsKeyIter it d i kvs.length ep) where
  mem := List.mem_singleton.mpr rfl
  obj := fun i h st b hb => by
    obtain rfl := List.mem_singleton.mp hb
    obtain ⟨q, e, _, dd⟩ := st
    exact ⟨q, e, fun v z => by rw [z] at dd; cases dd⟩
  keep := fun i h h' st k => st.at fun q e => k it (List.mem_singleton.mpr rfl) q e
  item := by
    intro X hP hw hK hc i pins s σ H E I hf st hg
    subst hP hw hK
    have F := hf it (List.mem_singleton.mpr rfl)
    obtain ⟨es', ep', z⟩ := nd_at I hg.1
    obtain ⟨rfl, rfl⟩ := dict_ep hod z.dat
    obtain ⟨pr, hkv⟩ : ∃ pr, kvs[i]? = some pr := ⟨kvs[i]'hg.2, List.getElem?_eq_getElem hg.2⟩
    obtain ⟨en, q, hen, hkey, hq, _⟩ := z.ent i _ _ hkv
    refine next_key_item st z.get z.dat z.size hen fun h' st' sb => ?_
    have I' : Inv X pins σ H { s with heap := h' } := I.turned (t' := s.toks) (fun b ob hb e => (sb.2 b hb).trans e) F.1 F.2.1 F.2.2.2.1 F.2.2.2.2.1 F.2.2.2.2.2
    obtain ⟨oi, e1, e2, e3⟩ := id st'
    exact ⟨en.key, rfl, go_of (s := { s with heap := h' }) e1 e2 e3 (by decide) ⟨.ref q, H, I', hkey, ⟨rfl, _, _, hkv, hq⟩, st', fun b hb => (hf b hb).1⟩⟩
  done := by
    intro X hP hw hK hc i pins s σ H E I hf st hg
    subst hP hw hK
    have F := hf it (List.mem_singleton.mpr rfl)
    obtain ⟨es', ep', z⟩ := nd_at I hg.1
    obtain ⟨rfl, rfl⟩ := dict_ep hod z.dat
    exact next_key_end (I.ok.hd hc) st z.get z.dat z.size hg.2 fun h' eb => ⟨rfl, I.turned (t' := s.toks) (fun b ob hb e => eb b ob hb e) F.1 F.2.1 F.2.2.2.1 F.2.2.2.2.1 F.2.2.2.2.2⟩
  self := fun A i s Q E st h => wpAny_pyIter_keyiter st h
theorem turnNi {elts : List Expr} {kk : Nat} {tpos : Pos} (it : Addr) (hod : o.data = .dict es ep) : Turn P w K (.Tuple elts kk tpos) (ItNi P w K d o kvs) [it] it (fun i h => ∃ ok ov, IsItemIter h it d i kvs.length ep ok ov) where
  mem := List.mem_singleton.mpr rfl
  obj := fun i h st b hb => by
    obtain rfl := List.mem_singleton.mp hb
    obtain ⟨_, _, e⟩ := st
    exact ⟨_, e, fun v z => by cases z⟩
  keep := fun i h h' st k => by
    obtain ⟨x, y, e⟩ := st
    exact ⟨x, y, k it (List.mem_singleton.mpr rfl) _ e⟩
  item := by
    intro X hP hw hK hc i pins s σ H E I hf st hg
    subst hP hw hK
    have F := hf it (List.mem_singleton.mpr rfl)
    obtain ⟨es', ep', z⟩ := nd_at I hg.1
    obtain ⟨rfl, rfl⟩ := dict_ep hod z.dat
    obtain ⟨pr, hkv⟩ : ∃ pr, kvs[i]? = some pr := ⟨kvs[i]'hg.2, List.getElem?_eq_getElem hg.2⟩
    obtain ⟨en, q, hen, hkey, hq, hv⟩ := z.ent i _ _ hkv
    obtain ⟨hlt, hen'⟩ := Array.getElem?_eq_some_iff.mp hen
    obtain ⟨x, y, he⟩ := st
    rw [← z.size] at he
    have hold : it < s.heap.objs.size := Heap.lt_size he
    refine wpAny_pyNext_items_item_raw he z.raw hlt fun h' ho hT hz hk => ?_
    rw [hen'] at ho hT
    refine ⟨_, rfl, wpAny_letOwnedTupleGo_items (s := { s with heap := h' }) ho fun h2 he2 sb => ?_⟩
    have hT2 : h2.get? s.heap.objs.size = some { cls := .type "tuple", data := .seq #[en.key, en.val] } := (sb.2 _ (Nat.ne_of_gt hold)).trans hT
    have I' : Inv X pins σ (upd H s.heap.objs.size (.tup [.ref q, pr.2])) { s with heap := h2 } :=
      I.turnedNew (t' := s.toks) (ch := [it]) (fun b ob hb e => (sb.2 b (fun q => hb (List.mem_singleton.mpr q))).trans (hk b ob (fun q => hb (List.mem_singleton.mpr q)) e)) hf (Nat.le_refl _)
        ⟨by show 2 ≤ sizeLine; decide, [en.key, en.val], .cons hkey (.cons hv .nil), ⟨_, hT2, rfl, _, rfl⟩⟩
    refine ⟨.ref s.heap.objs.size, _, I', rfl, ⟨_, .ref q, _, _, hkv, hq, rfl, I.hok.fresh (Nat.le_refl _), rfl⟩, ⟨en.key, en.val, ?_⟩, fun b hb => ?_⟩
    · rw [← z.size]
      exact he2
    · obtain rfl := List.mem_singleton.mp hb
      rw [upd_ne (Nat.ne_of_lt hold)]
      exact F.1
  done := by
    intro X hP hw hK hc i pins s σ H E I hf st hg
    subst hP hw hK
    have F := hf it (List.mem_singleton.mpr rfl)
    obtain ⟨es', ep', z⟩ := nd_at I hg.1
    obtain ⟨rfl, rfl⟩ := dict_ep hod z.dat
    obtain ⟨x, y, he⟩ := st
    rw [← z.size] at he
    exact wpAny_pyNext_items_end_raw (I.ok.hd hc) he z.raw (by rw [z.size]; exact hg.2) fun h' eb => ⟨rfl, I.turned (t' := s.toks) (fun b ob hb e => eb b ob hb e) F.1 F.2.1 F.2.2.2.1 F.2.2.2.2.1 F.2.2.2.2.2⟩
  self := fun A i s Q E st h => by
    obtain ⟨_, _, e⟩ := st
    exact PySem.W.kcp_self e h
end
def YN (K : PySem.W.Frag) (kvs : List (NK × V)) : Nat → Hp → V → Hp → Prop := fun i H x H' => H' = H ∧ ∃ k v, kvs[i]? = some (k, v) ∧ At K H x k
def YNi (K : PySem.W.Frag) (kvs : List (NK × V)) : Nat → Hp → V → Hp → Prop := fun i H x H' => ∃ T y k v, kvs[i]? = some (k, v) ∧ At K H y k ∧ x = .ref T ∧ H T = none ∧ H' = upd H T (.tup [y, v])
theorem walkN {P : Program} {w : World} {K : PySem.W.Frag} {d : Addr} {o : Obj} {kvs : List (NK × V)} : L2.Walk (ItN P w K d o kvs) kvs.length (fun H => DO P w K H d o kvs) (YN K kvs) :=
  ⟨fun _ _ hi q => ⟨q, hi⟩, fun _ q => ⟨q, Nat.le_refl _⟩, fun _ _ _ _ _ _ y => y⟩
theorem walkNi {P : Program} {w : World} {K : PySem.W.Frag} {d : Addr} {o : Obj} {kvs : List (NK × V)} : L2.Walk (ItNi P w K d o kvs) kvs.length (fun H => DO P w K H d o kvs) (YNi K kvs) :=
  ⟨fun _ _ hi q => ⟨q, hi⟩, fun _ q => ⟨q, Nat.le_refl _⟩, fun _ _ _ _ _ _ y => y⟩
def iN (P : Program) (w : World) (K : PySem.W.Frag) (td : TE) : TI := fun σ H R => td σ H fun x H1 => ∃ d o kvs, x = .ref d ∧ DO P w K H1 d o kvs ∧ R (ItN P w K d o kvs) H1
def iNi (P : Program) (w : World) (K : PySem.W.Frag) (td : TE) : TI := fun σ H R => td σ H fun x H1 => ∃ d o kvs, x = .ref d ∧ DO P w K H1 d o kvs ∧ R (ItNi P w K d o kvs) H1
section
variable {X : Cx} {tg e : Expr} {td : TE} {apos cpos : Pos}
/-- for k in d -/
theorem pi_n (he : PE X e td) : PI X tg e (iN X.prog X.w X.K td) := ⟨fun pins s σ H R I h =>
  thn (he.run pins s σ H _ I h) fun u s1 ⟨x, H1, I1, rx, d, o, kvs, ex, g, q⟩ => by
    subst ex
    cases rx
    obtain ⟨es, ep, z⟩ := nd_at I1 g
    refine iter_keys z.low z.get z.ex z.dat (pi_one (tk := s1.toks) I1 _ (turnN _ z.dat) ⟨_, Heap.get?_push_size _ rfl, rfl, ?_⟩ q)
    rw [z.size] <;> rfl⟩
/-- for k, v in d.items() -/
theorem pi_ni {elts : List Expr} {kk : Nat} {tpos : Pos} (he : PE X e td) (hbase : attributeBase e "items" X.env (eval e X.env) = eval e X.env := by rfl) (hline : (apos.endLine == cpos.line) = true := by rfl) :
    PI X (.Tuple elts kk tpos) (.Call (.Attribute e "items" apos) [] [] cpos) (iNi X.prog X.w X.K td) := ⟨fun pins s σ H R I h =>
  wpAny_Call_method (T := "dict") (id := "dict.items") hbase rfl hline F.plainAttrs_dict F.slot_dict_items F.type_dict_items (thn (he.run pins s σ H _ I h) fun u s1 ⟨x, H1, I1, rx, d, o, kvs, ex, g, q⟩ => by
    subst ex
    cases rx
    obtain ⟨es, ep, z⟩ := nd_at I1 g
    refine ⟨nd_typeIs I1 ⟨o, g⟩, nd_noDict I1 ⟨o, g⟩, method_meetsIn F.slot_dict_items F.entry_dict_items rfl (PySem.evalArgs_none ⟨rfl, nd_typeIs I1 ⟨o, g⟩, F.args_dict_items_1 _, _, meets_dict_items_raw d z.low, ⟨es, ep, z.raw⟩, ?_⟩)⟩
    have I2 : Inv X pins σ H1 { s1 with heap := s1.heap.push { cls := .type "dict_items", data := .fields #[.ref d] } } := I1.kept (t' := s1.toks) fun b ob q => Heap.get?_push_of_some _ q
    refine wpAny_pyIter_items_raw (d := d) ⟨_, Heap.get?_push_size _ rfl, rfl, rfl⟩ (z.raw.at fun q e => Heap.get?_push_of_some _ e) (pi_one (tk := s1.toks) I2 _ (turnNi _ z.dat) ⟨.none, .none, ?_⟩ q)
    rw [← z.size]
    exact Heap.get?_push_size _ rfl)⟩
/-- len(d) -/
theorem len_nd : CallR X (.builtin "len") (fun xs H Q => ∃ d kvs, xs = [.ref d] ∧ DK X.prog X.w X.K H d kvs ∧ kvs.length ≤ 1000000 ∧ Q (.int (kvs.length : Nat)) H) := fun pins s σ H xs us Q I r h => by
  obtain ⟨d, kvs, rfl, ⟨o, hd, zs, hz, rr⟩, hl, q⟩ := h
  obtain ⟨u, rfl, ru⟩ := Vals.one r
  cases ru
  have hlen := Paired.length rr.rel
  refine call_len_dictH rr.low (nd_dict I hd hz rr) (by omega) ⟨.int _, H, I.tok _, ⟨_, rfl⟩, ?_⟩
  rw [← hlen]
  exact q
theorem ats_vals {K : PySem.W.Frag} {H : Hp} : ∀ {kvs : List (NK × V)} {xs : List Nent}, Paired (NdR K H) kvs xs → Ats K H (xs.map fun x => .ref x.2.1) (kvs.map (·.1))
  | _, _, .nil => .nil
  | _, _, .cons r t => .cons r.2.1 (ats_vals t)
/-- list(d) -/
theorem list_nd (hc : X.calm = true) : CallR X (.type "list") (fun xs H Q => ∃ d kvs, xs = [.ref d] ∧ DK X.prog X.w X.K H d kvs ∧ kvs.length ≤ 1000000 ∧ ∀ p ys, H p = none → Ats X.K H ys (kvs.map (·.1)) → Q (.ref p) (upd H p (.lst ys))) := fun pins s σ H xs us Q I r h => by
  obtain ⟨d, kvs, rfl, ⟨o, hd, zs, ⟨es, ep, hx, hdt, he⟩, rr⟩, hl, q⟩ := h
  obtain ⟨u, rfl, ru⟩ := Vals.one r
  cases ru
  have l1 := size_of_entries he
  have l2 := Paired.length rr.rel
  have hsz : es.size ≤ sizeLine := by
    rw [sizeLine_eq]
    omega
  refine PySem.W.kdl_call (kdl_raw rr.low hx hdt) (I.ok.hd hc) (nd_get I.hok hd) hsz fun h' tk acc' c' kp e it => ?_
  have ea : acc'.toList = (zs.map fun x => x.2.1).map Value.ref := by
    refine List.ext_getElem? fun j => ?_
    cases hj : acc'.toList[j]? with
    | none =>
      have := List.getElem?_eq_none_iff.mp hj
      rw [Array.length_toList, it.1] at this
      rw [List.getElem?_eq_none]
      rw [List.length_map, List.length_map]
      omega
    | some v =>
      obtain ⟨en, hen, hv⟩ := it.2 j v (by rw [← Array.getElem?_toList]; exact hj)
      have qe := entry_at he j
      rw [hen] at qe
      obtain ⟨b, hb, eb⟩ := Option.map_eq_some_iff.mp qe.symm
      rw [List.getElem?_map, List.getElem?_map, hb, hv, ← eb]
      rfl
  have hz : (zs.map fun x => V.ref x.2.1).length ≤ sizeLine := by
    rw [List.length_map]
    omega
  refine ⟨.ref s.heap.objs.size, _, I.laid (t' := tk) (o := .lst (zs.map fun x => V.ref x.2.1)) kp (Nat.le_refl _) ⟨hz, acc'.toList, c', ?_, by rw [Array.toArray_toList]; exact e⟩, rfl, q _ _ (I.hok.fresh (Nat.le_refl _)) (ats_vals rr.rel)⟩
  rw [ea]
  have := vals_refs (zs.map fun x => x.2.1)
  rwa [List.map_map] at this
end
end M

/-! such dicts compared with {}, setdefault, dict(pairs), comprehensions -/
namespace M
open PySem PySem.Spec PyProof.Rows L2
section
variable {prog : Program} {w : World} {A : Around} {E : Value → Shared → Prop} {s : Shared} {a b : Addr} {es : Array DictEntry} {ep ep' : Nat}
theorem sp_empty {nm : String} {Q : Bool → Shared → Prop} (ha : (a == sysModules) = false) (hb : (b == sysModules) = false) (da : s.heap.DictRaw a es ep) (db : s.heap.DictRaw b #[] ep') (h : Q (es.size == 0) s) :
    wpAny (model prog w) A (Builtin.Dict.samePairs nm a b) Q E s := by
  obtain ⟨oa, h1, _, h2⟩ := da
  obtain ⟨ob, g1, _, g2⟩ := db
  unfold Builtin.Dict.samePairs Builtin.Dict.showsAll
  rw [ha, hb]
  refine wpAny_bind (wpAny_pure (wpAny_bind (wpAny_pure (wpAny_bind (wpAny_dictEntries h1 h2 ?_)))))
  dsimp only
  refine wpAny_bind (wpAny_dictEntries g1 g2 ?_)
  by_cases c : es.size = 0
  · have e : es = #[] := Array.size_eq_zero_iff.mp c
    subst e
    rw [if_neg (by simp)]
    refine wpAny_bind (wpAny_dictEpoch h1 h2 ?_)
    refine wpAny_bind ?_
    rw [Std.Legacy.Range.forIn_eq_forIn_range']
    simp only [Std.Legacy.Range.size, Nat.sub_zero, Nat.add_sub_cancel, Nat.div_one]
    refine wpAny_forIn_list _ (fun rest q s' => rest = [] ∧ s' = s ∧ q = (none, ())) _ ?_ ?_ _ _ ⟨rfl, rfl, rfl⟩
    · rintro x rest q s' ⟨e, _⟩
      cases e
    · rintro q s' ⟨_, rfl, rfl⟩
      exact wpAny_pure h
  · have ne : (es.size == 0) = false := beq_eq_false_iff_ne.mpr c
    rw [if_pos (by rw [bne_iff_ne]; exact c)]
    rw [ne] at h
    exact wpAny_bind (wpAny_rule (wpAny_pure h))
theorem eq_empty {Q : Value → Shared → Prop} (ha : (a == sysModules) = false) (hb : (b == sysModules) = false) (da : s.heap.DictRaw a es ep) (db : s.heap.DictRaw b #[] ep') (hu : A.units < cLine) (h : Q (.bool (es.size == 0)) s) :
    wpAny (model prog w) A (compareOp .Eq (.ref a) (.ref b)) Q E s := by
  refine wpAny_richCompare_same_room (op := .Eq) da.typeIs db.typeIs PySem.F.slot_dict_eq (wpAny_call_entry PySem.F.slot_dict_eq da.typeIs PySem.F.entry_dict_eq ?_ (PySem.F.args_dict_eq_2 _ _)) hu
  show wpAny _ _ (Builtin.Dict.dictSlotArgs "__eq__" ⟨[.ref a, .ref b], []⟩ >>= _) _ _ s
  refine wpAny_bind ?_
  unfold Builtin.Dict.dictSlotArgs
  refine wpAny_bind (wpAny_notOrdered_dict da.typeIs (wpAny_pure (wpAny_bind (wpAny_isInstance (T := "dict") db.typeIs PySem.F.sub_dict_dict ?_))))
  simp only [Bool.not_true, Bool.false_eq_true, if_false]
  exact wpAny_bind (wpAny_pure (wpAny_bind (wpAny_pure (wpAny_bind (sp_empty ha hb da db (wpAny_pure ⟨_, rfl, (fun x => by cases x), by simpa using h⟩))))))
theorem ne_empty {Q : Value → Shared → Prop} (ha : (a == sysModules) = false) (hb : (b == sysModules) = false) (da : s.heap.DictRaw a es ep) (db : s.heap.DictRaw b #[] ep') (hu : A.units < cLine) (h : Q (.bool (!(es.size == 0))) s) :
    wpAny (model prog w) A (compareOp .NotEq (.ref a) (.ref b)) Q E s := by
  refine wpAny_richCompare_same_room (op := .NotEq) da.typeIs db.typeIs PySem.F.slot_dict_ne (wpAny_call_entry PySem.F.slot_dict_ne da.typeIs PySem.F.entry_dict_ne ?_ (PySem.F.args_dict_ne_2 _ _)) hu
  show wpAny _ _ (Builtin.Dict.dictSlotArgs "__ne__" ⟨[.ref a, .ref b], []⟩ >>= _) _ _ s
  refine wpAny_bind ?_
  unfold Builtin.Dict.dictSlotArgs
  refine wpAny_bind (wpAny_notOrdered_dict da.typeIs (wpAny_pure (wpAny_bind (wpAny_isInstance (T := "dict") db.typeIs PySem.F.sub_dict_dict ?_))))
  simp only [Bool.not_true, Bool.false_eq_true, if_false]
  exact wpAny_bind (wpAny_pure (wpAny_bind (wpAny_pure (wpAny_bind (sp_empty ha hb da db (wpAny_pure ⟨_, rfl, (fun x => by cases x), by simpa using h⟩))))))
end
section
variable {X : Cx}
theorem nd_zero {pins : List (Addr × Obj)} {σ : L2.St} {H : Hp} {s : Shared} {d : Addr} {kvs : List (NK × V)} (I : Inv X pins σ H s) (g : DK X.prog X.w X.K H d kvs) : ∃ es ep, (d == sysModules) = false ∧ s.heap.DictRaw d es ep ∧ (es.size == 0) = decide (kvs = []) := by
  obtain ⟨o, g⟩ := g
  obtain ⟨es, ep, z⟩ := nd_at I g
  refine ⟨es, ep, z.low, z.raw, ?_⟩
  rw [z.size]
  cases kvs <;> simp
def rEmpty (P : Program) (w : World) (K : PySem.W.Frag) (neg : Bool) : R2 := fun x y H Q => ∃ a b kvs, x = .ref a ∧ y = .ref b ∧ DK P w K H a kvs ∧ DK P w K H b [] ∧ Q (.bl (xor neg (decide (kvs = [])))) H
theorem op_eqE (hu : X.A.units + 64 < cLine) : OpR X (compareOp .Eq) (rEmpty X.prog X.w X.K false) := fun pins s σ H x y v u Q I rx ry h => by
  obtain ⟨a, b, kvs, rfl, rfl, ga, gb, q⟩ := h
  cases rx
  cases ry
  obtain ⟨es, ep, l1, r1, z1⟩ := nd_zero I ga
  obtain ⟨es', ep', l2, r2, z2⟩ := nd_zero I gb
  obtain rfl : es' = #[] := Array.size_eq_zero_iff.mp (by simpa using z2)
  refine eq_empty l1 l2 r1 r2 (by omega) ⟨.bl _, H, I, rfl, ?_⟩
  rw [z1]
  simpa using q
theorem op_neE (hu : X.A.units + 64 < cLine) : OpR X (compareOp .NotEq) (rEmpty X.prog X.w X.K true) := fun pins s σ H x y v u Q I rx ry h => by
  obtain ⟨a, b, kvs, rfl, rfl, ga, gb, q⟩ := h
  cases rx
  cases ry
  obtain ⟨es, ep, l1, r1, z1⟩ := nd_zero I ga
  obtain ⟨es', ep', l2, r2, z2⟩ := nd_zero I gb
  obtain rfl : es' = #[] := Array.size_eq_zero_iff.mp (by simpa using z2)
  refine ne_empty l1 l2 r1 r2 (by omega) ⟨.bl _, H, I, rfl, ?_⟩
  rw [z1]
  simpa using q
/-! {k: v for target in iter if ..} -/
/-- D the new dict -/
def tNdc (P : Program) (w : World) (K : PySem.W.Frag) (wi : TI) (g : TG) (tt : TT) (tk tv : TE) (vs : List Nat) : TE := fun σ H Q => wi σ H fun J H1 => ∀ D o0, H1 D = none → DK P w K (upd H1 D o0) D [] → ∃ W : Nat → Nat → Hp → Prop, (∃ m, W 0 m (upd H1 D o0)) ∧ ∀ i m H, W i m H →
  (J.stop i H ∧ Q (.ref D) H) ∨ (J.go i H ∧ ∃ Nx : Hp → Prop, (∀ H', Nx H' → ∃ m', m' < m ∧ W (i + 1) m' H') ∧ ∀ x H', J.yld i H x H' → g x (wipe σ vs) H' fun σ2 H2 => wipe σ2 vs = wipe σ vs ∧ tt σ2 H2 fun b H3 =>
    if b = true then tk σ2 H3 fun y H4 => tv σ2 H4 fun z H5 => ∃ kvs k, At K H5 y k ∧ k.depth ≤ 8 ∧ (∃ ks, k = .tup ks) ∧ DK P w K H5 D kvs ∧ kvs.length ≤ 1000000 ∧ ∀ ob, DK P w K (upd H5 D ob) D (putK kvs k z) → Nx (upd H5 D ob) else Nx H3)
variable {kx vx tg iter : Expr} {ifs : List Expr} {scope : Scope} {own : List (Str × Nat)} {pos : Pos} {wi : TI} {g : TG} {tt : TT} {tk tv : TE}
/-- one turn of the block's loop behind the item's coming -/
theorem ndc_turn {Y : Cx} {fp : List Addr} {s7 : Shared} {H7 : Hp} {u : Value} {x : V} {σ0 : L2.St} {vs : List Nat} {D : Addr} {Fin : Shared → Prop} {Nx : Hp → Prop}
    (hw : Y.A.units + 64 < cLine) (pg : PG Y tg g) (pt : PTs Y ifs tt) (pk : PE Y kx tk) (pv : PE Y vx tv) (I7 : Inv Y ([] ++ pinsAt fp s7.heap) σ0 H7 s7) (rx : RelV x u)
    (fin : ∀ (σ' : L2.St) (H' : Hp) (s' : Shared), wipe σ' vs = σ0 → Inv Y ([] ++ pinsAt fp s7.heap) σ' H' s' → Nx H' → Fin s')
    (step : g x σ0 H7 fun σ2 H2 => wipe σ2 vs = σ0 ∧ tt σ2 H2 fun b H3 => if b = true then tk σ2 H3 fun y H4 => tv σ2 H4 fun z H5 => ∃ kvs k, At Y.K H5 y k ∧ k.depth ≤ 8 ∧ (∃ ks, k = .tup ks) ∧ DK Y.prog Y.w Y.K H5 D kvs ∧ kvs.length ≤ 1000000 ∧
      ∀ ob, DK Y.prog Y.w Y.K (upd H5 D ob) D (putK kvs k z) → Nx (upd H5 D ob) else Nx H3) :
    wpAny (model Y.prog Y.w) Y.A (assign tg Y.env u) (fun _ s8 => wpAny (model Y.prog Y.w) Y.A (forIn ifs true fun c r => if r = true then do let ok ← isTrue c Y.env (eval c Y.env); pure (ForInStep.yield ok) else pure (ForInStep.yield r)) (fun ok s9 =>
      if ok = true then wpAny (model Y.prog Y.w) Y.A (eval kx Y.env) (fun kv s10 => wpAny (model Y.prog Y.w) Y.A (eval vx Y.env) (fun vv s11 => wpAny (model Y.prog Y.w) Y.A (dictSet D kv vv) (fun _ s12 => Fin s12) Y.xe s11) Y.xe s10) Y.xe s9 else Fin s9) Y.xe s8) Y.xe s7 := by
  refine thn (pg.run _ s7 _ H7 x u _ I7 rx step) fun _ s8 ⟨σ8, H8, I8, hw8, q8⟩ => thn (pt.run _ s8 σ8 H8 _ I8 q8) fun b s9 ⟨H9, I9, q9⟩ => ?_
  cases b with
  | false => exact fin _ _ _ hw8 I9 (by simpa using q9)
  | true =>
    simp only [if_true] at q9 ⊢
    refine thn (pk.run _ s9 σ8 H9 _ I9 q9) fun kv s10 ⟨y, H10, I10, ry, q10⟩ => thn (pv.run _ s10 σ8 H10 _ I10 q10) fun vv s11 ⟨z, H11, I11, rz, kvs, k, hy, hd, ht, hD, hl, nx⟩ => ?_
    obtain ⟨ks, rfl⟩ := ht
    obtain ⟨a, zs, rfl, _⟩ := hy.tup_inv
    cases ry
    exact nd_dictSet hw I11 hD hl hy hd ⟨ks, rfl⟩ rfl rz fun o s12 hD' I12 => fin _ _ _ hw8 I12 (nx o hD')
theorem ndc_core {pins : List (Addr × Obj)} {s : Shared} {σ : L2.St} {H : Hp} {Q : VK} {pos' : Pos} {use : Option (Value → Sem Unit)} {Qf : Value → Shared → Prop} (hu : X.A.units + 64 < cLine)
    (hc : X.calm = true) (hN : X.N.Nodup) (I : Inv X pins σ H s) (hi : PI X tg iter wi) (ok : BlkOk X.N X.env.scope scope own)
    (hB : ∀ (s : Shared) (H : Hp) (C : Addr) (cl : List (Str × Addr)) (fp : List Addr), PG (X.blk s H scope (compEnvC scope cl C X.env) fp) tg g ∧ PTs (X.blk s H scope (compEnvC scope cl C X.env) fp) ifs tt ∧
      PE (X.blk s H scope (compEnvC scope cl C X.env) fp) kx tk ∧ PE (X.blk s H scope (compEnvC scope cl C X.env) fp) vx tv) (hs : ∀ x, foldedSetIterable iter X.env x = pure x)
    (h : tNdc X.prog X.w X.K wi g tt tk tv (own.map (·.2)) σ H Q)
    (hend : ∀ D C s' m H', Inv X pins σ H' s' → Q (.ref D) H' → s'.heap.Ns C m → FpOk X pins H' C → compPost (model X.prog X.w) X.A X.xe use Qf (.ref D) C (.ok .next) s') :
    wpAny (model X.prog X.w) X.A (comprehension (.DictComp kx vx [⟨tg, iter, ifs, 0⟩] scope pos) scope X.env pos' newDict false (eval iter X.env) use) Qf X.xe s := by
  have hfr : ∀ y ∈ scope.names, y.2 = .free → ∃ c, X.env.cells.lookup y.1 = some c := fun y hy e => (ok.free y hy e).elim (fun z => I.ok.has _ (.inl z)) fun z => I.ok.has _ (.inr z)
  refine wpAny_comprehension_free (use := use) rfl hs (closure_ok hfr) ok.kind (fun y hy e => by rw [ok.uniq y hy, e]) (thn (hi.run pins s σ H _ I h) fun xv s1 hx => thn hx fun itv s2 got => ?_)
  obtain ⟨it, fp, tn, J, H2, rfl, I2, T, st2, f2, q⟩ := got
  refine wpAny_newObj_type (newEnv_comp ?_)
  -- the new dict
  have nD : H2 s2.heap.objs.size = none := I2.hok.fresh (Nat.le_refl _)
  obtain ⟨W, ⟨m0, w0⟩, turn⟩ := q s2.heap.objs.size (NdO s2.heap.objs.size emptyD) nD (dk_nil I2.big)
  obtain ⟨s3, es3, hp3⟩ : ∃ s3 : Shared, s3 = { s2 with heap := s2.heap.push emptyD } ∧ s3.heap = s2.heap.push emptyD := ⟨_, rfl, rfl⟩
  obtain ⟨H3, eH3⟩ : ∃ H3, H3 = upd H2 s2.heap.objs.size (NdO s2.heap.objs.size emptyD) := ⟨_, rfl⟩
  have I3 : Inv X pins σ H3 s3 := by
    rw [es3, eH3]
    exact I2.laid (t' := s2.toks) (fun b o e => Heap.get?_push_of_some _ e) (Nat.le_refl _) (nd_empty s2.heap)
  have older : ∀ b ∈ fp, b < s2.heap.objs.size := fun b hb => by
    obtain ⟨o, e, _⟩ := T.obj _ _ st2 b hb
    exact Heap.lt_size e
  have f3 : ∀ b ∈ fp, FpOk X pins H3 b ∧ b < s3.heap.objs.size := fun b hb => by
    have lt := older b hb
    refine ⟨⟨?_, (f2 b hb).2⟩, by rw [hp3, Heap.size_push]; exact Nat.lt_succ_of_lt lt⟩
    rw [eH3, upd_ne (Nat.ne_of_lt lt)]
    exact (f2 b hb).1
  have st3 : tn 0 s3.heap := T.keep _ _ _ st2 fun b _ o e => by
    rw [hp3]
    exact Heap.get?_push_of_some _ e
  have I4 := block_start I3 ok hN f3
  obtain ⟨pg, pt, pk, pv⟩ := hB s3 H3 s3.heap.objs.size (cellsFrom (s3.heap.objs.size + 1) scope.names (cloFrom X.env.cells scope.names [])) fp
  obtain ⟨ce, ece⟩ : ∃ ce, ce = compEnvC scope (cellsFrom (s3.heap.objs.size + 1) scope.names (cloFrom X.env.cells scope.names [])) s3.heap.objs.size X.env := ⟨_, rfl⟩
  have locs : ce.locals = s3.heap.objs.size := by
    rw [ece]
    rfl
  rw [← ece] at I4 pg pt pk pv
  obtain ⟨s4, es4⟩ : ∃ s4 : Shared, s4 = { s3 with heap := pushCells (s3.heap.push { cls := .type "dict", data := .dict #[] }) scope.names } := ⟨_, rfl⟩
  rw [← es4] at I4
  have st4 : tn 0 s4.heap := T.keep _ _ _ st3 fun b _ o e => by
    rw [es4]
    exact pushCells_keeps _ _ _ _ (Heap.get?_push_of_some _ e)
  have mine : ∀ {σ' : L2.St} {H' : Hp} {s' : Shared}, Inv (X.blk s3 H3 scope ce fp) [] σ' H' s' → (∀ b ∈ fp, H' b = none) → ∀ b ∈ fp, FpOk (X.blk s3 H3 scope ce fp) [] H' b := fun {σ' H' s'} I' hn b hb =>
    ⟨hn b hb, (I'.ok.exf b hb).1, I'.ok.exfs b hb, .inl hb, fun x c e => (I'.ok.exf b hb).2 x c e, fun p hp => by cases hp⟩
  have loop : codeAny (model X.prog X.w) X.A (.compLoop (.DictComp kx vx [⟨tg, iter, ifs, 0⟩] scope pos) 0 (.ref it) (.ref s2.heap.objs.size) ce) (compPost (model X.prog X.w) X.A X.xe use Qf (.ref s2.heap.objs.size) s3.heap.objs.size) s4 := by
    refine compLoop_anyD (fun n s' => ∃ i H', Inv (X.blk s3 H3 scope ce fp) [] (wipe σ (own.map (·.2))) H' s' ∧ tn i s'.heap ∧ (∀ b ∈ fp, H' b = none) ∧ W i n H') ?_ m0 ⟨0, H3, I4, st4, fun b hb => (f3 b hb).1.1, by rw [eH3]; exact w0⟩
    rintro n s5 ⟨i, H5, I5, st5, n5, w5⟩
    rcases turn i n H5 w5 with ⟨stop, qq⟩ | ⟨go, Nx, hNx, step⟩
    · refine thnF (T.done (X.blk s3 H3 scope ce fp) rfl rfl rfl hc i [] s5 _ H5 (fun _ _ => False) I5 (mine I5 n5) st5 stop) fun r s6 ⟨hr, I6⟩ => ?_
      subst hr
      have I7 : Inv X pins σ H5 s6 := I3.call' (ch := fp) I6.os I6.base I6.hok I6.bare fun b hb => ⟨(f3 b hb).1.2.2.2.1, (f3 b hb).1.2.1, (f3 b hb).1.2.2.2.2.1, (f3 b hb).1.2.2.2.2.2⟩
      have free : H5 s3.heap.objs.size = none := by
        rw [← locs]
        exact I6.free
      obtain ⟨m, hn, _⟩ := I6.loc
      exact hend _ _ s6 m H5 I7 qq (by rw [← locs]; exact hn) (I3.fpOk (Nat.le_refl _) free)
    · refine thnF (T.item (X.blk s3 H3 scope ce fp) rfl rfl rfl hc i [] s5 _ H5 (fun _ _ => False) I5 (mine I5 n5) st5 go) fun r s6 ⟨u, hr, h6⟩ => ?_
      subst hr
      refine thnF h6 fun _ s7 ⟨x, H7, I7, r7, y7, st7, n7⟩ => ?_
      refine thnF (ndc_turn (Y := X.blk s3 H3 scope ce fp) (vs := own.map (·.2)) (D := s2.heap.objs.size) (Nx := Nx) (Fin := fun s' => ∃ m, m < n ∧ ∃ i H', Inv (X.blk s3 H3 scope ce fp) [] (wipe σ (own.map (·.2))) H' s' ∧ tn i s'.heap ∧ (∀ b ∈ fp, H' b = none) ∧ W i m H') hu pg pt pk pv (I7.pinned (mine I7 n7) (T.obj _ _ st7)) r7 (fun σ8 H' s' hw I' nx => ?_) (step x H7 y7)) fun _ s8 z => ?_
      · obtain ⟨m', hm, w'⟩ := hNx H' nx
        have pin' : ∀ b ∈ fp, ∀ o, s7.heap.get? b = some o → s'.heap.get? b = some o ∧ H' b = none := fun b hb o e => by
          have z := I'.pin (b, o) (List.mem_append_right _ (List.mem_append_right _ (mem_pinsAt hb e)))
          exact ⟨z.1, z.2.1⟩
        refine ⟨m', hm, i + 1, H', (I'.unpinned (pins := [])).weak (by rw [← hw, wipe_length]) (fun j v e => ?_), T.keep _ _ _ st7 fun b hb o e => (pin' b hb o e).1, fun b hb => ?_, w'⟩
        · rw [← hw] at e
          exact (wipe_some e).1
        · obtain ⟨o, e, _⟩ := T.obj _ _ st7 b hb
          exact (pin' b hb o e).2
      · refine thnF z fun b s9 z => ?_
        cases b with
        | false => exact z
        | true => exact thnF z fun _ _ z => thnF z fun _ _ z => thnF z fun _ _ z => z
  have fin := codeAny_compStart_dict loop (T.self X.A 0 _ _ _ st4 loop)
  rw [es4, es3, ece] at fin
  rw [es3] at fin
  exact fin
end
end M

namespace M
open PySem PySem.Spec PyProof.Rows L2
section
variable {X : Cx} {kx vx tg iter : Expr} {ifs : List Expr} {scope : Scope} {own : List (Str × Nat)} {pos : Pos} {wi : TI} {g : TG} {tt : TT} {tk tv : TE}
/-- the block's four parts -/
def Blk (X : Cx) (scope : Scope) (tg kx vx : Expr) (ifs : List Expr) (g : TG) (tt : TT) (tk tv : TE) : Prop := ∀ (s : Shared) (H : Hp) (C : Addr) (cl : List (Str × Addr)) (fp : List Addr), PG (X.blk s H scope (compEnvC scope cl C X.env) fp) tg g ∧ PTs (X.blk s H scope (compEnvC scope cl C X.env) fp) ifs tt ∧
      PE (X.blk s H scope (compEnvC scope cl C X.env) fp) kx tk ∧ PE (X.blk s H scope (compEnvC scope cl C X.env) fp) vx tv
/-- a dict comprehension's value, keys that are tuples -/
theorem pe_ndc (hu : X.A.units + 64 < cLine) (hc : X.calm = true) (hN : X.N.Nodup) (hi : PI X tg iter wi) (ok : BlkOk X.N X.env.scope scope own) (hB : Blk X scope tg kx vx ifs g tt tk tv) (hs : ∀ x, foldedSetIterable iter X.env x = pure x := by intro _; rfl) :
    PE X (.DictComp kx vx [⟨tg, iter, ifs, 0⟩] scope pos) (tNdc X.prog X.w X.K wi g tt tk tv (own.map (·.2))) := by
  refine ⟨fun pins s σ H Q I h => ?_⟩
  rw [arm_eval_DictComp]
  exact ndc_core hu hc hN I hi ok hB hs h fun D C s' m H' I' q hn f => ⟨m, hn, fun h2 sb => ⟨.ref D, H', I'.turned (t' := s'.toks) (fun b o hb e => (sb.2 b hb).trans e) f.1 f.2.1 f.2.2.2.1 f.2.2.2.2.1 f.2.2.2.2.2, rfl, q⟩⟩
theorem sw_dict {gs : List Comprehension} {py : Pos} {y : Str} {l : Nat} {env : Env} (hk : env.scope.kind = .function) (hy : env.scope.names.lookup y = some .local) (hl : (py.line == pos.line) = true)
    (ha : (scope.names.any fun (n, k) => n == y && (k == .local || k == .cell)) = false) : swapsWith (.DictComp kx vx gs scope pos) (some (.Name y py)) l env = pure true := by
  have e1 : env.kindOf y = some .local := hy
  have e2 : env.blockKind = .function := by
    unfold Env.blockKind
    rw [hk]
    rfl
  unfold swapsWith
  simp only [e1, e2, ha, Expr.pos, hl]
  rfl
/-- the store behind the block -/
theorem asg_tail {pins : List (Addr × Obj)} {s' : Shared} {σ : L2.St} {H' : Hp} {D : Ends} {i : Nat} {y : Str} {py : Pos} {C L : Addr} {m : Str → Option Value} (hN : X.N.Nodup) (hy : X.N[i]? = some y) (hyl : X.env.scope.names.lookup y = some .local)
    (I' : Inv X pins σ H' s') (q : D.nx (σ.set i (some (.ref L))) H') (hn : s'.heap.Ns C m) (f : FpOk X pins H' C) :
    compPost (model X.prog X.w) X.A X.xe (some (assign (.Name y py) X.env)) (fun _ s' => SP X pins D .next s') (.ref L) C (.ok .next) s' := by
  show wpAny _ _ (assign (.Name y py) X.env (.ref L)) _ _ _
  refine wpAny_assign_Name (store_ok2 (v := V.ref L) I' hN hy (.inl hyl) rfl (fun s2 I2 ⟨a, sb, ha⟩ => ?_) (.inr hyl))
  have apart : C ≠ a := by
    rcases ha with z | z
    · rw [z]
      exact f.2.1
    · exact fun e => f.2.2.2.2.1 y a z e.symm
  exact ⟨m, hn.sameBut sb apart, fun h3 sb3 => ⟨_, H', I2.turned (t' := s2.toks) (fun b o hb e => (sb3.2 b hb).trans e) f.1 f.2.1 f.2.2.2.1 f.2.2.2.2.1 f.2.2.2.2.2, q⟩⟩
/-- y = {k: v for ..}, keys that are tuples -/
theorem ps_setNdc {i : Nat} {y : Str} {py spos : Pos} (hu : X.A.units + 64 < cLine) (hc : X.calm = true) (hN : X.N.Nodup) (hy : X.N[i]? = some y) (hyl : X.env.scope.names.lookup y = some .local)
    (hsw : swapsWith (.DictComp kx vx [⟨tg, iter, ifs, 0⟩] scope pos) (some (.Name y py)) spos.line X.env = pure true) (hi : PI X tg iter wi) (ok : BlkOk X.N X.env.scope scope own) (hB : Blk X scope tg kx vx ifs g tt tk tv) (hs : ∀ x, foldedSetIterable iter X.env x = pure x := by intro _; rfl) :
    PS X (.Assign [.Name y py] (.DictComp kx vx [⟨tg, iter, ifs, 0⟩] scope pos) spos) (tAsg (tNdc X.prog X.w X.K wi g tt tk tv (own.map (·.2))) (gName i)) := by
  refine ⟨fun pins s σ H D I h => ?_⟩
  rw [exec_Assign_Name_used _ _ _ _ hsw]
  refine wpAny_bind (wpAny_standAt (wpAny_bind ?_))
  show wpAny _ X.A (do let _ ← comprehension (.DictComp kx vx [⟨tg, iter, ifs, 0⟩] scope pos) scope X.env (firstIterPos [⟨tg, iter, ifs, 0⟩] pos) newDict false (eval iter X.env) (some (assign (.Name y py) X.env))) _ _ s
  have h : tNdc X.prog X.w X.K wi g tt tk tv (own.map (·.2)) σ H (fun x H1 => gName i x σ H1 D.nx) := h
  exact wpAny_bind (thn (ndc_core (Qf := fun _ s' => SP X pins D .next s') hu hc hN I hi ok hB hs h fun L C s' m H' I' q hn f => asg_tail hN hy hyl I' q hn f) fun _ s' hq => wpAny_pure (wpAny_pure hq))
/-- y = {k: v for ..}, keys ints or texts -/
theorem ps_setDc {i : Nat} {y : Str} {py spos : Pos} (hc : X.calm = true) (hN : X.N.Nodup) (hy : X.N[i]? = some y) (hyl : X.env.scope.names.lookup y = some .local)
    (hsw : swapsWith (.DictComp kx vx [⟨tg, iter, ifs, 0⟩] scope pos) (some (.Name y py)) spos.line X.env = pure true) (hi : PI X tg iter wi) (ok : BlkOk X.N X.env.scope scope own) (hB : Blk X scope tg kx vx ifs g tt tk tv) (hs : ∀ x, foldedSetIterable iter X.env x = pure x := by intro _; rfl) :
    PS X (.Assign [.Name y py] (.DictComp kx vx [⟨tg, iter, ifs, 0⟩] scope pos) spos) (tAsg (tDc wi g tt tk tv (own.map (·.2))) (gName i)) := by
  refine ⟨fun pins s σ H D I h => ?_⟩
  rw [exec_Assign_Name_used _ _ _ _ hsw]
  refine wpAny_bind (wpAny_standAt (wpAny_bind ?_))
  show wpAny _ X.A (do let _ ← comprehension (.DictComp kx vx [⟨tg, iter, ifs, 0⟩] scope pos) scope X.env (firstIterPos [⟨tg, iter, ifs, 0⟩] pos) newDict false (eval iter X.env) (some (assign (.Name y py) X.env))) _ _ s
  have h : tDc wi g tt tk tv (own.map (·.2)) σ H (fun x H1 => gName i x σ H1 D.nx) := h
  exact wpAny_bind (thn (dc_core (Qf := fun _ s' => SP X pins D .next s') hc hN I hi ok (fun s H C cl fp => (hB s H C cl fp).1) (fun s H C cl fp => (hB s H C cl fp).2.1) (fun s H C cl fp => (hB s H C cl fp).2.2.1) (fun s H C cl fp => (hB s H C cl fp).2.2.2) hs h
    fun L C s' m H' I' q hn f => asg_tail hN hy hyl I' q hn f) fun _ s' hq => wpAny_pure (wpAny_pure hq))
end
/-- its reading -/
theorem ndc_it {P : Program} {w : World} {K : PySem.W.Frag} {J : It} {n : Nat} {G : Hp → Prop} {Yd : Nat → Hp → V → Hp → Prop} {g : TG} {tt : TT} {tk tv : TE} {vs : List Nat} {σ : L2.St} {H1 : Hp} {D : Addr} {o0 : HO} {Qd : Hp → Prop}
    (wk : L2.Walk J n G Yd) (nD : H1 D = none) (h00 : DK P w K (upd H1 D o0) D []) (hn : n ≤ 1000000) (hG : ∀ H, Same H1 H → G H) (R : Nat → List (NK × V) → Hp → Prop) (mono : ∀ i l H H', Ext K H H' → R i l H → R i l H') (h0 : R 0 [] H1)
    (hs : ∀ i x H H' kvs (N0 : Hp → Prop) (Nk : V → V → Hp → Prop), i < n → Same H1 H → DK P w K H D kvs → R i kvs H → Yd i H x H' → (∀ H3, Same H H3 → R (i + 1) kvs H3 → N0 H3) →
      (∀ y z H5 k, Same H H5 → At K H5 y k → k.depth ≤ 8 → (∃ ks, k = .tup ks) → R (i + 1) (putK kvs k z) H5 → Nk y z H5) →
      g x (wipe σ vs) H' fun σ2 H2 => wipe σ2 vs = wipe σ vs ∧ tt σ2 H2 fun b H3 => if b = true then tk σ2 H3 fun y H4 => tv σ2 H4 fun z H5 => Nk y z H5 else N0 H3)
    (hd : ∀ H kvs, Same H1 H → DK P w K H D kvs → R n kvs H → Qd H) :
    ∃ W : Nat → Nat → Hp → Prop, (∃ m, W 0 m (upd H1 D o0)) ∧ ∀ i m H, W i m H →
      (J.stop i H ∧ Qd H) ∨ (J.go i H ∧ ∃ Nx : Hp → Prop, (∀ H', Nx H' → ∃ m', m' < m ∧ W (i + 1) m' H') ∧ ∀ x H', J.yld i H x H' → g x (wipe σ vs) H' fun σ2 H2 => wipe σ2 vs = wipe σ vs ∧ tt σ2 H2 fun b H3 =>
        if b = true then tk σ2 H3 fun y H4 => tv σ2 H4 fun z H5 => ∃ kvs k, At K H5 y k ∧ k.depth ≤ 8 ∧ (∃ ks, k = .tup ks) ∧ DK P w K H5 D kvs ∧ kvs.length ≤ 1000000 ∧ ∀ ob, DK P w K (upd H5 D ob) D (putK kvs k z) → Nx (upd H5 D ob) else Nx H3) := by
  refine ⟨fun i m H => m = n - i ∧ i ≤ n ∧ Same H1 H ∧ ∃ kvs, DK P w K H D kvs ∧ kvs.length ≤ i ∧ R i kvs H, ⟨n, rfl, Nat.zero_le _, same_upd nD, [], h00, Nat.le_refl _, mono _ _ _ _ (Ext.new nD) h0⟩, ?_⟩
  rintro i m H ⟨rfl, hi, sm, kvs, hD, hl, r⟩
  by_cases lt : i < n
  · refine .inr ⟨wk.goes i H lt (hG H sm), fun H' => (i + 1) ≤ n ∧ Same H1 H' ∧ ∃ kvs, DK P w K H' D kvs ∧ kvs.length ≤ i + 1 ∧ R (i + 1) kvs H', fun H' p => ⟨n - (i + 1), by omega, rfl, p⟩, fun x H' y => ?_⟩
    refine hs i x H H' kvs (fun H3 => (i + 1) ≤ n ∧ Same H1 H3 ∧ ∃ kvs, DK P w K H3 D kvs ∧ kvs.length ≤ i + 1 ∧ R (i + 1) kvs H3) (fun y z H5 => ∃ kvs k, At K H5 y k ∧ k.depth ≤ 8 ∧ (∃ ks, k = .tup ks) ∧ DK P w K H5 D kvs ∧ kvs.length ≤ 1000000 ∧
        ∀ ob, DK P w K (upd H5 D ob) D (putK kvs k z) → (i + 1) ≤ n ∧ Same H1 (upd H5 D ob) ∧ ∃ kvs, DK P w K (upd H5 D ob) D kvs ∧ kvs.length ≤ i + 1 ∧ R (i + 1) kvs (upd H5 D ob)) lt sm hD r (wk.yields i H x H' lt (hG H sm) y) (fun H3 s3 r3 => ?_) fun y z H5 k s5 hy hk ht r5 => ?_
    · exact ⟨lt, sm.trans s3, kvs, hD.same s3, by omega, r3⟩
    · have h5 := hD.same s5
      obtain ⟨u, hu, mu⟩ := h5.mut
      refine ⟨kvs, k, hy, hk, ht, h5, by omega, fun ob hob => ⟨lt, fun b o e => ?_, _, hob, by have := length_putK kvs k z; omega, mono _ _ _ _ (Ext.mut hu mu) r5⟩⟩
      rw [upd_ne (ne_of_none e nD)]
      exact s5 _ _ (sm _ _ e)
  · have e : i = n := by omega
    subst e
    exact .inl ⟨wk.stops H (hG H sm), hd H kvs sm hD r⟩
end M

/-! keys in order -/
namespace M
open PySem PySem.Spec PyProof.Rows L2
open PySem.SeqAt (RcLt firstLt firstLt_yes firstLt_no)
open PySem.W (KatLex kat_nil kat_cons kat_yes kat_no kat_lt kat_one kat_lt_int kat_kind KatTups)
mutual
/-- a < b, where that is told -/
def ltN : NK → NK → Option Bool
  | .num a, .num b => some (decide (a < b))
  | .text a, .text b => some (decide (a.cps.toList < b.cps.toList))
  | .tup a, .tup b => ltNs a b
  | .none, _ => none
  | .num _, .none => none
  | .num _, .text _ => none
  | .num _, .tup _ => none
  | .text _, .none => none
  | .text _, .num _ => none
  | .text _, .tup _ => none
  | .tup _, .none => none
  | .tup _, .num _ => none
  | .tup _, .text _ => none
def ltNs : List NK → List NK → Option Bool
  | [], [] => some false
  | [], _ :: _ => some true
  | _ :: _, [] => some false
  | a :: as, b :: bs => if NestedKey.beq a b = true then ltNs as bs else ltN a b
end
section
variable {A : Around} {s : Shared}

open AutoSeq1 (wpAny_loadPart')
open MeetsSeq MeetsSeq2 MeetsSeq3 SeqRoads2
/-- two tuples: nothing is asked behind the first items that differ -/
theorem tuple_lt_first (l b : Addr) (xs ys : Array Value) (n m : Nat) (dd dd2 : Option Addr) (sl sl2 : Array (Option Value)) (e r : Nat → Bool) :
    Meets (Builtin.«tuple.__lt__» ⟨[.ref l, .ref b], []⟩)
      (fun A R s => s.heap.get? l = some { cls := .type "tuple", dict := dd, data := .seq xs n, slots := sl } ∧ s.heap.get? b = some { cls := .type "tuple", dict := dd2, data := .seq ys m, slots := sl2 } ∧
        (∀ j (h1 : j < xs.size) (h2 : j < ys.size), SeqAt.EqAt A.in1 s xs[j] ys[j] (e j)) ∧ (∀ j (h1 : j < xs.size) (h2 : j < ys.size), (∀ i, i < j → e i = true) → e j = false → RcLt A.in1 s xs[j] ys[j] (r j)) ∧
        R (.ok (.ret (.bool (firstLt e r (decide (xs.size < ys.size)) (List.range (min xs.size ys.size)))))) s) :=
  .of_wp fun prog w A R s h => by
    obtain ⟨hp, g, d, tk, os⟩ := s
    obtain ⟨gl, gb, he, hr, hR0⟩ := h
    have sub := AutoSeq1.sub_tuple_tuple
    have len : (xs.toList.zip ys.toList).length = min xs.size ys.size := by simp
    wp_walk using wpAny_loadPart' gl, wpAny_loadPart' gb, wpAny_forIn_list _ (fun rest q s' => q.1 = none ∧ s' = ⟨hp, g, d, tk, os⟩ ∧ ∃ i, rest = (xs.toList.zip ys.toList).drop i ∧ (∀ k, k < i → e k = true) ∧
      R (.ok (.ret (.bool (firstLt e r (decide (xs.size < ys.size)) ((List.range (min xs.size ys.size)).drop i))))) ⟨hp, g, d, tk, os⟩) _
    case turn =>
      rintro ⟨y, x⟩ rest q s' ⟨hq, rfl, i, hz, pre, hR⟩
      have lt : i < (xs.toList.zip ys.toList).length := Nat.lt_of_not_le fun z => by
        rw [List.drop_of_length_le z] at hz
        cases hz
      have lm : i < min xs.size ys.size := by rw [← len]; exact lt
      have l1 : i < xs.size := by omega
      have l2 : i < ys.size := by omega
      rw [List.drop_eq_getElem_cons lt] at hz
      obtain ⟨e1, e2⟩ := List.cons.inj hz
      obtain ⟨rfl, rfl⟩ : y = xs[i] ∧ x = ys[i] := by
        have c1 := congrArg Prod.fst e1
        have c2 := congrArg Prod.snd e1
        exact ⟨by simpa using c1, by simpa using c2⟩
      have hd : (List.range (min xs.size ys.size)).drop i = i :: (List.range (min xs.size ys.size)).drop (i + 1) := by simp [List.drop_eq_getElem_cons, lm]
      rw [hd] at hR
      refine wpAny_bind (he i l1 l2 prog w _ _ ?_)
      cases c : e i with
      | true =>
        rw [firstLt_yes c] at hR
        wp_walk
        exact ⟨rfl, rfl, i + 1, e2, fun k hk => (Nat.lt_succ_iff_lt_or_eq.mp hk).elim (pre k) fun z => z ▸ c, hR⟩
      | false =>
        rw [firstLt_no c] at hR
        have hr' : ∀ (E : Value → Shared → Prop) (Q : Value → Shared → Prop), Q (.bool (r i)) ⟨hp, g, d, tk, os⟩ → wpAny (model prog w) A.in1 (richCompare .Lt xs[i] ys[i]) Q E ⟨hp, g, d, tk, os⟩ := fun E Q h => hr i l1 l2 pre c prog w E Q h
        wp_walk using hr' _ _
        exact ⟨_, rfl, hR⟩
    case fin =>
      rintro ⟨q1, q2⟩ s' ⟨hq, rfl, i, hz, pre, hR⟩
      simp only at hq
      subst hq
      have ge : min xs.size ys.size ≤ i := Nat.le_of_not_lt fun z => by
        rw [List.drop_eq_getElem_cons (by rw [len]; exact z)] at hz
        cases hz
      rw [List.drop_of_length_le (by simpa using ge)] at hR
      wp_walk
      exact ⟨_, rfl, by simpa [Builtin.Tuple.tupleCompareSizes, firstLt] using hR⟩
    case h =>
      exact ⟨rfl, rfl, 0, rfl, fun k hk => absurd hk (Nat.not_lt_zero k), by simpa using hR0⟩
theorem rc_tuples {l b : Addr} {xs ys : Array Value} {e r : Nat → Bool} (hl : s.heap.IsTuple l xs) (hb : s.heap.IsTuple b ys) (hu : A.units < cLine)
    (he : ∀ j (h1 : j < xs.size) (h2 : j < ys.size), SeqAt.EqAt A.in1 s xs[j] ys[j] (e j)) (hr : ∀ j (h1 : j < xs.size) (h2 : j < ys.size), (∀ i, i < j → e i = true) → e j = false → RcLt A.in1 s xs[j] ys[j] (r j)) :
    RcLt A s (.ref l) (.ref b) (firstLt e r (decide (xs.size < ys.size)) (List.range (min xs.size ys.size))) := fun prog w E Q h => by
  obtain ⟨⟨c1, d1, t1, z1⟩, g1, k1, n1, m1⟩ := id hl
  obtain ⟨⟨c2, d2, t2, z2⟩, g2, k2, n2, m2⟩ := id hb
  simp only at k1 m1 k2 m2
  subst k1 m1 k2 m2
  exact richCompare_meets_room (op := .Lt) ⟨_, g1, rfl⟩ ⟨_, g2, rfl⟩ F.slot_tuple_lt F.entry_tuple_lt (F.args_tuple_lt_2 _ _) (tuple_lt_first l b xs ys n1 n2 d1 d2 z1 z2 e r)
    ⟨g1, g2, he, hr, (fun z => by cases z), h⟩ hu
end
mutual
/-- the value v in the heap h is the key k (a number is no truth value) -/
inductive KIs (h : Heap) : NK → Value → Prop
  | none : KIs h .none .none
  | int (i t) : KIs h (.num i) (.int i t)
  | text (x t) : KIs h (.text x) (.str x t)
  | tup {a o vs n ks} : h.get? a = some o → o.cls = .type "tuple" → o.data = .seq vs n → KAll h ks vs.toList → KIs h (.tup ks) (.ref a)
inductive KAll (h : Heap) : List NK → List Value → Prop
  | nil : KAll h [] []
  | cons {k v ks vs} : KIs h k v → KAll h ks vs → KAll h (k :: ks) (v :: vs)
end
mutual
theorem KIs.nested {h : Heap} : ∀ (k : NK) (v : Value), KIs h k v → NestedIs h k v
  | .none, _, x => by
    cases x
    exact .none
  | .num i, _, x => by
    cases x
    exact .int _ _
  | .text y, _, x => by
    cases x
    exact .text _ _
  | .tup ks, _, x => by
    cases x with
    | tup a b c d => exact .tup a b c (KAll.nested ks _ d)
theorem KAll.nested {h : Heap} : ∀ (ks : List NK) (vs : List Value), KAll h ks vs → NestedAll h ks vs
  | [], _, x => by
    cases x
    exact .nil
  | k :: ks, _, x => by
    cases x with
    | cons a b => exact .cons (KIs.nested k _ a) (KAll.nested ks _ b)
end
mutual
theorem KIs.keeps {h h' : Heap} (e : ∀ b o vs n, h.get? b = some o → o.cls = .type "tuple" → o.data = .seq vs n → h'.get? b = some o) : ∀ (k : NK) (v : Value), KIs h k v → KIs h' k v
  | .none, _, x => by
    cases x
    exact .none
  | .num i, _, x => by
    cases x
    exact .int _ _
  | .text y, _, x => by
    cases x
    exact .text _ _
  | .tup ks, _, x => by
    cases x with
    | tup a b c d => exact .tup (e _ _ _ _ a b c) b c (KAll.keeps e ks _ d)
theorem KAll.keeps {h h' : Heap} (e : ∀ b o vs n, h.get? b = some o → o.cls = .type "tuple" → o.data = .seq vs n → h'.get? b = some o) : ∀ (ks : List NK) (vs : List Value), KAll h ks vs → KAll h' ks vs
  | [], _, x => by
    cases x
    exact .nil
  | k :: ks, _, x => by
    cases x with
    | cons a b => exact .cons (KIs.keeps e k _ a) (KAll.keeps e ks _ b)
end
section
variable {X : Cx} {pins : List (Addr × Obj)} {σ : L2.St} {H : Hp} {s : Shared}
mutual
theorem At.kis (I : Inv X pins σ H s) : ∀ (k : NK) (v : V) (u : Value), At X.K H v k → RelV v u → KIs s.heap k u
  | .none, _, _, h, r => by
    cases h
    cases r
    exact .none
  | .num i, _, _, h, r => by
    cases h
    obtain ⟨t, rfl⟩ := r
    exact .int i t
  | .text x, _, _, h, r => by
    cases h
    obtain ⟨t, rfl⟩ := r
    exact .text x t
  | .tup ks, _, _, h, r => by
    cases h with
    | tup hs ha =>
      cases r
      obtain ⟨its, rv, ⟨o, ho, hc, n, hd⟩, _⟩ := I.tuple hs
      exact .tup ho hc hd (Ats.kis I ks _ its ha rv)
theorem Ats.kis (I : Inv X pins σ H s) : ∀ (ks : List NK) (vs : List V) (us : List Value), Ats X.K H vs ks → Vals vs us → KAll s.heap ks us
  | [], _, _, h, r => by
    cases h
    cases r
    exact .nil
  | k :: ks, _, _, h, r => by
    cases h with
    | cons h1 h2 =>
      cases r with
      | cons r1 r2 => exact .cons (At.kis I k _ _ h1 r1) (Ats.kis I ks _ _ h2 r2)
end
end
theorem KAll.len {h : Heap} : ∀ {ks : List NK} {vs : List Value}, KAll h ks vs → vs.length = ks.length
  | [], _, x => by
    cases x
    rfl
  | _ :: ks, _, x => by
    cases x with
    | cons a b => simp [KAll.len b]
theorem KAll.nth {h : Heap} : ∀ {ks : List NK} {vs : List Value} (x : KAll h ks vs) (j : Nat) (h1 : j < ks.length) (h2 : j < vs.length), KIs h ks[j] vs[j]
  | [], _, x, j, h1, _ => absurd h1 (Nat.not_lt_zero j)
  | _ :: ks, _, x, j, h1, h2 => by
    cases x with
    | cons a b =>
      cases j with
      | zero => exact a
      | succ j => exact KAll.nth b j (Nat.lt_of_succ_lt_succ h1) (Nat.lt_of_succ_lt_succ h2)
theorem first_go {e r : Nat → Bool} {fin : Bool} : ∀ (ks ls : List NK) (i : Nat) (c : Bool), (∀ j (h1 : j < ks.length) (h2 : j < ls.length), e (i + j) = NestedKey.beq ks[j] ls[j]) → (∀ j (h1 : j < ks.length) (h2 : j < ls.length), r (i + j) = (ltN ks[j] ls[j]).getD false) →
    fin = decide (ks.length < ls.length) → ltNs ks ls = some c → firstLt e r fin (List.range' i (min ks.length ls.length)) = c
  | [], [], i, c, _, _, hf, h => by
    rw [hf]
    simpa [ltNs, firstLt] using h
  | [], _ :: _, i, c, _, _, hf, h => by
    rw [hf]
    simpa [ltNs, firstLt] using h
  | _ :: _, [], i, c, _, _, hf, h => by
    rw [hf]
    simpa [ltNs, firstLt] using h
  | k :: ks, l :: ls, i, c, he, hr, hf, h => by
    have hm : min (k :: ks).length (l :: ls).length = min ks.length ls.length + 1 := by simp [Nat.succ_min_succ]
    rw [hm, List.range'_succ]
    have e0 : e i = NestedKey.beq k l := he 0 (Nat.succ_pos _) (Nat.succ_pos _)
    have r0 : r i = (ltN k l).getD false := hr 0 (Nat.succ_pos _) (Nat.succ_pos _)
    rw [ltNs] at h
    cases q : NestedKey.beq k l with
    | true =>
      rw [if_pos q] at h
      rw [firstLt_yes (e0.trans q)]
      refine first_go ks ls (i + 1) c (fun j h1 h2 => ?_) (fun j h1 h2 => ?_) (by rw [hf]; simp) h
      · rw [show i + 1 + j = i + (j + 1) by omega]
        exact he (j + 1) (Nat.succ_lt_succ h1) (Nat.succ_lt_succ h2)
      · rw [show i + 1 + j = i + (j + 1) by omega]
        exact hr (j + 1) (Nat.succ_lt_succ h1) (Nat.succ_lt_succ h2)
    | false =>
      rw [if_neg (by rw [q]; exact Bool.false_ne_true)] at h
      rw [firstLt_no (e0.trans q), r0, h]
      rfl
theorem lt_first : ∀ (ks ls : List NK) (c : Bool), ltNs ks ls = some c → ∀ j (h1 : j < ks.length) (h2 : j < ls.length), (∀ i (a : i < j), NestedKey.beq ks[i] ls[i] = true) → NestedKey.beq ks[j] ls[j] = false → ∃ d, ltN ks[j] ls[j] = some d
  | [], _, _, _, j, h1, _, _, _ => absurd h1 (Nat.not_lt_zero j)
  | _ :: _, [], _, _, j, _, h2, _, _ => absurd h2 (Nat.not_lt_zero j)
  | k :: ks, l :: ls, c, h, 0, _, _, _, hn => by
    rw [ltNs] at h
    have hn : NestedKey.beq k l = false := hn
    rw [if_neg (by rw [hn]; exact Bool.false_ne_true)] at h
    exact ⟨c, h⟩
  | k :: ks, l :: ls, c, h, j + 1, h1, h2, pre, hn => by
    rw [ltNs, if_pos (show NestedKey.beq k l = true from pre 0 (Nat.succ_pos j))] at h
    exact lt_first ks ls c h j (Nat.lt_of_succ_lt_succ h1) (Nat.lt_of_succ_lt_succ h2) (fun i a => pre (i + 1) (Nat.succ_lt_succ a)) hn
theorem depth_nth : ∀ (ks : List NK) (j : Nat) (h : j < ks.length), ks[j].depth ≤ NestedKey.depthAll ks
  | [], j, h => absurd h (Nat.not_lt_zero j)
  | k :: ks, 0, _ => by
    simp only [NestedKey.depthAll, List.getElem_cons_zero]
    omega
  | k :: ks, j + 1, h => by
    have := depth_nth ks j (Nat.lt_of_succ_lt_succ h)
    simp only [NestedKey.depthAll, List.getElem_cons_succ]
    omega
/-- < of two keys -/
theorem rcN : ∀ (n : Nat) (x y : NK), x.depth ≤ n → ∀ (A : Around) (s : Shared) (u v : Value) (c : Bool), KIs s.heap x u → KIs s.heap y v → ltN x y = some c → A.units + x.depth < cLine → RcLt A s u v c := by
  intro n
  induction n with
  | zero =>
    intro x y hn A s u v c hx hy h hu
    cases x with
    | none => simp [ltN] at h
    | num a =>
      cases y <;> simp only [ltN, Option.some.injEq, reduceCtorEq] at h
      cases hx
      cases hy
      rw [← h, ← PySem.W.dataLt_int]
      exact PySem.W.rcLt_alike (.int _) (.int _) A s _ _ [] [] (.int _ _) (.int _ _) rfl (by simp) (by simp only [PyData.depth, NestedKey.depth] at *; omega)
    | text a =>
      cases y <;> simp only [ltN, Option.some.injEq, reduceCtorEq] at h
      cases hx
      cases hy
      rw [← h, ← PySem.W.dataLt_str]
      exact PySem.W.rcLt_alike (.str _) (.str _) A s _ _ [] [] (.str _ _) (.str _ _) rfl (by simp) (by simp only [PyData.depth, NestedKey.depth] at *; omega)
    | tup ks => simp [NestedKey.depth] at hn
  | succ n ih =>
    intro x y hn A s u v c hx hy h hu
    cases x with
    | none => simp [ltN] at h
    | num a => exact ih _ _ (by simp [NestedKey.depth]) A s u v c hx hy h hu
    | text a => exact ih _ _ (by simp [NestedKey.depth]) A s u v c hx hy h hu
    | tup ks =>
      cases y with
      | none => simp [ltN] at h
      | num b => simp [ltN] at h
      | text b => simp [ltN] at h
      | tup ls =>
        simp only [ltN] at h
        cases hx with
        | @tup a o vs m _ g1 g2 g3 g4 =>
          cases hy with
          | @tup b o' ws m' _ k1 k2 k3 k4 =>
            have l1 : vs.size = ks.length := by rw [← Array.length_toList]; exact g4.len
            have l2 : ws.size = ls.length := by rw [← Array.length_toList]; exact k4.len
            have hd : NestedKey.depthAll ks ≤ n := by
              simp only [NestedKey.depth] at hn
              omega
            have hu2 : A.in1.units + NestedKey.depthAll ks < cLine := by
              have : A.in1.units = A.units + 1 := rfl
              simp only [NestedKey.depth] at hu
              omega
            have e := rc_tuples (A := A) (s := s) (l := a) (b := b) (xs := vs) (ys := ws) (e := fun j => if q : j < ks.length ∧ j < ls.length then NestedKey.beq ks[j] ls[j] else true) (r := fun j => if q : j < ks.length ∧ j < ls.length then (ltN ks[j] ls[j]).getD false else true)
              ⟨o, g1, g2, m, g3⟩ ⟨o', k1, k2, m', k3⟩ (by omega) (fun j h1 h2 => ?_) (fun j h1 h2 pre hj => ?_)
            · rw [l1, l2, List.range_eq_range', first_go ks ls 0 c (fun j h1 h2 => by simp [h1, h2]) (fun j h1 h2 => by simp [h1, h2]) rfl h] at e
              exact e
            · have j1 : j < ks.length := by omega
              have j2 : j < ls.length := by omega
              have x1 := g4.nth j j1 (by rw [Array.length_toList]; exact h1)
              have x2 := k4.nth j j2 (by rw [Array.length_toList]; exact h2)
              have := eqAt_key ks[j] ls[j] A.in1 s _ _ (KIs.nested _ _ x1) (KIs.nested _ _ x2) (by have := depth_nth ks j j1; omega)
              simpa [j1, j2] using this
            · have j1 : j < ks.length := by omega
              have j2 : j < ls.length := by omega
              have x1 := g4.nth j j1 (by rw [Array.length_toList]; exact h1)
              have x2 := k4.nth j j2 (by rw [Array.length_toList]; exact h2)
              obtain ⟨d, hd'⟩ := lt_first ks ls c h j j1 j2 (fun i a => by simpa [Nat.lt_trans a j1, Nat.lt_trans a j2] using pre i a) (by simpa [j1, j2] using hj)
              have dn := depth_nth ks j j1
              have := ih ks[j] ls[j] (by omega) A.in1 s _ _ d x1 x2 hd' (by omega)
              simpa [j1, j2, hd'] using this
end M

/-! sorted, keys in order by a rank -/
namespace M
open PySem PySem.Spec PyProof.Rows L2
open PySem.SeqAt (RcLt)
open PySem.W (KatLex kat_nil kat_cons kat_yes kat_no kat_lt kat_kind KatTups SortsAt sortVals EachIs)
/-- keys that the rank rk orders: tuples that begin with a number, or with a text -/
structure Ranked (ks : List NK) (rk : NK → Nat) : Prop where
  lt : ∀ k ∈ ks, ∀ l ∈ ks, ltN k l = some (decide (rk k < rk l))
  form : (∀ k ∈ ks, ∃ i r, k = .tup (.num i :: r)) ∨ ∀ k ∈ ks, ∃ x r, k = .tup (.text x :: r)
  deep : ∀ k ∈ ks, k.depth ≤ 8
noncomputable def rkKind (h : Heap) (ks : List NK) (rk : NK → Nat) : PyProof.Rows.KeyKind where
  α := Nat
  blt a b := decide (a < b)
  irrefl a := decide_eq_false (Nat.lt_irrefl a)
  trans a b c h1 h2 := decide_eq_true (Nat.lt_trans (of_decide_eq_true h1) (of_decide_eq_true h2))
  negTrans a b c h := by
    have := of_decide_eq_true h
    by_cases q : a < b
    · exact .inl (decide_eq_true q)
    · exact .inr (decide_eq_true (by omega))
  total a b h1 h2 := by
    have := of_decide_eq_false h1
    have := of_decide_eq_false h2
    omega
  keyOf v := open Classical in if q : ∃ k, k ∈ ks ∧ KIs h k v then some (rk q.choose) else none
  dflt := (0 : Nat)
theorem kis_inj {h : Heap} {k l : NK} {v : Value} (a : KIs h k v) (b : KIs h l v) : k = l := NestedIs.inj _ _ _ (KIs.nested _ _ a) (KIs.nested _ _ b)
theorem rk_some {h : Heap} {ks : List NK} {rk : NK → Nat} {k : NK} {v : Value} (hk : k ∈ ks) (x : KIs h k v) : (rkKind h ks rk).keyOf v = some (rk k) := by
  have q : ∃ k, k ∈ ks ∧ KIs h k v := ⟨k, hk, x⟩
  have e : (rkKind h ks rk).keyOf v = some (rk q.choose) := by
    show (open Classical in if q : ∃ k, k ∈ ks ∧ KIs h k v then some (rk q.choose) else none) = _
    rw [dif_pos q]
  rw [e, kis_inj q.choose_spec.2 x]
theorem rk_inv {h : Heap} {ks : List NK} {rk : NK → Nat} {v : Value} {a : Nat} (e : (rkKind h ks rk).keyOf v = some a) : ∃ k, k ∈ ks ∧ KIs h k v ∧ a = rk k := by
  by_cases q : ∃ k, k ∈ ks ∧ KIs h k v
  · obtain ⟨k, hk, x⟩ := q
    rw [rk_some hk x] at e
    exact ⟨k, hk, x, (Option.some.inj e).symm⟩
  · have e' : (rkKind h ks rk).keyOf v = none := by
      show (open Classical in if q : ∃ k, k ∈ ks ∧ KIs h k v then some (rk q.choose) else none) = _
      rw [dif_neg q]
      rfl
    rw [e'] at e
    exact absurd e (by simp)
section
variable {prog : Program} {w : World} {A : Around} {s : Shared}
/-- the first items are two numbers, or two texts -/
def Flat1 (x y : NK) : Prop := (∃ a b, x = .num a ∧ y = .num b) ∨ ∃ a b, x = .text a ∧ y = .text b
theorem kat_ranked {b fin : Bool} {Q : Bool → Shared → Prop} : ∀ (ks ls : List NK) (i : Nat) (vs ws : List Value) (c : Bool), KAll s.heap ks vs → KAll s.heap ls ws → ltNs ks ls = some c → A.units + 1 + NestedKey.depthAll ks < cLine →
    (i = 0 → ∀ x r y t, ks = x :: r → ls = y :: t → Flat1 x y) → fin = decide (ks.length < ls.length) → Q c s → KatLex prog w A b fin Q (vs.zip ws) i s
  | [], [], i, _, _, c, xa, xb, h, _, _, hf, q => by
    cases xa
    cases xb
    have : c = fin := by
      rw [hf]
      simpa [ltNs] using h.symm
    rw [this] at q
    exact kat_nil q
  | [], _ :: _, i, _, _, c, xa, xb, h, _, _, hf, q => by
    cases xa
    have : c = fin := by
      rw [hf]
      simpa [ltNs] using h.symm
    rw [this] at q
    rw [List.zip_nil_left]
    exact kat_nil q
  | _ :: _, [], i, _, _, c, xa, xb, h, _, _, hf, q => by
    cases xb
    have : c = fin := by
      rw [hf]
      simpa [ltNs] using h.symm
    rw [this] at q
    rw [List.zip_nil_right]
    exact kat_nil q
  | k :: ks, l :: ls, i, _, _, c, xa, xb, h, hu, hb, hf, q => by
    cases xa with
    | @cons _ v _ vs a1 a2 =>
      cases xb with
      | @cons _ w' _ ws b1 b2 =>
        have hk : A.units + 1 + k.depth < cLine := by
          simp only [NestedKey.depthAll] at hu
          omega
        rw [List.zip_cons_cons]
        refine kat_cons (eqAt_key k l A s v w' (KIs.nested _ _ a1) (KIs.nested _ _ b1) (by omega) prog w _ _ ?_)
        rw [ltNs] at h
        cases e : NestedKey.beq k l with
        | true =>
          rw [if_pos e] at h
          exact kat_yes (kat_ranked ks ls (i + 1) _ _ c a2 b2 h (by simp only [NestedKey.depthAll] at hu; omega) (fun z => absurd z (Nat.succ_ne_zero i)) (by rw [hf]; simp) q)
        | false =>
          rw [if_neg (by rw [e]; exact Bool.false_ne_true)] at h
          refine kat_no ?_
          cases o : (b && i == 0) with
          | false =>
            rw [oneLt'_eq]
            simp only [Bool.false_eq_true, if_false]
            exact wpAny_bind (rcN k.depth k l (Nat.le_refl _) A s v w' c a1 b1 h (by omega) prog w _ _ (wpAny_truthy_bool q))
          | true =>
            have i0 : i = 0 := by
              rw [Bool.and_eq_true] at o
              simpa using o.2
            rcases hb i0 k ks l ls rfl rfl with ⟨x, y, rfl, rfl⟩ | ⟨x, y, rfl, rfl⟩
            · cases a1
              cases b1
              simp only [ltN, Option.some.injEq] at h
              exact oneLt_int (by rw [h]; exact q)
            · cases a1
              cases b1
              simp only [ltN, Option.some.injEq] at h
              exact oneLt_str (by rw [h]; exact q)
theorem each_kis {vs : List Value} {ks : List NK} (e : EachIs (fun v k => KIs s.heap k v) vs ks) (P : NK → Value → Prop) (hf : ∀ k ∈ ks, ∃ i r, k = .tup (i :: r) ∧ ∀ v, KIs s.heap i v → P i v) : ∃ fs, KatTups s.heap vs fs ∧ fs.length = vs.length ∧ ∀ f ∈ fs, ∃ i, P i f := by
  induction e with
  | nil => exact ⟨[], trivial, rfl, fun f hf => by cases hf⟩
  | @cons v k vs ks x t ih =>
    obtain ⟨fs, f1, f2, f3⟩ := ih fun k hk => hf k (List.mem_cons_of_mem _ hk)
    obtain ⟨i, r, rfl, hp⟩ := hf _ List.mem_cons_self
    cases x with
    | @tup a o its n _ g1 g2 g3 g4 =>
      obtain ⟨its⟩ := its
      cases g4 with
      | @cons _ u _ us c1 c2 =>
        refine ⟨u :: fs, ⟨⟨a, o, _, n, rfl, g1, g2, g3, rfl⟩, f1⟩, by simp [f2], fun f hf => ?_⟩
        rcases List.mem_cons.mp hf with rfl | hf
        · exact ⟨i, hp _ c1⟩
        · exact f3 f hf
theorem sorts_ranked {vs : List Value} {ks : List NK} {rk : NK → Nat} (e : EachIs (fun v k => KIs s.heap k v) vs ks) (R : Ranked ks rk) (hu : A.units + 16 < cLine) : SortsAt prog w A s (rkKind s.heap ks rk) vs := by
  refine ⟨fun v hv => ?_, tuples' true, ?_, fun h2 E Q q => ?_⟩
  · obtain ⟨k, hk, x⟩ := e.left v hv
    exact ⟨_, rk_some hk x⟩
  · intro E x y a b Q ha hb q
    obtain ⟨k, hk, xa, rfl⟩ := rk_inv ha
    obtain ⟨l, hl, xb, rfl⟩ := rk_inv hb
    have hlt := R.lt k hk l hl
    have q : Q (decide (rk k < rk l)) s := q
    have dk := R.deep k hk
    have fin : ∀ (m n : NK) (ks' ls' : List NK), k = .tup (m :: ks') → l = .tup (n :: ls') → Flat1 m n → wpAny (model prog w) A (keyLt' (tuples' true) x y) Q E s := by
      rintro m n ks' ls' rfl rfl hfl
      cases xa with
      | @tup a o its c _ g1 g2 g3 g4 =>
        cases xb with
        | @tup a' o' its' c' _ k1 k2 k3 k4 =>
          have l1 : its.size = (m :: ks').length := by rw [← Array.length_toList]; exact g4.len
          have l2 : its'.size = (n :: ls').length := by rw [← Array.length_toList]; exact k4.len
          refine kat_lt g1 g3 k1 k3 (kat_ranked _ _ 0 _ _ _ g4 k4 hlt (by simp only [NestedKey.depth] at dk; omega) (fun _ x r y t e1 e2 => ?_) (by rw [l1, l2]) q)
          cases e1
          cases e2
          exact hfl
    rcases R.form with hf | hf
    · obtain ⟨i, r, e1⟩ := hf k hk
      obtain ⟨j, t, e2⟩ := hf l hl
      exact fin _ _ _ _ e1 e2 (.inl ⟨_, _, rfl, rfl⟩)
    · obtain ⟨i, r, e1⟩ := hf k hk
      obtain ⟨j, t, e2⟩ := hf l hl
      exact fin _ _ _ _ e1 e2 (.inr ⟨_, _, rfl, rfl⟩)
  · rcases R.form with hf | hf
    · obtain ⟨fs, f1, f2, f3⟩ := each_kis e (fun _ v => PySem.W.Looks (model prog w) s.heap (typeOf v) (.type "int")) fun k hk => by
        obtain ⟨i, r, rfl⟩ := hf k hk
        exact ⟨_, r, rfl, fun v x => by
          cases x
          exact PySem.W.looks_reads (.int _ _)⟩
      exact kat_kind (T := .type "int") f1 (by omega) (fun f hf => (f3 f hf).elim fun _ z => z) (beq_self_eq_true _) q
    · obtain ⟨fs, f1, f2, f3⟩ := each_kis e (fun _ v => PySem.W.Looks (model prog w) s.heap (typeOf v) (.type "str")) fun k hk => by
        obtain ⟨i, r, rfl⟩ := hf k hk
        exact ⟨_, r, rfl, fun v x => by
          cases x
          exact PySem.W.looks_reads (.str _ _)⟩
      exact kat_kind (T := .type "str") f1 (by omega) (fun f hf => (f3 f hf).elim fun _ z => z) (beq_self_eq_true _) q
end
/-- items in order by a rank -/
def byRk {β : Type} (rk : β → Nat) (bs : List β) : List β := bs.mergeSort fun a b => !decide (rk b < rk a)
theorem sorted_each {β : Type} {h : Heap} {ks : List NK} {rk : NK → Nat} {kv vs : List Value} {bs : List β} {R : Value → β → Prop} (f : β → NK) (hb : EachIs R vs bs) (hk : EachIs (fun v b => KIs h (f b) v) kv bs) (hm : ∀ b ∈ bs, f b ∈ ks) :
    EachIs R (sortVals (rkKind h ks rk) false kv vs) (byRk (fun b => rk (f b)) bs) := by
  refine PySem.W.sortVals_each (κ := rkKind h ks rk) (rev := false) (k := fun b => rk (f b)) hb ?_
  clear hb
  induction hk with
  | nil => exact .nil
  | cons x t ih => exact .cons (rk_some (hm _ List.mem_cons_self) x) (ih fun b hb => hm b (List.mem_cons_of_mem _ hb))
end M

/-! sorted of lists and dicts, with a key of one's own -/
namespace M
open PySem PySem.Spec PyProof.Rows L2
open PySem.SeqAt (RcLt)
open PySem.W (SortsAt sortVals EachIs KeepsBut keyH_end sorted_vals)
open PyProof.Rows (ksk_tree ksk_rest ksk_end ksk_fold)
section
variable {X : Cx} {pins : List (Addr × Obj)} {σ : L2.St} {H : Hp} {s : Shared}
/-- values told by their data -/
theorem each_of (I : Inv X pins σ H s) : ∀ {xs : List V} {us : List Value} {ks : List NK}, Ats X.K H xs ks → Vals xs us → EachIs (fun v k => KIs s.heap k v) us ks
  | _, _, [], h, r => by
    cases h
    cases r
    exact .nil
  | _, _, k :: ks, h, r => by
    cases h with
    | cons a b =>
      cases r with
      | cons c d => exact .cons (At.kis I _ _ _ a c) (each_of I b d)
theorem each_at : ∀ {xs : List V} {us : List Value} {ks : List NK}, Ats X.K H xs ks → Vals xs us → EachIs (fun v k => ∃ x, RelV x v ∧ At X.K H x k) us ks
  | _, _, [], h, r => by
    cases h
    cases r
    exact .nil
  | _, _, k :: ks, h, r => by
    cases h with
    | cons a b =>
      cases r with
      | cons c d => exact .cons ⟨_, c, a⟩ (each_at b d)
theorem at_each {us : List Value} {ks : List NK} (e : EachIs (fun v k => ∃ x, RelV x v ∧ At X.K H x k) us ks) : ∃ xs, Vals xs us ∧ Ats X.K H xs ks := by
  induction e with
  | nil => exact ⟨[], .nil, .nil⟩
  | cons h t ih =>
    obtain ⟨x, r, a⟩ := h
    obtain ⟨xs, rs, as⟩ := ih
    exact ⟨x :: xs, .cons r rs, .cons a as⟩
theorem byRk_length {β : Type} (rk : β → Nat) (bs : List β) : (byRk rk bs).length = bs.length := (List.mergeSort_perm _ _).length_eq
/-- sorted(xs) -/
def rSortedN (K : PySem.W.Frag) (rk : NK → Nat) : List V → Hp → VK → Prop := fun vs H Q => ∃ (l : Addr) (xs : List V) (ks : List NK), vs = [.ref l] ∧ SqL K H l xs ∧ Ats K H xs ks ∧ Ranked ks rk ∧ ks.length ≤ 1000000 ∧
  ∀ p ys, H p = none → Ats K H ys (byRk rk ks) → Q (.ref p) (upd H p (.lst ys))
theorem sorted_n (hu : X.A.units + 64 < cLine) (rk : NK → Nat) : CallR X (.builtin "sorted") (rSortedN X.K rk) := fun pins s σ H vs us Q I r h => by
  obtain ⟨l, xs, ks, rfl, hl, ha, R, hz, q⟩ := h
  obtain ⟨u, rfl, ru⟩ := Vals.one r
  cases ru
  obtain ⟨its, rv, pl, _⟩ := I.list hl
  have len : its.length = ks.length := by rw [← rv.length, ha.length]
  have e0 := each_of I ha rv
  have hS : SortsAt X.prog X.w X.A.in1.in1 { s with heap := PySem.W.sortingHeap (PySem.W.copyHeap s.heap its) (s.heap.objs.size + 1) its } (rkKind (PySem.W.sortingHeap (PySem.W.copyHeap s.heap its) (s.heap.objs.size + 1) its) ks rk) its :=
    sorts_ranked (s := { s with heap := PySem.W.sortingHeap (PySem.W.copyHeap s.heap its) (s.heap.objs.size + 1) its }) (e0.mono fun v k z => KIs.keeps (fun b o vs n g _ _ => PySem.W.sorting_copy_old g) k v z) R (by show X.A.units + 1 + 1 + 16 < cLine; omega)
  refine sorted_vals pl.isList hS (by rw [len, sizeLine_eq]; omega) ?_
  have ho := sorted_each (R := fun v k => ∃ x, RelV x v ∧ At X.K H x k) (h := PySem.W.sortingHeap (PySem.W.copyHeap s.heap its) (s.heap.objs.size + 1) its) (ks := ks) (rk := rk) (bs := ks) id (each_at ha rv) (e0.mono fun v k z => KIs.keeps (fun b o vs n g _ _ => PySem.W.sorting_copy_old g) k v z) fun b hb => hb
  obtain ⟨ys, ry, ay⟩ := at_each (X := X) (H := H) ho
  obtain ⟨ep, he⟩ := PyProof.Rows.sortedAll_at s.heap its (sortVals (rkKind (PySem.W.sortingHeap (PySem.W.copyHeap s.heap its) (s.heap.objs.size + 1) its) ks rk) false its its).toArray
  have hlen : ys.length ≤ sizeLine := by
    rw [ay.length, byRk_length, sizeLine_eq]
    omega
  exact ⟨.ref (s.heap.objs.size + 1), _, I.laid (a := s.heap.objs.size + 1) (o := .lst ys) (t' := s.toks) (fun _ _ z => PyProof.Rows.sortedAll_old z) (Nat.le_succ _) ⟨hlen, _, ep, ry, he⟩, rfl, q _ _ (I.hok.fresh (Nat.le_succ _)) ay⟩
/-- a function that gives the key of a datum and changes nothing -/
structure KeyFn (X : Cx) (f : Addr) (pre : NK → Prop) (key : NK → NK) : Prop where
  run : ∀ (pins : List (Addr × Obj)) (σ : L2.St) (H : Hp) (s : Shared) (x : V) (u : Value) (b : NK) (Q : VK), Inv X pins σ H s → RelV x u → At X.K H x b → pre b → (∀ v H', Same H H' → At X.K H' v (key b) → Q v H') →
    wpAny (model X.prog X.w) X.A.in1.in1 (call (.ref f) [u]) (EP X pins σ Q) (fun _ _ => False) s
theorem fp_of {kS : Addr} {o : Obj} (I : Inv X (pins ++ [(kS, o)]) σ H s) (c3 : X.s_0.heap.objs.size ≤ kS) (c4 : ∀ p ∈ X.pn ++ pins, p.1 ≠ kS) : FpOk X pins H kS := by
  obtain ⟨g, n, hl, hf, hc⟩ := I.pin (kS, o) (List.mem_append_right _ (List.mem_append_right _ List.mem_cons_self))
  refine ⟨n, hl, hf, .inr c3, fun x c e z => ?_, c4⟩
  obtain ⟨v, q, hq, hd⟩ := I.cell x c e
  rw [z] at hq
  have g : s.heap.get? kS = some o := g
  rw [g] at hq
  exact hc v (by rw [Option.some.inj hq]; exact hd)
/-- the body of xs.sort(key=f), xs the list at L that nobody else knows -/
theorem sort_core {L f : Addr} {us : List Value} {xs : List V} {bs : List NK} {n : Nat} {pre : NK → Prop} {key : NK → NK} {rk : NK → Nat} {R : PySem.Fin → Shared → Prop} {E : Value → Shared → Prop} (hu : X.A.units + 64 < cLine) (F : KeyFn X f pre key)
    (I : Inv X pins σ H s) (hL : H L = some (NdO L (seqObj "list" us.toArray n))) (ha : Ats X.K H xs bs) (rv : Vals xs us) (hp : ∀ b ∈ bs, pre b) (hR : Ranked (bs.map key) rk) (hz : bs.length ≤ 1000000)
    (h : ∀ H' s' ys, (∀ b o, b ≠ L → H b = some o → H' b = some o) → H' L = some (.lst ys) → Ats X.K H' ys (byRk (fun b => rk (key b)) bs) → Inv X pins σ H' s' → R (.done (.ret .none)) s') :
    wpAny (model X.prog X.w) X.A.in1.in1 (ksk_tree L (.ref f) false) R E s := by
  have g0 : s.heap.get? L = some (seqObj "list" us.toArray n) := nd_get I.hok hL
  have len : us.length = bs.length := by rw [← rv.length, ha.length]
  have hsz : us.length ≤ sizeLine := by
    rw [len, sizeLine_eq]
    omega
  have up := Heap.SameBut.update s.heap L (Obj.mapSeq fun _ => (#[] : Array Value))
  obtain ⟨e1, g1⟩ : ∃ e1, (s.heap.update L (Obj.mapSeq fun _ => (#[] : Array Value))).get? L = some (seqObj "list" #[] e1) := ⟨_, get?_update_seq g0 fun _ => #[]⟩
  obtain ⟨H1, eH1⟩ : ∃ H1, H1 = upd H L (NdO L (seqObj "list" #[] e1)) := ⟨_, rfl⟩
  have I1 : Inv X pins σ H1 { s with heap := s.heap.update L (Obj.mapSeq fun _ => (#[] : Array Value)) } := by
    rw [eH1]
    exact I.write (x := L) (e := L) (t' := s.toks) (by rw [hL]; trivial) (.inl rfl) (fun b o nb z => (up.2 b nb).trans z) ⟨_, g1⟩ ⟨g1, ⟨_, g1⟩, fun h1 h2 p st => st _ p⟩
  have hL1 : H1 L = some (NdO L (seqObj "list" #[] e1)) := by
    rw [eH1]
    exact upd_same
  have ha1 : Ats X.K H1 xs bs := by
    rw [eH1]
    exact ha.ext (Ext.mut hL trivial)
  unfold ksk_tree
  refine wpAny_bind (listItems_at g0 rfl (wpAny_bind (listUpdate_at g0 rfl ?_ (by rw [List.size_toArray]; exact hsz) (Nat.zero_le _))))
  refine wpAny_bind (seqEpoch_at g1 rfl (wpAny_bind (wpAny_newTuple ?_ (by show us.length ≤ _; exact hsz))))
  refine wpAny_bind (wpAny_newList (wpAny_holding ?_) (Nat.zero_le _))
  -- the keys' list
  obtain ⟨s2, es2⟩ : ∃ s2 : Shared, s2 = { s with heap := (s.heap.update L (Obj.mapSeq fun _ => (#[] : Array Value))).push (seqObj "tuple" us.toArray 0) } := ⟨_, rfl⟩
  have I2 : Inv X pins σ H1 s2 := by
    rw [es2]
    exact I1.kept (t' := s.toks) fun b o z => Heap.get?_push_of_some _ z
  obtain ⟨kS, ekS⟩ : ∃ kS, kS = s2.heap.objs.size := ⟨_, rfl⟩
  have I3 : Inv X pins σ H1 { s2 with heap := s2.heap.push (seqObj "list" #[] 0) } := I2.kept (t' := s2.toks) fun b o z => Heap.get?_push_of_some _ z
  have nk : (s2.heap.push (seqObj "list" #[] 0)).get? kS = some (seqObj "list" #[] 0) := by
    rw [ekS]
    exact Heap.get?_push_size _ rfl
  have fk : FpOk X pins H1 kS := I2.fpOk (Nat.le_of_eq ekS.symm) (I2.hok.fresh (Nat.le_of_eq ekS.symm))
  have c3 : X.s_0.heap.objs.size ≤ kS := by
    rw [ekS]
    exact I2.sz
  have c4 : ∀ p ∈ X.pn ++ pins, p.1 ≠ kS := fk.2.2.2.2.2
  have pinK : ∀ {H' : Hp} {s' : Shared} {o : Obj}, Inv X pins σ H' s' → FpOk X pins H' kS → s'.heap.get? kS = some o → (∀ v, o.data ≠ .cell v) → Inv X (pins ++ [(kS, o)]) σ H' s' := fun {H' s' o} I' f g hc =>
    I'.pins_of fun p hp => (List.mem_append.mp hp).elim (fun z => I'.pin p (List.mem_append_right _ z)) fun z => by
      obtain rfl := List.mem_singleton.mp z
      exact ⟨g, f.1, f.2.1, f.2.2.1, hc⟩
  have I4 := pinK I3 fk nk (fun v z => by cases z)
  have eq2 : ({ s with heap := ((s.heap.update L (Obj.mapSeq fun _ => (#[] : Array Value))).push (seqObj "tuple" us.toArray 0)).push (seqObj "list" #[] 0) } : Shared) = { s2 with heap := s2.heap.push (seqObj "list" #[] 0) } := by rw [es2]
  have esz : ((s.heap.update L (Obj.mapSeq fun _ => (#[] : Array Value))).push (seqObj "tuple" us.toArray 0)).objs.size = kS := by
    rw [ekS, es2]
  show wpAny _ _ (ksk_rest L (.ref f) false us.toArray e1 (.ref ((s.heap.update L (Obj.mapSeq fun _ => (#[] : Array Value))).push (seqObj "tuple" us.toArray 0)).objs.size)) R E { s with heap := ((s.heap.update L (Obj.mapSeq fun _ => (#[] : Array Value))).push (seqObj "tuple" us.toArray 0)).push (seqObj "list" #[] 0) }
  rw [eq2, esz]
  unfold ksk_rest
  refine wpAny_bind (wpAny_rule ?_)
  first
    | rw [List.forIn_toArray]
    | (rw [← Array.forIn_toList]; simp only [List.toList_toArray])
    | rw [← Array.forIn_toList]
  refine wpAny_bind (ksk_fold (fun i s' => ∃ H' kA e zs, Inv X (pins ++ [(kS, seqObj "list" kA e)]) σ H' s' ∧ Same H1 H' ∧ Vals zs kA.toList ∧ Ats X.K H' zs ((bs.take i).map key)) us 0 { s2 with heap := s2.heap.push (seqObj "list" #[] 0) } ⟨H1, #[], 0, [], I4, fun _ _ z => z, .nil, .nil⟩ ?turn ?done)
  case turn =>
    rintro j u s' hj ⟨H', kA, e, zs, I', sm, rz, az⟩
    simp only [Nat.zero_add] at az ⊢
    obtain ⟨x, hx, rx⟩ : ∃ x, xs[j]? = some x ∧ RelV x u := by
      have : ∀ {xs : List V} {us : List Value}, Vals xs us → ∀ {j : Nat} {u : Value}, us[j]? = some u → ∃ x, xs[j]? = some x ∧ RelV x u := by
        intro xs us r
        induction r with
        | nil => exact fun z => by simp at z
        | cons a t ih =>
          intro j u z
          cases j with
          | zero => exact ⟨_, rfl, by have := Option.some.inj z; subst this; exact a⟩
          | succ j => exact ih (by simpa using z)
      exact this rv hj
    obtain ⟨b, hb, ab⟩ := ha1.back hx
    have ab' : At X.K H' x b := ab.same sm
    refine wpAny_bind (wpAny_attempt (wpAny_mono (F.run _ σ H' s' x u b (fun v H2 => Same H' H2 ∧ At X.K H2 v (key b)) I' rx ab' (hp b (List.mem_of_getElem? hb)) fun v H2 s2 a2 => ⟨s2, a2⟩) (fun v s5 q => ?_) fun _ _ z => z.elim))
    obtain ⟨y, H2, I5, ry, sm2, ay⟩ := q
    dsimp only
    obtain ⟨gk, _⟩ := I5.pin (kS, seqObj "list" kA e) (List.mem_append_right _ (List.mem_append_right _ List.mem_cons_self))
    have gk : s5.heap.get? kS = some (seqObj "list" kA e) := gk
    have fk5 := fp_of I5 c3 c4
    have lk : kA.size ≤ bs.length := by
      have h1 : zs.length = kA.toList.length := rz.length
      have h2 := az.length
      have h3 : kA.toList.length = kA.size := Array.length_toList
      rw [List.length_map, List.length_take] at h2
      omega
    have up5 := Heap.SameBut.update s5.heap kS (Obj.mapSeq (·.push v))
    obtain ⟨c5, g5⟩ : ∃ c, (s5.heap.update kS (Obj.mapSeq (·.push v))).get? kS = some (seqObj "list" (kA.push v) c) := ⟨_, get?_update_seq gk (·.push v)⟩
    refine wpAny_bind (listUpdate_at gk rfl ?_ (by rw [sizeLine_eq]; omega) (by rw [Array.size_push, sizeLine_eq]; omega))
    have I6 : Inv X pins σ H2 { s5 with heap := s5.heap.update kS (Obj.mapSeq (·.push v)) } := (I5.unpinned).turned (t' := s5.toks) (fun b o nb z => (up5.2 b nb).trans z) fk5.1 fk5.2.1 fk5.2.2.2.1 fk5.2.2.2.2.1 fk5.2.2.2.2.2
    have tk : bs.take (j + 1) = bs.take j ++ [b] := by
      rw [List.take_add_one, hb]
      rfl
    refine wpAny_pure ⟨rfl, H2, kA.push v, c5, zs ++ [y], pinK I6 fk5 g5 (fun v z => by cases z), sm.trans sm2, ?_, ?_⟩
    · rw [Array.toList_push]
      exact rz.append (.cons ry .nil)
    · rw [tk, List.map_append]
      exact (az.same sm2).append (.one ay)
  case done =>
    rintro s' ⟨H', kA, e, zs, I', sm, rz, az⟩
    have tk : bs.take (0 + us.length) = bs := List.take_of_length_le (by omega)
    rw [tk] at az
    obtain ⟨gk, _⟩ := I'.pin (kS, seqObj "list" kA e) (List.mem_append_right _ (List.mem_append_right _ List.mem_cons_self))
    have gk : s'.heap.get? kS = some (seqObj "list" kA e) := gk
    have fk5 := fp_of I' c3 c4
    have hL' : H' L = some (NdO L (seqObj "list" #[] e1)) := sm _ _ hL1
    have gL := nd_get I'.hok hL'
    have ne : kS ≠ L := fun z => by
      have := fk5.1
      rw [z, hL'] at this
      cases this
    obtain ⟨G, G1, G2⟩ := restrict s'.heap fun b => decide (b ≠ kS)
    have gG : ∀ b o, b ≠ kS → s'.heap.get? b = some o → G.get? b = some o := fun b o nb z => by
      rw [G1 b (decide_eq_true nb)]
      exact z
    have Gg : ∀ b o, G.get? b = some o → s'.heap.get? b = some o := fun b o z => by
      by_cases nb : b = kS
      · rw [nb, G2 kS (by simp)] at z
        cases z
      · rw [G1 b (decide_eq_true nb)] at z
        exact z
    have IG : Inv X pins σ H' { s' with heap := G } := (I'.unpinned).turned (t' := s'.toks) gG fk5.1 fk5.2.1 fk5.2.2.2.1 fk5.2.2.2.2.1 fk5.2.2.2.2.2
    have lk : kA.size = us.length := by
      have h1 : zs.length = kA.toList.length := rz.length
      have h2 := az.length
      have h3 : kA.toList.length = kA.size := Array.length_toList
      rw [List.length_map] at h2
      omega
    refine wpAny_bind (listItems_at gk rfl ?_)
    have ek := each_of I' az rz
    refine keyH_end (vs := us) (keys := kA) (κ := rkKind s'.heap (bs.map key) rk) (h₁ := G) (fun b o _ z => Gg b o z) (G2 kS (by simp)) gk gL ne (sorts_ranked ek hR (by show X.A.units + 1 + 1 + 16 < cLine; omega)) lk hsz fun h' tk c kp gn => ?_
    have hk : EachIs (fun v b => KIs s'.heap (key b) v) kA.toList bs := by
      have : ∀ {ks : List Value} {bs : List NK}, EachIs (fun v k => KIs s'.heap k v) ks (bs.map key) → EachIs (fun v b => KIs s'.heap (key b) v) ks bs := by
        intro ks bs
        induction bs generalizing ks with
        | nil => intro z; cases z; exact .nil
        | cons b bs ih =>
          intro z
          cases z with
          | cons z1 z2 => exact .cons z1 (ih z2)
      exact this ek
    have ho := sorted_each (R := fun v k => ∃ x, RelV x v ∧ At X.K H' x k) (h := s'.heap) (ks := bs.map key) (rk := rk) (bs := bs) key (each_at (ha1.same sm) rv) hk fun b hb => List.mem_map_of_mem hb
    obtain ⟨ys, ry, ay⟩ := at_each (X := X) (H := H') ho
    have hlen : ys.length ≤ sizeLine := by
      rw [ay.length, byRk_length, sizeLine_eq]
      omega
    refine h (upd H' L (.lst ys)) _ ys (fun b o nb z => ?_) upd_same (ay.ext (Ext.mut hL' trivial)) (IG.write (x := L) (e := L) (t' := tk) (by rw [hL']; trivial) (.inl rfl) (fun b o nb z => kp b o nb z) ⟨_, gn⟩ ⟨hlen, _, c, ry, gn⟩)
    rw [upd_ne nb]
    refine sm b o ?_
    rw [eH1, upd_ne nb]
    exact z
/-- sorted(d, key=f) -/
def rSortK (X : Cx) (key : NK → NK) (rk : NK → Nat) : List V → List V → Hp → VK → Prop := fun vs zs H Q => ∃ (d f : Addr) (kvs : List (NK × V)) (pre : NK → Prop), vs = [.ref d] ∧ zs = [.ref f] ∧ DK X.prog X.w X.K H d kvs ∧ KeyFn X f pre key ∧ (∀ b ∈ kvs.map (·.1), pre b) ∧
  Ranked ((kvs.map (·.1)).map key) rk ∧ kvs.length ≤ 1000000 ∧ ∀ p ys H', H p = none → Same H H' → H' p = some (.lst ys) → Ats X.K H' ys (byRk (fun b => rk (key b)) (kvs.map (·.1))) → Q (.ref p) H'
theorem sorted_key (hu : X.A.units + 64 < cLine) (hc : X.calm = true) (key : NK → NK) (rk : NK → Nat) : CallRK X (.builtin "sorted") [Str.ofString "key"] (rSortK X key rk) := fun pins s σ H vs zs us ws Q I r1 r2 h => by
  obtain ⟨d, f, kvs, pre, rfl, rfl, ⟨o, hd, xs, ⟨es, ep, hx, hdt, he⟩, rr⟩, F, hp, hR, hl, q⟩ := h
  obtain ⟨u, rfl, ru⟩ := Vals.one r1
  obtain ⟨w', rfl, rw'⟩ := Vals.one r2
  cases ru
  cases rw'
  have l1 := size_of_entries he
  have l2 := Paired.length rr.rel
  have hsz : es.size ≤ sizeLine := by
    rw [sizeLine_eq]
    omega
  show wpAny _ _ (call (.builtin "sorted") [.ref d] [(Str.ofString "key", .ref f)]) _ _ s
  refine PyProof.Rows.call_function_entry_kw PyProof.Rows.kind_sorted PyProof.Rows.plain_sorted PyProof.Rows.entry_sorted (PyProof.Rows.ksk_s1 _ _) ?_
  unfold Builtin.«sorted»
  refine wpAny_bind (m := checkCount "sorted" 1 1 _) (wpAny_pure ?_)
  refine wpAny_bind (PySem.W.kdu_collect (A := X.A.in1) (kdl_raw rr.low hx hdt) (I.ok.hd hc) (nd_get I.hok hd) hsz fun h' tk acc hk it => ?_)
  have ea : acc.toList = (xs.map fun x => x.2.1).map Value.ref := by
    refine List.ext_getElem? fun j => ?_
    cases hj : acc.toList[j]? with
    | none =>
      have := List.getElem?_eq_none_iff.mp hj
      rw [Array.length_toList, it.1] at this
      rw [List.getElem?_eq_none]
      rw [List.length_map, List.length_map]
      omega
    | some v =>
      obtain ⟨en, hen, hv⟩ := it.2 j v (by rw [← Array.getElem?_toList]; exact hj)
      have qe := entry_at he j
      rw [hen] at qe
      obtain ⟨b, hb, eb⟩ := Option.map_eq_some_iff.mp qe.symm
      rw [List.getElem?_map, List.getElem?_map, hb, hv, ← eb]
      rfl
  rw [ea]
  have rv : Vals (xs.map fun x => V.ref x.2.1) ((xs.map fun x => x.2.1).map Value.ref) := by
    have := vals_refs (xs.map fun x => x.2.1)
    rwa [List.map_map] at this
  obtain ⟨us, eus⟩ : ∃ us, us = (xs.map fun x => x.2.1).map Value.ref := ⟨_, rfl⟩
  rw [← eus] at rv ⊢
  have hlen : us.length ≤ sizeLine := by
    rw [eus, List.length_map, List.length_map]
    omega
  refine wpAny_bind (wpAny_newList ?_ hlen)
  have gL : (h'.push (seqObj "list" us.toArray 0)).get? h'.objs.size = some (seqObj "list" us.toArray 0) := Heap.get?_push_size _ rfl
  have I1 : Inv X pins σ H { s with heap := h', toks := tk } := I.kept hk
  have nL : H h'.objs.size = none := I1.hok.fresh (Nat.le_refl _)
  have I2 : Inv X pins σ (upd H h'.objs.size (NdO h'.objs.size (seqObj "list" us.toArray 0))) { s with heap := h'.push (seqObj "list" us.toArray 0), toks := tk } :=
    I1.laid (t' := tk) (fun b o e => Heap.get?_push_of_some _ e) (Nat.le_refl _) ⟨gL, ⟨_, gL⟩, fun h1 h2 p st => st _ p⟩
  show wpAny _ _ _ _ _ { s with heap := h'.push (seqObj "list" us.toArray 0), toks := tk }
  refine wpAny_bind (wpAny_holding (wpAny_call_entry_kw PyProof.Rows.slot_list_sort ⟨_, gL, rfl⟩ PyProof.Rows.entry_list_sort ?_ (PyProof.Rows.ksk_l1 _ _)))
  show wpAny (model X.prog X.w) X.A.in1.in1 (Builtin.«list.sort» ⟨[.ref h'.objs.size], [(Str.ofString "key", .ref f)]⟩) _ _ _
  rw [PyProof.Rows.ksk_t1]
  refine sort_core (xs := xs.map fun x => V.ref x.2.1) (bs := kvs.map (·.1)) hu F I2 upd_same ((ats_vals rr.rel).ext (Ext.new nL)) rv hp hR (by rw [List.length_map]; exact hl) fun H' s' ys hkeep hL' ay I' => ?_
  refine ⟨.none, rfl, wpAny_pure ⟨_, rfl, .ref h'.objs.size, H', I', rfl, q _ ys H' nL (fun b o e => ?_) hL' ay⟩⟩
  have nb := ne_of_none e nL
  refine hkeep b o nb ?_
  rw [upd_ne nb]
  exact e
end
end M

/-! enumerate(t), t a tuple -/
namespace PySem
open PyProof.Rows PySem.W
set_option maxHeartbeats 4000000 in
/-- enumerate of whatever begins -/
theorem meets_enum_one {v : Value} {o : Obj} {G : Heap → Prop} (B : Begins v o G) :
    Meets (Builtin.«enumerate.__new__» ⟨[.type "enumerate", v], []⟩) (fun _ R s => G s.heap ∧
      R (.ok (.ret (.ref (s.heap.push o).objs.size))) { s with heap := (s.heap.push o).push { cls := .type "enumerate", data := .fields #[.none, .bool false, .ref s.heap.objs.size, rawInt 0, .none, .none] } }) :=
  .of_wp fun prog w A R s h => by
    obtain ⟨hp, gn, dr, tk, os⟩ := s
    obtain ⟨hg, hr⟩ := h
    have sub := sub_enumerate
    have it : ∀ {A' : Around} {E : Value → Shared → Prop} {Q : Value → Shared → Prop}, Q (.ref hp.objs.size) ⟨hp.push o, gn, dr, tk, os⟩ → wpAny (model prog w) A' (pyIter v) Q E ⟨hp, gn, dr, tk, os⟩ :=
      fun z => B.iter prog w _ _ ⟨hp, gn, dr, tk, os⟩ _ hg z
    wp_walk using it
    refine wpAny_stack_any fun st => wpAny_pure ?_
    split
    · rename_i c _ _ _ _ _
      cases (c == Value.type "enumerate")
      · wp_walk using it
        exact ⟨_, rfl, hr⟩
      · wp_walk using it
        exact ⟨_, rfl, hr⟩
    · wp_walk using it
      exact ⟨_, rfl, hr⟩
end PySem
namespace M
open PySem PySem.Spec PyProof.Rows L2
section
variable {prog : Program} {w : World} {A : Around} {E : Value → Shared → Prop} {s : Shared}
theorem enum_tuple {t : Addr} {items : Array Value} {Q : Value → Shared → Prop} (ht : s.heap.IsTuple t items)
    (h : ∀ h', IsEnum h' (s.heap.objs.size + 1) s.heap.objs.size 0 .none → h'.IsTupleIter s.heap.objs.size t 0 → (∀ b o, s.heap.get? b = some o → h'.get? b = some o) → Q (.ref (s.heap.objs.size + 1)) { s with heap := h' }) :
    wpAny (model prog w) A (call (.type "enumerate") [.ref t]) Q E s := by
  refine callType_new F.called_enumerate (by decide) (F.typeCall_enumerate_1 _) (F.newCall_enumerate_1 _) (fun obj => F.args_object_init_2 obj _) F.entry_enumerate_new (meets_enum_one (begins_tuple t items)) ⟨ht, ?_⟩
  have hz : (s.heap.push { cls := .type "tuple_iterator", data := .fields #[.ref t, .int 0 0] }).objs.size = s.heap.objs.size + 1 := Heap.size_push ..
  have he := Heap.get?_push_size (s.heap.push { cls := .type "tuple_iterator", data := .fields #[.ref t, .int 0 0] }) (o := { cls := .type "enumerate", data := .fields #[.none, .bool false, .ref s.heap.objs.size, rawInt 0, .none, .none] }) rfl
  show _ ∧ _
  rw [hz] at he ⊢
  exact ⟨⟨_, he, rfl⟩, h _ he ⟨_, Heap.get?_push_of_some _ (Heap.get?_push_size _ rfl), rfl, rfl⟩ fun b o x => Heap.get?_push_of_some _ (Heap.get?_push_of_some _ x)⟩
end
/-- the tuple at a, each item in a new pair behind its place -/
def ItEt (K : PySem.W.Frag) (a : Addr) : It :=
  ⟨fun i H => ∃ (xs : List V) (x : V), SqT K H a xs ∧ xs[i]? = some x, fun i H v H' => ∃ T x, v = .ref T ∧ H T = none ∧ H' = upd H T (.tup [.int (i : Nat), x]) ∧ ∀ xs, SqT K H a xs → xs[i]? = some x, fun i H => ∃ xs : List V, SqT K H a xs ∧ xs.length ≤ i⟩
theorem turn_enumT {P : Program} {w : World} {K : PySem.W.Frag} {elts : List Expr} {kk : Nat} {tpos : Pos} (a e it : Addr) :
    Turn P w K (.Tuple elts kk tpos) (ItEt K a) [e, it] e (fun i h => (∃ old, IsEnum h e it ((i : Nat) : Int) old) ∧ h.IsTupleIter it a i ∧ e ≠ it) where
  mem := List.mem_cons_self
  obj := fun i h st b hb => by
    obtain ⟨⟨old, he⟩, ⟨o, ho, _, hd⟩, _⟩ := st
    rcases List.mem_cons.mp hb with rfl | hb
    · exact ⟨_, he, fun v q => by cases q⟩
    · obtain rfl := List.mem_singleton.mp hb
      exact ⟨o, ho, fun v q => by rw [hd] at q; cases q⟩
  keep := fun i h h' st k => by
    obtain ⟨⟨old, he⟩, hi, ne⟩ := st
    exact ⟨⟨old, k e List.mem_cons_self _ he⟩, hi.at fun o q => k it (List.mem_cons_of_mem _ List.mem_cons_self) o q, ne⟩
  item := by
    intro X hP hw hK hc i pins s σ H E I hf st hg
    subst hP hw hK
    obtain ⟨⟨old, he⟩, hit, ne⟩ := st
    obtain ⟨xs, x, hq, hx⟩ := hg
    obtain ⟨its, rv, pt, hz⟩ := I.tuple hq
    obtain ⟨u, hu, ru⟩ := rv.get hx
    have pt : s.heap.IsTuple a its.toArray := pt
    have hel : e < s.heap.objs.size := Heap.lt_size he
    have hil : it < s.heap.objs.size := by
      obtain ⟨_, q, _⟩ := hit
      exact Heap.lt_size q
    have ea : e ≠ a := fun z => by
      obtain ⟨o, g, c, _⟩ := pt
      have he : s.heap.get? e = _ := he
      rw [z, g] at he
      have := Option.some.inj he
      rw [this] at c
      exact absurd c (by simp)
    have ai : a ≠ it := fun z => by
      obtain ⟨o, g, c, _⟩ := pt
      obtain ⟨o', g', c', _⟩ := hit
      rw [z, g'] at g
      have := Option.some.inj g
      rw [← this, c'] at c
      exact absurd c (by simp)
    refine wpAny_pyNext_enum_itemD (Draws.tuple (prog := X.prog) (w := X.w) (A := X.A.in1) (show X.A.in1.handled = none from I.ok.hd hc) it a ai its.toArray) he ⟨hit, pt⟩ (show i < its.toArray.size by have := (List.getElem?_eq_some_iff.mp hu).1; simpa using this) ne (fun z => by
      rcases List.mem_cons.mp z with z | z
      · exact ne z
      · exact ea (List.mem_singleton.mp z)) fun y h' tk hy ho hst hT hsz hk => ?_
    have ey : y = u := by
      have hy : its.toArray[i]? = some y := hy
      rw [List.getElem?_toArray, hu] at hy
      exact (Option.some.inj hy).symm
    subst ey
    refine ⟨_, rfl, wpAny_letOwnedTupleGo_enum (s := { s with heap := h', toks := tk + 1 }) ho fun h2 he2 sb => ?_⟩
    have hT2 : h2.get? s.heap.objs.size = some { cls := .type "tuple", data := .seq #[.int i tk, y] } := (sb.2 _ (Nat.ne_of_gt hel)).trans hT
    have nb : ∀ b, b ∉ [e, it] → b ≠ e ∧ b ≠ it := fun b hb => ⟨fun z => hb (by rw [z]; exact List.mem_cons_self), fun z => hb (by rw [z]; exact List.mem_cons_of_mem _ List.mem_cons_self)⟩
    have I' : Inv X pins σ (upd H s.heap.objs.size (.tup [.int (i : Nat), x])) { s with heap := h2, toks := tk + 1 } :=
      I.turnedNew (ch := [e, it]) (fun b ob hb q => (sb.2 b (nb b hb).1).trans (hk b ob (nb b hb).1 (nb b hb).2 q)) hf (Nat.le_refl _) ⟨by show 2 ≤ sizeLine; decide, [.int i tk, y], .cons ⟨_, rfl⟩ (.cons ru .nil), ⟨_, hT2, rfl, _, rfl⟩⟩
    refine ⟨.ref s.heap.objs.size, _, I', rfl, ⟨_, x, rfl, I.hok.fresh (Nat.le_refl _), rfl, fun ys hy => by rw [I.tuple_inj hy hq]; exact hx⟩, ⟨⟨y, ?_⟩, hst.1.at fun o q => (sb.2 it (Ne.symm ne)).trans q, ne⟩, fun b hb => ?_⟩
    · rw [show ((i + 1 : Nat) : Int) = (i : Int) + 1 by omega]
      exact he2
    · have lt : b < s.heap.objs.size := by
        rcases List.mem_cons.mp hb with rfl | hb
        · exact hel
        · obtain rfl := List.mem_singleton.mp hb
          exact hil
      rw [upd_ne (Nat.ne_of_lt lt)]
      exact (hf b hb).1
  done := by
    intro X hP hw hK hc i pins s σ H E I hf st hg
    subst hP hw hK
    obtain ⟨⟨old, he⟩, hit, ne⟩ := st
    obtain ⟨xs, hq, hx⟩ := hg
    obtain ⟨its, rv, pt, hz⟩ := I.tuple hq
    have Fi := hf it (List.mem_cons_of_mem _ List.mem_cons_self)
    have pt : s.heap.IsTuple a its.toArray := pt
    have ai : a ≠ it := fun z => by
      obtain ⟨o, g, c, _⟩ := pt
      obtain ⟨o', g', c', _⟩ := hit
      rw [z, g'] at g
      have := Option.some.inj g
      rw [← this, c'] at c
      exact absurd c (by simp)
    have hl : its.length ≤ i := by
      have := rv.length
      omega
    refine wpAny_pyNext_enum_endD (n := i) (P := fun _ _ => False) (St := fun j h => j = i ∧ h.IsTupleIter it a i ∧ h.IsTuple a its.toArray) (fp := [it, a]) ⟨fun _ _ st => let ⟨o, ho, _⟩ := st.2.1; ⟨o, ho⟩, fun _ _ _ st hk => ⟨st.1, st.2.1.at fun o e => hk it (by simp) o e, st.2.2.at fun o e => hk a (by simp) o e⟩,
      fun j s Q E hj st => by omega, fun s Q E st hE => wpAny_nextOf_tuple_end (I.ok.hd hc) st.2.1 st.2.2 (by rw [List.getElem?_toArray]; exact List.getElem?_eq_none hl) hE⟩ he ⟨rfl, hit, pt⟩ fun h' eb => ⟨rfl, I.turned (t' := s.toks) (fun b o hb q => eb b o hb q) Fi.1 Fi.2.1 Fi.2.2.2.1 Fi.2.2.2.2.1 Fi.2.2.2.2.2⟩
  self := fun A i s Q E st h => by
    obtain ⟨⟨_, he⟩, _⟩ := st
    exact wpAny_pyIter_enum he h
def iEnumT (K : PySem.W.Frag) (ta : TA) : TI := fun σ H R => ta σ H fun vs H1 => ∃ a xs, vs = [.ref a] ∧ SqT K H1 a xs ∧ R (ItEt K a) H1
theorem pi_enumT {X : Cx} {e : Expr} {ta : TA} {p pos tpos : Pos} {elts : List Expr} {kk : Nat} (hg : Gl X "enumerate") (hm : X.mg "enumerate" = none) (ha : PA X [e] ta) (hs : starEach [e] X.env = [(false, eval e X.env)] := by rfl) :
    PI X (.Tuple elts kk tpos) (.Call (.Name "enumerate" p) [e] [] pos) (iEnumT X.K ta) := ⟨fun pins s σ H R I h =>
  Call_ (ld_blt I hg hm boot_enumerate (PyProof.Rows.callWith_type1 (thn (ha.run pos pins s σ H _ I h) fun us s1 ⟨vs, H1, I1, r1, a, xs, ex, hq, q⟩ => by
    subst ex
    obtain ⟨u, rfl, ru⟩ := Vals.one r1
    cases ru
    obtain ⟨its, rv, pt, hz⟩ := I1.tuple hq
    refine enum_tuple (show s1.heap.IsTuple a its.toArray from pt) fun h' he hit hk => wpAny_pyIter_enum he ?_
    refine ⟨s1.heap.objs.size + 1, [s1.heap.objs.size + 1, s1.heap.objs.size], _, _, H1, rfl, I1.kept (t' := s1.toks) hk, turn_enumT a (s1.heap.objs.size + 1) s1.heap.objs.size, ⟨⟨.none, he⟩, hit, Nat.succ_ne_self _⟩, fun b hb => ?_, q⟩
    have le : s1.heap.objs.size ≤ b := by
      rcases List.mem_cons.mp hb with rfl | hb
      · exact Nat.le_succ _
      · obtain rfl := List.mem_singleton.mp hb
        exact Nat.le_refl _
    exact I1.fpOk le (I1.hok.fresh le)) hs rfl))⟩
theorem walk_enumT {K : PySem.W.Frag} {a : Addr} {xs : List V} : L2.Walk (ItEt K a) xs.length (fun H => SqT K H a xs) (YPair (fun i => some (.int (i : Nat))) (fun i => xs[i]?)) := by
  refine ⟨fun i _ hi q => ⟨xs, xs[i], q, by simp [hi]⟩, fun _ q => ⟨xs, q, Nat.le_refl _⟩, fun i H v H' _ q y => ?_⟩
  obtain ⟨T, x, h1, h2, h3, h4⟩ := y
  exact ⟨T, .int (i : Nat), x, h1, h2, h3, rfl, h4 xs q⟩
end M

/-! beliefs of one hand, plain -/
namespace M
open PySem PySem.Spec PyProof.Rows L2
inductive Wt where
  | idle
  | asks (c : Call)
  | has (r : Nat)
  deriving DecidableEq
def WOk : Wt → Prop
  | .idle => True
  | .asks c => COk c
  | .has r => r ≤ 9
def eW : Wt → NK
  | .idle => .none
  | .asks c => .tup [.text "asks", .text c.1, .num c.2]
  | .has r => .tup [.text "has", .num r]
def kW : Wt → NK
  | .idle => .tup [.num 0]
  | .asks c => .tup [.num 1, .text c.1, .num c.2]
  | .has r => .tup [.num 2, .num r]
def rW : Wt → Nat
  | .idle => 0
  | .asks c => 1 + (if c.1 = "a" then 0 else 10) + c.2
  | .has r => 21 + r
abbrev Bel := Nat × Wt
def BOk (b : Bel) : Prop := b.1 ≤ 9 ∧ WOk b.2
def eB (b : Bel) : NK := .tup [.num b.1, .tup [eW b.2]]
def kB (b : Bel) : NK := .tup [.num b.1, .tup [kW b.2]]
def rB (b : Bel) : Nat := b.1 * 100 + rW b.2
/-- a belief's key, from the belief -/
def whatK : NK → NK
  | .none => .tup [.num 0]
  | .tup (.text x :: r) => if x = "asks" then .tup (.num 1 :: r) else .tup (.num 2 :: r)
  | k => k
def belK : NK → NK
  | .tup [s, .tup hs] => .tup [s, .tup (hs.map whatK)]
  | k => k
def rkW : NK → Nat
  | .tup [.num a, .text x, .num n] => 1 + (if x = "a" then 0 else 10) + n.toNat
  | .tup [.num a, .num r] => 21 + r.toNat
  | _ => 0
def rkN : NK → Nat
  | .tup [.num s, .tup [w]] => s.toNat * 100 + rkW w
  | _ => 0
theorem belK_e (b : Bel) : belK (eB b) = kB b := by
  obtain ⟨s, w⟩ := b
  have nh : ¬ (("has" : Str) = "asks") := by decide +kernel
  cases w <;> simp [belK, eB, kB, whatK, eW, kW, nh]
theorem rkN_k (b : Bel) : rkN (kB b) = rB b := by
  obtain ⟨s, w⟩ := b
  cases w <;> simp [rkN, kB, kW, rkW, rB, rW]
theorem rW_lt {w : Wt} (h : WOk w) : rW w < 100 := by
  cases w with
  | idle => simp [rW]
  | asks c =>
    obtain ⟨_, h⟩ := h
    simp only [rW]
    split <;> omega
  | has r =>
    have h : r ≤ 9 := h
    simp only [rW]
    omega
theorem w_order {v w : Wt} (hv : WOk v) (hw : WOk w) : NestedKey.beq (kW v) (kW w) = decide (rW v = rW w) ∧ ltN (kW v) (kW w) = some (decide (rW v < rW w)) := by
  have ab : decide (("a" : Str).cps.toList < ("b" : Str).cps.toList) = true := by decide +kernel
  have ba : decide (("b" : Str).cps.toList < ("a" : Str).cps.toList) = false := by decide +kernel
  have l1 : ltN (.text "a") (.text "b") = some true := by
    rw [ltN]
    exact congrArg some ab
  have l2 : ltN (.text "b") (.text "a") = some false := by
    rw [ltN]
    exact congrArg some ba
  have nab : ¬ (("a" : Str) = "b") := by decide +kernel
  have nba : ¬ (("b" : Str) = "a") := by decide +kernel
  cases v with
  | idle =>
    cases w with
    | idle => simp [kW, rW, NestedKey.beq, NestedKey.beqAll, ltN, ltNs]
    | asks d =>
      have : 0 < 1 + (if d.1 = "a" then 0 else 10) + d.2 := by omega
      have h0 : ¬ (0 = 1 + (if d.1 = "a" then 0 else 10) + d.2) := by omega
      simp [kW, rW, NestedKey.beq, NestedKey.beqAll, ltN, ltNs, this, h0]
    | has r =>
      have : 0 < 21 + r := by omega
      have h0 : ¬ (0 = 21 + r) := by omega
      simp [kW, rW, NestedKey.beq, NestedKey.beqAll, ltN, ltNs, this, h0]
  | asks c =>
    obtain ⟨x, n⟩ := c
    obtain ⟨hx, hn⟩ := hv
    have hn : n ≤ 9 := hn
    cases w with
    | idle =>
      have h0 : ¬ (1 + (if x = "a" then 0 else 10) + n = 0) := by omega
      simp [kW, rW, NestedKey.beq, NestedKey.beqAll, ltN, ltNs, h0]
    | asks d =>
      obtain ⟨y, m⟩ := d
      obtain ⟨hy, hm⟩ := hw
      have hm : m ≤ 9 := hm
      rcases hx with rfl | rfl <;> rcases hy with rfl | rfl
      · by_cases e : n = m
        · subst e
          simp [kW, rW, NestedKey.beq, NestedKey.beqAll, ltN, ltNs]
        · have e' : ¬ (n : Int) = m := by omega
          simp [kW, rW, NestedKey.beq, NestedKey.beqAll, ltN, ltNs, e, e']
      · have h1 : ¬ (1 + n = 11 + m) := by omega
        have h2 : 1 + n < 11 + m := by omega
        refine ⟨by simp [kW, rW, NestedKey.beq, NestedKey.beqAll, nab, nba, h1], ?_⟩
        simp only [kW, ltN]
        rw [ltNs, if_pos (by simp [NestedKey.beq]), ltNs, if_neg (by simp [NestedKey.beq, nab]), l1]
        simp [rW, nba, h2]
      · have h1 : ¬ (11 + n = 1 + m) := by omega
        have h2 : ¬ (11 + n < 1 + m) := by omega
        refine ⟨by simp [kW, rW, NestedKey.beq, NestedKey.beqAll, nab, nba, h1], ?_⟩
        simp only [kW, ltN]
        rw [ltNs, if_pos (by simp [NestedKey.beq]), ltNs, if_neg (by simp [NestedKey.beq, nba]), l2]
        simp [rW, nba]
        omega
      · by_cases e : n = m
        · subst e
          simp [kW, rW, NestedKey.beq, NestedKey.beqAll, ltN, ltNs]
        · have e' : ¬ (n : Int) = m := by omega
          simp [kW, rW, NestedKey.beq, NestedKey.beqAll, ltN, ltNs, e, e', nba]
    | has r =>
      have h1 : ¬ (1 + (if x = "a" then 0 else 10) + n = 21 + r) := by split <;> omega
      have h2 : 1 + (if x = "a" then 0 else 10) + n < 21 + r := by split <;> omega
      simp [kW, rW, NestedKey.beq, NestedKey.beqAll, ltN, ltNs, h1, h2]
  | has q =>
    have hq : q ≤ 9 := hv
    cases w with
    | idle =>
      simp [kW, rW, NestedKey.beq, NestedKey.beqAll, ltN, ltNs]
    | asks d =>
      obtain ⟨y, m⟩ := d
      obtain ⟨hy, hm⟩ := hw
      have hm : m ≤ 9 := hm
      have h1 : ¬ (21 + q = 1 + (if y = "a" then 0 else 10) + m) := by split <;> omega
      have h2 : ¬ (21 + q < 1 + (if y = "a" then 0 else 10) + m) := by split <;> omega
      simp only [kW, rW, NestedKey.beq, NestedKey.beqAll, ltN, ltNs, h1, h2]
      simp
    | has r =>
      by_cases e : q = r
      · subst e
        simp [kW, rW, NestedKey.beq, NestedKey.beqAll, ltN, ltNs]
      · have e' : ¬ (q : Int) = r := by omega
        simp [kW, rW, NestedKey.beq, NestedKey.beqAll, ltN, ltNs, e, e']
theorem b_order {a b : Bel} (ha : BOk a) (hb : BOk b) : ltN (kB a) (kB b) = some (decide (rB a < rB b)) := by
  obtain ⟨s, v⟩ := a
  obtain ⟨t, w⟩ := b
  obtain ⟨h1, h2⟩ := w_order ha.2 hb.2
  have l1 : rW v < 100 := rW_lt ha.2
  have l2 : rW w < 100 := rW_lt hb.2
  have e1 : rB (s, v) = s * 100 + rW v := rfl
  have e2 : rB (t, w) = t * 100 + rW w := rfl
  simp only [kB, ltN]
  rw [ltNs]
  by_cases e : s = t
  · subst e
    rw [if_pos (by simp [NestedKey.beq]), ltNs]
    by_cases q : rW v = rW w
    · rw [if_pos (by simp only [NestedKey.beq, NestedKey.beqAll, h1, q]; simp), ltNs]
      exact congrArg some (decide_eq_false (by omega)).symm
    · rw [if_neg (by simp only [NestedKey.beq, NestedKey.beqAll, h1]; simp [q]), ltN, ltNs, if_neg (by rw [h1]; simp [q]), h2]
      refine congrArg some ?_
      by_cases z : rW v < rW w
      · rw [decide_eq_true z]
        exact (decide_eq_true (by omega)).symm
      · rw [decide_eq_false z]
        exact (decide_eq_false (by omega)).symm
  · have e' : ¬ (s : Int) = t := by omega
    rw [if_neg (by simp [NestedKey.beq, e']), ltN]
    refine congrArg some ?_
    by_cases z : s < t
    · rw [decide_eq_true (show (s : Int) < t by omega)]
      exact (decide_eq_true (by omega)).symm
    · rw [decide_eq_false (show ¬ (s : Int) < t by omega)]
      exact (decide_eq_false (by omega)).symm
theorem rW_inj {v w : Wt} (hv : WOk v) (hw : WOk w) (h : rW v = rW w) : v = w := by
  cases v with
  | idle =>
    cases w with
    | idle => rfl
    | asks d => simp only [rW] at h; omega
    | has r => simp only [rW] at h; omega
  | asks c =>
    obtain ⟨x, n⟩ := c
    obtain ⟨hx, hn⟩ := hv
    have hn : n ≤ 9 := hn
    cases w with
    | idle => simp only [rW] at h; omega
    | asks d =>
      obtain ⟨y, m⟩ := d
      obtain ⟨hy, hm⟩ := hw
      have hm : m ≤ 9 := hm
      have nba : ¬ (("b" : Str) = "a") := by decide +kernel
      rcases hx with rfl | rfl <;> rcases hy with rfl | rfl <;> simp [rW, nba] at h
      · rw [h]
      · exfalso
        omega
      · exfalso
        omega
      · rw [h]
    | has r =>
      simp only [rW] at h
      split at h <;> omega
  | has q =>
    have hq : q ≤ 9 := hv
    cases w with
    | idle => simp only [rW] at h; omega
    | asks d =>
      obtain ⟨y, m⟩ := d
      obtain ⟨hy, hm⟩ := hw
      have hm : m ≤ 9 := hm
      simp only [rW] at h
      split at h <;> omega
    | has r =>
      simp only [rW] at h
      have : q = r := by omega
      rw [this]
theorem rB_inj {a b : Bel} (ha : BOk a) (hb : BOk b) (h : rB a = rB b) : a = b := by
  obtain ⟨s, v⟩ := a
  obtain ⟨t, w⟩ := b
  have l1 := rW_lt ha.2
  have l2 := rW_lt hb.2
  simp only [rB] at h l1 l2
  have e : s = t := by omega
  subst e
  have q : v = w := rW_inj ha.2 hb.2 (by omega)
  rw [q]
theorem eW_inj {v w : Wt} (h : eW v = eW w) : v = w := by
  cases v <;> cases w <;> simp [eW] at h
  · rfl
  · rename_i c d
    obtain ⟨x, n⟩ := c
    obtain ⟨y, m⟩ := d
    obtain ⟨rfl, h⟩ := h
    have : n = m := by omega
    rw [this]
  · rename_i q r
    have : q = r := by omega
    rw [this]
theorem eB_inj {a b : Bel} (h : eB a = eB b) : a = b := by
  obtain ⟨s, v⟩ := a
  obtain ⟨t, w⟩ := b
  simp only [eB, NestedKey.tup.injEq, List.cons.injEq, NestedKey.num.injEq, and_true] at h
  obtain ⟨h1, h2⟩ := h
  have : s = t := by omega
  rw [this, eW_inj h2]
theorem b_deep (b : Bel) : (eB b).depth ≤ 8 ∧ (kB b).depth ≤ 8 := by
  obtain ⟨s, w⟩ := b
  cases w <;> simp [eB, kB, eW, kW, NestedKey.depth, NestedKey.depthAll]
theorem b_ranked {bs : List Bel} (h : ∀ b ∈ bs, BOk b) : Ranked ((bs.map eB).map belK) rkN := by
  have e : (bs.map eB).map belK = bs.map kB := by
    rw [List.map_map]
    exact List.map_congr_left fun b _ => belK_e b
  rw [e]
  refine ⟨fun k hk l hl => ?_, .inl fun k hk => ?_, fun k hk => ?_⟩
  · obtain ⟨a, ha, rfl⟩ := List.mem_map.mp hk
    obtain ⟨b, hb, rfl⟩ := List.mem_map.mp hl
    rw [rkN_k, rkN_k]
    exact b_order (h a ha) (h b hb)
  · obtain ⟨a, ha, rfl⟩ := List.mem_map.mp hk
    exact ⟨_, _, rfl⟩
  · obtain ⟨a, ha, rfl⟩ := List.mem_map.mp hk
    exact (b_deep a).2
/-- ascending, each once -/
def Lot (ls : List Bel) : Prop := ls.Pairwise fun a b => rB a < rB b
theorem byRk_map {β γ : Type} (f : β → γ) (rk : γ → Nat) (bs : List β) : byRk rk (bs.map f) = (byRk (fun b => rk (f b)) bs).map f := by
  unfold byRk
  exact (List.map_mergeSort (r := fun a b => !decide (rk (f b) < rk (f a))) (s := fun a b => !decide (rk b < rk a)) (f := f) fun a _ b _ => rfl).symm
theorem byRk_mem {β : Type} {rk : β → Nat} {bs : List β} {b : β} : b ∈ byRk rk bs ↔ b ∈ bs := (List.mergeSort_perm _ _).mem_iff
theorem byRk_sorted {β : Type} (rk : β → Nat) (bs : List β) : (byRk rk bs).Pairwise fun a b => rk a ≤ rk b := by
  have := List.pairwise_mergeSort (le := fun a b : β => !decide (rk b < rk a)) (fun a b c h1 h2 => by simp at *; omega) (fun a b => by simp; omega) bs
  exact this.imp fun {a b} h => by simpa using h
theorem byRk_strict {β : Type} {rk : β → Nat} {bs : List β} (hn : bs.Nodup) (hi : ∀ a ∈ bs, ∀ b ∈ bs, rk a = rk b → a = b) : (byRk rk bs).Pairwise fun a b => rk a < rk b := by
  have n : (byRk rk bs).Nodup := (List.mergeSort_perm _ _).nodup_iff.mpr hn
  have := (byRk_sorted rk bs).and n
  refine List.Pairwise.imp_of_mem (fun {a b} ha hb h => ?_) this
  rcases Nat.lt_or_eq_of_le h.1 with z | z
  · exact z
  · exact absurd (hi a (byRk_mem.mp ha) b (byRk_mem.mp hb) z) h.2
theorem strict_ext {β : Type} {rk : β → Nat} : ∀ {xs ys : List β}, xs.Pairwise (fun a b => rk a < rk b) → ys.Pairwise (fun a b => rk a < rk b) → (∀ b, b ∈ xs ↔ b ∈ ys) → xs = ys
  | [], [], _, _, _ => rfl
  | [], y :: ys, _, _, h => absurd ((h y).mpr List.mem_cons_self) (by simp)
  | x :: xs, [], _, _, h => absurd ((h x).mp List.mem_cons_self) (by simp)
  | x :: xs, y :: ys, hx, hy, h => by
    obtain ⟨x1, x2⟩ := List.pairwise_cons.mp hx
    obtain ⟨y1, y2⟩ := List.pairwise_cons.mp hy
    have e : x = y := by
      rcases List.mem_cons.mp ((h x).mp List.mem_cons_self) with e | mx
      · exact e
      · rcases List.mem_cons.mp ((h y).mpr List.mem_cons_self) with e | my
        · exact e.symm
        · have := x1 y my
          have := y1 x mx
          omega
    subst e
    rw [strict_ext x2 y2 fun b => ?_]
    have hb := h b
    constructor
    · intro m
      rcases List.mem_cons.mp (hb.mp (List.mem_cons_of_mem _ m)) with e | z
      · subst e
        exact absurd (x1 b m) (Nat.lt_irrefl _)
      · exact z
    · intro m
      rcases List.mem_cons.mp (hb.mpr (List.mem_cons_of_mem _ m)) with e | z
      · subst e
        exact absurd (y1 b m) (Nat.lt_irrefl _)
      · exact z
end M

namespace M
open PySem PySem.Spec PyProof.Rows L2
section
variable {X : Cx}
/-- t + u, tuples of data -/
def rCatN (K : PySem.W.Frag) : R2 := fun x y H Q => ∃ ks ls : List NK, At K H x (.tup ks) ∧ At K H y (.tup ls) ∧ ks.length + ls.length ≤ 1000000 ∧ ∀ v H', Same H H' → At K H' v (.tup (ks ++ ls)) → Q v H'
theorem op_catN : OpR X (binaryOp .Add) (rCatN X.K) := fun pins s σ H x y v u Q I rx ry h => by
  obtain ⟨ks, ls, hx, hy, hl, q⟩ := h
  obtain ⟨a, xs, rfl, sa, ra⟩ := hx.tup_inv
  obtain ⟨b, ys, rfl, sb, rb⟩ := hy.tup_inv
  have l1 := ra.length
  have l2 := rb.length
  have ap := ra.append rb
  refine op_catA pins s σ H _ _ v u Q I rx ry ⟨a, b, xs, ys, rfl, rfl, sa, sb, by rw [sizeLine_eq]; omega, fun e => ?_, fun _ e => ?_, fun _ _ p hp => ?_⟩
  · have k0 : ks = [] := List.length_eq_zero_iff.mp (by rw [← l1, e]; rfl)
    refine q _ H (Same.refl _) ?_
    rw [k0]
    exact hy
  · have k0 : ls = [] := List.length_eq_zero_iff.mp (by rw [← l2, e]; rfl)
    refine q _ H (Same.refl _) ?_
    rw [k0, List.append_nil]
    exact hx
  · exact q _ _ (same_upd hp) (.tup (SqT.of upd_same) (ap.same (same_upd hp)))
/-- tuple(xs), a list of data, or a tuple of data -/
theorem tuple_n : CallR X (.type "tuple") (fun xs H Q => ∃ v ks, xs = [v] ∧ Seq X.K H v ks ∧ ks.length ≤ 1000000 ∧ ∀ u H', Same H H' → At X.K H' u (.tup ks) → Q u H') := fun pins s σ H xs us Q I r h => by
  obtain ⟨v, ks, rfl, ⟨a, ys, rfl, hs, ha⟩, hl, q⟩ := h
  refine call_tuple_of pins s σ H _ us Q I r ⟨a, ys, rfl, ?_⟩
  rcases hs with hs | hs
  · exact .inl ⟨hs, fun l nl => q _ _ (same_upd nl) (.tup (SqT.of upd_same) (ha.same (same_upd nl)))⟩
  · exact .inr ⟨hs, q _ H (Same.refl _) (.tup hs ha)⟩
theorem keys_put_map {kvs : List (NK × V)} {k : NK} {v : V} : (putK kvs k v).map (·.1) = if k ∈ kvs.map (·.1) then kvs.map (·.1) else kvs.map (·.1) ++ [k] := by
  have e : (kvs.any fun kv => decide (kv.1 = k)) = decide (k ∈ kvs.map (·.1)) := by rw [valV_any, isSome_mem]
  unfold putK
  rw [e]
  by_cases h : k ∈ kvs.map (·.1)
  · rw [decide_eq_true h, if_pos rfl, if_pos h, List.map_map]
    refine List.map_congr_left fun p _ => ?_
    simp only [Function.comp]
    split <;> rfl
  · rw [decide_eq_false h, if_neg Bool.false_ne_true, if_neg h, List.map_append]
    rfl
theorem mem_eB {bs : List Bel} {b : Bel} : eB b ∈ bs.map eB ↔ b ∈ bs := by
  constructor
  · intro h
    obtain ⟨c, hc, e⟩ := List.mem_map.mp h
    rw [← eB_inj e]
    exact hc
  · exact fun h => List.mem_map.mpr ⟨b, h, rfl⟩
end
end M

/-! t * 1 -/
namespace L2
open PySem PySem.Spec PyProof.Rows
open AutoSeq1 (wpAny_loadPart')
open MeetsSeq MeetsSeq2 MeetsSeq3 SeqRoads2
theorem tuple_mul_one (l : Addr) (items : Array Value) (n : Nat) (dd : Option Addr) (sl : Array (Option Value)) (u : Tok) :
    Meets (Builtin.«tuple.__mul__» ⟨[.ref l, .int 1 u], []⟩) (fun _ R s => s.heap.get? l = some { cls := .type "tuple", dict := dd, data := .seq items n, slots := sl } ∧ R (.ok (.ret (Value.ref l))) s) :=
  .of_wp fun prog w A R s h => by
    obtain ⟨hp, g, d, tk, os⟩ := s
    obtain ⟨hl, h⟩ := h
    have f1 := AutoSeq1.idx_int
    wp_walk using wpAny_loadPart' hl
    exact ⟨_, rfl, h⟩
end L2
namespace M
open PySem PySem.Spec PyProof.Rows L2
/-- t * 1, t a tuple: itself -/
def rMul1 (K : PySem.W.Frag) : R2 := fun x y H Q => ∃ ks : List NK, At K H x (.tup ks) ∧ y = .int 1 ∧ Q x H
theorem op_mul1 {X : Cx} : OpR X (binaryOp .Mult) (rMul1 X.K) := fun pins s σ H x y v u Q I rx ry h => by
  obtain ⟨ks, hx, rfl, q⟩ := h
  obtain ⟨l, xs, rfl, hT, _⟩ := hx.tup_inv
  cases rx
  obtain ⟨t, rfl⟩ := ry
  obtain ⟨its, r, ⟨⟨cls, dd, data, sl⟩, ho, hc, n, hd⟩, hs⟩ := I.tuple hT
  simp only at hc hd
  subst hc hd
  exact wpAny_binaryOp_repeat_ref (T := "tuple") (U := "int") (by decide) ⟨_, ho, rfl⟩ (fun s' => typeIs_int s' 1 t) noFill_tuple_mul F.fills_int_mul F.slot_int_rmul repeat_tuple F.slot_int_index.lookup
    (call_meets F.slot_int_rmul (typeIs_int s 1 t) F.entry_int_rmul (F.args_int_rmul_2 _ _) (int_rmul_tuple 1 t l its.toArray n dd sl)
      ⟨ho, rfl, ⟨_, ho, rfl⟩, call_meets F.slot_tuple_mul ⟨_, ho, rfl⟩ F.entry_tuple_mul (F.args_tuple_mul_2 _ _) (tuple_mul_one l its.toArray n dd sl t) ⟨ho, .ref l, H, I, rfl, q⟩⟩)
end M

namespace M
open PySem PySem.Spec PyProof.Rows L2
theorem boot_sorted : bootBuiltins "sorted" = some (.builtin "sorted") := by decide +kernel
theorem boot_tuple : bootBuiltins "tuple" = some (.type "tuple") := by decide +kernel
theorem boot_list : bootBuiltins "list" = some (.type "list") := by decide +kernel
/-- {b: True for b in bs}: its reading -/
theorem bels_dc {P : Program} {w : World} {K : PySem.W.Frag} {J : It} {G : Hp → Prop} {Yd : Nat → Hp → V → Hp → Prop} {vs : List Nat} {σ : L2.St} {H1 : Hp} {D : Addr} {o0 : HO} {Qd : Hp → Prop} {bs : List Bel} {j : Nat} {tvv : V}
    (wk : L2.Walk J bs.length G Yd) (nD : H1 D = none) (h00 : DK P w K (upd H1 D o0) D []) (hn : bs.length ≤ 1000000) (hG : ∀ H, Same H1 H → G H) (hy : ∀ i H x H', i < bs.length → Same H1 H → Yd i H x H' → H' = H ∧ ∃ b, bs[i]? = some b ∧ At K H x (eB b))
    (h1 : ∀ v, wipe ((wipe σ vs).set j (some v)) vs = wipe σ vs) (h2 : ∀ v, ((wipe σ vs).set j (some v))[j]? = some (some v))
    (hd : ∀ (H : Hp) (kvs : List (NK × V)) (ls : List Bel), Same H1 H → DK P w K H D kvs → kvs.map (·.1) = ls.map eB → ls.Nodup → (∀ b, b ∈ ls ↔ b ∈ bs) → ls.length ≤ bs.length → Qd H) :
    ∃ W : Nat → Nat → Hp → Prop, (∃ m, W 0 m (upd H1 D o0)) ∧ ∀ i m H, W i m H →
      (J.stop i H ∧ Qd H) ∨ (J.go i H ∧ ∃ Nx : Hp → Prop, (∀ H', Nx H' → ∃ m', m' < m ∧ W (i + 1) m' H') ∧ ∀ x H', J.yld i H x H' → gName j x (wipe σ vs) H' fun σ2 H2 => wipe σ2 vs = wipe σ vs ∧ tYes σ2 H2 fun b H3 =>
        if b = true then tVar j σ2 H3 fun y H4 => tC tvv σ2 H4 fun z H5 => ∃ kvs k, At K H5 y k ∧ k.depth ≤ 8 ∧ (∃ ks, k = .tup ks) ∧ DK P w K H5 D kvs ∧ kvs.length ≤ 1000000 ∧ ∀ ob, DK P w K (upd H5 D ob) D (putK kvs k z) → Nx (upd H5 D ob) else Nx H3) := by
  refine ndc_it wk nD h00 hn hG (fun i kvs _ => ∃ ls : List Bel, kvs.map (·.1) = ls.map eB ∧ ls.Nodup ∧ (∀ b, b ∈ ls ↔ b ∈ bs.take i) ∧ ls.length ≤ i) (fun i l H H' _ h => h) ⟨[], rfl, List.nodup_nil, fun b => by simp, Nat.le_refl _⟩ (fun i x H H' kvs N0 Nk hi sm hD hR y h0 hk => ?_) fun H kvs sm hD hR => ?_
  · obtain ⟨rfl, b, hb, hx⟩ := hy i H x H' hi sm y
    obtain ⟨ls, e1, n1, m1, l1⟩ := hR
    refine ⟨h1 x, ?_⟩
    show tVar j _ _ _
    refine ⟨x, h2 x, ?_⟩
    refine hk x _ _ (eB b) (Same.refl _) hx (b_deep b).1 ⟨_, rfl⟩ ?_
    have tk : bs.take (i + 1) = bs.take i ++ [b] := by
      rw [List.take_add_one, hb]
      rfl
    rw [keys_put_map, e1]
    by_cases c : b ∈ ls
    · rw [if_pos (mem_eB.mpr c)]
      refine ⟨ls, rfl, n1, fun d => ?_, by omega⟩
      rw [tk, List.mem_append, List.mem_singleton, ← m1]
      constructor
      · exact .inl
      · rintro (z | rfl)
        · exact z
        · exact c
    · rw [if_neg fun z => c (mem_eB.mp z)]
      refine ⟨ls ++ [b], by simp, ?_, fun d => ?_, by simp; omega⟩
      · refine List.nodup_append.mpr ⟨n1, by simp, fun a ha d hd e => ?_⟩
        rw [List.mem_singleton.mp hd] at e
        exact c (e ▸ ha)
      · rw [tk, List.mem_append, List.mem_append, m1]
  · obtain ⟨ls, e1, n1, m1, l1⟩ := hR
    refine hd H kvs ls sm hD e1 n1 (fun b => ?_) l1
    rw [m1, List.take_length]
section
variable {X : Cx}
/-- a def of the top as a key -/
theorem key_of_kn {P : Program} {w : World} {K : PySem.W.Frag} {mg : Str → Option Value} {base : Heap} {k : Nat} {x p : Str} {sp : Sp} {pre : NK → Prop} {key : NK → NK} (F : Kn P w K mg base k x [p] sp) (hP : X.prog = P) (hw : X.w = w) (hK : X.K = K) (hm : X.mg = mg) (hb : X.base = base) (hr : Room (k + 2) X.A)
    (hsp : ∀ (v : V) (b : NK) (H : Hp) (Q : VK), At X.K H v b → pre b → (∀ v H', Same H H' → At X.K H' v (key b) → Q v H') → sp [v] H Q E0) : ∃ f, mg x = some (.ref f) ∧ KeyFn X f pre key := by
  subst hP hK hm hb hw
  obtain ⟨f, fd, F, hm, hk, hbn⟩ := F.ex
  refine ⟨f, hm, ⟨fun pins σ H s v u b Q I r ha hp q => ?_⟩⟩
  have e0 : Env0 X.prog X.w X.K X.mg X.base X.A.in1.in1 X.stack s H := I.env0.in1.in1
  refine wpAny_call (codeAny_mono (F.run X.A.in1.in1 X.stack s H ⟨[u], []⟩ [u] [v] Q E0 hr.in1.in1 e0 (hbn s [u] I.kIn rfl) (.cons r .nil) (hsp v b H Q ha hp q)) fun r s' hq => ?_)
  cases r with
  | error e => exact hq.elim
  | ok fl =>
    cases fl with
    | ret u => exact I.after hq
    | next => exact hq.elim
    | brk => exact hq.elim
    | cont => exact hq.elim
end
end M

namespace M
open PySem PySem.Spec PyProof.Rows L2
def topS (i : Nat) : Stmt := PySem.Challenge.pw_madeatonce_k41_whole_one_hand_is_a_row.main.body.getD i (.Pass ⟨0, 0, 0, 0⟩)
abbrev sIsInteger : Stmt := topS 11
abbrev sIsCount : Stmt := topS 12
abbrev sIsNumber : Stmt := topS 13
abbrev sIsName : Stmt := topS 14
abbrev sIsTupleOf : Stmt := topS 15
abbrev sIsSized : Stmt := topS 16
abbrev sIsWorded : Stmt := topS 17
abbrev sIsCall : Stmt := topS 18
abbrev sIsCallDoing : Stmt := topS 19
abbrev sIsEvent : Stmt := topS 20
abbrev sIsHistoryForm : Stmt := topS 21
abbrev sOutcomesOf : Stmt := topS 23
abbrev sIsDoneCall : Stmt := topS 24
abbrev sCheckRow : Stmt := topS 25
abbrev sLed : Stmt := topS 26
abbrev sStatesBehind : Stmt := topS 27
abbrev sFirstBelief : Stmt := topS 33
abbrev sHandKey : Stmt := topS 34
abbrev sBeliefKey : Stmt := topS 35
abbrev sOrdered : Stmt := topS 36
abbrev sWithHand : Stmt := topS 37
abbrev sTaken : Stmt := topS 38
abbrev sClosed : Stmt := topS 39
abbrev sBehindCall : Stmt := topS 40
abbrev sBehindBack : Stmt := topS 41
abbrev sBehindEvent : Stmt := topS 42
abbrev sCheckHistory : Stmt := topS 44
abbrev sBeliefsOf : Stmt := topS 45
abbrev sIsAtOnce : Stmt := topS 46
abbrev sFirstWrong : Stmt := topS 47
abbrev sOrderOf : Stmt := topS 49
abbrev sSpans : Stmt := topS 50
abbrev sIsMoment : Stmt := topS 51
abbrev sIsTimeKept : Stmt := topS 52
abbrev sIsOrder : Stmt := topS 53
abbrev sLedStates : Stmt := topS 55
abbrev sIsRow : Stmt := topS 56
abbrev sStatesBehindA : Stmt := topS 57
abbrev sLets : Stmt := topS 59
abbrev sRowsOf : Stmt := topS 62
abbrev sNexts : Stmt := topS 63
abbrev sIsEnd : Stmt := topS 64
abbrev sOwnOrderOf : Stmt := topS 65
abbrev sWayOf : Stmt := topS 66
abbrev sIsInOwnOrder : Stmt := topS 67
abbrev sEventsAt : Stmt := topS 70
abbrev sCheckHands : Stmt := topS 71
abbrev sWatcher : Stmt := topS 72
abbrev sWatched : Stmt := topS 73
abbrev sLBag : Stmt := topS 75
abbrev sLTake : Stmt := topS 76
abbrev sLSome : Stmt := topS 77
abbrev sLThing : Stmt := topS 78
abbrev sLOutcomes : Stmt := topS 79
abbrev sLClosed : Stmt := topS 80
abbrev sLBehind : Stmt := topS 81
abbrev sLLot : Stmt := topS 82
abbrev sLHandKey : Stmt := topS 83
abbrev sLManyLots : Stmt := topS 84
abbrev sLStatesBehind : Stmt := topS 85
abbrev sLLaw : Stmt := topS 86
end M

namespace M
open PySem PySem.Spec PyProof.Rows L2
section
variable {P : Program} {w : World} {K : PySem.W.Frag} {mg : Str → Option Value} {base : Heap}
theorem scIsInteger : FnScope ["thing"] ["thing"] (defScope sIsInteger) := ⟨rfl, rfl, rfl, by decide +kernel, rfl, by decide +kernel, by decide +kernel⟩
theorem scIsCount : FnScope ["thing"] ["thing"] (defScope sIsCount) := ⟨rfl, rfl, rfl, by decide +kernel, rfl, by decide +kernel, by decide +kernel⟩
theorem scIsNumber : FnScope ["thing"] ["thing"] (defScope sIsNumber) := ⟨rfl, rfl, rfl, by decide +kernel, rfl, by decide +kernel, by decide +kernel⟩
theorem scIsSized : FnScope ["thing", "many"] ["thing", "many"] (defScope sIsSized) := ⟨rfl, rfl, rfl, by decide +kernel, rfl, by decide +kernel, by decide +kernel⟩
theorem scIsWorded : FnScope ["thing", "words"] ["thing", "words"] (defScope sIsWorded) := ⟨rfl, rfl, rfl, by decide +kernel, rfl, by decide +kernel, by decide +kernel⟩
/-- a whole number -/
def spIsInt : Sp := fun vs H Q _ => ∃ i, vs = [.int i] ∧ Q (.bl true) H
theorem k_is_integer (T : Tx K mg) (D : Df K mg "is_integer" sIsInteger ["thing"]) : Kn P w K mg base 1 "is_integer" ["thing"] spIsInt := by
  refine D.kn scIsInteger (fun vs H Q E h => ?_) (fun f cdv A outer s H vs Q E hr h => ?_)
  · obtain ⟨i, rfl, _⟩ := h
    rfl
  · obtain ⟨i, rfl, q⟩ := h
    refine ⟨_, pss_one (ps_ret (pe_and (pe_isi (T := "int") (pv 0) T.isi T.int (by decide +kernel)) (pe_one (pe_not (pe_isi (T := "bool") (pv 0) T.isi T.bool (by decide +kernel)))))), ?_⟩
    refine ⟨.int i, rfl, .int i, .ty "int", .type "int", .type "int", true, rfl, .ty _, .base (.int i), by rfl, true, rfl, ?_⟩
    refine ⟨.int i, rfl, .int i, .ty "bool", .type "int", .type "bool", false, rfl, .ty _, .base (.int i), kit_ty (by decide +kernel), false, rfl, q⟩
/-- a count -/
def spIsCount : Sp := fun vs H Q _ => ∃ i : Int, vs = [.int i] ∧ 0 ≤ i ∧ Q (.bl true) H
theorem k_is_count (T : Tx K mg) (D : Df K mg "is_count" sIsCount ["thing"]) (F1 : Kn P w K mg base 1 "is_integer" ["thing"] spIsInt) : Kn P w K mg base 2 "is_count" ["thing"] spIsCount := by
  refine D.kn scIsCount (fun vs H Q E h => ?_) (fun f cdv A outer s H vs Q E hr h => ?_)
  · obtain ⟨i, rfl, _⟩ := h
    rfl
  · obtain ⟨i, rfl, hi, q⟩ := h
    refine ⟨_, pss_one (ps_ret (pe_and (pe_kn F1 hr (pa_cons (pv 0) pa_nil)) (pe_one (pe_cmpR op_ge (pv 0) pe_int (nomark _))))), ?_⟩
    refine ⟨.int i, rfl, i, rfl, true, rfl, .int i, rfl, i, 0, rfl, rfl, ?_⟩
    exact q_bl (decide_eq_true hi) q
/-- a number from 0 to 9 -/
def spIsNumber : Sp := fun vs H Q _ => ∃ i : Int, vs = [.int i] ∧ 0 ≤ i ∧ i ≤ 9 ∧ Q (.bl true) H
theorem k_is_number (T : Tx K mg) (D : Df K mg "is_number" sIsNumber ["thing"]) (F1 : Kn P w K mg base 2 "is_count" ["thing"] spIsCount) : Kn P w K mg base 3 "is_number" ["thing"] spIsNumber := by
  refine D.kn scIsNumber (fun vs H Q E h => ?_) (fun f cdv A outer s H vs Q E hr h => ?_)
  · obtain ⟨i, rfl, _⟩ := h
    rfl
  · obtain ⟨i, rfl, hi, hj, q⟩ := h
    refine ⟨_, pss_one (ps_ret (pe_and (pe_kn F1 hr (pa_cons (pv 0) pa_nil)) (pe_one (pe_cmpR op_le (pv 0) (pe_gi T.mostNumber) (nomark _))))), ?_⟩
    refine ⟨.int i, rfl, i, rfl, hi, true, rfl, .int i, rfl, i, 9, rfl, rfl, ?_⟩
    exact q_bl (decide_eq_true hj) q
/-- a tuple of so many -/
def spIsSized (K : PySem.W.Frag) : Sp := fun vs H Q _ => ∃ (v : V) (ks : List NK) (n : Int), vs = [v, .int n] ∧ At K H v (.tup ks) ∧ Q (.bl (decide (((ks.length : Nat) : Int) = n))) H
theorem k_is_sized (T : Tx K mg) (D : Df K mg "is_sized" sIsSized ["thing", "many"]) : Kn P w K mg base 1 "is_sized" ["thing", "many"] (spIsSized K) := by
  refine D.kn scIsSized (fun vs H Q E h => ?_) (fun f cdv A outer s H vs Q E hr h => ?_)
  · obtain ⟨v, ks, n, rfl, _⟩ := h
    rfl
  · obtain ⟨v, ks, n, rfl, hv, q⟩ := h
    refine ⟨_, pss_one (ps_ret (pe_and (pe_isi (T := "tuple") (pv 0) T.isi T.tuple (by decide +kernel)) (pe_one (pe_cmpR op_eq (pe_callB len_n (by rfl) T.len PySem.boot_len (pa_cons (pv 0) pa_nil)) (pv 1) (nomark _))))), ?_⟩
    refine ⟨v, rfl, v, .ty "tuple", .type "tuple", .type "tuple", true, rfl, .ty _, tyx_tup hv, by rfl, true, rfl, ?_⟩
    refine ⟨v, rfl, v, ks, rfl, hv.seq, .int n, rfl, rfl, ?_⟩
    have e : decide (V.int ((ks.length : Nat) : Int) = V.int n) = decide (((ks.length : Nat) : Int) = n) := by simp
    rw [e]
    exact q
/-- a tuple that begins with a text -/
def spIsWorded (K : PySem.W.Frag) : Sp := fun vs H Q _ => ∃ (v u : V) (x : Str) (ks : List NK) (ws : List Str), vs = [v, u] ∧ At K H v (.tup (.text x :: ks)) ∧ At K H u (.tup (ws.map .text)) ∧ ∀ H', Same H H' → Q (.bl (decide (x ∈ ws))) H'
theorem text_mem (x : Str) : ∀ ws : List Str, decide ((NestedKey.text x) ∈ ws.map NestedKey.text) = decide (x ∈ ws) := fun ws => by
  have h : (NestedKey.text x) ∈ ws.map NestedKey.text ↔ x ∈ ws := by
    constructor
    · intro h
      obtain ⟨y, hy, e⟩ := List.mem_map.mp h
      cases e
      exact hy
    · exact fun h => List.mem_map.mpr ⟨x, h, rfl⟩
  by_cases e : x ∈ ws
  · rw [decide_eq_true e, decide_eq_true (h.mpr e)]
  · rw [decide_eq_false e, decide_eq_false fun z => e (h.mp z)]
theorem k_is_worded (T : Tx K mg) (D : Df K mg "is_worded" sIsWorded ["thing", "words"]) : Kn P w K mg base 1 "is_worded" ["thing", "words"] (spIsWorded K) := by
  refine D.kn scIsWorded (fun vs H Q E h => ?_) (fun f cdv A outer s H vs Q E hr h => ?_)
  · obtain ⟨v, u, x, ks, ws, rfl, _⟩ := h
    rfl
  · obtain ⟨v, u, x, ks, ws, rfl, hv, hw, q⟩ := h
    refine ⟨_, pss_one (ps_ret (pe_and (pe_isi (T := "tuple") (pv 0) T.isi T.tuple (by decide +kernel)) (pe_and (pe_cmpR (op_neN hr.units) (pv 0) (pe_tupN pa_nil) (nomark _))
      (pe_and (pe_isi (T := "str") (pe_ix ix_n (pv 0) pe_int (fun _ _ => rfl)) T.isi T.str (by decide +kernel)) (pe_one (pe_cmpR (op_inN hr.units) (pe_ix ix_n (pv 0) pe_int (fun _ _ => rfl)) (pv 1) (by rfl))))))), ?_⟩
    refine ⟨v, rfl, v, .ty "tuple", .type "tuple", .type "tuple", true, rfl, .ty _, tyx_tup hv, by rfl, true, rfl, ?_⟩
    refine ⟨v, rfl, [], .nil, Nat.zero_le _, fun z H1 s1 hz => ?_⟩
    have hv1 := hv.same s1
    refine ⟨.tup (.text x :: ks), .tup [], hv1, hz, by simp [NestedKey.depth, NestedKey.depthAll], true, by simp, ?_⟩
    refine ⟨v, rfl, .text x :: ks, 0, .text x, hv1, rfl, rfl, fun y hy => ?_⟩
    obtain ⟨rfl⟩ := hy.text_inv
    refine ⟨.str x, .ty "str", .type "str", .type "str", true, rfl, .ty _, .base (.str x), by rfl, true, rfl, ?_⟩
    refine ⟨v, rfl, .text x :: ks, 0, .text x, hv1, rfl, rfl, fun y hy2 => ?_⟩
    refine ⟨u, rfl, .text x, ws.map .text, hy2, (hw.same s1).seq, by simp [NestedKey.depth], ?_⟩
    rw [Bool.false_xor, text_mem]
    exact q H1 s1
end
end M

namespace M
open PySem PySem.Spec PyProof.Rows L2
section
variable {P : Program} {w : World} {K : PySem.W.Frag} {mg : Str → Option Value} {base : Heap}
theorem scIsName : FnScope ["thing", "sign"] ["thing"] (defScope sIsName) := ⟨rfl, rfl, rfl, by decide +kernel, rfl, by decide +kernel, by decide +kernel⟩
theorem Nm.sign {x : Str} (h : Nm x) : ∃ c, x = ⟨#[c]⟩ ∧ (c = 97 ∨ c = 98) := by
  rcases h with rfl | rfl
  · exact ⟨97, by decide +kernel, .inl rfl⟩
  · exact ⟨98, by decide +kernel, .inr rfl⟩
theorem Nm.word {x : Str} (h : Nm x) : x ∉ wordsL := by
  rcases h with rfl | rfl <;> decide +kernel
theorem one_line : (1 : Nat) ≤ sizeLine := by
  rw [sizeLine_eq]
  decide
def spIsName : Sp := fun vs H Q _ => ∃ x, vs = [.str x] ∧ Nm x ∧ ∀ H', Same H H' → Q (.bl true) H'
theorem k_is_name (T : Tx K mg) (D : Df K mg "is_name" sIsName ["thing"]) : Kn P w K mg base 1 "is_name" ["thing"] spIsName := by
  refine D.kn scIsName (fun vs H Q E h => ?_) (fun f cdv A outer s H vs Q E hr h => ?_)
  · obtain ⟨x, rfl, _⟩ := h
    rfl
  · obtain ⟨x, rfl, hn, q⟩ := h
    obtain ⟨wa, hw, hW⟩ := T.words
    refine ⟨_, pss_cons (ps_if (PW.pt (pw_or (pt_not (pt_val (pe_isi (T := "str") (pv 0) T.isi T.str (by decide +kernel)))) (pw_or (pt_not (pt_chain op_le op_le pe_int (pe_callB call_len_str (by rfl) T.len PySem.boot_len (pa_cons (pv 0) pa_nil)) (pe_gi T.mostLetters)))
        (pw_or1 (pt_cmpR op_notIn_sign (pe_ix ix_str (pv 0) pe_int (fun _ _ => rfl)) (pe_gs T.letters) (by rfl)))))) (pss_one (ps_ret pe_bl)) pss_nil)
      (pss_one (ps_ret (pe_and (pe_callB (cr_all rfl) (by rfl) T.all (by decide +kernel) (pa_cons
        (pe_lc (own := [("sign", 1)]) (g := gName 1) (tt := tYes) rfl scIsName.nd (pi_str (pv 0)) (blkOk_by (N := ["thing", "sign"]) (sc := defScope sIsName) (by decide +kernel)) (fun _ _ _ _ _ => pg_name (i := 1) scIsName.nd rfl (Or.inl rfl)) (fun _ _ _ _ _ => pts_nil)
          (fun _ _ _ _ _ => pe_cmpR op_in_sign (pv 1) (pe_op op_add_str (pe_gs T.letters) (pe_gs T.digits)) (by rfl))) pa_nil))
        (pe_one (pe_cmpR (op_notInN hr.units) (pv 0) (pe_glob (v := .ref wa) (by rfl) hw rfl) (by rfl)))))), ?_⟩
    obtain ⟨c, rfl, hc⟩ := hn.sign
    refine ⟨.str ⟨#[c]⟩, rfl, .str ⟨#[c]⟩, .ty "str", .type "str", .type "str", true, rfl, .ty _, .base (.str _), by rfl, true, rfl, ?_⟩
    refine iteF ?_
    refine ⟨.str ⟨#[c]⟩, rfl, ⟨#[c]⟩, rfl, one_line, ?_⟩
    refine ⟨1, 1, rfl, rfl, true, rfl, iteT ?_⟩
    refine ⟨1, 8, rfl, rfl, true, rfl, iteF ?_⟩
    refine ⟨.str ⟨#[c]⟩, rfl, ⟨#[c]⟩, 0, c, rfl, rfl, one_line, by rfl, c, _, rfl, rfl, _, rfl, ?_⟩
    have e1 : (!decide (c ∈ (Str.ofString "abcdefghijklmnopqrstuvwxyz").cps.toList)) = false := by
      rcases hc with rfl | rfl <;> decide +kernel
    show if (!decide (c ∈ (Str.ofString "abcdefghijklmnopqrstuvwxyz").cps.toList)) = true then _ else _
    rw [e1]
    refine iteF ?_
    -- all([..])
    refine ⟨.str ⟨#[c]⟩, rfl, ⟨#[c]⟩, rfl, fun D nD => ?_⟩
    refine lc_acc (K := K) walk_str nD (show (1 : Nat) ≤ 1000000 by decide) (fun _ _ => trivial) (fun i acc _ => acc = List.replicate i (.bl true)) (fun _ _ _ _ _ h => h) rfl (fun i x H1 H2 acc k k0 hi sm eD hr hy hk _ => ?_) fun H1 acc sm eD hr => ?_
    · obtain ⟨rfl, c', hc', rfl⟩ := hy
      have e0 : i = 0 := by
        have : i < 1 := hi
        omega
      subst e0
      obtain rfl : c = c' := Option.some.inj hc'
      refine ⟨rfl, lc_yes ?_⟩
      refine ⟨.str ⟨#[c]⟩, rfl, _, _, rfl, rfl, by rw [sizeLine_eq]; decide +kernel, c, _, rfl, rfl, ?_⟩
      have e2 : decide (c ∈ (Str.ofString "abcdefghijklmnopqrstuvwxyz" ++ Str.ofString "0123456789").cps.toList) = true := by
        rcases hc with rfl | rfl <;> decide +kernel
      refine hk _ _ (Same.refl _) ?_
      show acc ++ [V.bl (decide (c ∈ (Str.ofString "abcdefghijklmnopqrstuvwxyz" ++ Str.ofString "0123456789").cps.toList))] = _
      rw [e2, hr]
      rfl
    · subst hr
      refine ⟨D, [true], rfl, SqL.of eD, true, rfl, iteT ?_⟩
      refine ⟨.str ⟨#[c]⟩, rfl, .text ⟨#[c]⟩, wordsL.map .text, .str _ (by rcases hc with rfl | rfl <;> decide +kernel), (hW H1).seq, by simp [NestedKey.depth], ?_⟩
      refine q_bl ?_ (q H1 sm)
      rw [text_mem, Bool.true_xor, decide_eq_false hn.word]
      rfl
end
end M

namespace M
open PySem PySem.Spec PyProof.Rows L2
section
variable {P : Program} {w : World} {K : PySem.W.Frag} {mg : Str → Option Value} {base : Heap}
theorem scIsCall : FnScope ["thing"] ["thing"] (defScope sIsCall) := ⟨rfl, rfl, rfl, by decide +kernel, rfl, by decide +kernel, by decide +kernel⟩
theorem scIsCallDoing : FnScope ["thing"] ["thing"] (defScope sIsCallDoing) := ⟨rfl, rfl, rfl, by decide +kernel, rfl, by decide +kernel, by decide +kernel⟩
theorem scIsEvent : FnScope ["thing"] ["thing"] (defScope sIsEvent) := ⟨rfl, rfl, rfl, by decide +kernel, rfl, by decide +kernel, by decide +kernel⟩
theorem scIsHistoryForm : FnScope ["thing"] ["thing"] (defScope sIsHistoryForm) := ⟨rfl, rfl, rfl, by decide +kernel, rfl, by decide +kernel, by decide +kernel⟩
theorem scIsTupleOf : FnScope ["thing", "is_item", "item"] ["thing", "is_item"] (defScope sIsTupleOf) := ⟨rfl, rfl, rfl, by decide +kernel, rfl, by decide +kernel, by decide +kernel⟩
/-- a call -/
def spIsCall (K : PySem.W.Frag) : Sp := fun vs H Q _ => ∃ v c, vs = [v] ∧ At K H v (eC c) ∧ COk c ∧ ∀ H', Same H H' → Q (.bl true) H'
theorem k_is_call (T : Tx K mg) (D : Df K mg "is_call" sIsCall ["thing"]) (F1 : Kn P w K mg base 1 "is_sized" ["thing", "many"] (spIsSized K)) (F2 : Kn P w K mg base 1 "is_name" ["thing"] spIsName) (F3 : Kn P w K mg base 3 "is_number" ["thing"] spIsNumber) :
    Kn P w K mg base 4 "is_call" ["thing"] (spIsCall K) := by
  refine D.kn scIsCall (fun vs H Q E h => ?_) (fun f cdv A outer s H vs Q E hr h => ?_)
  · obtain ⟨v, c, rfl, _⟩ := h
    rfl
  · obtain ⟨v, ⟨x, n⟩, rfl, hv, ⟨hx, hn⟩, q⟩ := h
    refine ⟨_, pss_one (ps_ret (pe_and (pe_kn F1 (hr.mono (by decide)) (pa_cons (pv 0) (pa_cons pe_int pa_nil))) (pe_and (pe_kn F2 (hr.mono (by decide)) (pa_cons (pe_ix ix_n (pv 0) pe_int (fun _ _ => rfl)) pa_nil)) (pe_one (pe_kn F3 hr (pa_cons (pe_ix ix_n (pv 0) pe_int (fun _ _ => rfl)) pa_nil)))))), ?_⟩
    refine ⟨v, rfl, v, _, 2, rfl, hv, true, by simp, iteT ?_⟩
    refine ⟨v, rfl, _, 0, .text x, hv, rfl, rfl, fun u hu => ?_⟩
    obtain rfl := hu.text_inv
    refine ⟨x, rfl, hx, fun H1 s1 => ⟨true, rfl, iteT ?_⟩⟩
    refine ⟨v, rfl, _, 1, .num n, hv.same s1, rfl, rfl, fun u hu => ?_⟩
    obtain rfl := hu.num_inv
    exact ⟨_, rfl, by omega, by omega, q H1 s1⟩
/-- an event that is a call -/
def spIsCallDoing (K : PySem.W.Frag) : Sp := fun vs H Q _ => ∃ v c, vs = [v] ∧ At K H v (eE (.call c)) ∧ COk c ∧ ∀ H', Same H H' → Q (.bl true) H'
theorem k_is_call_doing (T : Tx K mg) (D : Df K mg "is_call_doing" sIsCallDoing ["thing"]) (F1 : Kn P w K mg base 1 "is_worded" ["thing", "words"] (spIsWorded K)) (F2 : Kn P w K mg base 2 "is_count" ["thing"] spIsCount) (F3 : Kn P w K mg base 4 "is_call" ["thing"] (spIsCall K)) :
    Kn P w K mg base 5 "is_call_doing" ["thing"] (spIsCallDoing K) := by
  refine D.kn scIsCallDoing (fun vs H Q E h => ?_) (fun f cdv A outer s H vs Q E hr h => ?_)
  · obtain ⟨v, c, rfl, _⟩ := h
    rfl
  · obtain ⟨v, c, rfl, hv, hc, q⟩ := h
    refine ⟨_, pss_cons (ps_if (PW.pt (pw_or (pt_not (pt_val (pe_kn F1 (hr.mono (by decide)) (pa_cons (pv 0) (pa_cons (pe_tupN (pa_cons pe_str pa_nil)) pa_nil))))) (pw_or1 (pt_cmpR op_ne (pe_callB len_n (by rfl) T.len PySem.boot_len (pa_cons (pv 0) pa_nil)) pe_int (nomark _)))))
        (pss_one (ps_ret pe_bl)) pss_nil)
      (pss_one (ps_ret (pe_and (pe_kn F2 (hr.mono (by decide)) (pa_cons (pe_ix ix_n (pv 0) pe_int (fun _ _ => rfl)) pa_nil)) (pe_one (pe_kn F3 hr (pa_cons (pe_slice sl_n (pv 0) (po_some pe_int) po_none) pa_nil)))))), ?_⟩
    refine ⟨v, rfl, [.text "call"], .one (at_strs (by decide +kernel)), by decide, fun u H1 s1 hu => ?_⟩
    refine ⟨v, u, "call", _, ["call"], rfl, hv.same s1, hu, fun H2 s2 => ⟨true, by simp, iteF ?_⟩⟩
    have s12 := s1.trans s2
    refine ⟨v, rfl, v, _, rfl, (hv.same s12).seq, rfl, false, rfl, iteF ?_⟩
    refine ⟨v, rfl, _, 1, .num 0, hv.same s12, rfl, rfl, fun u hu => ?_⟩
    obtain rfl := hu.num_inv
    refine ⟨0, rfl, by decide, true, rfl, iteT ?_⟩
    refine ⟨v, rfl, 2, rfl, _, some 2, none, hv.same s12, rfl, rfl, fun u H3 s3 hu => ?_⟩
    exact ⟨u, c, rfl, hu, hc, fun H4 s4 => q H4 ((s12.trans s3).trans s4)⟩
/-- an event -/
def spIsEvent (K : PySem.W.Frag) : Sp := fun vs H Q _ => ∃ v e, vs = [v] ∧ At K H v (eE e) ∧ EOk e ∧ ∀ H', Same H H' → Q (.bl true) H'
theorem k_is_event (T : Tx K mg) (D : Df K mg "is_event" sIsEvent ["thing"]) (F1 : Kn P w K mg base 1 "is_worded" ["thing", "words"] (spIsWorded K)) (F2 : Kn P w K mg base 2 "is_count" ["thing"] spIsCount) (F3 : Kn P w K mg base 3 "is_number" ["thing"] spIsNumber)
    (F4 : Kn P w K mg base 5 "is_call_doing" ["thing"] (spIsCallDoing K)) : Kn P w K mg base 6 "is_event" ["thing"] (spIsEvent K) := by
  refine D.kn scIsEvent (fun vs H Q E h => ?_) (fun f cdv A outer s H vs Q E hr h => ?_)
  · obtain ⟨v, e, rfl, _⟩ := h
    rfl
  · obtain ⟨v, e, rfl, hv, he, q⟩ := h
    refine ⟨_, pss_cons (ps_if (pt_val (pe_kn F1 (hr.mono (by decide)) (pa_cons (pv 0) (pa_cons (pe_tupN (pa_cons pe_str pa_nil)) pa_nil))))
        (pss_one (ps_ret (pe_and (pe_cmpR op_eq (pe_callB len_n (by rfl) T.len PySem.boot_len (pa_cons (pv 0) pa_nil)) pe_int (nomark _)) (pe_and (pe_kn F2 (hr.mono (by decide)) (pa_cons (pe_ix ix_n (pv 0) pe_int (fun _ _ => rfl)) pa_nil))
          (pe_one (pe_kn F3 (hr.mono (by decide)) (pa_cons (pe_ix ix_n (pv 0) pe_int (fun _ _ => rfl)) pa_nil))))))) pss_nil)
      (pss_one (ps_ret (pe_kn F4 hr (pa_cons (pv 0) pa_nil)))), ?_⟩
    refine ⟨v, rfl, [.text "back"], .one (at_strs (by decide +kernel)), by decide, fun u H1 s1 hu => ?_⟩
    cases e with
    | call c =>
      refine ⟨v, u, "call", _, ["back"], rfl, hv.same s1, hu, fun H2 s2 => ⟨false, by decide +kernel, iteF ?_⟩⟩
      exact ⟨v, rfl, v, c, rfl, (hv.same s1).same s2, he, fun H3 s3 => q H3 ((s1.trans s2).trans s3)⟩
    | back r =>
      refine ⟨v, u, "back", _, ["back"], rfl, hv.same s1, hu, fun H2 s2 => ⟨true, by decide +kernel, iteT ?_⟩⟩
      have s12 := s1.trans s2
      refine ⟨v, rfl, v, _, rfl, (hv.same s12).seq, rfl, true, rfl, iteT ?_⟩
      refine ⟨v, rfl, _, 1, .num 0, hv.same s12, rfl, rfl, fun u hu => ?_⟩
      obtain rfl := hu.num_inv
      refine ⟨0, rfl, by decide, true, rfl, iteT ?_⟩
      refine ⟨v, rfl, _, 2, .num r, hv.same s12, rfl, rfl, fun u hu => ?_⟩
      obtain rfl := hu.num_inv
      have hr9 : r ≤ 9 := he
      exact ⟨_, rfl, by omega, by omega, q H2 s12⟩
/-- a tuple of events -/
def spIsTupleOf (K : PySem.W.Frag) (mg : Str → Option Value) : Sp := fun vs H Q _ => ∃ (v : V) (f : Addr) (es : List Ev), vs = [v, .ref f] ∧ At K H v (.tup (es.map eE)) ∧ (∀ e ∈ es, EOk e) ∧ es.length ≤ 1000 ∧ mg "is_event" = some (.ref f) ∧ ∀ H', Same H H' → Q (.bl true) H'
theorem k_is_tuple_of (T : Tx K mg) (D : Df K mg "is_tuple_of" sIsTupleOf ["thing", "is_item"]) (F : Kn P w K mg base 6 "is_event" ["thing"] (spIsEvent K)) : Kn P w K mg base 7 "is_tuple_of" ["thing", "is_item"] (spIsTupleOf K mg) := by
  obtain ⟨fe, fde, Fe, me, ke, be⟩ := F.ex
  refine D.kn scIsTupleOf (fun vs H Q E h => ?_) (fun f cdv A outer s H vs Q E hr h => ?_)
  · obtain ⟨v, f, es, rfl, _⟩ := h
    rfl
  · obtain ⟨v, f', es, rfl, hv, he, hl, hm, q⟩ := h
    obtain rfl : fe = f' := by
      have := me.symm.trans hm
      injection this with this
      injection this
    refine ⟨_, pss_one (ps_ret (pe_and (pe_isi (T := "tuple") (pv 0) T.isi T.tuple (by decide +kernel)) (pe_one (pe_callB (cr_all rfl) (by rfl) T.all (by decide +kernel) (pa_cons
        (pe_lc (own := [("item", 2)]) (g := gName 2) (tt := tYes) rfl scIsTupleOf.nd (pi_tup (pv 0)) (blkOk_by (N := ["thing", "is_item", "item"]) (sc := defScope sIsTupleOf) (by decide +kernel)) (fun _ _ _ _ _ => pg_name (i := 2) scIsTupleOf.nd rfl (Or.inl rfl)) (fun _ _ _ _ _ => pts_nil)
          (fun _ _ _ _ _ => pe_callL (i := 1) Fe hr rfl (by first | exact Or.inl rfl | exact Or.inr (Or.inl rfl) | exact Or.inr (Or.inr rfl)) ke be .nil pass0 (pa_cons (pv 2) pa_nil))) pa_nil))))), ?_⟩
    obtain ⟨a, xs, rfl, hs, ha⟩ := hv.tup_inv
    refine ⟨.ref a, rfl, .ref a, .ty "tuple", .type "tuple", .type "tuple", true, rfl, .ty _, tyx_tup hv, by rfl, true, rfl, iteT ?_⟩
    refine ⟨.ref a, rfl, a, rfl, ⟨_, hs⟩, fun D nD => ?_⟩
    have hlen : xs.length = es.length := by
      rw [ha.length, List.length_map]
    refine lc_acc (K := K) (walk_tup (xs := xs)) nD (by omega) (fun H1 s1 => Ext.of_same s1 _ _ hs) (fun i acc _ => acc = List.replicate i (.bl true)) (fun _ _ _ _ _ h => h) rfl (fun i x H1 H2 acc k k0 hi sm eD hr hy hk _ => ?_) fun H1 acc sm eD hr => ?_
    · obtain ⟨rfl, hx⟩ := hy
      obtain ⟨k1, e1, hxk⟩ := ha.back hx
      rw [List.getElem?_map] at e1
      obtain ⟨e, he1, rfl⟩ := Option.map_eq_some_iff.mp e1
      refine ⟨rfl, lc_yes ?_⟩
      refine ⟨rfl, x, rfl, x, e, rfl, hxk.same sm, he e (List.mem_of_getElem? he1), fun H3 s3 => hk _ _ s3 ?_⟩
      rw [hr, List.replicate_succ']
    · subst hr
      refine ⟨D, List.replicate xs.length true, rfl, ?_, ?_⟩
      · rw [List.map_replicate]
        exact SqL.of eD
      · refine q_bl ?_ (q H1 sm)
        simp
/-- the form of a history -/
def spIsHistoryForm (K : PySem.W.Frag) : Sp := fun vs H Q _ => ∃ (v : V) (es : List Ev), vs = [v] ∧ At K H v (.tup (es.map eE)) ∧ (∀ e ∈ es, EOk e) ∧ es.length ≤ 1000 ∧ ∀ H', Same H H' → Q (.bl true) H'
theorem k_is_history_form (T : Tx K mg) (D : Df K mg "is_history_form" sIsHistoryForm ["thing"]) (F1 : Kn P w K mg base 6 "is_event" ["thing"] (spIsEvent K)) (F2 : Kn P w K mg base 7 "is_tuple_of" ["thing", "is_item"] (spIsTupleOf K mg)) :
    Kn P w K mg base 8 "is_history_form" ["thing"] (spIsHistoryForm K) := by
  obtain ⟨fe, fde, Fe, me, ke, be⟩ := F1.ex
  refine D.kn scIsHistoryForm (fun vs H Q E h => ?_) (fun f cdv A outer s H vs Q E hr h => ?_)
  · obtain ⟨v, es, rfl, _⟩ := h
    rfl
  · obtain ⟨v, es, rfl, hv, he, hl, q⟩ := h
    refine ⟨_, pss_one (ps_ret (pe_kn F2 hr (pa_cons (pv 0) (pa_cons (pe_glob (v := .ref fe) (by rfl) me rfl) pa_nil)))), ?_⟩
    exact ⟨v, rfl, v, fe, es, rfl, hv, he, hl, me, q⟩
end
end M

namespace M
open PySem PySem.Spec PyProof.Rows L2
section
variable {P : Program} {w : World} {K : PySem.W.Frag} {mg : Str → Option Value} {base : Heap}
theorem scOutcomesOf : FnScope ["thing", "state", "call"] ["thing", "state", "call"] (defScope sOutcomesOf) := ⟨rfl, rfl, rfl, by decide +kernel, rfl, by decide +kernel, by decide +kernel⟩
theorem scFirstBelief : FnScope ["hands"] ["hands"] (defScope sFirstBelief) := ⟨rfl, rfl, rfl, by decide +kernel, rfl, by decide +kernel, by decide +kernel⟩
theorem scHandKey : FnScope ["what"] ["what"] (defScope sHandKey) := ⟨rfl, rfl, rfl, by decide +kernel, rfl, by decide +kernel, by decide +kernel⟩
theorem scBeliefKey : FnScope ["belief", "what"] ["belief"] (defScope sBeliefKey) := ⟨rfl, rfl, rfl, by decide +kernel, rfl, by decide +kernel, by decide +kernel⟩
theorem scWithHand : FnScope ["belief", "hand", "what", "state", "hands"] ["belief", "hand", "what"] (defScope sWithHand) := ⟨rfl, rfl, rfl, by decide +kernel, rfl, by decide +kernel, by decide +kernel⟩
theorem Th.out_at {T : Th} (h : TOk T) {s : Nat} {c : Call} (hs : s < T.n) (hc : c ∈ T.calls) : ∃ st lot, T.sts[s]? = some st ∧ st[T.calls.idxOf c]? = some lot ∧ lot = T.out s c := by
  have hs : s < T.sts.length := hs
  have l := h.len T.sts[s] (List.getElem_mem hs)
  have i := List.idxOf_lt_length_iff.mpr hc
  rw [← l] at i
  refine ⟨T.sts[s], T.sts[s][T.calls.idxOf c], List.getElem?_eq_getElem hs, List.getElem?_eq_getElem i, ?_⟩
  unfold Th.out
  simp [hs, i]
theorem idxOf_eC (c : Call) : ∀ l : List Call, (l.map eC).idxOf (eC c) = l.idxOf c
  | [] => rfl
  | d :: l => by
    rw [List.map_cons, List.idxOf_cons, List.idxOf_cons, idxOf_eC c l]
    by_cases e : d = c
    · subst e
      rw [beq_self_eq_true, beq_self_eq_true]
    · rw [beq_eq_false_iff_ne.mpr e, beq_eq_false_iff_ne.mpr fun z => e (eC_inj z)]
/-- the outcomes of a call in a state -/
def spOutcomesOf (K : PySem.W.Frag) : Sp := fun vs H Q _ => ∃ (T : Th) (v u : V) (s : Nat) (c : Call), vs = [v, .int s, u] ∧ Tg K H v T ∧ TOk T ∧ s < T.n ∧ At K H u (eC c) ∧ c ∈ T.calls ∧ ∀ z H', Same H H' → At K H' z (.tup ((T.out s c).map eO)) → Q z H'
theorem k_outcomes_of (T : Tx K mg) (D : Df K mg "outcomes_of" sOutcomesOf ["thing", "state", "call"]) (F1 : Kn P w K mg base 2 "is_count" ["thing"] spIsCount) (F2 : Kn P w K mg base 4 "is_call" ["thing"] (spIsCall K)) :
    Kn P w K mg base 5 "outcomes_of" ["thing", "state", "call"] (spOutcomesOf K) := by
  refine D.kn scOutcomesOf (fun vs H Q E h => ?_) (fun f cdv A outer s H vs Q E hr h => ?_)
  · obtain ⟨T, v, u, s, c, rfl, _⟩ := h
    rfl
  · obtain ⟨Z, v, u, s, c, rfl, hv, hZ, hs, hu, hc, q⟩ := h
    have cok := hZ.cok c hc
    refine ⟨_, pss_cons (ps_if (PW.pt (pw_or (pt_not (pt_val (pe_kn F1 (hr.mono (by decide)) (pa_cons (pv 1) pa_nil)))) (pw_or (pt_cmpR op_ge (pv 1) (pe_callB len_n (by rfl) T.len PySem.boot_len (pa_cons (pe_ix ix_t1 (pv 0) pe_int (fun _ _ => rfl)) pa_nil)) (nomark _))
        (pw_or (pt_not (pt_val (pe_kn F2 hr (pa_cons (pv 2) pa_nil)))) (pw_or1 (pt_cmpR (op_notInN hr.units) (pv 2) (pe_ix ix_t0 (pv 0) pe_int (fun _ _ => rfl)) (by rfl))))))) (pss_one ps_never) pss_nil)
      (pss_one (ps_ret (pe_ix ix_n (pe_ix ix_n (pe_ix ix_t1 (pv 0) pe_int (fun _ _ => rfl)) (pv 1) (fun _ _ => rfl)) (pe_idx (pe_ix ix_t0 (pv 0) pe_int (fun _ _ => rfl)) (pv 2) hr.units) (fun _ _ => rfl)))), ?_⟩
    refine ⟨.int s, rfl, s, rfl, by omega, true, rfl, iteF ?_⟩
    refine ⟨.int s, rfl, v, rfl, Z, hv, rfl, fun y hy => ⟨y, _, rfl, hy.seq, s, _, rfl, rfl, ?_⟩⟩
    have e1 : decide ((((Z.sts.map eSt).length : Nat) : Int) ≤ (s : Int)) = false := decide_eq_false (by
      rw [List.length_map]
      have : s < Z.sts.length := hs
      omega)
    refine ⟨_, rfl, ?_⟩
    rw [e1]
    refine iteF ?_
    refine ⟨u, rfl, u, c, rfl, hu, cok, fun H1 s1 => ⟨true, rfl, iteF ?_⟩⟩
    refine ⟨u, rfl, v, rfl, Z, hv.same s1, rfl, fun y hy => ⟨_, _, hu.same s1, hy.at.seq, by simp [eC, NestedKey.depth, NestedKey.depthAll], ?_⟩⟩
    have e2 : decide (eC c ∈ Z.calls.map eC) = true := decide_eq_true (List.mem_map_of_mem hc)
    refine ⟨_, rfl, ?_⟩
    rw [e2]
    refine iteF ?_
    obtain ⟨st, lot, h1, h2, h3⟩ := Th.out_at hZ hs hc
    refine ⟨v, rfl, Z, hv.same s1, rfl, fun y hy => ⟨.int s, rfl, _, s, eSt st, hy, rfl, by rw [List.getElem?_map, h1]; rfl, fun y2 hy2 => ?_⟩⟩
    refine ⟨v, rfl, Z, hv.same s1, rfl, fun y3 hy3 => ⟨_, hy3, u, rfl, eC c, hy3, hu.same s1, List.mem_map_of_mem hc, by simp [eC, NestedKey.depth, NestedKey.depthAll], ?_⟩⟩
    refine ⟨_, _, .tup (lot.map eO), hy2, rfl, ?_, fun z hz => ?_⟩
    · rw [idxOf_eC, List.getElem?_map, h2]
      rfl
    · rw [h3] at hz
      exact q z H1 s1 hz
/-- the belief of one hand ahead of all -/
def spFirstBelief (K : PySem.W.Frag) : Sp := fun vs H Q _ => vs = [.int 1] ∧ ∀ z H', Same H H' → At K H' z (eB (0, .idle)) → Q z H'
/-- what a hand has, as a tuple -/
def spHandKey (K : PySem.W.Frag) : Sp := fun vs H Q _ => ∃ v x, vs = [v] ∧ At K H v (eW x) ∧ WOk x ∧ ∀ z H', Same H H' → At K H' z (kW x) → Q z H'
theorem k_hand_key (T : Tx K mg) (D : Df K mg "hand_key" sHandKey ["what"]) : Kn P w K mg base 1 "hand_key" ["what"] (spHandKey K) := by
  refine D.kn scHandKey (fun vs H Q E h => ?_) (fun f cdv A outer s H vs Q E hr h => ?_)
  · obtain ⟨v, x, rfl, _⟩ := h
    rfl
  · obtain ⟨v, x, rfl, hv, hx, q⟩ := h
    refine ⟨_, pss_one (ps_ret (pe_ifExp (pt_cmp (pc_isN (pv 0))) (pe_tupN (pa_cons pe_int pa_nil)) (pe_ifExp (pt_cmpR (op_eqN hr.units) (pe_ix ix_n (pv 0) pe_int (fun _ _ => rfl)) (pe_gs T.asks) (nomark _))
      (pe_tupN (pa_cons pe_int (StX.pa_star (pe_slice sl_n (pv 0) (po_some pe_int) po_none) pa_nil))) (pe_tupN (pa_cons pe_int (pa_cons (pe_ix ix_n (pv 0) pe_int (fun _ _ => rfl)) pa_nil)))))), ?_⟩
    have s1 : PyData.strOk "asks" = true := by decide +kernel
    cases x with
    | idle =>
      cases hv
      refine ⟨.non, rfl, true, rfl, iteT ?_⟩
      exact ⟨[.num 0], .one (.int 0), by decide, fun z H1 s1 hz => q z H1 s1 hz⟩
    | asks c =>
      obtain ⟨a, xs, rfl, hs, hr2⟩ := hv.tup_inv
      refine ⟨.ref a, rfl, false, rfl, iteF ?_⟩
      refine ⟨.ref a, rfl, _, 0, _, hv, rfl, rfl, fun y hy => ?_⟩
      refine ⟨.text "asks", .text "asks", hy, .str _ s1, by decide, _, rfl, iteT ?_⟩
      refine ⟨.ref a, rfl, 1, rfl, _, some 1, none, hv, rfl, rfl, fun y2 H1 s1 hy2 => ?_⟩
      obtain ⟨b, ys, rfl, hb, hy3⟩ := hy2.tup_inv
      refine ⟨b, ys, rfl, .inl hb, ⟨_, .cons (.int 1) (by rw [List.append_nil]; exact hy3), by simp [cutK], fun z H2 s2 hz => q z H2 (s1.trans s2) hz⟩⟩
    | has r =>
      obtain ⟨a, xs, rfl, hs, hr2⟩ := hv.tup_inv
      refine ⟨.ref a, rfl, false, rfl, iteF ?_⟩
      refine ⟨.ref a, rfl, _, 0, _, hv, rfl, rfl, fun y hy => ?_⟩
      have nh : decide ((NestedKey.text "has") = .text "asks") = false := by decide +kernel
      refine ⟨.text "has", .text "asks", hy, .str _ s1, by decide, _, rfl, ?_⟩
      rw [nh]
      refine iteF ?_
      refine ⟨.ref a, rfl, _, 1, _, hv, rfl, rfl, fun y hy => ?_⟩
      exact ⟨[.num 2, .num r], .two (.int 2) hy, by simp, fun z H1 s1 hz => q z H1 s1 hz⟩
/-- a belief as a tuple that has an order -/
def spBeliefKey (K : PySem.W.Frag) : Sp := fun vs H Q _ => ∃ v b, vs = [v] ∧ At K H v (eB b) ∧ BOk b ∧ ∀ z H', Same H H' → At K H' z (kB b) → Q z H'
theorem k_belief_key (T : Tx K mg) (D : Df K mg "belief_key" sBeliefKey ["belief"]) (F : Kn P w K mg base 1 "hand_key" ["what"] (spHandKey K)) : Kn P w K mg base 2 "belief_key" ["belief"] (spBeliefKey K) := by
  refine D.kn scBeliefKey (fun vs H Q E h => ?_) (fun f cdv A outer s H vs Q E hr h => ?_)
  · obtain ⟨v, x, rfl, _⟩ := h
    rfl
  · obtain ⟨v, ⟨s, x⟩, rfl, hv, hx, q⟩ := h
    refine ⟨_, pss_one (ps_ret (pe_tupN (pa_cons (pe_ix ix_n (pv 0) pe_int (fun _ _ => rfl)) (pa_cons (pe_callTy tuple_n (by rfl) T.tuple (by decide +kernel) (pa_cons
      (pe_lc (own := [("what", 1)]) (g := gName 1) (tt := tYes) rfl scBeliefKey.nd (pi_tup (pe_ix ix_n (pv 0) pe_int (fun _ _ => rfl))) (blkOk_by (N := ["belief", "what"]) (sc := defScope sBeliefKey) (by decide +kernel)) (fun _ _ _ _ _ => pg_name (i := 1) scBeliefKey.nd rfl (Or.inl rfl)) (fun _ _ _ _ _ => pts_nil)
          (fun _ _ _ _ _ => pe_kn F hr (pa_cons (pv 1) pa_nil))) pa_nil)) pa_nil)))), ?_⟩
    refine ⟨v, rfl, _, 0, _, hv, rfl, rfl, fun y hy => ?_⟩
    refine ⟨v, rfl, _, 1, _, hv, rfl, rfl, fun y2 hy2 => ?_⟩
    obtain ⟨a, xs, rfl, hs, ha⟩ := hy2.tup_inv
    refine ⟨a, rfl, ⟨_, hs⟩, fun D nD => ?_⟩
    have hl := ha.length
    have hl1 : xs.length = 1 := hl
    refine lc_acc (K := K) (walk_tup (xs := xs)) nD (by omega) (fun H1 s1 => Ext.of_same s1 _ _ hs) (fun i acc H1 => Ats K H1 acc (([eW x].take i).map whatK)) (fun i acc H1 H2 e h => h.ext e) .nil (fun i z H1 H2 acc k k0 hi sm eD hr2 hz hk _ => ?_) fun H1 acc sm eD hr2 => ?_
    · obtain ⟨rfl, hz⟩ := hz
      obtain ⟨k1, e1, hzk⟩ := ha.back hz
      have i0 : i = 0 := by omega
      subst i0
      obtain rfl : eW x = k1 := Option.some.inj e1
      refine ⟨rfl, lc_yes ?_⟩
      refine ⟨z, rfl, z, x, rfl, hzk.same sm, hx.2, fun u H3 s3 hu => hk u H3 s3 ?_⟩
      have e2 : whatK (eW x) = kW x := by
        have nh : ¬ (("has" : Str) = "asks") := by decide +kernel
        cases x <;> simp [whatK, eW, kW, nh]
      show Ats K H3 ([] ++ acc ++ [u]) _
      rw [List.take_of_length_le (by simp), List.map_singleton, e2]
      cases hr2
      exact .one hu
    · rw [hl1, List.take_of_length_le (by simp), List.map_singleton] at hr2
      have e2 : whatK (eW x) = kW x := by
        have nh : ¬ (("has" : Str) = "asks") := by decide +kernel
        cases x <;> simp [whatK, eW, kW, nh]
      rw [e2] at hr2
      refine ⟨.ref D, _, rfl, Seq.lst (SqL.of eD) hr2, by simp, fun u H2 s2 hu => ?_⟩
      refine ⟨[.num s, .tup [kW x]], .two ((hy.same sm).same s2) hu, by simp, fun z H3 s3 hz => q z H3 ((sm.trans s2).trans s3) hz⟩
/-- a belief in which the hand has something else -/
def spWithHand (K : PySem.W.Frag) : Sp := fun vs H Q _ => ∃ (v u : V) (s : Nat) (x y : Wt), vs = [v, .int 0, u] ∧ At K H v (eB (s, x)) ∧ At K H u (eW y) ∧ ∀ z H', Same H H' → At K H' z (eB (s, y)) → Q z H'
theorem k_with_hand (T : Tx K mg) (D : Df K mg "with_hand" sWithHand ["belief", "hand", "what"]) : Kn P w K mg base 1 "with_hand" ["belief", "hand", "what"] (spWithHand K) := by
  refine D.kn scWithHand (fun vs H Q E h => ?_) (fun f cdv A outer s H vs Q E hr h => ?_)
  · obtain ⟨v, u, s, x, y, rfl, _⟩ := h
    rfl
  · obtain ⟨v, u, s, x, y, rfl, hv, hu, q⟩ := h
    refine ⟨_, pss_cons (ps_asg (pv 0) (pg_tup rfl (pgs_cons (pg_name (i := 3) scWithHand.nd rfl (Or.inl rfl)) (pgs_cons (pg_name (i := 4) scWithHand.nd rfl (Or.inl rfl)) pgs_nil))))
      (pss_one (ps_ret (pe_tupN (pa_cons (pv 3) (pa_cons (pe_op op_catN (pe_op op_catN (pe_slice sl_n (pv 4) po_none (po_some (pv 1))) (pe_tupN (pa_cons (pv 2) pa_nil))) (pe_slice sl_n (pv 4) (po_some (pe_op op_add (pv 1) pe_int)) po_none)) pa_nil))))), ?_⟩
    obtain ⟨a, xs, rfl, hs, ha⟩ := hv.tup_inv
    cases ha with
    | cons h1 ha => cases ha with
      | @cons vh _ _ _ h2 ha =>
        cases ha
        obtain rfl := h1.num_inv
        refine ⟨.ref a, rfl, a, _, rfl, hs, rfl, _, _, rfl, _, _, rfl, rfl, ?_⟩
        refine ⟨_, rfl, ?_⟩
        refine ⟨_, rfl, .int 0, rfl, 0, rfl, [eW x], none, some 0, h2, rfl, rfl, fun p H1 s1 hp => ?_⟩
        refine ⟨u, rfl, [eW y], .one (hu.same s1), by simp, fun p2 H2 s2 hp2 => ?_⟩
        refine ⟨_, _, hp.same s2, hp2, by simp [cutK], fun p3 H3 s3 hp3 => ?_⟩
        refine ⟨_, rfl, .int 0, rfl, 0, 1, rfl, rfl, _, rfl, _, some 1, none, ((h2.same s1).same s2).same s3, rfl, rfl, fun p4 H4 s4 hp4 => ?_⟩
        refine ⟨_, _, hp3.same s4, hp4, by simp [cutK], fun p5 H5 s5 hp5 => ?_⟩
        exact ⟨[.num s, .tup [eW y]], .two (.int s) hp5, by simp, fun z H6 s6 hz => q z H6 (((((s1.trans s2).trans s3).trans s4).trans s5).trans s6) hz⟩
end
end M

namespace M
open PySem PySem.Spec PyProof.Rows L2
section
variable {P : Program} {w : World} {K : PySem.W.Frag} {mg : Str → Option Value} {base : Heap}
theorem scOrdered : FnScope ["beliefs", "belief"] ["beliefs"] (defScope sOrdered) := ⟨rfl, rfl, rfl, by decide +kernel, rfl, by decide +kernel, by decide +kernel⟩
theorem scTaken : FnScope ["thing", "belief", "found", "hand", "what", "result", "to"] ["thing", "belief"] (defScope sTaken) := ⟨rfl, rfl, rfl, by decide +kernel, rfl, by decide +kernel, by decide +kernel⟩
theorem scClosed : FnScope ["thing", "beliefs", "found", "line", "more", "belief"] ["thing", "beliefs"] (defScope sClosed) := ⟨rfl, rfl, rfl, by decide +kernel, rfl, by decide +kernel, by decide +kernel⟩
theorem k_first_belief (T : Tx K mg) (D : Df K mg "first_belief" sFirstBelief ["hands"]) : Kn P w K mg base 1 "first_belief" ["hands"] (spFirstBelief K) := by
  refine D.kn scFirstBelief (fun vs H Q E h => ?_) (fun f cdv A outer s H vs Q E hr h => ?_)
  · obtain ⟨rfl, _⟩ := h
    rfl
  · obtain ⟨rfl, q⟩ := h
    refine ⟨_, pss_one (ps_ret (pe_tupN (pa_cons pe_int (pa_cons (pe_op op_mul1 (pe_tupN (pa_cons pe_non pa_nil)) (pv 0)) pa_nil)))), ?_⟩
    refine ⟨[.none], .one .non, by decide, fun p H1 s1 hp => ⟨.int 1, rfl, _, hp, rfl, ?_⟩⟩
    exact ⟨[.num 0, .tup [.none]], .two (.int 0) hp, by decide, fun z H2 s2 hz => q z H2 (s1.trans s2) hz⟩
/-- beliefs in a list, or as keys of a dict -/
def Bels (P : Program) (w : World) (K : PySem.W.Frag) (H : Hp) (v : V) (bs : List Bel) : Prop := (∃ a xs, v = .ref a ∧ SqL K H a xs ∧ Ats K H xs (bs.map eB)) ∨ ∃ d kvs, v = .ref d ∧ DK P w K H d kvs ∧ kvs.map (·.1) = bs.map eB
/-- the lot of some beliefs -/
def spOrdered (P : Program) (w : World) (K : PySem.W.Frag) : Sp := fun vs H Q _ => ∃ (v : V) (bs : List Bel), vs = [v] ∧ Bels P w K H v bs ∧ (∀ b ∈ bs, BOk b) ∧ bs.length ≤ 10000 ∧
  ∀ z ls H', Same H H' → Lot ls → (∀ b, b ∈ ls ↔ b ∈ bs) → At K H' z (.tup (ls.map eB)) → Q z H'
theorem ats_bel {K : PySem.W.Frag} {H : Hp} {xs : List V} {bs : List Bel} (h : Ats K H xs (bs.map eB)) {i : Nat} {x : V} (hx : xs[i]? = some x) : ∃ b, bs[i]? = some b ∧ At K H x (eB b) := by
  obtain ⟨k, e, hk⟩ := h.back hx
  rw [List.getElem?_map] at e
  obtain ⟨b, hb, rfl⟩ := Option.map_eq_some_iff.mp e
  exact ⟨b, hb, hk⟩
theorem k_ordered (T : Tx K mg) (D : Df K mg "ordered" sOrdered ["beliefs"]) (F : Kn P w K mg base 2 "belief_key" ["belief"] (spBeliefKey K)) : Kn P w K mg base 5 "ordered" ["beliefs"] (spOrdered P w K) := by
  refine D.kn scOrdered (fun vs H Q E h => ?_) (fun f cdv A outer s H vs Q E hr h => ?_)
  · obtain ⟨v, bs, rfl, _⟩ := h
    rfl
  · obtain ⟨v, bs, rfl, hv, hb, hl, q⟩ := h
    obtain ⟨fk, hfk, KF⟩ := key_of_kn (X := (cxOf CX0 P w K mg base ["beliefs", "belief"] "ordered" (defScope sOrdered) f cdv A outer s H E).nox) (pre := fun k => ∃ b, k = eB b ∧ BOk b) (key := belK) F rfl rfl rfl rfl rfl hr
      (fun v k H Q ha ⟨b, e, hb⟩ q => ⟨v, b, rfl, e ▸ ha, hb, fun z H' s1 hz => q z H' s1 (by rw [e, belK_e]; exact hz)⟩)
    -- behind the dict
    have tail : ∀ (D0 : Addr) (H2 : Hp) (kvs : List (NK × V)) (ls : List Bel), Same H H2 → DK P w K H2 D0 kvs → kvs.map (·.1) = ls.map eB → ls.Nodup → (∀ b, b ∈ ls ↔ b ∈ bs) → ls.length ≤ bs.length →
        rSortK (cxOf CX0 P w K mg base ["beliefs", "belief"] "ordered" (defScope sOrdered) f cdv A outer s H E).nox belK rkN [.ref D0] [.ref fk] H2 (fun x H3 => ∃ v ks, [x] = [v] ∧ Seq K H3 v ks ∧ ks.length ≤ 1000000 ∧ ∀ u H', Same H3 H' → At K H' u (.tup ks) → Q u H') := by
      intro D0 H2 kvs ls sm hD e n m l
      have okl : ∀ b ∈ ls, BOk b := fun b z => hb b ((m b).mp z)
      have hkl : kvs.length = ls.length := by
        have := congrArg List.length e
        simpa using this
      refine ⟨D0, fk, kvs, _, rfl, rfl, hD, KF, fun k hk => ?_, ?_, by omega, fun p ys H3 np s3 hp ay => ?_⟩
      · rw [e] at hk
        obtain ⟨b, hb', rfl⟩ := List.mem_map.mp hk
        exact ⟨b, rfl, okl b hb'⟩
      · rw [e]
        exact b_ranked okl
      · rw [e, byRk_map] at ay
        have er : (fun b : Bel => rkN (belK (eB b))) = rB := by
          funext b
          rw [belK_e, rkN_k]
        rw [er] at ay
        refine ⟨.ref p, _, rfl, Seq.lst (SqL.of hp) ay, by rw [List.length_map, byRk_length]; omega, fun u H4 s4 hu => q u (byRk rB ls) H4 ((sm.trans s3).trans s4) (byRk_strict n fun a ha b hb' => rB_inj (okl a ha) (okl b hb')) (fun b => ?_) hu⟩
        rw [byRk_mem, m]
    rcases hv with ⟨a, xs, rfl, hs, ha⟩ | ⟨d, kvs, rfl, ⟨o, hd⟩, e⟩
    · refine ⟨_, pss_one (ps_ret (pe_callTy tuple_n (by rfl) T.tuple boot_tuple (pa_cons (pe_callBK (sorted_key hr.units rfl belK rkN) (by rfl) T.sorted boot_sorted (pa_cons (pe_ndc (own := [("belief", 1)]) (g := gName 1) (tt := tYes) hr.units rfl scOrdered.nd (pi_list (pv 0)) (blkOk_by (N := ["beliefs", "belief"]) (sc := defScope sOrdered) (by decide +kernel))
        (fun _ _ _ _ _ => ⟨pg_name (i := 1) scOrdered.nd rfl (Or.inl rfl), pts_nil, pv 1, pe_bl⟩)) pa_nil) (pk_cons (pe_glob (v := .ref fk) (by rfl) hfk rfl) pk_nil)) pa_nil))), ?_⟩
      refine ⟨.ref a, rfl, a, rfl, ⟨_, hs⟩, fun D0 o0 nD h00 => ?_⟩
      have hl2 : xs.length = bs.length := by rw [ha.length, List.length_map]
      refine bels_dc (bs := bs) (hl2 ▸ (walk_list (xs := xs))) nD h00 (by omega) (fun H1 s1 => s1.seq hs) (fun i H1 x H2 hi sm y => ⟨y.1, ?_⟩) (fun _ => rfl) (fun _ => rfl) fun H2 kvs ls sm hD e n m l => tail D0 H2 kvs ls sm hD e n m l
      exact ats_bel (ha.same sm) y.2
    · refine ⟨_, pss_one (ps_ret (pe_callTy tuple_n (by rfl) T.tuple boot_tuple (pa_cons (pe_callBK (sorted_key hr.units rfl belK rkN) (by rfl) T.sorted boot_sorted (pa_cons (pe_ndc (own := [("belief", 1)]) (g := gName 1) (tt := tYes) hr.units rfl scOrdered.nd (pi_n (pv 0)) (blkOk_by (N := ["beliefs", "belief"]) (sc := defScope sOrdered) (by decide +kernel))
        (fun _ _ _ _ _ => ⟨pg_name (i := 1) scOrdered.nd rfl (Or.inl rfl), pts_nil, pv 1, pe_bl⟩)) pa_nil) (pk_cons (pe_glob (v := .ref fk) (by rfl) hfk rfl) pk_nil)) pa_nil))), ?_⟩
      refine ⟨.ref d, rfl, d, o, kvs, rfl, hd, fun D0 o0 nD h00 => ?_⟩
      have hl2 : kvs.length = bs.length := by
        have := congrArg List.length e
        simpa using this
      refine bels_dc (bs := bs) (hl2 ▸ (walkN (kvs := kvs))) nD h00 (by omega) (fun H1 s1 => hd.same s1) (fun i H1 x H2 hi sm y => ⟨y.1, ?_⟩) (fun _ => rfl) (fun _ => rfl) fun H2 kvs ls sm hD e n m l => tail D0 H2 kvs ls sm hD e n m l
      obtain ⟨_, k, v, hk, hx⟩ := y
      have : (kvs.map (·.1))[i]? = some k := by rw [List.getElem?_map, hk]; rfl
      rw [e, List.getElem?_map] at this
      obtain ⟨b, hb', rfl⟩ := Option.map_eq_some_iff.mp this
      exact ⟨b, hb', hx⟩
end
end M

namespace M
open PySem PySem.Spec PyProof.Rows L2
section
variable {P : Program} {w : World} {K : PySem.W.Frag} {mg : Str → Option Value} {base : Heap}
/-- a belief that the thing may come to -/
def BT (T : Th) (b : Bel) : Prop := b.1 < T.n ∧ WOk b.2 ∧ ∀ c, b.2 = .asks c → c ∈ T.calls
/-- the beliefs behind one outcome more -/
def tak (T : Th) (b : Bel) : List Bel := match b.2 with
  | .asks c => (T.out b.1 c).map fun o => (o.2, .has o.1)
  | _ => []
theorem Th.out_ok {T : Th} (h : TOk T) {s : Nat} {c : Call} (hs : s < T.n) (hc : c ∈ T.calls) : ∀ o ∈ T.out s c, o.1 ≤ 9 ∧ o.2 < T.n := by
  obtain ⟨st, lot, h1, h2, h3⟩ := Th.out_at h hs hc
  rw [← h3]
  exact fun o ho => h.ok st (List.mem_of_getElem? h1) lot (List.mem_of_getElem? h2) o ho
theorem Th.out_len {T : Th} (h : TOk T) {s : Nat} {c : Call} (hs : s < T.n) (hc : c ∈ T.calls) : (T.out s c).length ≤ 12 := by
  obtain ⟨st, lot, h1, h2, h3⟩ := Th.out_at h hs hc
  rw [← h3]
  exact h.lot st (List.mem_of_getElem? h1) lot (List.mem_of_getElem? h2)
theorem tak_bt {T : Th} (h : TOk T) {b : Bel} (hb : BT T b) : ∀ d ∈ tak T b, BT T d := by
  obtain ⟨s, x⟩ := b
  intro d hd
  cases x with
  | idle => exact absurd hd (by simp [tak])
  | has r => exact absurd hd (by simp [tak])
  | asks c =>
    simp only [tak] at hd
    obtain ⟨o, ho, rfl⟩ := List.mem_map.mp hd
    obtain ⟨h1, h2⟩ := Th.out_ok h hb.1 (hb.2.2 c rfl) o ho
    exact ⟨h2, h1, fun c e => by cases e⟩
theorem tak_len {T : Th} (h : TOk T) {b : Bel} (hb : BT T b) : (tak T b).length ≤ 12 := by
  obtain ⟨s, x⟩ := b
  cases x with
  | idle => simp [tak]
  | has r => simp [tak]
  | asks c =>
    simp only [tak, List.length_map]
    exact Th.out_len h hb.1 (hb.2.2 c rfl)
theorem BT.ok {T : Th} (h : TOk T) {b : Bel} (hb : BT T b) : BOk b := by
  have h1 : b.1 < T.sts.length := hb.1
  have := h.four
  exact ⟨by omega, hb.2.1⟩
def spTaken (K : PySem.W.Frag) : Sp := fun vs H Q _ => ∃ (T : Th) (v u : V) (b : Bel), vs = [v, u] ∧ Tg K H v T ∧ TOk T ∧ BT T b ∧ At K H u (eB b) ∧ ∀ p ys H', H p = none → Same H H' → H' p = some (.lst ys) → Ats K H' ys ((tak T b).map eB) → Q (.ref p) H'
theorem k_taken (T : Tx K mg) (D : Df K mg "taken" sTaken ["thing", "belief"]) (F1 : Kn P w K mg base 5 "outcomes_of" ["thing", "state", "call"] (spOutcomesOf K)) (F2 : Kn P w K mg base 1 "with_hand" ["belief", "hand", "what"] (spWithHand K)) :
    Kn P w K mg base 6 "taken" ["thing", "belief"] (spTaken K) := by
  refine D.kn scTaken (fun vs H Q E h => ?_) (fun f cdv A outer s H vs Q E hr h => ?_)
  · obtain ⟨Z, v, u, b, rfl, _⟩ := h
    rfl
  · obtain ⟨Z, v, u, ⟨sn, x⟩, rfl, hv, hZ, hb, hu, q⟩ := h
    refine ⟨_, pss_cons (ps_set (i := 2) scTaken.nd rfl (Or.inl rfl) (pe_lst pa_nil)) (pss_cons (ps_for PassesOwn.never rfl (pi_enumT (by rfl) T.enumerate (pa_cons (pe_ix ix_n (pv 1) pe_int (fun _ _ => rfl)) pa_nil)) (pg_tup rfl (pgs_cons (pg_name (i := 3) scTaken.nd rfl (Or.inl rfl)) (pgs_cons (pg_name (i := 4) scTaken.nd rfl (Or.inl rfl)) pgs_nil)))
        (pss_one (ps_if (PW.pt (pw_and (pt_cmp (pc_notN (pv 4))) (pw_and1 (pt_cmpR (op_eqN hr.units) (pe_ix ix_n (pv 4) pe_int (fun _ _ => rfl)) (pe_gs T.asks) (nomark _)))))
          (pss_one (ps_for PassesOwn.never rfl (pi_tup (pe_kn F1 hr (pa_cons (pv 0) (pa_cons (pe_ix ix_n (pv 1) pe_int (fun _ _ => rfl)) (pa_cons (pe_slice sl_n (pv 4) (po_some pe_int) po_none) pa_nil))))) (pg_tup rfl (pgs_cons (pg_name (i := 5) scTaken.nd rfl (Or.inl rfl)) (pgs_cons (pg_name (i := 6) scTaken.nd rfl (Or.inl rfl)) pgs_nil)))
            (pss_one (ps_expr (pe_bm F.plainAttrs_list F.slot_list_append F.type_list_append mt_append (pv 2) (pa_cons (pe_kn F2 (hr.mono (by decide)) (pa_cons (pe_tupN (pa_cons (pv 6) (pa_cons (pe_ix ix_n (pv 1) pe_int (fun _ _ => rfl)) pa_nil))) (pa_cons (pv 3) (pa_cons (pe_tupN (pa_cons (pe_gs T.has) (pa_cons (pv 5) pa_nil))) pa_nil)))) pa_nil)))))) pss_nil)))
      (pss_one (ps_ret (pv 2)))), ?_⟩
    refine ⟨by decide, fun D nD => ?_⟩
    have ka : PyData.strOk "asks" = true := by decide +kernel
    have kh : PyData.strOk "has" = true := by decide +kernel
    -- the hands
    have s0 : Same H (upd H D (.lst [])) := same_upd nD
    refine ⟨u, rfl, _, 1, .tup [eW x], hu.same s0, rfl, rfl, fun y hy => ?_⟩
    obtain ⟨a, xs, rfl, hs, ha⟩ := hy.tup_inv
    have hl1 : xs.length = 1 := ha.length
    refine ⟨a, xs, rfl, hs, ?_⟩
    refine for_it (walk_enumT (xs := xs)) (fun i σ H' => ∃ p1 p2 p3 p4, σ = [some v, some u, some (.ref D), p1, p2, p3, p4] ∧ Same H H' ∧ Ext K (upd H D (.lst [])) H' ∧ ∃ ys, H' D = some (.lst ys) ∧ Ats K H' ys ((if i = 0 then [] else tak Z (sn, x)).map eB)) ?_ ?_ ?_ ?_
    · exact ⟨none, none, none, none, rfl, s0, Ext.refl _, [], upd_same, .nil⟩
    · rintro i σ H1 _ ⟨_, _, _, _, _, _, h1, _⟩
      exact h1 _ _ hs
    · rintro i z σ H1 H1' hi ⟨p1, p2, p3, p4, rfl, sm, ex, ys, hD, hy⟩ ⟨Tp, z1, z2, rfl, nT, rfl, e1, e2⟩
      have i0 : i = 0 := by omega
      subst i0
      obtain rfl : V.int 0 = z1 := Option.some.inj e1
      obtain ⟨k1, ek, hk⟩ := (ha.ext ex).back e2
      obtain rfl : eW x = k1 := Option.some.inj ek
      obtain rfl : ys = [] := by
        cases hy
        rfl
      have sT : Same H1 (upd H1 Tp (.tup [.int (0 : Nat), z2])) := same_upd nT
      have sm1 := sm.trans sT
      have exT : Ext K (upd H D (.lst [])) (upd H1 Tp (.tup [.int (0 : Nat), z2])) := ex.trans (.of_same sT)
      have hk := hk.same sT
      have hD1 := sT _ _ hD
      have hu1 := hu.same sm1
      have hv1 := hv.same sm1
      have hT : SqT K (upd H1 Tp (.tup [.int (0 : Nat), z2])) Tp [.int 0, z2] := SqT.of upd_same
      generalize upd H1 Tp (.tup [.int (0 : Nat), z2]) = H2 at *
      refine ⟨Tp, [.int 0, z2], rfl, hT, rfl, _, _, rfl, _, _, rfl, rfl, ?_⟩
      cases x with
      | idle =>
        obtain rfl := hk.none_inv
        refine ⟨.non, rfl, false, rfl, iteF (iteF ?_)⟩
        exact ⟨_, _, _, _, rfl, sm1, exT, [], hD1, .nil⟩
      | has r =>
        obtain ⟨a2, zs, rfl, hs2, hr2⟩ := hk.tup_inv
        refine ⟨.ref a2, rfl, true, rfl, iteT ?_⟩
        have nh : decide ((NestedKey.text "has") = .text "asks") = false := by decide +kernel
        refine ⟨.ref a2, rfl, _, 0, _, hk, rfl, rfl, fun y hy => ⟨.text "has", .text "asks", hy, .str _ ka, by decide, _, rfl, ?_⟩⟩
        rw [nh]
        exact iteF ⟨_, _, _, _, rfl, sm1, exT, [], hD1, .nil⟩
      | asks c =>
        obtain ⟨a2, zs, rfl, hs2, hr2⟩ := hk.tup_inv
        refine ⟨.ref a2, rfl, true, rfl, iteT ?_⟩
        refine ⟨.ref a2, rfl, _, 0, _, hk, rfl, rfl, fun y hy => ⟨.text "asks", .text "asks", hy, .str _ ka, by decide, _, rfl, iteT ?_⟩⟩
        refine ⟨v, rfl, u, rfl, _, 0, .num sn, hu1, rfl, rfl, fun y hy => ?_⟩
        obtain rfl := hy.num_inv
        refine ⟨.ref a2, rfl, 1, rfl, _, some 1, none, hk, rfl, rfl, fun y3 H3 s3 hy3 => ?_⟩
        refine ⟨Z, v, y3, sn, c, rfl, hv1.same s3, hZ, hb.1, hy3, hb.2.2 c rfl, fun zo H4 s4 hzo => ?_⟩
        obtain ⟨ao, os, rfl, hos, hat⟩ := hzo.tup_inv
        have s34 := s3.trans s4
        have ex4 := exT.trans (.of_same s34)
        have sm4 := sm1.trans s34
        have hl2 : os.length = (Z.out sn c).length := by rw [hat.length, List.length_map]
        have hl3 : (Z.out sn c).length ≤ 12 := Th.out_len hZ hb.1 (hb.2.2 c rfl)
        refine ⟨ao, rfl, ⟨_, hos⟩, ?_⟩
        refine for_it (walk_tup (xs := os)) (fun j σ H' => ∃ p3 p4, σ = [some v, some u, some (.ref D), some (.int 0), some (.ref a2), p3, p4] ∧ Same H H' ∧ Ext K H4 H' ∧ ∃ ys, H' D = some (.lst ys) ∧ Ats K H' ys ((((Z.out sn c).take j).map fun o => ((o.2, .has o.1) : Bel)).map eB)) ?_ ?_ ?_ ?_
        · exact ⟨_, _, rfl, sm4, Ext.refl _, [], s34 _ _ hD1, .nil⟩
        · rintro j σ H5 _ ⟨_, _, _, _, h1, _⟩
          exact h1 _ _ hos
        · rintro j z σ H5 _ hj ⟨p3, p4, rfl, sm5, ex5, ys, hD5, hy5⟩ ⟨rfl, ez⟩
          obtain ⟨k2, ek2, hz⟩ := (hat.ext ex5).back ez
          rw [List.getElem?_map] at ek2
          obtain ⟨⟨r, t⟩, ho, rfl⟩ := Option.map_eq_some_iff.mp ek2
          obtain ⟨a3, zs3, rfl, hs3, hr3⟩ := hz.tup_inv
          cases hr3 with
          | @cons q1 _ _ _ g1 hr3 =>
            cases hr3 with
            | @cons q2 _ _ _ g2 hr3 =>
              cases hr3
              obtain rfl := g1.num_inv
              obtain rfl := g2.num_inv
              refine ⟨a3, _, rfl, hs3, rfl, _, _, rfl, _, _, rfl, rfl, ?_⟩
              refine ⟨.ref D, rfl, .inl ⟨rfl, ys, SqL.of hD5⟩, ?_⟩
              refine ⟨_, rfl, u, rfl, _, 1, .tup [eW (.asks c)], hu.same sm5, rfl, rfl, fun y4 hy4 => ?_⟩
              refine ⟨[.num t, .tup [eW (.asks c)]], .two (.int t) hy4, by simp, fun p5 H6 s6 hp5 => ?_⟩
              refine ⟨.int 0, rfl, _, rfl, [.text "has", .num r], .two (.str _ kh) (.int r), by simp, fun p6 H7 s7 hp6 => ?_⟩
              refine ⟨p5, p6, t, .asks c, .has r, rfl, hp5.same s7, hp6, fun p7 H8 s8 hp7 => ?_⟩
              have s68 := (s6.trans s7).trans s8
              have hD8 := s68 _ _ hD5
              refine ⟨D, ys, p7, rfl, rfl, hD8, ?_, ?_⟩
              · have := hy5.length
                rw [List.length_map, List.length_map, List.length_take] at this
                exact small1000 (by omega)
              · refine ⟨_, _, rfl, fun b o e => ?_, (ex5.trans (.of_same s68)).trans (Ext.mut hD8 trivial), ys ++ [p7], upd_same, ?_⟩
                · rw [upd_ne (ne_of_none e nD)]
                  exact s68 _ _ (sm5 _ _ e)
                · have tk : (Z.out sn c).take (j + 1) = (Z.out sn c).take j ++ [(r, t)] := by
                    rw [List.take_add_one, ho]
                    rfl
                  rw [tk, List.map_append, List.map_append]
                  exact ((hy5.same s68).append (.one hp7)).ext (Ext.mut hD8 trivial)
        · rintro σ H5 ⟨p3, p4, rfl, sm5, ex5, ys, hD5, hy5⟩
          rw [hl2, List.take_length] at hy5
          exact ⟨_, _, _, _, rfl, sm5, ex4.trans ex5, ys, hD5, hy5⟩
    · rintro σ H1 ⟨p1, p2, p3, p4, rfl, sm, ex, ys, hD, hy⟩
      refine ⟨_, rfl, ?_⟩
      rw [hl1] at hy
      exact q D ys H1 nD sm hD hy
end
end M

namespace M
open PySem PySem.Spec PyProof.Rows L2
theorem nodup_len {α : Type} [DecidableEq α] : ∀ {l m : List α}, l.Nodup → (∀ a ∈ l, a ∈ m) → l.length ≤ m.length
  | [], _, _, _ => Nat.zero_le _
  | a :: l, m, h, s => by
    obtain ⟨h1, h2⟩ := List.nodup_cons.mp h
    have ha := s a List.mem_cons_self
    have := nodup_len (l := l) (m := m.erase a) h2 fun b hb => (List.mem_erase_of_ne fun e => h1 (by rw [← e]; exact hb)).mpr (s b (List.mem_cons_of_mem _ hb))
    rw [List.length_erase_of_mem ha] at this
    have := List.length_pos_of_mem ha
    simp only [List.length_cons]
    omega
section
variable {X : Cx}
/-- a tuple display within a block -/
theorem pe_tupK {K : PySem.W.Frag} {es : List Expr} {pos : Pos} {x1} {t : TA} (hK : X.K = K) (h : PA X es t) : PE X (.Tuple es x1 pos) (tTupN K t) := by
  subst hK
  exact pe_tupN h
theorem ix_nK {K : PySem.W.Frag} (hK : X.K = K) : IxR X (rIxN K) := by
  subst hK
  exact ix_n
theorem op_eqNK {K : PySem.W.Frag} (hK : X.K = K) (hu : X.A.units + 64 < cLine) : OpR X (compareOp .Eq) (rEqN K) := by
  subst hK
  exact op_eqN hu
theorem op_neNK {K : PySem.W.Frag} (hK : X.K = K) (hu : X.A.units + 64 < cLine) : OpR X (compareOp .NotEq) (rNeN K) := by
  subst hK
  exact op_neN hu
theorem op_inNK {K : PySem.W.Frag} (hK : X.K = K) (hu : X.A.units + 64 < cLine) : OpR X (compareOp .In) (rInN K false) := by
  subst hK
  exact op_inN hu
theorem op_notInNK {K : PySem.W.Frag} (hK : X.K = K) (hu : X.A.units + 64 < cLine) : OpR X (compareOp .NotIn) (rInN K true) := by
  subst hK
  exact op_notInN hu
theorem op_catNK {K : PySem.W.Frag} (hK : X.K = K) : OpR X (binaryOp .Add) (rCatN K) := by
  subst hK
  exact op_catN
theorem sl_nK {K : PySem.W.Frag} (hK : X.K = K) : SlR X (rSlN K) := by
  subst hK
  exact sl_n
theorem eqv_nil : ∀ ks : List NK, PyData.eqv (.list (NestedKey.datas ks)) (.list []) = decide (ks = [])
  | [] => by simp [NestedKey.datas, PyData.eqv, PyData.eqvAll]
  | k :: ks => by simp [NestedKey.datas, PyData.eqv, PyData.eqvAll]
/-- xs != [], a list of data -/
def rNeL (K : PySem.W.Frag) : R2 := fun x y H Q => ∃ (a b : Addr) (xs : List V) (ks : List NK), x = .ref a ∧ y = .ref b ∧ SqL K H a xs ∧ Ats K H xs ks ∧ SqL K H b [] ∧ Q (.bl (!decide (ks = []))) H
theorem op_neL (hu : X.A.units + 64 < cLine) : OpR X (compareOp .NotEq) (rNeL X.K) := fun pins s σ H x y v u Q I rx ry h => by
  obtain ⟨a, b, xs, ks, rfl, rfl, ha, hr, hb, q⟩ := h
  obtain ⟨as, r1⟩ := Dp.reads I _ _ _ (Dp.lst ha (dps_of ks xs hr)) rx
  obtain ⟨bs, r2⟩ := Dp.reads I _ _ _ (Dp.lst hb (dps_of [] [] .nil)) ry
  refine SeqAt.compareNe_reads r1 r2 (by simp only [PyData.canLay0]; exact lay_datas ks xs hr) (by simp only [PyData.canLay0]; rfl) (by simp only [NestedKey.datas, PyData.depth, PyData.depthAll]; omega) ?_
  have e : PyData.eqv (.list (NestedKey.datas ks)) (.list (NestedKey.datas [])) = decide (ks = []) := eqv_nil ks
  rw [e]
  exact ⟨.bl _, H, I, rfl, q⟩
/-- xs == [], a list of data -/
def rEqL (K : PySem.W.Frag) : R2 := fun x y H Q => ∃ (a b : Addr) (xs : List V) (ks : List NK), x = .ref a ∧ y = .ref b ∧ SqL K H a xs ∧ Ats K H xs ks ∧ SqL K H b [] ∧ Q (.bl (decide (ks = []))) H
theorem op_eqL (hu : X.A.units + 64 < cLine) : OpR X (compareOp .Eq) (rEqL X.K) := fun pins s σ H x y v u Q I rx ry h => by
  obtain ⟨a, b, xs, ks, rfl, rfl, ha, hr, hb, q⟩ := h
  obtain ⟨as, r1⟩ := Dp.reads I _ _ _ (Dp.lst ha (dps_of ks xs hr)) rx
  obtain ⟨bs, r2⟩ := Dp.reads I _ _ _ (Dp.lst hb (dps_of [] [] .nil)) ry
  refine SeqAt.compareEq_reads r1 r2 (by simp only [PyData.canLay0]; exact lay_datas ks xs hr) (by simp only [PyData.canLay0]; rfl) (by simp only [NestedKey.datas, PyData.depth, PyData.depthAll]; omega) ?_
  have e : PyData.eqv (.list (NestedKey.datas ks)) (.list (NestedKey.datas [])) = decide (ks = []) := eqv_nil ks
  rw [e]
  exact ⟨.bl _, H, I, rfl, q⟩
end
end M

namespace M
open PySem PySem.Spec PyProof.Rows L2
/-- beliefs and all that come of them by outcomes taken -/
def cl (T : Th) (bs : List Bel) : List Bel := bs ++ bs.flatMap (tak T)
theorem tak_tak (T : Th) (b d : Bel) (h : d ∈ tak T b) : tak T d = [] := by
  obtain ⟨s, x⟩ := b
  cases x with
  | idle => exact absurd h (by simp [tak])
  | has r => exact absurd h (by simp [tak])
  | asks c =>
    simp only [tak] at h
    obtain ⟨o, _, rfl⟩ := List.mem_map.mp h
    rfl
theorem cl_step {T : Th} {bs : List Bel} {b d : Bel} (hb : b ∈ cl T bs) (hd : d ∈ tak T b) : d ∈ cl T bs := by
  rcases List.mem_append.mp hb with h | h
  · exact List.mem_append_right _ (List.mem_flatMap.mpr ⟨b, h, hd⟩)
  · obtain ⟨c, _, h2⟩ := List.mem_flatMap.mp h
    rw [tak_tak T c b h2] at hd
    cases hd
theorem cl_bt {T : Th} (hT : TOk T) {bs : List Bel} (h : ∀ b ∈ bs, BT T b) : ∀ b ∈ cl T bs, BT T b := by
  intro b hb
  rcases List.mem_append.mp hb with z | z
  · exact h b z
  · obtain ⟨c, h1, h2⟩ := List.mem_flatMap.mp z
    exact tak_bt hT (h c h1) b h2
/-- what holds in the going: ls met, lb still to be gone on from -/
structure CInv (T : Th) (bs ls lb : List Bel) (P : Bel → Prop) : Prop where
  nd : ls.Nodup
  sub : ∀ b ∈ ls, b ∈ cl T bs
  all : ∀ b ∈ bs, b ∈ ls
  open_ : ∀ b ∈ lb, b ∈ ls
  le : lb.length ≤ ls.length
  done : ∀ b ∈ ls, b ∈ lb ∨ P b ∨ ∀ d ∈ tak T b, d ∈ ls
theorem CInv.len {T : Th} {bs ls lb : List Bel} {P : Bel → Prop} (h : CInv T bs ls lb P) : ls.length ≤ (cl T bs).length := nodup_len h.nd h.sub
theorem CInv.add {T : Th} {bs ls lb : List Bel} {P : Bel → Prop} (h : CInv T bs ls lb P) {d : Bel} (hd : d ∈ cl T bs) (hn : d ∉ ls) : CInv T bs (ls ++ [d]) (lb ++ [d]) P := by
  refine ⟨List.nodup_append.mpr ⟨h.nd, by simp, fun a ha b hb e => ?_⟩, fun b hb => ?_, fun b hb => List.mem_append_left _ (h.all b hb), fun b hb => ?_, by have := h.le; simp only [List.length_append, List.length_singleton]; omega, fun b hb => ?_⟩
  · rw [List.mem_singleton.mp hb] at e
    exact hn (e ▸ ha)
  · rcases List.mem_append.mp hb with z | z
    · exact h.sub b z
    · rw [List.mem_singleton.mp z]
      exact hd
  · rcases List.mem_append.mp hb with z | z
    · exact List.mem_append_left _ (h.open_ b z)
    · exact List.mem_append_right _ z
  · rcases List.mem_append.mp hb with z | z
    · rcases h.done b z with q | q | q
      · exact .inl (List.mem_append_left _ q)
      · exact .inr (.inl q)
      · exact .inr (.inr fun c hc => List.mem_append_left _ (q c hc))
    · exact .inl (List.mem_append_right _ z)
theorem CInv.pop {T : Th} {bs ls lc : List Bel} {b : Bel} (h : CInv T bs ls (lc ++ [b]) fun _ => False) : CInv T bs ls lc (· = b) :=
  ⟨h.nd, h.sub, h.all, fun d hd => h.open_ d (List.mem_append_left _ hd), by have := h.le; simp only [List.length_append, List.length_singleton] at this; omega, fun d hd => by
    rcases h.done d hd with q | q | q
    · rcases List.mem_append.mp q with z | z
      · exact .inl z
      · exact .inr (.inl (List.mem_singleton.mp z))
    · exact q.elim
    · exact .inr (.inr q)⟩
theorem CInv.shut {T : Th} {bs ls lb : List Bel} {b : Bel} (h : CInv T bs ls lb (· = b)) (hb : ∀ d ∈ tak T b, d ∈ ls) : CInv T bs ls lb fun _ => False :=
  ⟨h.nd, h.sub, h.all, h.open_, h.le, fun d hd => by
    rcases h.done d hd with q | q | q
    · exact .inl q
    · exact .inr (.inr (q ▸ hb))
    · exact .inr (.inr q)⟩
theorem CInv.fin {T : Th} {bs ls : List Bel} (h : CInv T bs ls [] fun _ => False) (b : Bel) : b ∈ ls ↔ b ∈ cl T bs := by
  refine ⟨h.sub b, fun hb => ?_⟩
  rcases List.mem_append.mp hb with z | z
  · exact h.all b z
  · obtain ⟨c, h1, h2⟩ := List.mem_flatMap.mp z
    rcases h.done c (h.all c h1) with q | q | q
    · cases q
    · exact q.elim
    · exact q b h2
section
variable {P : Program} {w : World} {K : PySem.W.Frag} {mg : Str → Option Value} {base : Heap}
def spClosed (P : Program) (w : World) (K : PySem.W.Frag) : Sp := fun vs H Q _ => ∃ (T : Th) (v : V) (a : Addr) (xs : List V) (bs : List Bel), vs = [v, .ref a] ∧ Tg K H v T ∧ TOk T ∧ SqL K H a xs ∧ Ats K H xs (bs.map eB) ∧ (∀ b ∈ bs, BT T b) ∧ (cl T bs).length ≤ 4000 ∧
  ∀ z ls H', Same H H' → Lot ls → (∀ b, b ∈ ls ↔ b ∈ cl T bs) → At K H' z (.tup (ls.map eB)) → Q z H'
theorem k_closed (T : Tx K mg) (D : Df K mg "closed" sClosed ["thing", "beliefs"]) (F1 : Kn P w K mg base 6 "taken" ["thing", "belief"] (spTaken K)) (F2 : Kn P w K mg base 5 "ordered" ["beliefs"] (spOrdered P w K)) :
    Kn P w K mg base 7 "closed" ["thing", "beliefs"] (spClosed P w K) := by
  refine D.kn scClosed (fun vs H Q E h => ?_) (fun f cdv A outer s H vs Q E hr h => ?_)
  · obtain ⟨Z, v, a, xs, bs, rfl, _⟩ := h
    rfl
  · obtain ⟨Z, v, a, xs, bs, rfl, hv, hZ, hs, ha, hb, hl, q⟩ := h
    refine ⟨_, pss_cons (ps_setNdc (i := 2) (own := [("belief", 5)]) (g := gName 5) (tt := tYes) hr.units rfl scClosed.nd rfl rfl (sw_dict rfl rfl rfl rfl) (pi_list (pv 1)) (blkOk_by (N := ["thing", "beliefs", "found", "line", "more", "belief"]) (sc := defScope sClosed) (by decide +kernel))
        (fun _ _ _ _ _ => ⟨pg_name (i := 5) scClosed.nd rfl (Or.inl rfl), pts_nil, pv 5, pe_bl⟩))
      (pss_cons (ps_set (i := 3) scClosed.nd rfl (Or.inl rfl) (pe_callTy (list_nd rfl) (by rfl) T.list boot_list (pa_cons (pv 2) pa_nil)))
      (pss_cons (ps_while PassesOwn.never (pt_cmpR (op_neL hr.units) (pv 3) (pe_lst pa_nil) (nomark _))
        (pss_cons (ps_for PassesOwn.never rfl (pi_list (pe_kn F1 hr (pa_cons (pv 0) (pa_cons (pe_bm0 F.plainAttrs_list F.slot_list_pop F.type_list_pop mt_pop (pv 3)) pa_nil)))) (pg_name (i := 4) scClosed.nd rfl (Or.inl rfl))
            (pss_one (ps_if (pt_cmpR (op_notInD hr.units) (pv 4) (pv 2) (by rfl))
              (pss_cons (ps_ndPut hr.units (pv 2) (pv 4) pe_bl) (pss_one (ps_expr (pe_bm F.plainAttrs_list F.slot_list_append F.type_list_append mt_append (pv 3) (pa_cons (pv 4) pa_nil))))) pss_nil)))
          (pss_one (ps_if (pt_cmpR op_gt (pe_callB len_nd (by rfl) T.len PySem.boot_len (pa_cons (pv 2) pa_nil)) (pe_gi T.mostBeliefs) (nomark _)) (pss_one ps_never) pss_nil))))
      (pss_one (ps_ret (pe_kn F2 (hr.mono (by decide)) (pa_cons (pv 2) pa_nil)))))), ?_⟩
    -- the dict
    have lx : xs.length = bs.length := by rw [ha.length, List.length_map]
    have lb0 : bs.length ≤ (cl Z bs).length := by simp [cl]
    refine ⟨.ref a, rfl, a, rfl, ⟨_, hs⟩, fun D0 o0 nD h00 => ?_⟩
    refine bels_dc (bs := bs) (lx ▸ (walk_list (xs := xs))) nD h00 (by omega) (fun H1 s1 => s1.seq hs) (fun i H1 x H2 hi sm y => ⟨y.1, ats_bel (ha.same sm) y.2⟩) (fun _ => rfl) (fun _ => rfl) fun H2 kvs ls sm hD e n m l => ?_
    -- the list
    have lk : kvs.length = ls.length := by
      have := congrArg List.length e
      simpa using this
    refine ⟨.ref D0, rfl, D0, kvs, rfl, hD, by omega, fun L ys nL hys => ?_⟩
    rw [e] at hys
    have sL : Same H2 (upd H2 L (.lst ys)) := same_upd nL
    -- the while
    refine ⟨fun m σ H' => ∃ p4 p5, σ = [some v, some (.ref a), some (.ref D0), some (.ref L), p4, p5] ∧ Same H H' ∧ ∃ kvs ls ys lb, DK P w K H' D0 kvs ∧ kvs.map (·.1) = ls.map eB ∧ H' L = some (.lst ys) ∧ Ats K H' ys (lb.map eB) ∧ CInv Z bs ls lb (fun _ => False) ∧ m = 2 * ((cl Z bs).length - ls.length) + lb.length, ⟨2 * ((cl Z bs).length - ls.length) + ls.length, ?_⟩, ?_⟩
    · refine ⟨none, none, rfl, sm.trans sL, kvs, ls, ys, ls, hD.same sL, e, upd_same, hys.same sL, ⟨n, fun b hb' => List.mem_append_left _ ((m b).mp hb'), fun b hb' => (m b).mpr hb', fun b hb' => hb', Nat.le_refl _, fun b hb' => .inl hb'⟩, rfl⟩
    · rintro m _ H3 ⟨p4, p5, rfl, sm3, kvs, ls, ys, lb, hD3, e3, hL3, hy3, ci, rfl⟩
      have okU := cl_bt hZ hb
      refine ⟨.ref L, rfl, ?_⟩
      refine ⟨by decide, fun p np => ?_⟩
      have sp : Same H3 (upd H3 p (.lst [])) := same_upd np
      refine ⟨L, p, ys, lb.map eB, rfl, rfl, SqL.of (sp _ _ hL3), hy3.same sp, SqL.of upd_same, _, rfl, ?_⟩
      have sm4 := sm3.trans sp
      have hD4 := hD3.same sp
      have hL4 := sp _ _ hL3
      have hy4 := hy3.same sp
      generalize upd H3 p (.lst []) = H4 at *
      clear hD3 hL3 hy3 sm3 sp np
      cases hlb : lb with
      | nil =>
        subst hlb
        refine iteF ?_
        refine ⟨.ref D0, rfl, .ref D0, ls, rfl, .inr ⟨D0, kvs, rfl, hD4, e3⟩, fun b hb' => (okU b (ci.sub b hb')).ok hZ, by have := ci.len; omega, fun z ls' H5 s5 lot mem hz => ?_⟩
        exact q z ls' H5 (sm4.trans s5) lot (fun b => (mem b).trans (ci.fin b)) hz
      | cons b0 lr =>
        have e5 : lb = lb.dropLast ++ [lb.getLast (by rw [hlb]; simp)] := (List.dropLast_concat_getLast _).symm
        obtain ⟨lc, b, e6⟩ : ∃ lc b, lb = lc ++ [b] := ⟨_, _, e5⟩
        have ne : ¬ (lb.map eB = []) := by
          rw [hlb]
          simp
        rw [← hlb, decide_eq_false ne]
        clear hlb e5
        subst e6
        refine iteT ⟨fun σ H' => ∃ m', m' < 2 * ((cl Z bs).length - ls.length) + (lc ++ [b]).length ∧ ∃ p4 p5, σ = [some v, some (.ref a), some (.ref D0), some (.ref L), p4, p5] ∧ Same H H' ∧ ∃ kvs ls ys lb, DK P w K H' D0 kvs ∧ kvs.map (·.1) = ls.map eB ∧ H' L = some (.lst ys) ∧ Ats K H' ys (lb.map eB) ∧ CInv Z bs ls lb (fun _ => False) ∧ m' = 2 * ((cl Z bs).length - ls.length) + lb.length, fun σ' H' z => z, ?_⟩
        -- what is popped
        have hyl : ys.length = lc.length + 1 := by
          have := hy4.length
          simpa using this
        obtain ⟨y, hyy, hyb⟩ := hy4.get (i := lc.length) (k := eB b) (by simp)
        refine ⟨v, rfl, .ref L, rfl, .inl ⟨rfl, ys, SqL.of hL4⟩, L, ys, y, rfl, rfl, hL4, by rw [show ys.length - 1 = lc.length by omega]; exact hyy, ?_⟩
        have neD : D0 ≠ L := fun z => by
          obtain ⟨o, hD5, _⟩ := hD4
          rw [z, hL4] at hD5
          cases hD5
        have hD5 : DK P w K (upd H4 L (.lst ys.dropLast)) D0 kvs := hD4.other hL4 trivial neD
        have exL : Ext K H4 (upd H4 L (.lst ys.dropLast)) := Ext.mut hL4 trivial
        have nL0 : H L = none := sm.free nL
        have sm5 : Same H (upd H4 L (.lst ys.dropLast)) := fun b o z => by
          rw [upd_ne (ne_of_none z nL0)]
          exact sm4 _ _ z
        have hy5 : Ats K (upd H4 L (.lst ys.dropLast)) ys.dropLast (lc.map eB) := by
          have := (hy4.take lc.length).ext exL
          rw [List.map_append, List.take_left' (by simp)] at this
          have e0 : ys.take lc.length = ys.dropLast := by rw [List.dropLast_eq_take, show ys.length - 1 = lc.length by omega]
          rw [e0] at this
          exact this
        have hL5 : upd H4 L (.lst ys.dropLast) L = some (.lst ys.dropLast) := upd_same
        have hyb5 := hyb.ext exL
        generalize ys.dropLast = ys5 at *
        generalize upd H4 L (.lst ys5) = H5 at *
        have hbT := okU b (ci.sub b (ci.open_ b (by simp)))
        refine ⟨Z, v, y, b, rfl, hv.same sm5, hZ, hbT, hyb5, fun p ps H6 np s6 hp hps => ?_⟩
        have hlp : ps.length = (tak Z b).length := by rw [hps.length, List.length_map]
        have neP : p ≠ L := fun z => by
          rw [z, hL5] at np
          cases np
        have neQ : p ≠ D0 := fun z => by
          obtain ⟨o, hD6, _⟩ := hD5
          rw [z, hD6] at np
          cases np
        have np0 : H p = none := sm5.free np
        refine ⟨p, rfl, ⟨_, SqL.of hp⟩, ?_⟩
        refine for_it (walk_list (xs := ps)) (fun j σ H' => ∃ p4 p5, σ = [some v, some (.ref a), some (.ref D0), some (.ref L), p4, p5] ∧ Same H H' ∧ H' p = some (.lst ps) ∧ Ats K H' ps ((tak Z b).map eB) ∧ ∃ kvs ls' ys lb, DK P w K H' D0 kvs ∧ kvs.map (·.1) = ls'.map eB ∧ H' L = some (.lst ys) ∧ Ats K H' ys (lb.map eB) ∧
          CInv Z bs ls' lb (· = b) ∧ (∀ d ∈ (tak Z b).take j, d ∈ ls') ∧ 2 * ((cl Z bs).length - ls'.length) + lb.length ≤ 2 * ((cl Z bs).length - ls.length) + lc.length) ?_ ?_ ?_ ?_
        · exact ⟨p4, p5, rfl, sm5.trans s6, hp, hps, kvs, ls, ys5, lc, hD5.same s6, e3, s6 _ _ hL5, hy5.same s6, ci.pop, fun d hd => by simp at hd, Nat.le_refl _⟩
        · rintro j σ H7 _ ⟨_, _, _, _, h1, _⟩
          exact SqL.of h1
        · rintro j z σ H7' H7 hj ⟨p4, p5, rfl, sm7, hp7, hps7, kvs7, ls7, ys7, lb7, hD7, e7, hL7, hy7, ci7, in7, m7⟩ ⟨eH, hz⟩
          subst eH
          obtain ⟨d, hd, hzd⟩ := ats_bel hps7 hz
          have dcl : d ∈ cl Z bs := cl_step (ci.sub b (ci.open_ b (by simp))) (List.mem_of_getElem? hd)
          have tk : (tak Z b).take (j + 1) = (tak Z b).take j ++ [d] := by
            rw [List.take_add_one, hd]
            rfl
          have e8 : decide (eB d ∈ kvs7.map (·.1)) = decide (d ∈ ls7) := by
            rw [e7]
            by_cases c : d ∈ ls7
            · rw [decide_eq_true c, decide_eq_true (mem_eB.mpr c)]
            · rw [decide_eq_false c, decide_eq_false fun q => c (mem_eB.mp q)]
          refine ⟨z, rfl, .ref D0, rfl, eB d, D0, kvs7, hzd, rfl, hD7, (b_deep d).1, ⟨_, rfl⟩, _, rfl, ?_⟩
          rw [e8]
          by_cases c : d ∈ ls7
          · rw [decide_eq_true c]
            refine iteF ⟨_, _, rfl, sm7, hp7, hps7, kvs7, ls7, ys7, lb7, hD7, e7, hL7, hy7, ci7, fun x hx => ?_, m7⟩
            rw [tk] at hx
            rcases List.mem_append.mp hx with q | q
            · exact in7 x q
            · rw [List.mem_singleton.mp q]
              exact c
          · rw [decide_eq_false c]
            refine iteT ?_
            have lk7 : kvs7.length = ls7.length := by
              have := congrArg List.length e7
              simpa using this
            have ll7 := ci7.len
            refine ⟨.ref D0, rfl, z, rfl, D0, kvs7, eB d, rfl, hD7, by omega, hzd, (b_deep d).1, ⟨_, rfl⟩, fun ob hob => ?_⟩
            obtain ⟨u, hu, mu⟩ := hD7.mut
            have ex8 : Ext K H7 (upd H7 D0 ob) := Ext.mut hu mu
            have hL8 : upd H7 D0 ob L = some (.lst ys7) := by
              rw [upd_ne (Ne.symm neD)]
              exact hL7
            refine ⟨.ref L, rfl, .inl ⟨rfl, ys7, SqL.of hL8⟩, z, rfl, L, ys7, z, rfl, rfl, hL8, ?_, ?_⟩
            · have h1 := hy7.length
              have h2 := ci7.len
              have h3 := ci7.le
              rw [List.length_map] at h1
              rw [sizeLine_eq]
              omega
            · have ex9 : Ext K (upd H7 D0 ob) (upd (upd H7 D0 ob) L (.lst (ys7 ++ [z]))) := Ext.mut hL8 trivial
              have ci9 := ci7.add dcl c
              refine ⟨_, _, rfl, fun b o q => ?_, ?_, hps7.ext (ex8.trans ex9), putK kvs7 (eB d) (.bl true), ls7 ++ [d], ys7 ++ [z], lb7 ++ [d], hob.other hL8 trivial neD, ?_, upd_same, ?_, ci9, fun x hx => ?_, ?_⟩
              · rw [upd_ne (ne_of_none q nL0), upd_ne (ne_of_none q nD)]
                exact sm7 _ _ q
              · rw [upd_ne neP, upd_ne neQ]
                exact hp7
              · rw [keys_put_map, e7, if_neg fun q => c (mem_eB.mp q)]
                simp
              · rw [List.map_append]
                exact (hy7.append (.one hzd)).ext (ex8.trans ex9)
              · rw [tk] at hx
                rcases List.mem_append.mp hx with q | q
                · exact List.mem_append_left _ (in7 x q)
                · exact List.mem_append_right _ q
              · have := ci9.len
                simp only [List.length_append, List.length_singleton] at this ⊢
                omega
        · rintro σ H7 ⟨p4, p5, rfl, sm7, hp7, hps7, kvs7, ls7, ys7, lb7, hD7, e7, hL7, hy7, ci7, in7, m7⟩
          have lk7 : kvs7.length = ls7.length := by
            have := congrArg List.length e7
            simpa using this
          have ll7 := ci7.len
          refine ⟨.ref D0, rfl, D0, kvs7, rfl, hD7, by omega, (kvs7.length : Nat), 4000, rfl, rfl, false, congrArg V.bl (decide_eq_false (by omega)), iteF ?_⟩
          · rw [hlp, List.take_length] at in7
            exact ⟨_, by simp only [List.length_append, List.length_singleton]; omega, _, _, rfl, sm7, kvs7, ls7, ys7, lb7, hD7, e7, hL7, hy7, ci7.shut in7, rfl⟩
end
end M

namespace M
open PySem PySem.Spec PyProof.Rows L2
/-- the beliefs of idle hands, now asking -/
def asking (c : Call) (bs : List Bel) : List Bel := (bs.filter fun b => decide (b.2 = .idle)).map fun b => (b.1, .asks c)
def backing (r : Nat) (bs : List Bel) : List Bel := (bs.filter fun b => decide (b.2 = .has r)).map fun b => (b.1, .idle)
theorem filter_take {α β : Type} (p : α → Bool) (f : α → β) (l : List α) (i : Nat) (b : α) (h : l[i]? = some b) : ((l.take (i + 1)).filter p).map f = if p b = true then ((l.take i).filter p).map f ++ [f b] else ((l.take i).filter p).map f := by
  have tk : l.take (i + 1) = l.take i ++ [b] := by
    rw [List.take_add_one, h]
    rfl
  rw [tk, List.filter_append, List.map_append]
  by_cases c : p b = true
  · rw [if_pos c, List.filter_cons_of_pos c, List.filter_nil]
    rfl
  · rw [if_neg c, List.filter_cons_of_neg c, List.filter_nil]
    simp
section
variable {P : Program} {w : World} {K : PySem.W.Frag} {mg : Str → Option Value} {base : Heap}
theorem scBehindCall : FnScope ["thing", "lot", "hand", "word", "number", "belief"] ["thing", "lot", "hand", "word", "number"] (defScope sBehindCall) := ⟨rfl, rfl, rfl, by decide +kernel, rfl, by decide +kernel, by decide +kernel⟩
theorem scBehindBack : FnScope ["lot", "hand", "result", "belief"] ["lot", "hand", "result"] (defScope sBehindBack) := ⟨rfl, rfl, rfl, by decide +kernel, rfl, by decide +kernel, by decide +kernel⟩
theorem scBehindEvent : FnScope ["thing", "lot", "event"] ["thing", "lot", "event"] (defScope sBehindEvent) := ⟨rfl, rfl, rfl, by decide +kernel, rfl, by decide +kernel, by decide +kernel⟩
def spBehindCall (K : PySem.W.Frag) : Sp := fun vs H Q _ => ∃ (T : Th) (v u : V) (bs : List Bel) (c : Call), vs = [v, u, .int 0, .str c.1, .int c.2] ∧ Tg K H v T ∧ TOk T ∧ At K H u (.tup (bs.map eB)) ∧ (∀ b ∈ bs, BT T b) ∧ c ∈ T.calls ∧ (cl T (asking c bs)).length ≤ 4000 ∧ bs.length ≤ 4000 ∧
  ∀ z ls H', Same H H' → Lot ls → (∀ b, b ∈ ls ↔ b ∈ cl T (asking c bs)) → At K H' z (.tup (ls.map eB)) → Q z H'
theorem asking_bt {T : Th} (h : TOk T) {c : Call} (hc : c ∈ T.calls) {bs : List Bel} (hb : ∀ b ∈ bs, BT T b) : ∀ b ∈ asking c bs, BT T b := by
  intro b h1
  obtain ⟨d, h2, rfl⟩ := List.mem_map.mp h1
  have h3 := hb d (List.mem_filter.mp h2).1
  refine ⟨h3.1, h.cok c hc, fun e q => ?_⟩
  cases q
  exact hc
theorem k_behind_call (T : Tx K mg) (D : Df K mg "behind_call" sBehindCall ["thing", "lot", "hand", "word", "number"]) (F1 : Kn P w K mg base 1 "with_hand" ["belief", "hand", "what"] (spWithHand K)) (F2 : Kn P w K mg base 7 "closed" ["thing", "beliefs"] (spClosed P w K)) :
    Kn P w K mg base 8 "behind_call" ["thing", "lot", "hand", "word", "number"] (spBehindCall K) := by
  refine D.kn scBehindCall (fun vs H Q E h => ?_) (fun f cdv A outer s H vs Q E hr h => ?_)
  · obtain ⟨Z, v, u, bs, c, rfl, _⟩ := h
    rfl
  · obtain ⟨Z, v, u, bs, c, rfl, hv, hZ, hu, hb, hc, hl, hl2, q⟩ := h
    have ka : PyData.strOk "asks" = true := by decide +kernel
    have cok := hZ.cok c hc
    refine ⟨_, pss_one (ps_ret (pe_kn F2 hr (pa_cons (pv 0) (pa_cons
      (pe_lc (own := [("belief", 5)]) (g := gName 5) rfl scBehindCall.nd (pi_tup (pv 1)) (blkOk_by (N := ["thing", "lot", "hand", "word", "number", "belief"]) (sc := defScope sBehindCall) (by decide +kernel)) (fun _ _ _ _ _ => pg_name (i := 5) scBehindCall.nd rfl (Or.inl rfl))
        (fun _ _ _ _ _ => pts_one (pt_cmp (pc_isN (pe_ix (ix_nK (K := K) rfl) (pe_ix (ix_nK (K := K) rfl) (pv 5) pe_int (fun _ _ => rfl)) (pv 2) (fun _ _ => rfl)))))
        (fun _ _ _ _ _ => pe_kn F1 (hr.mono (by decide)) (pa_cons (pv 5) (pa_cons (pv 2) (pa_cons (pe_tupK (K := K) rfl (pa_cons (pe_gs T.asks) (pa_cons (pv 3) (pa_cons (pv 4) pa_nil)))) pa_nil))))) pa_nil)))), ?_⟩
    obtain ⟨a, xs, rfl, hs, ha⟩ := hu.tup_inv
    have lx : xs.length = bs.length := by rw [ha.length, List.length_map]
    refine ⟨v, rfl, .ref a, rfl, a, rfl, ⟨_, hs⟩, fun D0 nD => ?_⟩
    refine lc_acc (K := K) (walk_tup (xs := xs)) nD (by omega) (fun H1 s1 => Ext.of_same s1 _ _ hs) (fun i acc H1 => Ats K H1 acc ((asking c (bs.take i)).map eB)) (fun i acc H1 H2 e h => h.ext e) .nil (fun i z H1 H2 acc k k0 hi sm eD hr2 hz hk h0 => ?_) fun H1 acc sm eD hr2 => ?_
    · obtain ⟨rfl, hz⟩ := hz
      obtain ⟨⟨sn, x⟩, hb1, hzb⟩ := ats_bel (ha.same sm) hz
      have ft := filter_take (fun b : Bel => decide (b.2 = .idle)) (fun b => ((b.1, .asks c) : Bel)) bs i _ hb1
      refine ⟨rfl, ?_⟩
      refine ⟨z, rfl, _, 1, .tup [eW x], hzb, rfl, rfl, fun y hy => ⟨.int 0, rfl, _, 0, eW x, hy, rfl, rfl, fun y2 hy2 => ?_⟩⟩
      have e1 : decide (y2 = V.non) = decide (x = .idle) := by
        cases x with
        | idle =>
          rw [hy2.none_inv]
          rfl
        | asks c =>
          obtain ⟨p, _, rfl, _⟩ := hy2.tup_inv
          rfl
        | has r =>
          obtain ⟨p, _, rfl, _⟩ := hy2.tup_inv
          rfl
      refine ⟨_, rfl, ?_⟩
      rw [e1]
      by_cases cx : x = .idle
      · rw [decide_eq_true cx]
        refine iteT ?_
        refine ⟨z, rfl, .int 0, rfl, .str c.1, rfl, .int c.2, rfl, [.text "asks", .text c.1, .num c.2], .cons (.str _ ka) (.two (.str _ cok.1.ok) (.int _)), by simp, fun p H3 s3 hp => ?_⟩
        refine ⟨z, p, sn, x, .asks c, rfl, hzb.same s3, hp, fun r H4 s4 hr4 => hk r H4 (s3.trans s4) ?_⟩
        unfold asking
        rw [ft, if_pos (decide_eq_true cx), List.map_append]
        exact (hr2.same (s3.trans s4)).append (.one hr4)
      · rw [decide_eq_false cx]
        refine iteF (h0 _ (Same.refl _) ?_)
        unfold asking
        rw [ft, if_neg (by simpa using cx)]
        exact hr2
    · rw [lx, List.take_length] at hr2
      exact ⟨Z, v, D0, acc, asking c bs, rfl, hv.same sm, hZ, SqL.of eD, hr2, asking_bt hZ hc hb, hl, fun z ls H2 s2 lot mem hz => q z ls H2 (sm.trans s2) lot mem hz⟩
def spBehindBack (K : PySem.W.Frag) : Sp := fun vs H Q _ => ∃ (u : V) (bs : List Bel) (r : Nat), vs = [u, .int 0, .int r] ∧ At K H u (.tup (bs.map eB)) ∧ (∀ b ∈ bs, BOk b) ∧ bs.length ≤ 4000 ∧
  ∀ z ls H', Same H H' → Lot ls → (∀ b, b ∈ ls ↔ b ∈ backing r bs) → At K H' z (.tup (ls.map eB)) → Q z H'
theorem k_behind_back (T : Tx K mg) (D : Df K mg "behind_back" sBehindBack ["lot", "hand", "result"]) (F1 : Kn P w K mg base 1 "with_hand" ["belief", "hand", "what"] (spWithHand K)) (F2 : Kn P w K mg base 5 "ordered" ["beliefs"] (spOrdered P w K)) :
    Kn P w K mg base 6 "behind_back" ["lot", "hand", "result"] (spBehindBack K) := by
  refine D.kn scBehindBack (fun vs H Q E h => ?_) (fun f cdv A outer s H vs Q E hr h => ?_)
  · obtain ⟨u, bs, r, rfl, _⟩ := h
    rfl
  · obtain ⟨u, bs, r, rfl, hu, hb, hl2, q⟩ := h
    have kh : PyData.strOk "has" = true := by decide +kernel
    refine ⟨_, pss_one (ps_ret (pe_kn F2 hr (pa_cons
      (pe_lc (own := [("belief", 3)]) (g := gName 3) rfl scBehindBack.nd (pi_tup (pv 0)) (blkOk_by (N := ["lot", "hand", "result", "belief"]) (sc := defScope sBehindBack) (by decide +kernel)) (fun _ _ _ _ _ => pg_name (i := 3) scBehindBack.nd rfl (Or.inl rfl))
        (fun _ _ _ _ _ => pts_one (pt_cmpR (op_eqNK (K := K) rfl hr.units) (pe_ix (ix_nK (K := K) rfl) (pe_ix (ix_nK (K := K) rfl) (pv 3) pe_int (fun _ _ => rfl)) (pv 1) (fun _ _ => rfl)) (pe_tupK (K := K) rfl (pa_cons (pe_gs T.has) (pa_cons (pv 2) pa_nil))) (nomark _)))
        (fun _ _ _ _ _ => pe_kn F1 (hr.mono (by decide)) (pa_cons (pv 3) (pa_cons (pv 1) (pa_cons pe_non pa_nil))))) pa_nil))), ?_⟩
    obtain ⟨a, xs, rfl, hs, ha⟩ := hu.tup_inv
    have lx : xs.length = bs.length := by rw [ha.length, List.length_map]
    refine ⟨.ref a, rfl, a, rfl, ⟨_, hs⟩, fun D0 nD => ?_⟩
    refine lc_acc (K := K) (walk_tup (xs := xs)) nD (by omega) (fun H1 s1 => Ext.of_same s1 _ _ hs) (fun i acc H1 => Ats K H1 acc ((backing r (bs.take i)).map eB)) (fun i acc H1 H2 e h => h.ext e) .nil (fun i z H1 H2 acc k k0 hi sm eD hr2 hz hk h0 => ?_) fun H1 acc sm eD hr2 => ?_
    · obtain ⟨rfl, hz⟩ := hz
      obtain ⟨⟨sn, x⟩, hb1, hzb⟩ := ats_bel (ha.same sm) hz
      have ft := filter_take (fun b : Bel => decide (b.2 = .has r)) (fun b => ((b.1, .idle) : Bel)) bs i _ hb1
      refine ⟨rfl, ?_⟩
      refine ⟨z, rfl, _, 1, .tup [eW x], hzb, rfl, rfl, fun y hy => ⟨.int 0, rfl, _, 0, eW x, hy, rfl, rfl, fun y2 hy2 => ?_⟩⟩
      refine ⟨.int r, rfl, [.text "has", .num r], .two (.str _ kh) (.int _), by simp, fun p H3 s3 hp => ?_⟩
      refine ⟨eW x, eW (.has r), hy2.same s3, hp, by cases x <;> simp [eW, NestedKey.depth, NestedKey.depthAll], _, rfl, ?_⟩
      have e1 : decide (eW x = eW (.has r)) = decide (x = .has r) := by
        by_cases c : x = .has r
        · rw [decide_eq_true c, c, decide_eq_true rfl]
        · rw [decide_eq_false c, decide_eq_false fun z => c (eW_inj z)]
      rw [e1]
      by_cases cx : x = .has r
      · rw [decide_eq_true cx]
        refine iteT ?_
        refine ⟨z, rfl, .int 0, rfl, z, .non, sn, x, .idle, rfl, hzb.same s3, .non, fun y H4 s4 hr4 => hk y H4 (s3.trans s4) ?_⟩
        unfold backing
        rw [ft, if_pos (decide_eq_true cx), List.map_append]
        exact (hr2.same (s3.trans s4)).append (.one hr4)
      · rw [decide_eq_false cx]
        refine iteF (h0 _ s3 ?_)
        unfold backing
        rw [ft, if_neg (by simpa using cx)]
        exact hr2.same s3
    · rw [lx, List.take_length] at hr2
      refine ⟨.ref D0, backing r bs, rfl, .inl ⟨D0, acc, rfl, SqL.of eD, hr2⟩, fun b h1 => ?_, ?_, fun z ls H2 s2 lot mem hz => q z ls H2 (sm.trans s2) lot mem hz⟩
      · obtain ⟨d, h2, rfl⟩ := List.mem_map.mp h1
        exact ⟨(hb d (List.mem_filter.mp h2).1).1, trivial⟩
      · have : (backing r bs).length ≤ bs.length := by
          unfold backing
          rw [List.length_map]
          exact List.length_filter_le _ _
        omega
/-- the beliefs behind an event -/
def behind (T : Th) (bs : List Bel) : Ev → List Bel
  | .call c => cl T (asking c bs)
  | .back r => backing r bs
def EvT (T : Th) : Ev → Prop
  | .call c => c ∈ T.calls
  | .back r => r ≤ 9
def spBehindEvent (K : PySem.W.Frag) : Sp := fun vs H Q _ => ∃ (T : Th) (v u e : V) (bs : List Bel) (ev : Ev), vs = [v, u, e] ∧ Tg K H v T ∧ TOk T ∧ At K H u (.tup (bs.map eB)) ∧ (∀ b ∈ bs, BT T b) ∧ bs.length ≤ 300 ∧ At K H e (eE ev) ∧ EvT T ev ∧
  ∀ z ls H', Same H H' → Lot ls → (∀ b, b ∈ ls ↔ b ∈ behind T bs ev) → At K H' z (.tup (ls.map eB)) → Q z H'
theorem cl_len {T : Th} (h : TOk T) {bs : List Bel} (hb : ∀ b ∈ bs, BT T b) : (cl T bs).length ≤ 13 * bs.length := by
  unfold cl
  rw [List.length_append]
  have : ∀ l : List Bel, (∀ b ∈ l, BT T b) → (l.flatMap (tak T)).length ≤ 12 * l.length := by
    intro l
    induction l with
    | nil => simp
    | cons b l ih =>
      intro hl
      have h1 := tak_len h (hl b List.mem_cons_self)
      have h2 := ih fun d hd => hl d (List.mem_cons_of_mem _ hd)
      rw [List.flatMap_cons, List.length_append, List.length_cons]
      omega
  have := this bs hb
  omega
theorem k_behind_event (T : Tx K mg) (D : Df K mg "behind_event" sBehindEvent ["thing", "lot", "event"]) (F1 : Kn P w K mg base 8 "behind_call" ["thing", "lot", "hand", "word", "number"] (spBehindCall K)) (F2 : Kn P w K mg base 6 "behind_back" ["lot", "hand", "result"] (spBehindBack K)) :
    Kn P w K mg base 9 "behind_event" ["thing", "lot", "event"] (spBehindEvent K) := by
  refine D.kn scBehindEvent (fun vs H Q E h => ?_) (fun f cdv A outer s H vs Q E hr h => ?_)
  · obtain ⟨Z, v, u, e, bs, ev, rfl, _⟩ := h
    rfl
  · obtain ⟨Z, v, u, e, bs, ev, rfl, hv, hZ, hu, hb, hl, he, hev, q⟩ := h
    have kc : PyData.strOk "call" = true := by decide +kernel
    have i0 : ∀ i : Nat, True := fun _ => trivial
    refine ⟨_, pss_cons (ps_if (pt_cmpR (op_eqN hr.units) (pe_ix ix_n (pv 2) pe_int (fun _ _ => rfl)) pe_str (nomark _))
        (pss_one (ps_ret (pe_kn F1 hr (pa_cons (pv 0) (pa_cons (pv 1) (pa_cons (pe_ix ix_n (pv 2) pe_int (fun _ _ => rfl)) (pa_cons (pe_ix ix_n (pv 2) pe_int (fun _ _ => rfl)) (pa_cons (pe_ix ix_n (pv 2) pe_int (fun _ _ => rfl)) pa_nil)))))))) pss_nil)
      (pss_one (ps_ret (pe_kn F2 (hr.mono (by decide)) (pa_cons (pv 1) (pa_cons (pe_ix ix_n (pv 2) pe_int (fun _ _ => rfl)) (pa_cons (pe_ix ix_n (pv 2) pe_int (fun _ _ => rfl)) pa_nil)))))), ?_⟩
    cases ev with
    | call c =>
      refine ⟨e, rfl, _, 0, .text "call", he, rfl, rfl, fun y hy => ⟨.text "call", .text "call", hy, .str _ kc, by decide, _, rfl, iteT ?_⟩⟩
      refine ⟨v, rfl, u, rfl, e, rfl, _, 1, .num 0, he, rfl, rfl, fun y hy => ?_⟩
      obtain rfl := hy.num_inv
      refine ⟨e, rfl, _, 2, .text c.1, he, rfl, rfl, fun y hy => ?_⟩
      obtain rfl := hy.text_inv
      refine ⟨e, rfl, _, 3, .num c.2, he, rfl, rfl, fun y hy => ?_⟩
      obtain rfl := hy.num_inv
      have hc : c ∈ Z.calls := hev
      have l1 := cl_len hZ (asking_bt hZ hc hb)
      have l2 : (asking c bs).length ≤ bs.length := by
        unfold asking
        rw [List.length_map]
        exact List.length_filter_le _ _
      exact ⟨Z, v, u, bs, c, rfl, hv, hZ, hu, hb, hc, by omega, by omega, q⟩
    | back r =>
      have nb : decide ((NestedKey.text "back") = .text "call") = false := by decide +kernel
      refine ⟨e, rfl, _, 0, .text "back", he, rfl, rfl, fun y hy => ⟨.text "back", .text "call", hy, .str _ kc, by decide, _, rfl, ?_⟩⟩
      rw [nb]
      refine iteF ?_
      refine ⟨u, rfl, e, rfl, _, 1, .num 0, he, rfl, rfl, fun y hy => ?_⟩
      obtain rfl := hy.num_inv
      refine ⟨e, rfl, _, 2, .num r, he, rfl, rfl, fun y hy => ?_⟩
      obtain rfl := hy.num_inv
      exact ⟨u, bs, r, rfl, hu, fun b h => (hb b h).ok hZ, by omega, q⟩
end
end M

namespace M
open PySem PySem.Spec PyProof.Rows L2
def isC : Ev → Bool
  | .call _ => true
  | .back _ => false
/-- calls and backs in turn -/
def AltB : Bool → List Ev → Prop
  | _, [] => True
  | b, e :: r => isC e = !b ∧ AltB (isC e) r
theorem AltB.drop_at : ∀ {b : Bool} {es : List Ev} {i : Nat} {e : Ev}, AltB b es → es[i]? = some e → isC e = !(if i = 0 then b else ((es[i - 1]?).map isC).getD b)
  | b, [], i, e, _, h => by simp at h
  | b, d :: r, 0, e, h, he => by
    have : d = e := Option.some.inj he
    subst this
    exact h.1
  | b, d :: r, i + 1, e, h, he => by
    have := AltB.drop_at (i := i) (e := e) h.2 (by simpa using he)
    rw [this]
    cases i with
    | zero => simp
    | succ j =>
      simp only [Nat.add_sub_cancel, Nat.succ_ne_zero, if_false, List.getElem?_cons_succ]
      cases hq : r[j]? with
      | none =>
        have h1 := List.getElem?_eq_none_iff.mp hq
        have h2 : (d :: r)[j + 1 + 1]? = none := by
          rw [List.getElem?_cons_succ]
          exact List.getElem?_eq_none_iff.mpr (by omega)
        rw [h2] at he
        cases he
      | some x => rfl
theorem eE_one (e : Ev) : ∃ r, eE e = .tup (.text (if isC e = true then "call" else "back") :: .num 0 :: r) := by
  cases e with
  | call c => exact ⟨_, rfl⟩
  | back r => exact ⟨_, rfl⟩
theorem call_dec (e : Ev) : decide ((NestedKey.text (if isC e = true then "call" else "back")) = .text "call") = isC e := by
  cases e with
  | call c => rfl
  | back r =>
    show decide (NestedKey.text "back" = NestedKey.text "call") = false
    decide +kernel
section
variable {P : Program} {w : World} {K : PySem.W.Frag} {mg : Str → Option Value} {base : Heap}
theorem scCheckHistory : FnScope ["thing", "hands", "history", "busy", "event"] ["thing", "hands", "history"] (defScope sCheckHistory) := ⟨rfl, rfl, rfl, by decide +kernel, rfl, by decide +kernel, by decide +kernel⟩
/-- a history of the one hand -/
structure Hs (T : Th) (es : List Ev) : Prop where
  alt : AltB false es
  ev : ∀ e ∈ es, EvT T e
  few : es.length ≤ 100
theorem EvT.ok {T : Th} (h : TOk T) {e : Ev} (he : EvT T e) : EOk e := by
  cases e with
  | call c => exact h.cok c he
  | back r => exact he
def spCheckHistory (K : PySem.W.Frag) : Sp := fun vs H Q _ => ∃ (T : Th) (v u : V) (es : List Ev), vs = [v, .int 1, u] ∧ Tg K H v T ∧ TOk T ∧ At K H u (.tup (es.map eE)) ∧ Hs T es ∧ ∀ H', Same H H' → Q .non H'
theorem k_check_history (T : Tx K mg) (D : Df K mg "check_history" sCheckHistory ["thing", "hands", "history"]) (F1 : Kn P w K mg base 8 "is_history_form" ["thing"] (spIsHistoryForm K)) : Kn P w K mg base 9 "check_history" ["thing", "hands", "history"] (spCheckHistory K) := by
  refine D.kn scCheckHistory (fun vs H Q E h => ?_) (fun f cdv A outer s H vs Q E hr h => ?_)
  · obtain ⟨Z, v, u, es, rfl, _⟩ := h
    rfl
  · obtain ⟨Z, v, u, es, rfl, hv, hZ, hu, hh, q⟩ := h
    have kc : PyData.strOk "call" = true := by decide +kernel
    refine ⟨_, pss_cons (ps_if (pt_not (pt_val (pe_kn F1 hr (pa_cons (pv 2) pa_nil)))) (pss_one ps_never) pss_nil)
      (pss_cons (ps_set (i := 3) scCheckHistory.nd rfl (Or.inl rfl) (pe_op op_rep (pe_lst (pa_cons pe_bl pa_nil)) (pv 1)))
      (pss_one (ps_for PassesOwn.never rfl (pi_tup (pv 2)) (pg_name (i := 4) scCheckHistory.nd rfl (Or.inl rfl))
        (pss_cons (ps_if (PW.pt (pw_or (pt_cmpR op_ge (pe_ix ix_n (pv 4) pe_int (fun _ _ => rfl)) (pv 1) (nomark _)) (pw_or1 (pt_cmpR op_eq (pe_ix ix_list (pv 3) (pe_ix ix_n (pv 4) pe_int (fun _ _ => rfl)) (fun _ _ => rfl)) (pe_cmpR (op_eqN hr.units) (pe_ix ix_n (pv 4) pe_int (fun _ _ => rfl)) pe_str (nomark _)) (nomark _))))) (pss_one ps_never) pss_nil)
        (pss_cons (ps_if (PW.pt (pw_and (pt_cmpR (op_eqN hr.units) (pe_ix ix_n (pv 4) pe_int (fun _ _ => rfl)) pe_str (nomark _)) (pw_and1 (pt_cmpR (op_notInN hr.units) (pe_slice sl_n (pv 4) (po_some pe_int) po_none) (pe_ix ix_t0 (pv 0) pe_int (fun _ _ => rfl)) (by rfl))))) (pss_one ps_never) pss_nil)
        (pss_one (ps_asg (pe_cmpR (op_eqN hr.units) (pe_ix ix_n (pv 4) pe_int (fun _ _ => rfl)) pe_str (nomark _)) (pg_sub (pv 3) (pe_ix ix_n (pv 4) pe_int (fun _ _ => rfl)) set_list)))))))), ?_⟩
    refine ⟨u, rfl, u, es, rfl, hu, fun e he => (hh.ev e he).ok hZ, by have := hh.few; omega, fun H1 s1 => ⟨true, rfl, iteF ?_⟩⟩
    refine ⟨by decide, fun p np => ⟨.int 1, rfl, p, 1, [.bl false], rfl, rfl, upd_same, by decide, by decide, by decide, fun L nL => ?_⟩⟩
    have sp : Same H1 (upd H1 p (.lst [.bl false])) := same_upd np
    have sL := same_upd (o := .lst (List.replicate (1 : Int).toNat [V.bl false]).flatten) nL
    have sm2 := (s1.trans sp).trans sL
    have hL2 : upd (upd H1 p (.lst [.bl false])) L (.lst (List.replicate (1 : Int).toNat [V.bl false]).flatten) L = some (.lst [.bl false]) := upd_same
    have nL0 : H L = none := (s1.trans sp).free nL
    generalize upd (upd H1 p (.lst [.bl false])) L (.lst (List.replicate (1 : Int).toNat [V.bl false]).flatten) = H2 at *
    have hu2 := hu.same sm2
    obtain ⟨a, xs, rfl, hs, ha⟩ := hu2.tup_inv
    have lx : xs.length = es.length := by rw [ha.length, List.length_map]
    refine ⟨.ref a, rfl, a, rfl, ⟨_, hs⟩, ?_⟩
    refine for_it (walk_tup (xs := xs)) (fun i σ H' => ∃ p4, σ = [some v, some (.int 1), some (.ref a), some (.ref L), p4] ∧ Same H H' ∧ Ext K H2 H' ∧ H' L = some (.lst [.bl (if i = 0 then false else ((es[i - 1]?).map isC).getD false)])) ?_ ?_ ?_ ?_
    · exact ⟨none, rfl, sm2, Ext.refl _, hL2⟩
    · rintro i σ H3 _ ⟨_, _, _, h1, _⟩
      exact h1 _ _ hs
    · rintro i z σ H3' H3 hi ⟨p4, rfl, sm3, ex3, hL3⟩ ⟨eH, hz⟩
      subst eH
      obtain ⟨k1, ek, hk⟩ := (ha.ext ex3).back hz
      rw [List.getElem?_map] at ek
      obtain ⟨e, he, rfl⟩ := Option.map_eq_some_iff.mp ek
      have halt := AltB.drop_at hh.alt he
      obtain ⟨r, er⟩ := eE_one e
      have hk' := hk
      rw [er] at hk'
      refine ⟨z, rfl, _, 1, .num 0, hk', rfl, rfl, fun y hy => ?_⟩
      obtain rfl := hy.num_inv
      refine ⟨.int 1, rfl, 0, 1, rfl, rfl, false, rfl, iteF ?_⟩
      refine ⟨.ref L, rfl, z, rfl, _, 1, .num 0, hk', rfl, rfl, fun y hy => ?_⟩
      obtain rfl := hy.num_inv
      refine ⟨L, _, 0, _, rfl, rfl, SqL.of hL3, rfl, z, rfl, _, 0, _, hk', rfl, rfl, fun y hy => ⟨_, _, hy, .str _ kc, by simp [NestedKey.depth], ?_⟩⟩
      rw [call_dec]
      refine ⟨rfl, false, ?_, iteF ?_⟩
      · rw [halt]
        cases (if i = 0 then false else ((es[i - 1]?).map isC).getD false) <;> rfl
      refine ⟨z, rfl, _, 0, _, hk', rfl, rfl, fun y hy => ⟨_, _, hy, .str _ kc, by simp [NestedKey.depth], isC e, by rw [call_dec], ?_⟩⟩
      cases e with
      | call c =>
        refine iteT ?_
        refine ⟨z, rfl, 2, rfl, _, some 2, none, hk, rfl, rfl, fun y2 H4 s4 hy2 => ?_⟩
        refine ⟨v, rfl, Z, (hv.same sm3).same s4, rfl, fun y3 hy3 => ⟨eC c, _, hy2, hy3.at.seq, by simp [eC, NestedKey.depth, NestedKey.depthAll], _, rfl, ?_⟩⟩
        have hc : c ∈ Z.calls := hh.ev _ (List.mem_of_getElem? he)
        rw [decide_eq_true (List.mem_map_of_mem hc)]
        refine iteF ?_
        refine ⟨z, rfl, _, 0, _, (hk'.same s4), rfl, rfl, fun y hy => ⟨_, _, hy, .str _ kc, by simp [NestedKey.depth], ?_⟩⟩
        rw [call_dec]
        refine ⟨.ref L, rfl, z, rfl, _, 1, .num 0, (hk'.same s4), rfl, rfl, fun y hy => ?_⟩
        obtain rfl := hy.num_inv
        refine ⟨L, _, 0, 0, rfl, rfl, s4 _ _ hL3, rfl, ?_⟩
        refine ⟨_, rfl, fun b o e => ?_, ex3.trans ((Ext.of_same s4).trans (Ext.mut (s4 _ _ hL3) trivial)), ?_⟩
        · rw [upd_ne (ne_of_none e nL0)]
          exact s4 _ _ (sm3 _ _ e)
        · rw [upd_same]
          simp [he, isC]
      | back r =>
        refine iteF (iteF ?_)
        refine ⟨z, rfl, _, 0, _, hk', rfl, rfl, fun y hy => ⟨_, _, hy, .str _ kc, by simp [NestedKey.depth], ?_⟩⟩
        rw [call_dec]
        refine ⟨.ref L, rfl, z, rfl, _, 1, .num 0, hk', rfl, rfl, fun y hy => ?_⟩
        obtain rfl := hy.num_inv
        refine ⟨L, _, 0, 0, rfl, rfl, id hL3, rfl, ?_⟩
        refine ⟨_, rfl, fun b o e => ?_, ex3.trans ((Ext.refl _).trans (Ext.mut (id hL3) trivial)), ?_⟩
        · rw [upd_ne (ne_of_none e nL0)]
          exact id (sm3 _ _ e)
        · rw [upd_same]
          simp [he, isC]
    · rintro σ H3 ⟨p4, rfl, sm3, ex3, hL3⟩
      exact q H3 sm3
end
end M

namespace M
open PySem PySem.Spec PyProof.Rows L2
/-- each once -/
def dd {α : Type} [DecidableEq α] : List α → List α
  | [] => []
  | a :: l => if a ∈ dd l then dd l else a :: dd l
theorem dd_mem {α : Type} [DecidableEq α] {a : α} : ∀ {l : List α}, a ∈ dd l ↔ a ∈ l
  | [] => Iff.rfl
  | b :: l => by
    unfold dd
    split
    · rename_i h
      rw [dd_mem, List.mem_cons]
      constructor
      · exact .inr
      · rintro (rfl | z)
        · exact dd_mem.mp h
        · exact z
    · rw [List.mem_cons, List.mem_cons, dd_mem]
theorem dd_nodup {α : Type} [DecidableEq α] : ∀ {l : List α}, (dd l).Nodup
  | [] => List.nodup_nil
  | b :: l => by
    unfold dd
    split
    · exact dd_nodup
    · rename_i h
      exact List.nodup_cons.mpr ⟨h, dd_nodup⟩
/-- the lot of some beliefs -/
def lotOf (bs : List Bel) : List Bel := byRk rB (dd bs)
theorem lotOf_mem {bs : List Bel} {b : Bel} : b ∈ lotOf bs ↔ b ∈ bs := byRk_mem.trans dd_mem
theorem lotOf_lot {bs : List Bel} (h : ∀ b ∈ bs, BOk b) : Lot (lotOf bs) := byRk_strict dd_nodup fun a ha b hb => rB_inj (h a (dd_mem.mp ha)) (h b (dd_mem.mp hb))
theorem lotOf_eq {ls bs : List Bel} (h : ∀ b ∈ bs, BOk b) (hl : Lot ls) (m : ∀ b, b ∈ ls ↔ b ∈ bs) : ls = lotOf bs := strict_ext hl (lotOf_lot h) fun b => (m b).trans lotOf_mem.symm
/-- the lot behind a history -/
def lotR (T : Th) (es : List Ev) : List Bel := es.foldl (fun bs e => lotOf (behind T bs e)) [(0, .idle)]
theorem lotR_snoc (T : Th) (es : List Ev) (e : Ev) : lotR T (es ++ [e]) = lotOf (behind T (lotR T es) e) := by
  unfold lotR
  rw [List.foldl_append]
  rfl
theorem lotR_take {T : Th} {es : List Ev} {i : Nat} {e : Ev} (h : es[i]? = some e) : lotR T (es.take (i + 1)) = lotOf (behind T (lotR T (es.take i)) e) := by
  rw [List.take_add_one, h]
  exact lotR_snoc _ _ _
theorem behind_bt {T : Th} (hT : TOk T) {bs : List Bel} (h : ∀ b ∈ bs, BT T b) {e : Ev} (he : EvT T e) : ∀ b ∈ behind T bs e, BT T b := by
  cases e with
  | call c => exact cl_bt hT (asking_bt hT he h)
  | back r =>
    intro b hb
    obtain ⟨d, h2, rfl⟩ := List.mem_map.mp hb
    exact ⟨(h d (List.mem_filter.mp h2).1).1, trivial, fun c e => by cases e⟩
theorem lotR_bt {T : Th} (hT : TOk T) : ∀ (es : List Ev), (∀ e ∈ es, EvT T e) → ∀ b ∈ lotR T es, BT T b := by
  intro es
  suffices ∀ (es : List Ev) (bs : List Bel), (∀ b ∈ bs, BT T b) → (∀ e ∈ es, EvT T e) → ∀ b ∈ es.foldl (fun bs e => lotOf (behind T bs e)) bs, BT T b by
    intro h
    refine this es _ (fun b hb => ?_) h
    rw [List.mem_singleton.mp hb]
    exact ⟨hT.one, trivial, fun c e => by cases e⟩
  intro es
  induction es with
  | nil => exact fun bs h _ => h
  | cons e es ih =>
    intro bs h he
    refine ih _ (fun b hb => ?_) fun d hd => he d (List.mem_cons_of_mem _ hd)
    exact behind_bt hT h (he e List.mem_cons_self) b (lotOf_mem.mp hb)
/-- all beliefs that there are -/
def univ (T : Th) : List Bel := (List.range T.n).flatMap fun s => (s, Wt.idle) :: (T.calls.map fun c => (s, Wt.asks c)) ++ (List.range 10).map fun r => (s, Wt.has r)
theorem univ_mem {T : Th} {b : Bel} (h : BT T b) : b ∈ univ T := by
  obtain ⟨s, x⟩ := b
  refine List.mem_flatMap.mpr ⟨s, List.mem_range.mpr h.1, ?_⟩
  cases x with
  | idle => simp
  | asks c =>
    have := h.2.2 c rfl
    simp [this]
  | has r =>
    have : r ≤ 9 := h.2.1
    simp
    omega
theorem univ_len {T : Th} (h : TOk T) : (univ T).length ≤ 56 := by
  unfold univ
  have : ∀ l : List Nat, (l.flatMap fun s => (s, Wt.idle) :: (T.calls.map fun c => (s, Wt.asks c)) ++ (List.range 10).map fun r => (s, Wt.has r)).length ≤ 14 * l.length := by
    intro l
    induction l with
    | nil => simp
    | cons s l ih =>
      have := h.few
      rw [List.flatMap_cons, List.length_append]
      simp only [List.length_append, List.length_cons, List.length_map, List.length_range] at *
      omega
  have := this (List.range T.n)
  have h4 : T.n ≤ 4 := h.four
  rw [List.length_range] at this
  omega
theorem lot_nodup {ls : List Bel} (h : Lot ls) : ls.Nodup := List.Pairwise.imp (fun {a b} q e => by rw [e] at q; exact Nat.lt_irrefl _ q) h
theorem lot_len {T : Th} (hT : TOk T) {ls : List Bel} (h : ls.Nodup) (hb : ∀ b ∈ ls, BT T b) : ls.length ≤ 56 := Nat.le_trans (nodup_len h fun b z => univ_mem (hb b z)) (univ_len hT)
theorem lotR_lot {T : Th} (hT : TOk T) {es : List Ev} (he : ∀ e ∈ es, EvT T e) : Lot (lotR T es) := by
  rcases List.eq_nil_or_concat es with rfl | ⟨fs, e, rfl⟩
  · exact List.pairwise_singleton _ _
  · rw [List.concat_eq_append] at *
    rw [lotR_snoc]
    exact lotOf_lot fun b hb => (behind_bt hT (lotR_bt hT fs fun d hd => he d (by simp [hd])) (he e (by simp)) b hb).ok hT
section
variable {P : Program} {w : World} {K : PySem.W.Frag} {mg : Str → Option Value} {base : Heap}
theorem scBeliefsOf : FnScope ["thing", "hands", "history", "lot", "event"] ["thing", "hands", "history"] (defScope sBeliefsOf) := ⟨rfl, rfl, rfl, by decide +kernel, rfl, by decide +kernel, by decide +kernel⟩
theorem scIsAtOnce : FnScope ["thing", "hands", "history"] ["thing", "hands", "history"] (defScope sIsAtOnce) := ⟨rfl, rfl, rfl, by decide +kernel, rfl, by decide +kernel, by decide +kernel⟩
theorem scFirstWrong : FnScope ["thing", "hands", "history", "lot", "index", "event"] ["thing", "hands", "history"] (defScope sFirstWrong) := ⟨rfl, rfl, rfl, by decide +kernel, rfl, by decide +kernel, by decide +kernel⟩
def spBeliefsOf (K : PySem.W.Frag) : Sp := fun vs H Q _ => ∃ (T : Th) (v u : V) (es : List Ev), vs = [v, .int 1, u] ∧ Tg K H v T ∧ TOk T ∧ At K H u (.tup (es.map eE)) ∧ Hs T es ∧ ∀ z H', Same H H' → At K H' z (.tup ((lotR T es).map eB)) → Q z H'
theorem ats_ev {K : PySem.W.Frag} {H : Hp} {xs : List V} {es : List Ev} (h : Ats K H xs (es.map eE)) {i : Nat} {x : V} (hx : xs[i]? = some x) : ∃ e, es[i]? = some e ∧ At K H x (eE e) := by
  obtain ⟨k, e, hk⟩ := h.back hx
  rw [List.getElem?_map] at e
  obtain ⟨b, hb, rfl⟩ := Option.map_eq_some_iff.mp e
  exact ⟨b, hb, hk⟩
theorem k_beliefs_of (T : Tx K mg) (D : Df K mg "beliefs_of" sBeliefsOf ["thing", "hands", "history"]) (F1 : Kn P w K mg base 9 "check_history" ["thing", "hands", "history"] (spCheckHistory K)) (F2 : Kn P w K mg base 1 "first_belief" ["hands"] (spFirstBelief K)) (F3 : Kn P w K mg base 9 "behind_event" ["thing", "lot", "event"] (spBehindEvent K)) :
    Kn P w K mg base 10 "beliefs_of" ["thing", "hands", "history"] (spBeliefsOf K) := by
  refine D.kn scBeliefsOf (fun vs H Q E h => ?_) (fun f cdv A outer s H vs Q E hr h => ?_)
  · obtain ⟨Z, v, u, es, rfl, _⟩ := h
    rfl
  · obtain ⟨Z, v, u, es, rfl, hv, hZ, hu, hh, q⟩ := h
    refine ⟨_, pss_cons (ps_expr (pe_kn F1 hr (pa_cons (pv 0) (pa_cons (pv 1) (pa_cons (pv 2) pa_nil)))))
      (pss_cons (ps_set (i := 3) scBeliefsOf.nd rfl (Or.inl rfl) (pe_tupN (pa_cons (pe_kn F2 (hr.mono (by decide)) (pa_cons (pv 1) pa_nil)) pa_nil)))
      (pss_cons (ps_for PassesOwn.never rfl (pi_tup (pv 2)) (pg_name (i := 4) scBeliefsOf.nd rfl (Or.inl rfl))
        (pss_one (ps_set (i := 3) scBeliefsOf.nd rfl (Or.inl rfl) (pe_kn F3 hr (pa_cons (pv 0) (pa_cons (pv 3) (pa_cons (pv 4) pa_nil)))))))
      (pss_one (ps_ret (pv 3))))), ?_⟩
    refine ⟨v, rfl, .int 1, rfl, u, rfl, Z, v, u, es, rfl, hv, hZ, hu, hh, fun H1 s1 => ?_⟩
    refine ⟨.int 1, rfl, rfl, fun p H2 s2 hp => ⟨[eB (0, .idle)], .one hp, by decide, fun p2 H3 s3 hp2 => ?_⟩⟩
    have sm3 := (s1.trans s2).trans s3
    have hu3 := hu.same sm3
    obtain ⟨a, xs, rfl, hs, ha⟩ := hu3.tup_inv
    have lx : xs.length = es.length := by rw [ha.length, List.length_map]
    refine ⟨.ref a, rfl, a, rfl, ⟨_, hs⟩, ?_⟩
    refine for_it (walk_tup (xs := xs)) (fun i σ H' => ∃ y p4, σ = [some v, some (.int 1), some (.ref a), some y, p4] ∧ Same H3 H' ∧ At K H' y (.tup ((lotR Z (es.take i)).map eB))) ?_ ?_ ?_ ?_
    · exact ⟨p2, none, rfl, Same.refl _, hp2⟩
    · rintro i σ H4 _ ⟨_, _, _, h1, _⟩
      exact Ext.of_same h1 _ _ hs
    · rintro i z σ H4' H4 hi ⟨y, p4, rfl, sm4, hy⟩ ⟨eH, hz⟩
      subst eH
      obtain ⟨e, he, hze⟩ := ats_ev (ha.same sm4) hz
      have hev := hh.ev e (List.mem_of_getElem? he)
      have hsub : ∀ d ∈ es.take i, EvT Z d := fun d hd => hh.ev d (List.mem_of_mem_take hd)
      have bt := lotR_bt hZ (es.take i) hsub
      have hlen := lot_len hZ (lot_nodup (lotR_lot hZ hsub)) bt
      refine ⟨v, rfl, y, rfl, z, rfl, Z, v, y, z, lotR Z (es.take i), e, rfl, (hv.same sm3).same sm4, hZ, hy, bt, by omega, hze, hev, fun z2 ls H5 s5 lot mem hz2 => ?_⟩
      refine ⟨z2, _, rfl, sm4.trans s5, ?_⟩
      rw [lotR_take he, ← lotOf_eq (fun b hb => (behind_bt hZ bt hev b hb).ok hZ) lot mem]
      exact hz2
    · rintro σ H4 ⟨y, p4, rfl, sm4, hy⟩
      rw [lx, List.take_length] at hy
      exact ⟨y, rfl, q y H4 (sm3.trans sm4) hy⟩
def spIsAtOnce (K : PySem.W.Frag) : Sp := fun vs H Q _ => ∃ (T : Th) (v u : V) (es : List Ev), vs = [v, .int 1, u] ∧ Tg K H v T ∧ TOk T ∧ At K H u (.tup (es.map eE)) ∧ Hs T es ∧ ∀ H', Same H H' → Q (.bl (!decide (lotR T es = []))) H'
theorem map_nil_dec {α β : Type} [DecidableEq α] [DecidableEq β] (f : α → β) (l : List α) : decide (l.map f = []) = decide (l = []) := by
  cases l <;> simp
theorem k_is_at_once (T : Tx K mg) (D : Df K mg "is_at_once" sIsAtOnce ["thing", "hands", "history"]) (F1 : Kn P w K mg base 10 "beliefs_of" ["thing", "hands", "history"] (spBeliefsOf K)) : Kn P w K mg base 11 "is_at_once" ["thing", "hands", "history"] (spIsAtOnce K) := by
  refine D.kn scIsAtOnce (fun vs H Q E h => ?_) (fun f cdv A outer s H vs Q E hr h => ?_)
  · obtain ⟨Z, v, u, es, rfl, _⟩ := h
    rfl
  · obtain ⟨Z, v, u, es, rfl, hv, hZ, hu, hh, q⟩ := h
    refine ⟨_, pss_one (ps_ret (pe_cmpR (op_neN hr.units) (pe_kn F1 hr (pa_cons (pv 0) (pa_cons (pv 1) (pa_cons (pv 2) pa_nil)))) (pe_tupN pa_nil) (nomark _))), ?_⟩
    refine ⟨v, rfl, .int 1, rfl, u, rfl, Z, v, u, es, rfl, hv, hZ, hu, hh, fun z H1 s1 hz => ?_⟩
    refine ⟨[], .nil, by decide, fun p H2 s2 hp => ?_⟩
    refine ⟨_, _, hz.same s2, hp, by simp [NestedKey.depth, NestedKey.depthAll], ?_⟩
    refine q_bl ?_ (q H2 (s1.trans s2))
    cases lotR Z es <;> simp
def spFirstWrong (K : PySem.W.Frag) : Sp := fun vs H Q _ => ∃ (T : Th) (v u : V) (es : List Ev), vs = [v, .int 1, u] ∧ Tg K H v T ∧ TOk T ∧ At K H u (.tup (es.map eE)) ∧ Hs T es ∧ ∀ H', Same H H' →
  (∀ i : Nat, i < es.length → lotR T (es.take (i + 1)) = [] → (∀ j, j < i → lotR T (es.take (j + 1)) ≠ []) → Q (.int i) H') ∧ ((∀ i, i < es.length → lotR T (es.take (i + 1)) ≠ []) → Q .non H')
theorem k_first_wrong (T : Tx K mg) (D : Df K mg "first_wrong" sFirstWrong ["thing", "hands", "history"]) (F1 : Kn P w K mg base 9 "check_history" ["thing", "hands", "history"] (spCheckHistory K)) (F2 : Kn P w K mg base 1 "first_belief" ["hands"] (spFirstBelief K)) (F3 : Kn P w K mg base 9 "behind_event" ["thing", "lot", "event"] (spBehindEvent K)) :
    Kn P w K mg base 10 "first_wrong" ["thing", "hands", "history"] (spFirstWrong K) := by
  refine D.kn scFirstWrong (fun vs H Q E h => ?_) (fun f cdv A outer s H vs Q E hr h => ?_)
  · obtain ⟨Z, v, u, es, rfl, _⟩ := h
    rfl
  · obtain ⟨Z, v, u, es, rfl, hv, hZ, hu, hh, q⟩ := h
    refine ⟨_, pss_cons (ps_expr (pe_kn F1 hr (pa_cons (pv 0) (pa_cons (pv 1) (pa_cons (pv 2) pa_nil)))))
      (pss_cons (ps_set (i := 3) scFirstWrong.nd rfl (Or.inl rfl) (pe_tupN (pa_cons (pe_kn F2 (hr.mono (by decide)) (pa_cons (pv 1) pa_nil)) pa_nil)))
      (pss_cons (ps_for PassesOwn.never rfl (pi_enumT (by rfl) T.enumerate (pa_cons (pv 2) pa_nil)) (pg_tup rfl (pgs_cons (pg_name (i := 4) scFirstWrong.nd rfl (Or.inl rfl)) (pgs_cons (pg_name (i := 5) scFirstWrong.nd rfl (Or.inl rfl)) pgs_nil)))
        (pss_cons (ps_set (i := 3) scFirstWrong.nd rfl (Or.inl rfl) (pe_kn F3 hr (pa_cons (pv 0) (pa_cons (pv 3) (pa_cons (pv 5) pa_nil)))))
          (pss_one (ps_if (pt_cmpR (op_eqN hr.units) (pv 3) (pe_tupN pa_nil) (nomark _)) (pss_one (ps_ret (pv 4))) pss_nil))))
      (pss_one (ps_ret pe_non)))), ?_⟩
    refine ⟨v, rfl, .int 1, rfl, u, rfl, Z, v, u, es, rfl, hv, hZ, hu, hh, fun H1 s1 => ?_⟩
    refine ⟨.int 1, rfl, rfl, fun p H2 s2 hp => ⟨[eB (0, .idle)], .one hp, by decide, fun p2 H3 s3 hp2 => ?_⟩⟩
    have sm3 := (s1.trans s2).trans s3
    have hu3 := hu.same sm3
    obtain ⟨a, xs, rfl, hs, ha⟩ := hu3.tup_inv
    have lx : xs.length = es.length := by rw [ha.length, List.length_map]
    refine ⟨.ref a, rfl, a, xs, rfl, hs, ?_⟩
    refine for_it (walk_enumT (xs := xs)) (fun i σ H' => ∃ y p4 p5, σ = [some v, some (.int 1), some (.ref a), some y, p4, p5] ∧ Same H3 H' ∧ At K H' y (.tup ((lotR Z (es.take i)).map eB)) ∧ ∀ j, j < i → lotR Z (es.take (j + 1)) ≠ []) ?_ ?_ ?_ ?_
    · exact ⟨p2, none, none, rfl, Same.refl _, hp2, fun j hj => absurd hj (Nat.not_lt_zero j)⟩
    · rintro i σ H4 _ ⟨_, _, _, _, h1, _⟩
      exact Ext.of_same h1 _ _ hs
    · rintro i z σ H4 _ hi ⟨y, p4, p5, rfl, sm4, hy, hno⟩ ⟨Tp, z1, z2, rfl, nT, rfl, e1, e2⟩
      obtain rfl : V.int (i : Nat) = z1 := Option.some.inj e1
      have sT : Same H4 (upd H4 Tp (.tup [.int (i : Nat), z2])) := same_upd nT
      have hT : SqT K (upd H4 Tp (.tup [.int (i : Nat), z2])) Tp [.int (i : Nat), z2] := SqT.of upd_same
      have sm5 := sm4.trans sT
      have hy5 := hy.same sT
      generalize upd H4 Tp (.tup [.int (i : Nat), z2]) = H5 at *
      obtain ⟨e, he, hze⟩ := ats_ev (ha.same sm5) e2
      have hev := hh.ev e (List.mem_of_getElem? he)
      have hsub : ∀ d ∈ es.take i, EvT Z d := fun d hd => hh.ev d (List.mem_of_mem_take hd)
      have bt := lotR_bt hZ (es.take i) hsub
      have hlen := lot_len hZ (lot_nodup (lotR_lot hZ hsub)) bt
      refine ⟨Tp, _, rfl, hT, rfl, _, _, rfl, _, _, rfl, rfl, ?_⟩
      refine ⟨v, rfl, y, rfl, z2, rfl, Z, v, y, z2, lotR Z (es.take i), e, rfl, (hv.same sm3).same sm5, hZ, hy5, bt, by omega, hze, hev, fun z3 ls H6 s6 lot mem hz3 => ?_⟩
      have el := lotOf_eq (fun b hb => (behind_bt hZ bt hev b hb).ok hZ) lot mem
      rw [← lotR_take he] at el
      subst el
      refine ⟨z3, rfl, [], .nil, by decide, fun p7 H7 s7 hp7 => ⟨_, _, hz3.same s7, hp7, by simp [NestedKey.depth, NestedKey.depthAll], _, rfl, ?_⟩⟩
      have ed : decide (NestedKey.tup ((lotR Z (es.take (i + 1))).map eB) = .tup []) = decide (lotR Z (es.take (i + 1)) = []) := by
        cases lotR Z (es.take (i + 1)) <;> simp
      rw [ed]
      have sm7 := (sm3.trans sm5).trans (s6.trans s7)
      refine ite2 (fun c => ?_) fun c => ?_
      · exact ⟨_, rfl, (q H7 sm7).1 i (by omega) (of_decide_eq_true c) hno⟩
      · refine ⟨z3, _, _, rfl, sm5.trans (s6.trans s7), hz3.same s7, fun j hj => ?_⟩
        rcases Nat.lt_succ_iff_lt_or_eq.mp hj with z | z
        · exact hno j z
        · rw [z]
          exact fun z => c (decide_eq_true z)
    · rintro σ H4 ⟨y, p4, p5, rfl, sm4, hy, hno⟩
      exact (q H4 (sm3.trans sm4)).2 fun i hi => hno i (by omega)
end
end M

namespace M
open PySem PySem.Spec PyProof.Rows L2
section
variable {X : Cx}
/-- d.update(d2), keys ints or texts -/
def rUpdate : V → List V → Hp → VK → Prop := fun x vs H Q => ∃ (d o : Addr) (kvs more : List (L2.Key × V)), x = .ref d ∧ vs = [.ref o] ∧ d ≠ o ∧ H d = some (.dK kvs) ∧ H o = some (.dK more) ∧ kvs.length + more.length ≤ 1000000 ∧ Q .non (upd H d (.dK (mergeK kvs more)))
theorem mt_update : MtM X "dict.update" rUpdate := fun pins s σ H x vs v us Q I rx rv h => by
  obtain ⟨d, o, kvs, more, rfl, rfl, ne, hd, ho, hl, q⟩ := h
  cases rx
  obtain ⟨u, rfl, ru⟩ := Vals.one rv
  cases ru
  obtain ⟨z1, l1, vs1, r1, d1⟩ := dk_of I.hok hd
  obtain ⟨z2, l2, vs2, r2, d2⟩ := dk_of I.hok ho
  have e1 := r1.length
  have e2 := r2.length
  refine call_meetsIn PySem.F.slot_dict_update d1.typeIs PySem.F.entry_dict_update (PySem.F.args_dict_update_2 _ _) (meets_dict_update (mixKind X.prog X.w) d o ne l2) ⟨vs1, vs2, d1, d2, by rw [sizeLine_eq]; omega, fun h' dd' _ sb => ?_⟩
  have hz : (mergeK kvs more).length ≤ sizeLine := by
    have := length_mergeK more kvs
    rw [sizeLine_eq]
    omega
  have hq : ∃ q, h'.get? d = some q := by
    obtain ⟨q, _, _, hq, _⟩ := dd'
    exact ⟨q, hq⟩
  exact ⟨.non, _, d_write (t' := s.toks) I (by rw [hd]; trivial) sb hq (dk_new hz l1 (KV.merge r2 r1) dd'), rfl, q⟩
end
abbrev iK (n : Nat) : L2.Key := Sum.inl (n : Int)
theorem iK_inj {a b : Nat} (h : iK a = iK b) : a = b := by
  have : (a : Int) = b := by simpa [iK] using h
  omega
theorem mem_iK {ls : List Nat} {a : Nat} : iK a ∈ ls.map iK ↔ a ∈ ls := by
  constructor
  · intro h
    obtain ⟨b, hb, e⟩ := List.mem_map.mp h
    rw [← iK_inj e]
    exact hb
  · exact fun h => List.mem_map_of_mem h
/-- a dict with these numbers as keys -/
structure IKs (kvs : List (L2.Key × V)) (ls : List Nat) : Prop where
  keys : kvs.map (·.1) = ls.map iK
  nd : ls.Nodup
theorem IKs.nil : IKs [] [] := ⟨rfl, List.nodup_nil⟩
theorem IKs.len {kvs : List (L2.Key × V)} {ls : List Nat} (h : IKs kvs ls) : kvs.length = ls.length := by
  have := congrArg List.length h.keys
  simpa using this
instance memKey (k : L2.Key) (l : List L2.Key) : Decidable (k ∈ l) := @List.instDecidableMemOfLawfulBEq _ instBEqOfDecidableEq inferInstance k l
theorem keysK_put {kvs : List (L2.Key × V)} {k : L2.Key} {v : V} : (putK kvs k v).map (·.1) = if k ∈ kvs.map (·.1) then kvs.map (·.1) else kvs.map (·.1) ++ [k] := by
  have e : (kvs.any fun kv => decide (kv.1 = k)) = decide (k ∈ kvs.map (·.1)) := by
    rw [Bool.eq_iff_iff, List.any_eq_true, decide_eq_true_iff, List.mem_map]
    constructor
    · rintro ⟨p, hp, e⟩
      exact ⟨p, hp, of_decide_eq_true e⟩
    · rintro ⟨p, hp, e⟩
      exact ⟨p, hp, decide_eq_true e⟩
  unfold putK
  rw [e]
  by_cases h : k ∈ kvs.map (·.1)
  · rw [decide_eq_true h, if_pos rfl, if_pos h, List.map_map]
    refine List.map_congr_left fun p _ => ?_
    simp only [Function.comp]
    split <;> rfl
  · rw [decide_eq_false h, if_neg Bool.false_ne_true, if_neg h, List.map_append]
    rfl
theorem IKs.put {kvs : List (L2.Key × V)} {ls : List Nat} (h : IKs kvs ls) (a : Nat) (v : V) : ∃ ls', IKs (putK kvs (iK a) v) ls' ∧ ∀ b, b ∈ ls' ↔ b ∈ ls ∨ b = a := by
  by_cases c : a ∈ ls
  · refine ⟨ls, ⟨?_, h.nd⟩, fun b => ⟨.inl, fun z => z.elim id fun e => e ▸ c⟩⟩
    rw [keysK_put, h.keys, if_pos (mem_iK.mpr c)]
  · refine ⟨ls ++ [a], ⟨?_, List.nodup_append.mpr ⟨h.nd, by simp, fun x hx y hy e => ?_⟩⟩, fun b => by simp⟩
    · rw [keysK_put, h.keys, if_neg fun z => c (mem_iK.mp z)]
      simp
    · rw [List.mem_singleton.mp hy] at e
      exact c (e ▸ hx)
theorem IKs.merge {more : List (L2.Key × V)} : ∀ {ms : List Nat} {kvs : List (L2.Key × V)} {ls : List Nat}, IKs kvs ls → more.map (·.1) = ms.map iK → ∃ ls', IKs (mergeK kvs more) ls' ∧ ∀ b, b ∈ ls' ↔ b ∈ ls ∨ b ∈ ms := by
  induction more with
  | nil =>
    intro ms kvs ls h e
    have : ms = [] := by
      cases ms with
      | nil => rfl
      | cons a b => simp at e
    subst this
    exact ⟨ls, h, fun b => by simp⟩
  | cons p more ih =>
    intro ms kvs ls h e
    cases ms with
    | nil => simp at e
    | cons a ms =>
      simp only [List.map_cons, List.cons.injEq] at e
      obtain ⟨l1, h1, m1⟩ := h.put a p.2
      obtain ⟨l2, h2, m2⟩ := ih h1 e.2
      refine ⟨l2, ?_, fun b => ?_⟩
      · have : mergeK kvs (p :: more) = mergeK (putK kvs p.1 p.2) more := rfl
        rw [this, e.1]
        exact h2
      · rw [m2, m1, List.mem_cons]
        constructor
        · rintro ((z | z) | z)
          · exact .inl z
          · exact .inr (.inl z)
          · exact .inr (.inr z)
        · rintro (z | z | z)
          · exact .inl (.inl z)
          · exact .inl (.inr z)
          · exact .inr z
/-- numbers ascending, each once -/
def Asc (ls : List Nat) : Prop := ls.Pairwise (· < ·)
theorem asc_ext {xs ys : List Nat} (h1 : Asc xs) (h2 : Asc ys) (h : ∀ b, b ∈ xs ↔ b ∈ ys) : xs = ys := strict_ext (rk := id) h1 h2 h
theorem ints_sorted {ys : List Int} {ls : List Nat} (hp : ys.Perm (ls.map fun n : Nat => (n : Int))) (hs : ys.Pairwise (· ≤ ·)) (hn : ls.Nodup) : ∃ zs : List Nat, ys = zs.map (fun n : Nat => (n : Int)) ∧ Asc zs ∧ ∀ b, b ∈ zs ↔ b ∈ ls := by
  have e : ys = (ys.map Int.toNat).map fun n : Nat => (n : Int) := by
    rw [List.map_map]
    refine (List.map_id _).symm.trans (List.map_congr_left fun y hy => ?_)
    obtain ⟨n, _, rfl⟩ := List.mem_map.mp (hp.mem_iff.mp hy)
    simp
  have hz : (ys.map Int.toNat).Perm ls := by
    have := hp.map Int.toNat
    rw [List.map_map] at this
    have e2 : ls.map (Int.toNat ∘ fun n : Nat => (n : Int)) = ls := by
      refine (List.map_congr_left fun y hy => ?_).trans (List.map_id _)
      simp
    rw [e2] at this
    exact this
  refine ⟨ys.map Int.toNat, e, ?_, fun b => hz.mem_iff⟩
  have nd : (ys.map Int.toNat).Nodup := hz.nodup_iff.mpr hn
  have le : (ys.map Int.toNat).Pairwise (· ≤ ·) := by
    rw [List.pairwise_map]
    exact hs.imp fun {a b} h => Int.toNat_le_toNat h
  exact (le.and nd).imp fun {a b} h => Nat.lt_of_le_of_ne h.1 h.2
/-- the states behind a call with a result -/
def stp (T : Th) (S : List Nat) (c : Call) (r : Nat) : List Nat := (List.range T.n).filter fun t => S.any fun s => decide ((r, t) ∈ T.out s c)
theorem stp_asc (T : Th) (S : List Nat) (c : Call) (r : Nat) : Asc (stp T S c r) := List.Pairwise.filter _ List.pairwise_lt_range
theorem stp_mem {T : Th} {S : List Nat} {c : Call} {r t : Nat} : t ∈ stp T S c r ↔ t < T.n ∧ ∃ s ∈ S, (r, t) ∈ T.out s c := by
  unfold stp
  rw [List.mem_filter, List.mem_range, List.any_eq_true]
  constructor
  · rintro ⟨h, s, h1, h2⟩
    exact ⟨h, s, h1, of_decide_eq_true h2⟩
  · rintro ⟨h, s, h1, h2⟩
    exact ⟨h, s, h1, decide_eq_true h2⟩
abbrev Row := List (Call × Nat)
def rowS (T : Th) (row : Row) : List Nat := row.foldl (fun S p => stp T S p.1 p.2) [0]
theorem rowS_snoc (T : Th) (row : Row) (p : Call × Nat) : rowS T (row ++ [p]) = stp T (rowS T row) p.1 p.2 := by
  unfold rowS
  rw [List.foldl_append]
  rfl
theorem rowS_take {T : Th} {row : Row} {i : Nat} {p : Call × Nat} (h : row[i]? = some p) : rowS T (row.take (i + 1)) = stp T (rowS T (row.take i)) p.1 p.2 := by
  rw [List.take_add_one, h]
  exact rowS_snoc _ _ _
end M

namespace M
open PySem PySem.Spec PyProof.Rows L2
/-- a def that is known by another name -/
structure Df2 (K : PySem.W.Frag) (mg : Str → Option Value) (nm x : Str) (st : Stmt) (ps : List Str) : Prop where
  ex : ∃ f fd, Fun K x x st f fd ∧ mg nm = some (.ref f) ∧ Binds K fd ps []
theorem Df2.kn {P : Program} {w : World} {K : PySem.W.Frag} {mg : Str → Option Value} {base : Heap} {nm x : Str} {k : Nat} {ps : List Str} {sp : Sp} {st : Stmt} {N : List Str} (D : Df2 K mg nm x st ps) (S : FnScope N ps (defScope st)) (len : ∀ vs H Q E, sp vs H Q E → vs.length = ps.length)
    (hbody : ∀ (f : Addr) (cdv : Value) (A : Around) (outer : List Env) (s : Shared) (H : Hp) (vs : List V) (Q : VK) (E : XK), Room k (A.deeper (envOfC x (defScope st) s.heap.objs.size f cdv)) → sp vs H Q E →
      ∃ t, PSs (cxOf CX0 P w K mg base N x (defScope st) f cdv A outer s H E).nox (defBody st) t ∧ t { nx := fun _ H' => Q .non H', rt := Q } (start N vs) H) : Kn P w K mg base (k + 1) nm ps sp := by
  obtain ⟨f, fd, F, hm, hb⟩ := D.ex
  exact ⟨⟨f, fd, F.ok S len (hbody f), hm, F.kp, hb⟩⟩
section
variable {X : Cx}
theorem pg_tupK {K : PySem.W.Frag} {es : List Expr} {k : Nat} {t : TGs} {n : Nat} {pos : Pos} (hK : X.K = K) (hc : X.calm = true) (h : PGs X es t) (hn : (assignEach es X.env).length = n := by rfl) (hst : (assignEach es X.env).findIdx? (·.1) = none := by rfl) : PG X (.Tuple es k pos) (gTup K n t) := by
  subst hK
  exact pg_tup hc h hn hst
theorem ix_t0K {K : PySem.W.Frag} (hK : X.K = K) : IxR X (fun x y H Q => ∃ T, Tg K H x T ∧ y = .int 0 ∧ ∀ v, Bare K H v (T.calls.map eC) → Q v H) := by
  subst hK
  exact ix_t0
end
/-- an int dict made so far -/
theorem idc_it {J : It} {n : Nat} {G : Hp → Prop} {Yd : Nat → Hp → V → Hp → Prop} {g : TG} {tt : TT} {tk tv : TE} {vs : List Nat} {σ : L2.St} {H1 : Hp} {D : Addr} {Qd : Hp → Prop} {K : PySem.W.Frag}
    (wk : L2.Walk J n G Yd) (nD : H1 D = none) (hn : n ≤ 1000000) (hG : ∀ H, Same H1 H → G H) (R : Nat → List (L2.Key × V) → Prop) (h0 : R 0 [])
    (hs : ∀ i x H H' kvs (N0 : Hp → Prop) (Nk : V → V → Hp → Prop), i < n → Same H1 H → H D = some (.dK kvs) → R i kvs → Yd i H x H' → (∀ H3, Same H H3 → R (i + 1) kvs → N0 H3) →
      (∀ k z H5, Same H H5 → R (i + 1) (putK kvs k z) → Nk (kV k) z H5) →
      g x (wipe σ vs) H' fun σ2 H2 => wipe σ2 vs = wipe σ vs ∧ tt σ2 H2 fun b H3 => if b = true then tk σ2 H3 fun y H4 => tv σ2 H4 fun z H5 => Nk y z H5 else N0 H3)
    (hd : ∀ H kvs, Same H1 H → H D = some (.dK kvs) → R n kvs → Qd H) :
    ∃ W : Nat → Nat → Hp → Prop, (∃ m, W 0 m (upd H1 D (.dK []))) ∧ ∀ i m H, W i m H →
      (J.stop i H ∧ Qd H) ∨ (J.go i H ∧ ∃ Nx : Hp → Prop, (∀ H', Nx H' → ∃ m', m' < m ∧ W (i + 1) m' H') ∧ ∀ x H', J.yld i H x H' → g x (wipe σ vs) H' fun σ2 H2 => wipe σ2 vs = wipe σ vs ∧ tt σ2 H2 fun b H3 =>
        if b = true then tk σ2 H3 fun y H4 => tv σ2 H4 fun z H5 => ∃ kvs k, y = kV k ∧ H5 D = some (.dK kvs) ∧ kvs.length < sizeLine ∧ Nx (upd H5 D (.dK (putK kvs k z))) else Nx H3) := by
  refine ⟨fun i m H => m = n - i ∧ i ≤ n ∧ Same H1 H ∧ ∃ kvs, H D = some (.dK kvs) ∧ kvs.length ≤ i ∧ R i kvs, ⟨n, rfl, Nat.zero_le _, same_upd nD, [], upd_same, Nat.le_refl _, h0⟩, ?_⟩
  rintro i m H ⟨rfl, hi, sm, kvs, hD, hl, r⟩
  by_cases lt : i < n
  · refine .inr ⟨wk.goes i H lt (hG H sm), fun H' => (i + 1) ≤ n ∧ Same H1 H' ∧ ∃ kvs, H' D = some (.dK kvs) ∧ kvs.length ≤ i + 1 ∧ R (i + 1) kvs, fun H' p => ⟨n - (i + 1), by omega, rfl, p⟩, fun x H' y => ?_⟩
    refine hs i x H H' kvs (fun H3 => (i + 1) ≤ n ∧ Same H1 H3 ∧ ∃ kvs, H3 D = some (.dK kvs) ∧ kvs.length ≤ i + 1 ∧ R (i + 1) kvs) (fun y z H5 => ∃ kvs k, y = kV k ∧ H5 D = some (.dK kvs) ∧ kvs.length < sizeLine ∧
        ((i + 1) ≤ n ∧ Same H1 (upd H5 D (.dK (putK kvs k z))) ∧ ∃ kvs', upd H5 D (.dK (putK kvs k z)) D = some (.dK kvs') ∧ kvs'.length ≤ i + 1 ∧ R (i + 1) kvs')) lt sm hD r (wk.yields i H x H' lt (hG H sm) y) (fun H3 s3 r3 => ?_) fun k z H5 s5 r5 => ?_
    · exact ⟨lt, sm.trans s3, kvs, s3 _ _ hD, by omega, r3⟩
    · refine ⟨kvs, k, rfl, s5 _ _ hD, by rw [sizeLine_eq]; omega, lt, fun b o e => ?_, _, upd_same, by have := length_putK kvs k z; omega, r5⟩
      rw [upd_ne (ne_of_none e nD)]
      exact s5 _ _ (sm _ _ e)
  · have e : i = n := by omega
    subst e
    exact .inl ⟨wk.stops H (hG H sm), hd H kvs sm hD r⟩
end M

namespace M
open PySem PySem.Spec PyProof.Rows L2
def eR (p : Call × Nat) : NK := .tup [eC p.1, .num p.2]
def RowOk (T : Th) (row : Row) : Prop := (∀ p ∈ row, p.1 ∈ T.calls ∧ p.2 ≤ 9) ∧ row.length ≤ 100
theorem ats_map {K : PySem.W.Frag} {H : Hp} {α : Type} {f : α → NK} {xs : List V} {l : List α} (h : Ats K H xs (l.map f)) {i : Nat} {x : V} (hx : xs[i]? = some x) : ∃ e, l[i]? = some e ∧ At K H x (f e) := by
  obtain ⟨k, e, hk⟩ := h.back hx
  rw [List.getElem?_map] at e
  obtain ⟨b, hb, rfl⟩ := Option.map_eq_some_iff.mp e
  exact ⟨b, hb, hk⟩
theorem two_inv {K : PySem.W.Frag} {H : Hp} {v : V} {k l : NK} (h : At K H v (.tup [k, l])) : ∃ a x y, v = .ref a ∧ SqT K H a [x, y] ∧ At K H x k ∧ At K H y l := by
  obtain ⟨a, xs, rfl, s, r⟩ := h.tup_inv
  cases r with
  | cons h1 r => cases r with
    | cons h2 r =>
      cases r
      exact ⟨a, _, _, rfl, s, h1, h2⟩
section
variable {P : Program} {w : World} {K : PySem.W.Frag} {mg : Str → Option Value} {base : Heap}
theorem scIsDoneCall : FnScope ["thing"] ["thing"] (defScope sIsDoneCall) := ⟨rfl, rfl, rfl, by decide +kernel, rfl, by decide +kernel, by decide +kernel⟩
theorem scCheckRow : FnScope ["thing", "row", "one", "call", "result"] ["thing", "row"] (defScope sCheckRow) := ⟨rfl, rfl, rfl, by decide +kernel, rfl, by decide +kernel, by decide +kernel⟩
theorem scLed : FnScope ["thing", "states", "call", "result", "found", "state", "its", "to"] ["thing", "states", "call", "result"] (defScope sLed) := ⟨rfl, rfl, rfl, by decide +kernel, rfl, by decide +kernel, by decide +kernel⟩
theorem scStatesBehind : FnScope ["thing", "row", "states", "call", "result"] ["thing", "row"] (defScope sStatesBehind) := ⟨rfl, rfl, rfl, by decide +kernel, rfl, by decide +kernel, by decide +kernel⟩
def spIsDoneCall (K : PySem.W.Frag) : Sp := fun vs H Q _ => ∃ v p, vs = [v] ∧ At K H v (eR p) ∧ COk p.1 ∧ p.2 ≤ 9 ∧ ∀ H', Same H H' → Q (.bl true) H'
theorem k_is_done_call (T : Tx K mg) (D : Df K mg "is_done_call" sIsDoneCall ["thing"]) (F1 : Kn P w K mg base 1 "is_sized" ["thing", "many"] (spIsSized K)) (F2 : Kn P w K mg base 4 "is_call" ["thing"] (spIsCall K)) (F3 : Kn P w K mg base 3 "is_number" ["thing"] spIsNumber) :
    Kn P w K mg base 5 "is_done_call" ["thing"] (spIsDoneCall K) := by
  refine D.kn scIsDoneCall (fun vs H Q E h => ?_) (fun f cdv A outer s H vs Q E hr h => ?_)
  · obtain ⟨v, p, rfl, _⟩ := h
    rfl
  · obtain ⟨v, ⟨c, n⟩, rfl, hv, hc, hn, q⟩ := h
    refine ⟨_, pss_one (ps_ret (pe_and (pe_kn F1 (hr.mono (by decide)) (pa_cons (pv 0) (pa_cons pe_int pa_nil))) (pe_and (pe_kn F2 hr (pa_cons (pe_ix ix_n (pv 0) pe_int (fun _ _ => rfl)) pa_nil)) (pe_one (pe_kn F3 (hr.mono (by decide)) (pa_cons (pe_ix ix_n (pv 0) pe_int (fun _ _ => rfl)) pa_nil)))))), ?_⟩
    refine ⟨v, rfl, v, _, 2, rfl, hv, true, by simp, iteT ?_⟩
    refine ⟨v, rfl, _, 0, eC c, hv, rfl, rfl, fun u hu => ⟨u, c, rfl, hu, hc, fun H1 s1 => ⟨true, rfl, iteT ?_⟩⟩⟩
    refine ⟨v, rfl, _, 1, .num n, hv.same s1, rfl, rfl, fun u hu => ?_⟩
    obtain rfl := hu.num_inv
    have hn : n ≤ 9 := hn
    exact ⟨_, rfl, by omega, by omega, q H1 s1⟩
def spCheckRow (K : PySem.W.Frag) : Sp := fun vs H Q _ => ∃ (T : Th) (v u : V) (row : Row), vs = [v, u] ∧ Tg K H v T ∧ TOk T ∧ At K H u (.tup (row.map eR)) ∧ RowOk T row ∧ ∀ H', Same H H' → Q .non H'
theorem k_check_row (T : Tx K mg) (D : Df K mg "check_row" sCheckRow ["thing", "row"]) (F1 : Kn P w K mg base 5 "is_done_call" ["thing"] (spIsDoneCall K)) : Kn P w K mg base 6 "check_row" ["thing", "row"] (spCheckRow K) := by
  refine D.kn scCheckRow (fun vs H Q E h => ?_) (fun f cdv A outer s H vs Q E hr h => ?_)
  · obtain ⟨Z, v, u, row, rfl, _⟩ := h
    rfl
  · obtain ⟨Z, v, u, row, rfl, hv, hZ, hu, hrow, q⟩ := h
    refine ⟨_, pss_cons (ps_if (PW.pt (pw_or (pt_not (pt_val (pe_isi (T := "tuple") (pv 1) T.isi T.tuple (by decide +kernel)))) (pw_or1 (pt_not (pt_val (pe_callB (cr_all rfl) (by rfl) T.all (by decide +kernel) (pa_cons
        (pe_lc (own := [("one", 2)]) (g := gName 2) (tt := tYes) rfl scCheckRow.nd (pi_tup (pv 1)) (blkOk_by (N := ["thing", "row", "one", "call", "result"]) (sc := defScope sCheckRow) (by decide +kernel)) (fun _ _ _ _ _ => pg_name (i := 2) scCheckRow.nd rfl (Or.inl rfl)) (fun _ _ _ _ _ => pts_nil)
          (fun _ _ _ _ _ => pe_kn F1 hr (pa_cons (pv 2) pa_nil))) pa_nil))))))) (pss_one ps_never) pss_nil)
      (pss_one (ps_if (pt_not (pt_val (pe_callB (cr_all rfl) (by rfl) T.all (by decide +kernel) (pa_cons
        (pe_lc (own := [("call", 3), ("result", 4)]) (tt := tYes) rfl scCheckRow.nd (pi_tup (pv 1)) (blkOk_by (N := ["thing", "row", "one", "call", "result"]) (sc := defScope sCheckRow) (by decide +kernel)) (fun _ _ _ _ _ => pg_tupK (K := K) (n := 2) rfl rfl (pgs_cons (pg_name (i := 3) scCheckRow.nd rfl (Or.inl rfl)) (pgs_cons (pg_name (i := 4) scCheckRow.nd rfl (Or.inl rfl)) pgs_nil))) (fun _ _ _ _ _ => pts_nil)
          (fun _ _ _ _ _ => pe_cmpR (op_inNK (K := K) rfl hr.units) (pv 3) (pe_ix (ix_t0K (K := K) rfl) (pv 0) pe_int (fun _ _ => rfl)) (by rfl))) pa_nil)))) (pss_one ps_never) pss_nil)), ?_⟩
    obtain ⟨a, xs, rfl, hs, ha⟩ := id hu.tup_inv
    have lx : xs.length = row.length := by rw [ha.length, List.length_map]
    have hl := hrow.2
    refine ⟨.ref a, rfl, .ref a, .ty "tuple", .type "tuple", .type "tuple", true, rfl, .ty _, tyx_tup hu, by rfl, true, rfl, iteF ?_⟩
    refine ⟨.ref a, rfl, a, rfl, ⟨_, hs⟩, fun D nD => ?_⟩
    refine lc_acc (K := K) (walk_tup (xs := xs)) nD (by omega) (fun H1 s1 => Ext.of_same s1 _ _ hs) (fun i acc _ => acc = List.replicate i (.bl true)) (fun _ _ _ _ _ h => h) rfl (fun i x H1 H2 acc k k0 hi sm eD hr2 hy hk _ => ?_) fun H1 acc sm eD hr2 => ?_
    · obtain ⟨rfl, hx⟩ := hy
      obtain ⟨p, hp, hxp⟩ := ats_map (ha.same sm) hx
      have hpo := hrow.1 p (List.mem_of_getElem? hp)
      refine ⟨rfl, lc_yes ?_⟩
      refine ⟨x, rfl, x, p, rfl, hxp, hZ.cok _ hpo.1, hpo.2, fun H3 s3 => hk _ _ s3 ?_⟩
      rw [hr2, List.replicate_succ']
    · subst hr2
      refine ⟨D, List.replicate xs.length true, rfl, ?_, true, by simp, iteF ?_⟩
      · rw [List.map_replicate]
        exact SqL.of eD
      have hu1 := hu.same sm
      have hv1 := hv.same sm
      refine ⟨.ref a, rfl, a, rfl, ⟨_, Ext.of_same sm _ _ hs⟩, fun D2 nD2 => ?_⟩
      refine lc_acc (K := K) (walk_tup (xs := xs)) nD2 (by omega) (fun H1 s1 => Ext.of_same (sm.trans s1) _ _ hs) (fun i acc _ => acc = List.replicate i (.bl true)) (fun _ _ _ _ _ h => h) rfl (fun i x H3 H4 acc k k0 hi sm3 eD3 hr3 hy hk _ => ?_) fun H3 acc sm3 eD3 hr3 => ?_
      · obtain ⟨rfl, hx⟩ := hy
        obtain ⟨p, hp, hxp⟩ := ats_map ((ha.same sm).same sm3) hx
        have hpo := hrow.1 p (List.mem_of_getElem? hp)
        obtain ⟨a2, y1, y2, rfl, hs2, h1, h2⟩ := two_inv hxp
        refine ⟨a2, _, rfl, hs2, rfl, _, _, rfl, _, _, rfl, rfl, rfl, lc_yes ?_⟩
        refine ⟨y1, rfl, v, rfl, Z, hv1.same sm3, rfl, fun y3 hy3 => ⟨eC p.1, _, h1, hy3.at.seq, by simp [eC, NestedKey.depth, NestedKey.depthAll], ?_⟩⟩
        rw [decide_eq_true (List.mem_map_of_mem hpo.1)]
        refine hk _ _ (Same.refl _) ?_
        rw [hr3, List.replicate_succ']
        rfl
      · subst hr3
        refine ⟨D2, List.replicate xs.length true, rfl, ?_, true, by simp, iteF ?_⟩
        · rw [List.map_replicate]
          exact SqL.of eD3
        · exact q H3 (sm.trans sm3)
end
end M

namespace M
open PySem PySem.Spec PyProof.Rows L2
def nums (S : List Nat) : NK := .tup (S.map fun n : Nat => NestedKey.num n)
section
variable {P : Program} {w : World} {K : PySem.W.Frag} {mg : Str → Option Value} {base : Heap}
theorem ats_ints {K : PySem.W.Frag} {H : Hp} : ∀ zs : List Nat, Ats K H ((zs.map fun n : Nat => (n : Int)).map V.int) (zs.map fun n : Nat => NestedKey.num n)
  | [] => .nil
  | z :: zs => .cons (.int _) (ats_ints zs)
/-- tuple(sorted(d)) of a dict of states: its reading -/
theorem tup_sorted {H : Hp} {D0 : Addr} {kvs : List (L2.Key × V)} {ls S : List Nat} {Q : VK} (hD : H D0 = some (.dK kvs)) (hk : IKs kvs ls) (hl : ls.length < 64) (hS : Asc S) (hm : ∀ b, b ∈ ls ↔ b ∈ S) (q : ∀ z H', Same H H' → At K H' z (nums S) → Q z H') :
    ∃ (a : Addr) (kvs : List (L2.Key × V)) (ks : List Int), [V.ref D0] = [.ref a] ∧ Rd H a (.dK kvs) ∧ kvs.map (·.1) = ks.map Sum.inl ∧ ks.length < 64 ∧
      ∀ (ys : List Int) (p : Addr), ys.Perm ks → ys.Pairwise (· ≤ ·) → H p = none → (∃ v ks, [V.ref p] = [v] ∧ Seq K (upd H p (.lst (ys.map V.int))) v ks ∧ ks.length ≤ 1000000 ∧ ∀ u H', Same (upd H p (.lst (ys.map V.int))) H' → At K H' u (.tup ks) → Q u H') := by
  refine ⟨D0, kvs, ls.map fun n : Nat => (n : Int), rfl, .inl hD, ?_, by rw [List.length_map]; exact hl, fun ys p hp hs np => ?_⟩
  · rw [hk.keys, List.map_map]
    rfl
  · obtain ⟨zs, rfl, ha, hz⟩ := ints_sorted hp hs hk.nd
    obtain rfl : zs = S := asc_ext ha hS fun b => (hz b).trans (hm b)
    have hlen : zs.length ≤ ls.length := nodup_len (List.Pairwise.imp (fun {a b} h => Nat.ne_of_lt h) ha) fun b hb => (hm b).mpr hb
    exact ⟨_, _, rfl, Seq.lst (SqL.of upd_same) (ats_ints zs), by rw [List.length_map]; omega, fun u H' s1 hu => q u H' ((same_upd np).trans s1) hu⟩
def spLed (K : PySem.W.Frag) : Sp := fun vs H Q _ => ∃ (T : Th) (v st u : V) (S : List Nat) (c : Call) (r : Nat), vs = [v, st, u, .int r] ∧ Tg K H v T ∧ TOk T ∧ At K H st (nums S) ∧ (∀ s ∈ S, s < T.n) ∧ S.length ≤ 4 ∧ At K H u (eC c) ∧ c ∈ T.calls ∧ ∀ z H', Same H H' → At K H' z (nums (stp T S c r)) → Q z H'
theorem below_len {T : Th} (hT : TOk T) {ls : List Nat} (hn : ls.Nodup) (h : ∀ b ∈ ls, b < T.n) : ls.length ≤ 4 := by
  have := nodup_len hn (m := List.range T.n) fun b hb => List.mem_range.mpr (h b hb)
  have h4 : T.n ≤ 4 := hT.four
  rw [List.length_range] at this
  omega
theorem asc_nodup {S : List Nat} (h : Asc S) : S.Nodup := List.Pairwise.imp (fun {a b} h => Nat.ne_of_lt h) h
theorem stp_len {T : Th} (hT : TOk T) (S : List Nat) (c : Call) (r : Nat) : (stp T S c r).length ≤ 4 := below_len hT (asc_nodup (stp_asc T S c r)) fun b hb => (stp_mem.mp hb).1
theorem k_led (T : Tx K mg) (D : Df K mg "led" sLed ["thing", "states", "call", "result"]) (F1 : Kn P w K mg base 5 "outcomes_of" ["thing", "state", "call"] (spOutcomesOf K)) : Kn P w K mg base 6 "led" ["thing", "states", "call", "result"] (spLed K) := by
  refine D.kn scLed (fun vs H Q E h => ?_) (fun f cdv A outer s H vs Q E hr h => ?_)
  · obtain ⟨Z, v, st, u, S, c, r, rfl, _⟩ := h
    rfl
  · obtain ⟨Z, v, st, u, S, c, r, rfl, hv, hZ, hst, hS, hl, hu, hc, q⟩ := h
    refine ⟨_, pss_cons (ps_set (i := 4) scLed.nd rfl (Or.inl rfl) pe_dnewK)
      (pss_cons (ps_for PassesOwn.never rfl (pi_tup (pv 1)) (pg_name (i := 5) scLed.nd rfl (Or.inl rfl))
        (pss_one (ps_expr (pe_bm F.plainAttrs_dict F.slot_dict_update F.type_dict_update mt_update (pv 4) (pa_cons
          (pe_dc (own := [("its", 6), ("to", 7)]) rfl scLed.nd (pi_tup (pe_kn F1 hr (pa_cons (pv 0) (pa_cons (pv 5) (pa_cons (pv 2) pa_nil))))) (blkOk_by (N := ["thing", "states", "call", "result", "found", "state", "its", "to"]) (sc := defScope sLed) (by decide +kernel))
            (fun _ _ _ _ _ => pg_tupK (K := K) (n := 2) rfl rfl (pgs_cons (pg_name (i := 6) scLed.nd rfl (Or.inl rfl)) (pgs_cons (pg_name (i := 7) scLed.nd rfl (Or.inl rfl)) pgs_nil))) (fun _ _ _ _ _ => pts_one (pt_cmpR op_eq (pv 6) (pv 3) (nomark _))) (fun _ _ _ _ _ => pv 7) (fun _ _ _ _ _ => pe_bl)) pa_nil)))))
      (pss_one (ps_ret (pe_callTy tuple_n (by rfl) T.tuple boot_tuple (pa_cons (pe_callB (call_sortedDI rfl) (by rfl) T.sorted boot_sorted (pa_cons (pv 4) pa_nil)) pa_nil))))), ?_⟩
    refine fun D0 nD => ?_
    have s0 : Same H (upd H D0 (.dK [])) := same_upd nD
    have hst1 := hst.same s0
    obtain ⟨a, xs, rfl, hs, ha⟩ := hst1.tup_inv
    have lx : xs.length = S.length := by rw [ha.length, List.length_map]
    refine ⟨.ref a, rfl, a, rfl, ⟨_, hs⟩, ?_⟩
    refine for_it (walk_tup (xs := xs)) (fun i σ H' => ∃ p5 p6 p7, σ = [some v, some (.ref a), some u, some (.int r), some (.ref D0), p5, p6, p7] ∧ Same H H' ∧ Ext K (upd H D0 (.dK [])) H' ∧ ∃ kvs ls, H' D0 = some (.dK kvs) ∧ IKs kvs ls ∧ ∀ b, b ∈ ls ↔ ∃ s ∈ S.take i, (r, b) ∈ Z.out s c) ?_ ?_ ?_ ?_
    · exact ⟨none, none, none, rfl, s0, Ext.refl _, [], [], upd_same, IKs.nil, fun b => by simp⟩
    · rintro i σ H4 _ ⟨_, _, _, _, _, h1, _⟩
      exact h1 _ _ hs
    · rintro i z σ H4' H4 hi ⟨p5, p6, p7, rfl, sm4, ex4, kvs, ls, hD4, hk4, hm4⟩ ⟨eH, hz⟩
      subst eH
      obtain ⟨sn, hsn, hzn⟩ := ats_map (ha.ext ex4) hz
      obtain rfl := hzn.num_inv
      have hsT := hS sn (List.mem_of_getElem? hsn)
      have l4 : ls.length ≤ 4 := below_len hZ hk4.nd fun b hb => by
        obtain ⟨s2, h1, h2⟩ := (hm4 b).mp hb
        exact (Th.out_ok hZ (hS s2 (List.mem_of_mem_take h1)) hc _ h2).2
      have lk := hk4.len
      refine ⟨.ref D0, rfl, .inr (.inr (.inl ⟨rfl, .inl ⟨kvs, hD4⟩⟩)), ?_⟩
      refine ⟨v, rfl, .int sn, rfl, u, rfl, Z, v, u, sn, c, rfl, hv.same sm4, hZ, hsT, hu.same sm4, hc, fun zo H5 s5 hzo => ?_⟩
      obtain ⟨ao, os, rfl, hos, hat⟩ := hzo.tup_inv
      have lo : os.length = (Z.out sn c).length := by rw [hat.length, List.length_map]
      have ll : (Z.out sn c).length ≤ 12 := Th.out_len hZ hsT hc
      refine ⟨ao, rfl, ⟨_, hos⟩, fun D1 nD1 => ?_⟩
      refine idc_it (K := K) (walk_tup (xs := os)) nD1 (by omega) (fun H6 s6 => Ext.of_same s6 _ _ hos) (fun j kvs => ∃ ms, IKs kvs ms ∧ (∀ b, b ∈ ms ↔ (r, b) ∈ (Z.out sn c).take j) ∧ kvs.length ≤ j) ⟨[], IKs.nil, fun b => by simp, Nat.le_refl _⟩ (fun j x H6 H7 kvs6 N0 Nk hj sm6 hD6 hR hy h0 hk => ?_) fun H6 kvs6 sm6 hD6 hR => ?_
      · obtain ⟨rfl, hx⟩ := hy
        obtain ⟨⟨r2, t⟩, ho, hxo⟩ := ats_map (hat.same sm6) hx
        obtain ⟨a2, y1, y2, rfl, hs2, h1, h2⟩ := two_inv hxo
        obtain rfl := h1.num_inv
        obtain rfl := h2.num_inv
        obtain ⟨ms, hk6, hm6, hl6⟩ := hR
        have tk : (Z.out sn c).take (j + 1) = (Z.out sn c).take j ++ [(r2, t)] := by
          rw [List.take_add_one, ho]
          rfl
        refine ⟨a2, _, rfl, hs2, rfl, _, _, rfl, _, _, rfl, rfl, rfl, ?_⟩
        refine ⟨_, rfl, .int r, rfl, rfl, _, rfl, ?_⟩
        by_cases e : r2 = r
        · subst e
          rw [decide_eq_true rfl]
          refine iteT ?_
          obtain ⟨ms', hk7, hm7⟩ := hk6.put t (.bl true)
          refine ⟨_, rfl, hk (iK t) _ _ (Same.refl _) ⟨ms', hk7, fun b => ?_, ?_⟩⟩
          · rw [hm7, hm6, tk, List.mem_append, List.mem_singleton]
            simp
          · have := length_putK kvs6 (iK t) (.bl true)
            omega
        · have e' : ¬ V.int (r2 : Int) = V.int (r : Int) := fun z => e (by injection z with z; omega)
          rw [decide_eq_false e']
          refine iteF (h0 _ (Same.refl _) ⟨ms, hk6, fun b => ?_, by omega⟩)
          rw [hm6, tk, List.mem_append, List.mem_singleton]
          constructor
          · exact .inl
          · rintro (z | z)
            · exact z
            · injection z with z1 z2
              exact absurd z1.symm e
      · obtain ⟨ms, hk6, hm6, hl6⟩ := hR
        rw [lo, List.take_length] at hm6
        have hD0 : H6 D0 = some (.dK kvs) := sm6 _ _ (s5 _ _ hD4)
        have ne : D0 ≠ D1 := ne_of_none (s5 _ _ hD4) nD1
        obtain ⟨ls', hk7, hm7⟩ := hk4.merge hk6.keys
        refine ⟨D0, D1, kvs, kvs6, rfl, rfl, ne, hD0, hD6, by omega, ?_⟩
        refine ⟨_, _, _, rfl, fun b o e => ?_, (ex4.trans (.of_same (s5.trans sm6))).trans (Ext.mut hD0 trivial), _, ls', upd_same, hk7, fun b => ?_⟩
        · rw [upd_ne (ne_of_none e nD)]
          exact sm6 _ _ (s5 _ _ (sm4 _ _ e))
        · rw [hm7, hm4, hm6, List.take_add_one, hsn]
          simp only [Option.toList_some, List.mem_append, List.mem_singleton]
          constructor
          · rintro (⟨s2, h1, h2⟩ | h2)
            · exact ⟨s2, .inl h1, h2⟩
            · exact ⟨sn, .inr rfl, h2⟩
          · rintro ⟨s2, h1 | rfl, h2⟩
            · exact .inl ⟨s2, h1, h2⟩
            · exact .inr h2
    · rintro σ H4 ⟨p5, p6, p7, rfl, sm4, ex4, kvs, ls, hD4, hk4, hm4⟩
      rw [lx, List.take_length] at hm4
      have l4 : ls.length ≤ 4 := below_len hZ hk4.nd fun b hb => by
        obtain ⟨s2, h1, h2⟩ := (hm4 b).mp hb
        exact (Th.out_ok hZ (hS s2 h1) hc _ h2).2
      refine ⟨.ref D0, rfl, ?_⟩
      refine tup_sorted (K := K) hD4 hk4 (by omega) (stp_asc Z S c r) (fun b => ?_) fun z H5 s5 hz => q z H5 (sm4.trans s5) hz
      rw [hm4, stp_mem]
      constructor
      · rintro ⟨s2, h1, h2⟩
        exact ⟨(Th.out_ok hZ (hS s2 h1) hc _ h2).2, s2, h1, h2⟩
      · exact fun h => h.2
def spStates (K : PySem.W.Frag) : Sp := fun vs H Q _ => ∃ (T : Th) (v u : V) (row : Row), vs = [v, u] ∧ Tg K H v T ∧ TOk T ∧ At K H u (.tup (row.map eR)) ∧ RowOk T row ∧ ∀ z H', Same H H' → At K H' z (nums (rowS T row)) → Q z H'
theorem rowS_ok {T : Th} (hT : TOk T) (row : Row) : (∀ s ∈ rowS T row, s < T.n) ∧ (rowS T row).length ≤ 4 := by
  rcases List.eq_nil_or_concat row with rfl | ⟨fs, e, rfl⟩
  · refine ⟨fun s hs => ?_, by simp [rowS]⟩
    rw [List.mem_singleton.mp hs]
    exact hT.one
  · rw [List.concat_eq_append, rowS_snoc]
    exact ⟨fun s hs => (stp_mem.mp hs).1, stp_len hT _ _ _⟩
theorem k_states_behind (T : Tx K mg) (D : Df2 K mg "states_behind_things" "states_behind" sStatesBehind ["thing", "row"]) (F1 : Kn P w K mg base 6 "check_row" ["thing", "row"] (spCheckRow K)) (F2 : Kn P w K mg base 6 "led" ["thing", "states", "call", "result"] (spLed K)) :
    Kn P w K mg base 7 "states_behind_things" ["thing", "row"] (spStates K) := by
  refine D.kn scStatesBehind (fun vs H Q E h => ?_) (fun f cdv A outer s H vs Q E hr h => ?_)
  · obtain ⟨Z, v, u, row, rfl, _⟩ := h
    rfl
  · obtain ⟨Z, v, u, row, rfl, hv, hZ, hu, hrow, q⟩ := h
    refine ⟨_, pss_cons (ps_expr (pe_kn F1 hr (pa_cons (pv 0) (pa_cons (pv 1) pa_nil))))
      (pss_cons (ps_set (i := 2) scStatesBehind.nd rfl (Or.inl rfl) (pe_tupN (pa_cons pe_int pa_nil)))
      (pss_cons (ps_for PassesOwn.never rfl (pi_tup (pv 1)) (pg_tup rfl (pgs_cons (pg_name (i := 3) scStatesBehind.nd rfl (Or.inl rfl)) (pgs_cons (pg_name (i := 4) scStatesBehind.nd rfl (Or.inl rfl)) pgs_nil)))
        (pss_one (ps_set (i := 2) scStatesBehind.nd rfl (Or.inl rfl) (pe_kn F2 hr (pa_cons (pv 0) (pa_cons (pv 2) (pa_cons (pv 3) (pa_cons (pv 4) pa_nil))))))))
      (pss_one (ps_ret (pv 2))))), ?_⟩
    refine ⟨v, rfl, u, rfl, Z, v, u, row, rfl, hv, hZ, hu, hrow, fun H1 s1 => ?_⟩
    refine ⟨[.num 0], .one (.int 0), by decide, fun p2 H2 s2 hp2 => ?_⟩
    have sm2 := s1.trans s2
    have hu2 := hu.same sm2
    obtain ⟨a, xs, rfl, hs, ha⟩ := hu2.tup_inv
    have lx : xs.length = row.length := by rw [ha.length, List.length_map]
    refine ⟨.ref a, rfl, a, rfl, ⟨_, hs⟩, ?_⟩
    refine for_it (walk_tup (xs := xs)) (fun i σ H' => ∃ y p3 p4, σ = [some v, some (.ref a), some y, p3, p4] ∧ Same H2 H' ∧ At K H' y (nums (rowS Z (row.take i)))) ?_ ?_ ?_ ?_
    · exact ⟨p2, none, none, rfl, Same.refl _, hp2⟩
    · rintro i σ H4 _ ⟨_, _, _, _, h1, _⟩
      exact Ext.of_same h1 _ _ hs
    · rintro i z σ H4' H4 hi ⟨y, p3, p4, rfl, sm4, hy⟩ ⟨eH, hz⟩
      subst eH
      obtain ⟨⟨c, r⟩, hp, hzp⟩ := ats_map (ha.same sm4) hz
      have hpo := hrow.1 _ (List.mem_of_getElem? hp)
      obtain ⟨a2, y1, y2, rfl, hs2, h1, h2⟩ := two_inv hzp
      obtain rfl := h2.num_inv
      have ok := rowS_ok hZ (row.take i)
      refine ⟨a2, _, rfl, hs2, rfl, _, _, rfl, _, _, rfl, rfl, ?_⟩
      refine ⟨v, rfl, y, rfl, y1, rfl, .int r, rfl, Z, v, y, y1, rowS Z (row.take i), c, r, rfl, (hv.same sm2).same sm4, hZ, hy, ok.1, ok.2, h1, hpo.1, fun z2 H5 s5 hz2 => ?_⟩
      refine ⟨z2, _, _, rfl, sm4.trans s5, ?_⟩
      rw [rowS_take hp]
      exact hz2
    · rintro σ H4 ⟨y, p3, p4, rfl, sm4, hy⟩
      rw [lx, List.take_length] at hy
      exact ⟨y, rfl, q y H4 (sm2.trans sm4) hy⟩
end
end M

namespace M
open PySem PySem.Spec PyProof.Rows L2
section
variable {P : Program} {w : World} {K : PySem.W.Frag} {mg : Str → Option Value} {base : Heap}
theorem scLedStates : FnScope ["thing", "states", "at", "result", "found", "state", "told", "to"] ["thing", "states", "at", "result"] (defScope sLedStates) := ⟨rfl, rfl, rfl, by decide +kernel, rfl, by decide +kernel, by decide +kernel⟩
theorem scIsRow : FnScope ["thing", "row", "one"] ["thing", "row"] (defScope sIsRow) := ⟨rfl, rfl, rfl, by decide +kernel, rfl, by decide +kernel, by decide +kernel⟩
theorem scStatesBehindA : FnScope ["thing", "row", "states", "call", "result"] ["thing", "row"] (defScope sStatesBehindA) := ⟨rfl, rfl, rfl, by decide +kernel, rfl, by decide +kernel, by decide +kernel⟩
theorem scLets : FnScope ["thing", "row"] ["thing", "row"] (defScope sLets) := ⟨rfl, rfl, rfl, by decide +kernel, rfl, by decide +kernel, by decide +kernel⟩
def spLedStates (K : PySem.W.Frag) : Sp := fun vs H Q _ => ∃ (T : Th) (v st : V) (S : List Nat) (c : Call) (r : Nat), vs = [v, st, .int ((T.calls.idxOf c : Nat) : Int), .int r] ∧ Tg K H v T ∧ TOk T ∧ At K H st (nums S) ∧ (∀ s ∈ S, s < T.n) ∧ S.length ≤ 4 ∧ c ∈ T.calls ∧ ∀ z H', Same H H' → At K H' z (nums (stp T S c r)) → Q z H'
theorem k_led_states (T : Tx K mg) (D : Df K mg "led_states" sLedStates ["thing", "states", "at", "result"]) : Kn P w K mg base 3 "led_states" ["thing", "states", "at", "result"] (spLedStates K) := by
  refine D.kn scLedStates (fun vs H Q E h => ?_) (fun f cdv A outer s H vs Q E hr h => ?_)
  · obtain ⟨Z, v, st, S, c, r, rfl, _⟩ := h
    rfl
  · obtain ⟨Z, v, st, S, c, r, rfl, hv, hZ, hst, hS, hl, hc, q⟩ := h
    refine ⟨_, pss_cons (ps_set (i := 4) scLedStates.nd rfl (Or.inl rfl) pe_dnewK)
      (pss_cons (ps_for PassesOwn.never rfl (pi_tup (pv 1)) (pg_name (i := 5) scLedStates.nd rfl (Or.inl rfl))
        (pss_one (ps_for PassesOwn.never rfl (pi_tup (pe_ix ix_n (pe_ix ix_n (pe_ix ix_t1 (pv 0) pe_int (fun _ _ => rfl)) (pv 5) (fun _ _ => rfl)) (pv 2) (fun _ _ => rfl))) (pg_tup rfl (pgs_cons (pg_name (i := 6) scLedStates.nd rfl (Or.inl rfl)) (pgs_cons (pg_name (i := 7) scLedStates.nd rfl (Or.inl rfl)) pgs_nil)))
          (pss_one (ps_if (pt_cmpR op_eq (pv 6) (pv 3) (nomark _)) (pss_one (ps_dput (hu_of hr) (pv 4) (pv 7) pe_bl rfl)) pss_nil)))))
      (pss_one (ps_ret (pe_callTy tuple_n (by rfl) T.tuple boot_tuple (pa_cons (pe_callB (call_sortedDI rfl) (by rfl) T.sorted boot_sorted (pa_cons (pv 4) pa_nil)) pa_nil))))), ?_⟩
    refine fun D0 nD => ?_
    have s0 : Same H (upd H D0 (.dK [])) := same_upd nD
    have hst1 := hst.same s0
    have hv0 := hv.at.same s0
    obtain ⟨a, xs, rfl, hs, ha⟩ := hst1.tup_inv
    have lx : xs.length = S.length := by rw [ha.length, List.length_map]
    refine ⟨.ref a, rfl, a, rfl, ⟨_, hs⟩, ?_⟩
    refine for_it (walk_tup (xs := xs)) (fun i σ H' => ∃ p5 p6 p7, σ = [some v, some (.ref a), some (.int ((Z.calls.idxOf c : Nat) : Int)), some (.int r), some (.ref D0), p5, p6, p7] ∧ Same H H' ∧ Ext K (upd H D0 (.dK [])) H' ∧ ∃ kvs ls, H' D0 = some (.dK kvs) ∧ IKs kvs ls ∧ ∀ b, b ∈ ls ↔ ∃ s ∈ S.take i, (r, b) ∈ Z.out s c) ?_ ?_ ?_ ?_
    · exact ⟨none, none, none, rfl, s0, Ext.refl _, [], [], upd_same, IKs.nil, fun b => by simp⟩
    · rintro i σ H4 _ ⟨_, _, _, _, _, h1, _⟩
      exact h1 _ _ hs
    · rintro i z σ H4' H4 hi ⟨p5, p6, p7, rfl, sm4, ex4, kvs, ls, hD4, hk4, hm4⟩ ⟨eH, hz⟩
      subst eH
      obtain ⟨sn, hsn, hzn⟩ := ats_map (ha.ext ex4) hz
      obtain rfl := hzn.num_inv
      have hsT := hS sn (List.mem_of_getElem? hsn)
      obtain ⟨sto, lot, h1, h2, h3⟩ := Th.out_at hZ hsT hc
      have ll : (Z.out sn c).length ≤ 12 := Th.out_len hZ hsT hc
      refine ⟨v, rfl, Z, hv.same sm4, rfl, fun y hy => ⟨.int sn, rfl, _, sn, eSt sto, hy, rfl, by rw [List.getElem?_map, h1]; rfl, fun y2 hy2 => ?_⟩⟩
      refine ⟨_, rfl, _, Z.calls.idxOf c, .tup (lot.map eO), hy2, rfl, by rw [List.getElem?_map, h2]; rfl, fun zo hzo => ?_⟩
      rw [h3] at hzo
      obtain ⟨ao, os, rfl, hos, hat⟩ := hzo.tup_inv
      have lo : os.length = (Z.out sn c).length := by rw [hat.length, List.length_map]
      refine ⟨ao, rfl, ⟨_, hos⟩, ?_⟩
      refine for_it (walk_tup (xs := os)) (fun j σ H' => ∃ p6 p7, σ = [some v, some (.ref a), some (.int ((Z.calls.idxOf c : Nat) : Int)), some (.int r), some (.ref D0), some (.int sn), p6, p7] ∧ Same H H' ∧ Ext K H4 H' ∧ ∃ kvs ls, H' D0 = some (.dK kvs) ∧ IKs kvs ls ∧ ∀ b, b ∈ ls ↔ (∃ s ∈ S.take i, (r, b) ∈ Z.out s c) ∨ (r, b) ∈ (Z.out sn c).take j) ?_ ?_ ?_ ?_
      · exact ⟨p6, p7, rfl, sm4, Ext.refl _, kvs, ls, hD4, hk4, fun b => by rw [hm4]; simp⟩
      · rintro j σ H5 _ ⟨_, _, _, _, h1, _⟩
        exact h1 _ _ hos
      · rintro j x σ H6' H6 hj ⟨p6, p7, rfl, sm6, ex6, kvs6, ls6, hD6, hk6, hm6⟩ ⟨eH, hx⟩
        subst eH
        obtain ⟨⟨r2, t⟩, ho, hxo⟩ := ats_map (hat.ext ex6) hx
        obtain ⟨a2, y1, y2, rfl, hs2, g1, g2⟩ := two_inv hxo
        obtain rfl := g1.num_inv
        obtain rfl := g2.num_inv
        have tk : (Z.out sn c).take (j + 1) = (Z.out sn c).take j ++ [(r2, t)] := by
          rw [List.take_add_one, ho]
          rfl
        have l6 : ls6.length ≤ 4 := below_len hZ hk6.nd fun b hb => by
          rcases (hm6 b).mp hb with ⟨s2, h1, h2⟩ | h2
          · exact (Th.out_ok hZ (hS s2 (List.mem_of_mem_take h1)) hc _ h2).2
          · exact (Th.out_ok hZ hsT hc _ (List.mem_of_mem_take h2)).2
        refine ⟨a2, _, rfl, hs2, rfl, _, _, rfl, _, _, rfl, rfl, ?_⟩
        refine ⟨_, rfl, .int r, rfl, rfl, _, rfl, ?_⟩
        by_cases e : r2 = r
        · subst e
          rw [decide_eq_true rfl]
          refine iteT ?_
          obtain ⟨ms', hk7, hm7⟩ := hk6.put t (.bl true)
          refine ⟨.ref D0, rfl, _, rfl, D0, _, rfl, DPut.k (k := iK t) hD6 (by rw [hk6.len, sizeLine_eq]; omega), ?_⟩
          refine ⟨_, _, rfl, fun b o q => ?_, ex6.trans (Ext.mut hD6 trivial), _, ms', upd_same, hk7, fun b => ?_⟩
          · rw [upd_ne (ne_of_none q nD)]
            exact sm6 _ _ q
          · rw [hm7, hm6, tk, List.mem_append, List.mem_singleton]
            simp [or_assoc]
        · have e' : ¬ V.int (r2 : Int) = V.int (r : Int) := fun z => e (by injection z with z; omega)
          rw [decide_eq_false e']
          refine iteF ⟨_, _, rfl, sm6, ex6, kvs6, ls6, hD6, hk6, fun b => ?_⟩
          rw [hm6, tk, List.mem_append, List.mem_singleton]
          constructor
          · rintro (z | z)
            · exact .inl z
            · exact .inr (.inl z)
          · rintro (z | z | z)
            · exact .inl z
            · exact .inr z
            · injection z with z1 z2
              exact absurd z1.symm e
      · rintro σ H6 ⟨p6, p7, rfl, sm6, ex6, kvs6, ls6, hD6, hk6, hm6⟩
        rw [lo, List.take_length] at hm6
        refine ⟨_, _, _, rfl, sm6, ex4.trans ex6, kvs6, ls6, hD6, hk6, fun b => ?_⟩
        rw [hm6, List.take_add_one, hsn]
        simp only [Option.toList_some, List.mem_append, List.mem_singleton]
        constructor
        · rintro (⟨s2, h1, h2⟩ | h2)
          · exact ⟨s2, .inl h1, h2⟩
          · exact ⟨sn, .inr rfl, h2⟩
        · rintro ⟨s2, h1 | rfl, h2⟩
          · exact .inl ⟨s2, h1, h2⟩
          · exact .inr h2
    · rintro σ H4 ⟨p5, p6, p7, rfl, sm4, ex4, kvs, ls, hD4, hk4, hm4⟩
      rw [lx, List.take_length] at hm4
      have l4 : ls.length ≤ 4 := below_len hZ hk4.nd fun b hb => by
        obtain ⟨s2, h1, h2⟩ := (hm4 b).mp hb
        exact (Th.out_ok hZ (hS s2 h1) hc _ h2).2
      refine ⟨.ref D0, rfl, ?_⟩
      refine tup_sorted (K := K) hD4 hk4 (by omega) (stp_asc Z S c r) (fun b => ?_) fun z H5 s5 hz => q z H5 (sm4.trans s5) hz
      rw [hm4, stp_mem]
      constructor
      · rintro ⟨s2, h1, h2⟩
        exact ⟨(Th.out_ok hZ (hS s2 h1) hc _ h2).2, s2, h1, h2⟩
      · exact fun h => h.2
def spIsRow (K : PySem.W.Frag) : Sp := fun vs H Q _ => ∃ (T : Th) (v u : V) (row : Row), vs = [v, u] ∧ Tg K H v T ∧ TOk T ∧ At K H u (.tup (row.map eR)) ∧ RowOk T row ∧ ∀ H', Same H H' → Q (.bl true) H'
theorem k_is_row (T : Tx K mg) (D : Df K mg "is_row" sIsRow ["thing", "row"]) (F1 : Kn P w K mg base 1 "is_sized" ["thing", "many"] (spIsSized K)) (F2 : Kn P w K mg base 4 "is_call" ["thing"] (spIsCall K)) (F3 : Kn P w K mg base 3 "is_number" ["thing"] spIsNumber) :
    Kn P w K mg base 5 "is_row" ["thing", "row"] (spIsRow K) := by
  refine D.kn scIsRow (fun vs H Q E h => ?_) (fun f cdv A outer s H vs Q E hr h => ?_)
  · obtain ⟨Z, v, u, row, rfl, _⟩ := h
    rfl
  · obtain ⟨Z, v, u, row, rfl, hv, hZ, hu, hrow, q⟩ := h
    refine ⟨_, pss_cons (ps_if (pt_not (pt_val (pe_isi (T := "tuple") (pv 1) T.isi T.tuple (by decide +kernel)))) (pss_one (ps_ret pe_bl)) pss_nil)
      (pss_cons (ps_for PassesOwn.never rfl (pi_tup (pv 1)) (pg_name (i := 2) scIsRow.nd rfl (Or.inl rfl))
        (pss_one (ps_if (PW.pt (pw_or (pt_not (pt_val (pe_kn F1 (hr.mono (by decide)) (pa_cons (pv 2) (pa_cons pe_int pa_nil))))) (pw_or (pt_not (pt_val (pe_kn F2 hr (pa_cons (pe_ix ix_n (pv 2) pe_int (fun _ _ => rfl)) pa_nil))))
          (pw_or (pt_not (pt_val (pe_kn F3 (hr.mono (by decide)) (pa_cons (pe_ix ix_n (pv 2) pe_int (fun _ _ => rfl)) pa_nil)))) (pw_or1 (pt_cmpR (op_notInN hr.units) (pe_ix ix_n (pv 2) pe_int (fun _ _ => rfl)) (pe_ix ix_t0 (pv 0) pe_int (fun _ _ => rfl)) (by rfl))))))) (pss_one ps_never) pss_nil)))
      (pss_one (ps_ret pe_bl))), ?_⟩
    obtain ⟨a, xs, rfl, hs, ha⟩ := id hu.tup_inv
    have lx : xs.length = row.length := by rw [ha.length, List.length_map]
    refine ⟨.ref a, rfl, .ref a, .ty "tuple", .type "tuple", .type "tuple", true, rfl, .ty _, tyx_tup hu, by rfl, true, rfl, iteF ?_⟩
    refine ⟨.ref a, rfl, a, rfl, ⟨_, hs⟩, ?_⟩
    refine for_it (walk_tup (xs := xs)) (fun i σ H' => ∃ p2, σ = [some v, some (.ref a), p2] ∧ Same H H') ?_ ?_ ?_ ?_
    · exact ⟨none, rfl, Same.refl _⟩
    · rintro i σ H4 _ ⟨_, _, h1⟩
      exact Ext.of_same h1 _ _ hs
    · rintro i z σ H4' H4 hi ⟨p2, rfl, sm4⟩ ⟨eH, hz⟩
      subst eH
      obtain ⟨⟨c, r⟩, hp, hzp⟩ := ats_map (ha.same sm4) hz
      have hpo := hrow.1 _ (List.mem_of_getElem? hp)
      have hr9 : r ≤ 9 := hpo.2
      refine ⟨z, rfl, z, _, 2, rfl, hzp, true, by simp, iteF ?_⟩
      refine ⟨z, rfl, _, 0, eC c, hzp, rfl, rfl, fun y hy => ⟨y, c, rfl, hy, hZ.cok _ hpo.1, fun H5 s5 => ⟨true, rfl, iteF ?_⟩⟩⟩
      have hz5 := hzp.same s5
      refine ⟨z, rfl, _, 1, .num r, hz5, rfl, rfl, fun y hy => ?_⟩
      obtain rfl := hy.num_inv
      refine ⟨r, rfl, by omega, by omega, true, rfl, iteF ?_⟩
      refine ⟨z, rfl, _, 0, eC c, hz5, rfl, rfl, fun y hy => ⟨v, rfl, Z, (hv.same sm4).same s5, rfl, fun y3 hy3 => ⟨eC c, _, hy, hy3.at.seq, by simp [eC, NestedKey.depth, NestedKey.depthAll], _, rfl, ?_⟩⟩⟩
      rw [decide_eq_true (List.mem_map_of_mem hpo.1)]
      exact iteF ⟨_, rfl, sm4.trans s5⟩
    · rintro σ H4 ⟨p2, rfl, sm4⟩
      exact q H4 sm4
theorem k_states_behindA (T : Tx K mg) (D : Df2 K mg "states_behind_alike" "states_behind" sStatesBehindA ["thing", "row"]) (F2 : Kn P w K mg base 3 "led_states" ["thing", "states", "at", "result"] (spLedStates K)) :
    Kn P w K mg base 4 "states_behind_alike" ["thing", "row"] (spStates K) := by
  refine D.kn scStatesBehindA (fun vs H Q E h => ?_) (fun f cdv A outer s H vs Q E hr h => ?_)
  · obtain ⟨Z, v, u, row, rfl, _⟩ := h
    rfl
  · obtain ⟨Z, v, u, row, rfl, hv, hZ, hu, hrow, q⟩ := h
    refine ⟨_, pss_cons (ps_set (i := 2) scStatesBehindA.nd rfl (Or.inl rfl) (pe_tupN (pa_cons pe_int pa_nil)))
      (pss_cons (ps_for PassesOwn.never rfl (pi_tup (pv 1)) (pg_tup rfl (pgs_cons (pg_name (i := 3) scStatesBehindA.nd rfl (Or.inl rfl)) (pgs_cons (pg_name (i := 4) scStatesBehindA.nd rfl (Or.inl rfl)) pgs_nil)))
        (pss_one (ps_set (i := 2) scStatesBehindA.nd rfl (Or.inl rfl) (pe_kn F2 hr (pa_cons (pv 0) (pa_cons (pv 2) (pa_cons (pe_idx (pe_ix ix_t0 (pv 0) pe_int (fun _ _ => rfl)) (pv 3) hr.units) (pa_cons (pv 4) pa_nil))))))))
      (pss_one (ps_ret (pv 2)))), ?_⟩
    refine ⟨[.num 0], .one (.int 0), by decide, fun p2 H2 sm2 hp2 => ?_⟩
    have hu2 := hu.same sm2
    obtain ⟨a, xs, rfl, hs, ha⟩ := hu2.tup_inv
    have lx : xs.length = row.length := by rw [ha.length, List.length_map]
    refine ⟨.ref a, rfl, a, rfl, ⟨_, hs⟩, ?_⟩
    refine for_it (walk_tup (xs := xs)) (fun i σ H' => ∃ y p3 p4, σ = [some v, some (.ref a), some y, p3, p4] ∧ Same H2 H' ∧ At K H' y (nums (rowS Z (row.take i)))) ?_ ?_ ?_ ?_
    · exact ⟨p2, none, none, rfl, Same.refl _, hp2⟩
    · rintro i σ H4 _ ⟨_, _, _, _, h1, _⟩
      exact Ext.of_same h1 _ _ hs
    · rintro i z σ H4' H4 hi ⟨y, p3, p4, rfl, sm4, hy⟩ ⟨eH, hz⟩
      subst eH
      obtain ⟨⟨c, r⟩, hp, hzp⟩ := ats_map (ha.same sm4) hz
      have hpo := hrow.1 _ (List.mem_of_getElem? hp)
      obtain ⟨a2, y1, y2, rfl, hs2, h1, h2⟩ := two_inv hzp
      obtain rfl := h2.num_inv
      have ok := rowS_ok hZ (row.take i)
      have hv4 := (hv.same sm2).same sm4
      refine ⟨a2, _, rfl, hs2, rfl, _, _, rfl, _, _, rfl, rfl, ?_⟩
      refine ⟨v, rfl, y, rfl, v, rfl, Z, hv4, rfl, fun y3 hy3 => ⟨_, hy3, y1, rfl, eC c, hy3, h1, List.mem_map_of_mem hpo.1, by simp [eC, NestedKey.depth, NestedKey.depthAll], .int r, rfl, ?_⟩⟩
      rw [idxOf_eC]
      refine ⟨Z, v, y, rowS Z (row.take i), c, r, rfl, hv4, hZ, hy, ok.1, ok.2, hpo.1, fun z2 H5 s5 hz2 => ?_⟩
      refine ⟨z2, _, _, rfl, sm4.trans s5, ?_⟩
      rw [rowS_take hp]
      exact hz2
    · rintro σ H4 ⟨y, p3, p4, rfl, sm4, hy⟩
      rw [lx, List.take_length] at hy
      exact ⟨y, rfl, q y H4 (sm2.trans sm4) hy⟩
def spLets (K : PySem.W.Frag) : Sp := fun vs H Q _ => ∃ (T : Th) (v u : V) (row : Row), vs = [v, u] ∧ Tg K H v T ∧ TOk T ∧ At K H u (.tup (row.map eR)) ∧ RowOk T row ∧ ∀ H', Same H H' → Q (.bl (!decide (rowS T row = []))) H'
theorem k_lets (T : Tx K mg) (D : Df K mg "lets" sLets ["thing", "row"]) (F1 : Kn P w K mg base 5 "is_row" ["thing", "row"] (spIsRow K)) (F2 : Kn P w K mg base 4 "states_behind_alike" ["thing", "row"] (spStates K)) : Kn P w K mg base 6 "lets" ["thing", "row"] (spLets K) := by
  refine D.kn scLets (fun vs H Q E h => ?_) (fun f cdv A outer s H vs Q E hr h => ?_)
  · obtain ⟨Z, v, u, row, rfl, _⟩ := h
    rfl
  · obtain ⟨Z, v, u, row, rfl, hv, hZ, hu, hrow, q⟩ := h
    refine ⟨_, pss_one (ps_ret (pe_and (pe_kn F1 hr (pa_cons (pv 0) (pa_cons (pv 1) pa_nil))) (pe_one (pe_cmpR (op_neN hr.units) (pe_kn F2 (hr.mono (by decide)) (pa_cons (pv 0) (pa_cons (pv 1) pa_nil))) (pe_tupN pa_nil) (nomark _))))), ?_⟩
    refine ⟨v, rfl, u, rfl, Z, v, u, row, rfl, hv, hZ, hu, hrow, fun H1 s1 => ⟨true, rfl, iteT ?_⟩⟩
    refine ⟨v, rfl, u, rfl, Z, v, u, row, rfl, hv.same s1, hZ, hu.same s1, hrow, fun z H2 s2 hz => ⟨[], .nil, by decide, fun p H3 s3 hp => ?_⟩⟩
    refine ⟨_, _, hz.same s3, hp, Nat.le_trans (Nat.min_le_right _ _) (by simp [NestedKey.depth, NestedKey.depthAll]), ?_⟩
    refine q_bl ?_ (q H3 ((s1.trans s2).trans s3))
    unfold nums
    cases rowS Z row <;> simp
end
end M

/-! events in order -/
namespace M
open PySem PySem.Spec PyProof.Rows L2
def rE : Ev → Nat
  | .call c => 100 + (if c.1 = "a" then 0 else 10) + c.2
  | .back r => r
def rkE : NK → Nat
  | .tup [.text _, .num _, .text x, .num n] => 100 + (if x = "a" then 0 else 10) + n.toNat
  | .tup [.text _, .num _, .num r] => r.toNat
  | _ => 0
theorem rkE_e (e : Ev) : rkE (eE e) = rE e := by
  cases e <;> simp [rkE, eE, rE]
theorem eE_inj {a b : Ev} (h : eE a = eE b) : a = b := by
  have ncb : ¬ (("call" : Str) = "back") := by decide +kernel
  have nbc : ¬ (("back" : Str) = "call") := by decide +kernel
  cases a <;> cases b <;> simp [eE, ncb, nbc] at h
  · rename_i c d
    obtain ⟨x, n⟩ := c
    obtain ⟨y, m⟩ := d
    obtain ⟨h1, h2⟩ := h
    simp only at h1 h2
    have : n = m := by omega
    rw [h1, this]
  · rename_i q r
    have : q = r := by omega
    rw [this]
theorem e_order {a b : Ev} (ha : EOk a) (hb : EOk b) : ltN (eE a) (eE b) = some (decide (rE a < rE b)) := by
  have ab : ltN (.text "a") (.text "b") = some true := by
    rw [ltN]
    exact congrArg some (by decide +kernel)
  have ba : ltN (.text "b") (.text "a") = some false := by
    rw [ltN]
    exact congrArg some (by decide +kernel)
  have bc : ltN (.text "back") (.text "call") = some true := by
    rw [ltN]
    exact congrArg some (by decide +kernel)
  have cb : ltN (.text "call") (.text "back") = some false := by
    rw [ltN]
    exact congrArg some (by decide +kernel)
  have ncb : ¬ (("call" : Str) = "back") := by decide +kernel
  have nbc : ¬ (("back" : Str) = "call") := by decide +kernel
  have nab : ¬ (("a" : Str) = "b") := by decide +kernel
  have nba : ¬ (("b" : Str) = "a") := by decide +kernel
  cases a with
  | call c =>
    obtain ⟨x, n⟩ := c
    obtain ⟨hx, hn⟩ := ha
    have hn : n ≤ 9 := hn
    cases b with
    | call d =>
      obtain ⟨y, m⟩ := d
      obtain ⟨hy, hm⟩ := hb
      have hm : m ≤ 9 := hm
      simp only [eE, ltN]
      rw [ltNs, if_pos (by simp [NestedKey.beq]), ltNs, if_pos (by simp [NestedKey.beq]), ltNs]
      rcases hx with rfl | rfl <;> rcases hy with rfl | rfl
      · rw [if_pos (by simp [NestedKey.beq]), ltNs]
        by_cases e : n = m
        · subst e
          simp [NestedKey.beq, ltNs]
        · have e' : ¬ (n : Int) = m := by omega
          rw [if_neg (by simp [NestedKey.beq, e']), ltN]
          simp [rE]
      · rw [if_neg (by simp [NestedKey.beq, nab]), ab]
        refine congrArg some (decide_eq_true ?_).symm
        simp only [rE, nba, if_true, if_false]
        omega
      · rw [if_neg (by simp [NestedKey.beq, nba]), ba]
        refine congrArg some (decide_eq_false ?_).symm
        simp only [rE, nba, if_true, if_false]
        omega
      · rw [if_pos (by simp [NestedKey.beq]), ltNs]
        by_cases e : n = m
        · subst e
          simp [NestedKey.beq, ltNs]
        · have e' : ¬ (n : Int) = m := by omega
          rw [if_neg (by simp [NestedKey.beq, e']), ltN]
          simp [rE, nba]
    | back r =>
      have hr : r ≤ 9 := hb
      simp only [eE, ltN]
      rw [ltNs, if_neg (by simp [NestedKey.beq, ncb]), cb]
      refine congrArg some (decide_eq_false ?_).symm
      simp only [rE]
      omega
  | back q =>
    have hq : q ≤ 9 := ha
    cases b with
    | call d =>
      simp only [eE, ltN]
      rw [ltNs, if_neg (by simp [NestedKey.beq, nbc]), bc]
      refine congrArg some (decide_eq_true ?_).symm
      simp only [rE]
      omega
    | back r =>
      simp only [eE, ltN]
      rw [ltNs, if_pos (by simp [NestedKey.beq]), ltNs, if_pos (by simp [NestedKey.beq]), ltNs]
      by_cases e : q = r
      · subst e
        simp [NestedKey.beq, ltNs]
      · have e' : ¬ (q : Int) = r := by omega
        rw [if_neg (by simp [NestedKey.beq, e']), ltN]
        refine congrArg some ?_
        by_cases z : q < r
        · rw [decide_eq_true (show (q : Int) < r by omega)]
          exact (decide_eq_true z).symm
        · rw [decide_eq_false (show ¬ (q : Int) < r by omega)]
          exact (decide_eq_false z).symm
theorem e_deep (e : Ev) : (eE e).depth ≤ 8 := by
  cases e <;> simp [eE, NestedKey.depth, NestedKey.depthAll]
theorem e_ranked {es : List Ev} (h : ∀ e ∈ es, EOk e) : Ranked (es.map eE) rkE := by
  refine ⟨fun k hk l hl => ?_, .inr fun k hk => ?_, fun k hk => ?_⟩
  · obtain ⟨a, ha, rfl⟩ := List.mem_map.mp hk
    obtain ⟨b, hb, rfl⟩ := List.mem_map.mp hl
    rw [rkE_e, rkE_e]
    exact e_order (h a ha) (h b hb)
  · obtain ⟨a, ha, rfl⟩ := List.mem_map.mp hk
    cases a <;> exact ⟨_, _, rfl⟩
  · obtain ⟨a, ha, rfl⟩ := List.mem_map.mp hk
    exact e_deep a
end M

/-! {k: v}, k a tuple -/
namespace M
open PySem PySem.Spec PyProof.Rows L2
section
variable {X : Cx} {k v : Expr} {pos : Pos} {tk tv : TE}
def tNd1 (P : Program) (w : World) (K : PySem.W.Frag) (tk tv : TE) : TE := fun σ H Q => ∀ d o0, H d = none → DK P w K (upd H d o0) d [] → tk σ (upd H d o0) fun y H1 => tv σ H1 fun z H2 => ∃ n, At K H2 y n ∧ n.depth ≤ 8 ∧ (∃ ks, n = .tup ks) ∧ DK P w K H2 d [] ∧
  ∀ ob, DK P w K (upd H2 d ob) d [(n, z)] → Q (.ref d) (upd H2 d ob)
theorem pe_nd1 (hu : X.A.units + 64 < cLine) (hk : PE X k tk) (hv : PE X v tv) : PE X (.Dict [some k] [v] pos) (tNd1 X.prog X.w X.K tk tv) := ⟨fun pins s σ H Q I h => by
  have hn : H s.heap.objs.size = none := I.hok.fresh (Nat.le_refl _)
  have I1 : Inv X pins σ (upd H s.heap.objs.size (NdO s.heap.objs.size emptyD)) { s with heap := s.heap.push { cls := .type "dict", data := .dict #[] } } :=
    I.laid (a := s.heap.objs.size) (o := NdO s.heap.objs.size emptyD) (t' := s.toks) (fun _ _ q => Heap.get?_push_of_some _ q) (Nat.le_refl _) (nd_empty s.heap)
  rw [arm_eval_Dict, zip_pairTrees [some k] [v] X.env pos rfl rfl, dictDisplay_pairs (pairTrees [some k] [v] X.env pos) (by simp [pairTrees]) (by simp [pairTrees])]
  refine wpAny_bind (wpAny_standAt (wpAny_bind (wpAny_subDictH (knd := nestedKind X.prog X.w) (Q := fun d s' => wpAny (model X.prog X.w) X.A (pure (Value.ref d)) (EP X pins σ Q) X.xe s') (show X.A.units + 8 < cLine by omega) (by simp [pairTrees]) ?_)))
  refine pairTrees_cons_walk (thn (hk.run pins _ σ _ _ I1 (h _ _ hn (dk_nil I.big))) fun kv s2 ⟨y, H2, I2, ry, q2⟩ => thn (hv.run pins s2 σ H2 _ I2 q2) fun vv s3 ⟨z, H3, I3, rz, n, hy, hd, ht, hD, q3⟩ => pairTrees_nil_walk ?_)
  obtain ⟨ks, rfl⟩ := ht
  obtain ⟨a, zs, rfl, _⟩ := hy.tup_inv
  cases ry
  obtain ⟨o, hO, xs, hz, rr⟩ := hD
  obtain rfl : xs = [] := by
    cases rr.rel
    rfl
  refine ⟨[(.tup ks, a, vv)], ⟨rfl, rfl, nd_is I3 hy hd, trivial⟩, nd_dict I3 hO hz rr, fun h' tk dd sb => wpAny_pure ?_⟩
  obtain ⟨q, hq, I4⟩ := nd_now (t' := tk) I3 hO sb dd
  refine ⟨.ref s.heap.objs.size, _, I4, rfl, q3 _ ⟨q, upd_same, _, hq, rr.low, by simp, ?_⟩⟩
  exact .cons ⟨rfl, hy.ext (Ext.mut hO trivial), hd, rz⟩ .nil⟩
end
end M

namespace M
open PySem PySem.Spec PyProof.Rows L2
/-- a lot: all idle, or none -/
def Even (ls : List Bel) : Prop := (∀ b ∈ ls, b.2 = .idle) ∨ ∀ b ∈ ls, b.2 ≠ .idle
/-- the events that may come -/
def May (T : Th) (ls : List Bel) : Ev → Prop
  | .call c => c ∈ T.calls ∧ ∃ b ∈ ls, b.2 = .idle
  | .back r => ∃ s, (s, .has r) ∈ ls
theorem Ext.unfrz {K : PySem.W.Frag} {H : Hp} {a : Addr} {od : Obj} {kvs : List (L2.Key × V)} {o : HO} (h : H a = some (.frz od (.dK kvs))) : Ext K H (L2.upd H a o) := fun b xs q => by
  rcases q with (q | ⟨p, q⟩) | q
  · by_cases e : b = a
    · subst e
      rw [h] at q
      cases q
    · exact .inl (.inl (by rw [upd_ne e]; exact q))
  · by_cases e : b = a
    · subst e
      rw [h] at q
      cases q
    · exact .inl (.inr ⟨p, by rw [upd_ne e]; exact q⟩)
  · exact .inr q
section
variable {P : Program} {w : World} {K : PySem.W.Frag} {mg : Str → Option Value} {base : Heap}
theorem scEventsAt : FnScope ["thing", "lot", "found", "hand", "what", "results", "word", "number", "belief", "result"] ["thing", "lot"] (defScope sEventsAt) := ⟨rfl, rfl, rfl, by decide +kernel, rfl, by decide +kernel, by decide +kernel⟩
theorem scCheckHands : FnScope ["hands"] ["hands"] (defScope sCheckHands) := ⟨rfl, rfl, rfl, by decide +kernel, rfl, by decide +kernel, by decide +kernel⟩
theorem scWatched : FnScope ["states", "history", "state", "event", "behind", "one", "to"] ["states", "history"] (defScope sWatched) := ⟨rfl, rfl, rfl, by decide +kernel, rfl, by decide +kernel, by decide +kernel⟩
def spCheckHands : Sp := fun vs H Q _ => vs = [.int 1] ∧ ∀ H', Same H H' → Q .non H'
theorem k_check_hands (T : Tx K mg) (D : Df K mg "check_hands" sCheckHands ["hands"]) (F1 : Kn P w K mg base 1 "is_integer" ["thing"] spIsInt) : Kn P w K mg base 2 "check_hands" ["hands"] spCheckHands := by
  refine D.kn scCheckHands (fun vs H Q E h => ?_) (fun f cdv A outer s H vs Q E hr h => ?_)
  · obtain ⟨rfl, _⟩ := h
    rfl
  · obtain ⟨rfl, q⟩ := h
    refine ⟨_, pss_one (ps_if (PW.pt (pw_or (pt_not (pt_val (pe_kn F1 hr (pa_cons (pv 0) pa_nil)))) (pw_or1 (pt_not (pt_chain op_le op_le pe_int (pv 0) pe_int))))) (pss_one ps_never) pss_nil), ?_⟩
    refine ⟨.int 1, rfl, 1, rfl, true, rfl, iteF ?_⟩
    refine ⟨.int 1, rfl, 1, 1, rfl, rfl, true, rfl, iteT ?_⟩
    exact ⟨1, 4, rfl, rfl, true, rfl, iteF (q H (Same.refl _))⟩
def spEventsAt (K : PySem.W.Frag) : Sp := fun vs H Q _ => ∃ (T : Th) (v u : V) (ls : List Bel), vs = [v, u] ∧ Tg K H v T ∧ TOk T ∧ At K H u (.tup (ls.map eB)) ∧ ls ≠ [] ∧ ls.length ≤ 300 ∧ (∀ b ∈ ls, BT T b) ∧ Even ls ∧
  ∀ (p : Addr) (ys : List V) (es : List Ev) (H' : Hp), H p = none → Same H H' → H' p = some (.lst ys) → Ats K H' ys (es.map eE) → (∀ e, e ∈ es ↔ May T ls e) → es.length ≤ 10 → Q (.ref p) H'
theorem k_events_at (T : Tx K mg) (D : Df K mg "events_at" sEventsAt ["thing", "lot"]) : Kn P w K mg base 3 "events_at" ["thing", "lot"] (spEventsAt K) := by
  refine D.kn scEventsAt (fun vs H Q E h => ?_) (fun f cdv A outer s H vs Q E hr h => ?_)
  · obtain ⟨Z, v, u, ls, rfl, _⟩ := h
    rfl
  · obtain ⟨Z, v, u, ls, rfl, hv, hZ, hu, hne, hl, hb, hev, q⟩ := h
    have kc : PyData.strOk "call" = true := by decide +kernel
    have kb : PyData.strOk "back" = true := by decide +kernel
    have kh : PyData.strOk "has" = true := by decide +kernel
    refine ⟨_, pss_cons (ps_set (i := 2) scEventsAt.nd rfl (Or.inl rfl) (pe_lst pa_nil))
      (pss_cons (ps_for PassesOwn.never rfl (pi_enumT (by rfl) T.enumerate (pa_cons (pe_ix ix_n (pe_ix ix_n (pv 1) pe_int (fun _ _ => rfl)) pe_int (fun _ _ => rfl)) pa_nil)) (pg_tup rfl (pgs_cons (pg_name (i := 3) scEventsAt.nd rfl (Or.inr rfl)) (pgs_cons (pg_name (i := 4) scEventsAt.nd rfl (Or.inl rfl)) pgs_nil)))
        (pss_one (ps_if (pt_cmp (pc_isN (pv 4)))
          (pss_one (ps_expr (pe_bm F.plainAttrs_list F.slot_list_extend F.type_list_extend mt_extend (pv 2) (pa_cons
            (pe_lc (own := [("word", 6), ("number", 7)]) (tt := tYes) rfl scEventsAt.nd (pi_tup (pe_ix ix_t0 (pv 0) pe_int (fun _ _ => rfl))) (blkOk_by (N := ["thing", "lot", "found", "hand", "what", "results", "word", "number", "belief", "result"]) (sc := defScope sEventsAt) (by decide +kernel))
              (fun _ _ _ _ _ => pg_tupK (K := K) (n := 2) rfl rfl (pgs_cons (pg_name (i := 6) scEventsAt.nd rfl (Or.inl rfl)) (pgs_cons (pg_name (i := 7) scEventsAt.nd rfl (Or.inl rfl)) pgs_nil))) (fun _ _ _ _ _ => pts_nil)
              (fun _ _ _ _ _ => pe_tupK (K := K) rfl (pa_cons pe_str (pa_cons (pv 3) (pa_cons (pv 6) (pa_cons (pv 7) pa_nil)))))) pa_nil))))
          (pss_cons (ps_setDc (i := 5) (own := [("belief", 8)]) rfl scEventsAt.nd rfl rfl (sw_dict rfl rfl rfl rfl) (pi_tup (pv 1)) (blkOk_by (N := ["thing", "lot", "found", "hand", "what", "results", "word", "number", "belief", "result"]) (sc := defScope sEventsAt) (by decide +kernel))
              (fun _ _ _ _ _ => ⟨pg_name (i := 8) scEventsAt.nd rfl (Or.inl rfl), pts_one (pt_cmpR (op_eqNK (K := K) rfl hr.units) (pe_ix (ix_nK (K := K) rfl) (pe_ix (ix_nK (K := K) rfl) (pe_ix (ix_nK (K := K) rfl) (pv 8) pe_int (fun _ _ => rfl)) (pv 3) (fun _ _ => rfl)) pe_int (fun _ _ => rfl)) pe_str (nomark _)),
                pe_ix (ix_nK (K := K) rfl) (pe_ix (ix_nK (K := K) rfl) (pe_ix (ix_nK (K := K) rfl) (pv 8) pe_int (fun _ _ => rfl)) (pv 3) (fun _ _ => rfl)) pe_int (fun _ _ => rfl), pe_bl⟩))
            (pss_one (ps_expr (pe_bm F.plainAttrs_list F.slot_list_extend F.type_list_extend mt_extend (pv 2) (pa_cons
              (pe_lock (pe_lc (own := [("result", 9)]) (g := gName 9) (tt := tYes) rfl scEventsAt.nd (pi_keys (pv 5)) (blkOk_by (N := ["thing", "lot", "found", "hand", "what", "results", "word", "number", "belief", "result"]) (sc := defScope sEventsAt) (by decide +kernel))
                (fun _ _ _ _ _ => pg_name (i := 9) scEventsAt.nd rfl (Or.inl rfl)) (fun _ _ _ _ _ => pts_nil) (fun _ _ _ _ _ => pe_tupK (K := K) rfl (pa_cons pe_str (pa_cons (pv 3) (pa_cons (pv 9) pa_nil)))))) pa_nil))))))))
      (pss_one (ps_ret (pe_callB (sorted_n hr.units rkE) (by rfl) T.sorted boot_sorted (pa_cons (pv 2) pa_nil))))), ?_⟩
    refine ⟨by decide, fun D nD => ?_⟩
    have s0 : Same H (upd H D (.lst [])) := same_upd nD
    obtain ⟨b0, lr, rfl⟩ : ∃ b0 lr, ls = b0 :: lr := by
      cases ls with
      | nil => exact absurd rfl hne
      | cons b0 lr => exact ⟨b0, lr, rfl⟩
    refine ⟨u, rfl, _, 0, eB b0, hu.same s0, rfl, rfl, fun y hy => ⟨_, 1, .tup [eW b0.2], hy, rfl, rfl, fun y2 hy2 => ?_⟩⟩
    obtain ⟨a, xs, rfl, hs, ha⟩ := hy2.tup_inv
    have hl1 : xs.length = 1 := ha.length
    refine ⟨a, xs, rfl, hs, ?_⟩
    refine for_it (walk_enumT (xs := xs)) (fun i σ H' => ∃ p3 p4 p5 p6 p7 p8 p9, σ = [some v, some u, some (.ref D), p3, p4, p5, p6, p7, p8, p9] ∧ Same H H' ∧ Ext K (upd H D (.lst [])) H' ∧ ∃ ys es, H' D = some (.lst ys) ∧ Ats K H' ys (es.map eE) ∧ (i = 0 → es = []) ∧ (i = 1 → (∀ e, e ∈ es ↔ May Z (b0 :: lr) e) ∧ es.length ≤ 10)) ?_ ?_ ?_ ?_
    · exact ⟨none, none, none, none, none, none, none, rfl, s0, Ext.refl _, [], [], upd_same, .nil, fun _ => rfl, fun h => absurd h (by decide)⟩
    · rintro i σ H1 _ ⟨_, _, _, _, _, _, _, _, _, h1, _⟩
      exact h1 _ _ hs
    · rintro i z σ H1 H1' hi ⟨p3, p4, p5, p6, p7, p8, p9, rfl, sm, ex, ys, es, hD, hy, he0, he1⟩ ⟨Tp, z1, z2, rfl, nT, rfl, e1, e2⟩
      have i0 : i = 0 := by omega
      subst i0
      obtain rfl := he0 rfl
      obtain rfl : V.int 0 = z1 := Option.some.inj e1
      obtain ⟨k1, ek, hk⟩ := (ha.ext ex).back e2
      obtain rfl : eW b0.2 = k1 := Option.some.inj ek
      obtain rfl : ys = [] := by
        cases hy
        rfl
      have sT : Same H1 (upd H1 Tp (.tup [.int (0 : Nat), z2])) := same_upd nT
      have sm1 := sm.trans sT
      have exT := ex.trans (.of_same (K := K) sT)
      have hk := hk.same sT
      have hD1 := sT _ _ hD
      have hT : SqT K (upd H1 Tp (.tup [.int (0 : Nat), z2])) Tp [.int 0, z2] := SqT.of upd_same
      generalize upd H1 Tp (.tup [.int (0 : Nat), z2]) = H2 at *
      refine ⟨Tp, [.int 0, z2], rfl, hT, rfl, _, _, rfl, _, _, rfl, rfl, ?_⟩
      have b0m : b0 ∈ b0 :: lr := List.mem_cons_self
      by_cases hb0 : b0.2 = .idle
      · have idle : ∀ b ∈ b0 :: lr, b.2 = .idle := by
          rcases hev with h | h
          · exact h
          · exact absurd hb0 (h b0 b0m)
        rw [hb0] at hk
        obtain rfl := hk.none_inv
        refine ⟨.non, rfl, true, rfl, iteT ?_⟩
        refine ⟨.ref D, rfl, .inl ⟨rfl, [], SqL.of hD1⟩, ?_⟩
        refine ⟨v, rfl, Z, hv.same sm1, rfl, fun yc hyc => ?_⟩
        obtain ⟨ac, xc, rfl, hsc, hac⟩ := hyc.at.tup_inv
        have lc : xc.length = Z.calls.length := by rw [hac.length, List.length_map]
        have few := hZ.few
        refine ⟨ac, rfl, ⟨_, hsc⟩, fun D2 nD2 => ?_⟩
        refine lc_acc (K := K) (walk_tup (xs := xc)) nD2 (by omega) (fun H3 s3 => Ext.of_same s3 _ _ hsc) (fun i acc H3 => Ats K H3 acc (((Z.calls.take i).map Ev.call).map eE)) (fun i acc H1 H2 e h => h.ext e) .nil (fun i x H3 H4 acc k k0 hi sm3 eD hr2 hx hkk _ => ?_) fun H3 acc sm3 eD hr2 => ?_
        · obtain ⟨rfl, hx⟩ := hx
          obtain ⟨c, hc, hxc⟩ := ats_map (hac.same sm3) hx
          have cok := hZ.cok c (List.mem_of_getElem? hc)
          obtain ⟨a2, y1, y2, rfl, hs2, g1, g2⟩ := two_inv hxc
          obtain rfl := g1.text_inv
          obtain rfl := g2.num_inv
          refine ⟨a2, _, rfl, hs2, rfl, _, _, rfl, _, _, rfl, rfl, rfl, lc_yes ?_⟩
          refine ⟨.int 0, rfl, _, rfl, _, rfl, [.text "call", .num 0, .text c.1, .num c.2], .cons (.str _ kc) (.cons (.int 0) (.two g1 g2)), by simp, fun p H5 s5 hp => hkk p H5 s5 ?_⟩
          have tk : Z.calls.take (i + 1) = Z.calls.take i ++ [c] := by
            rw [List.take_add_one, hc]
            rfl
          rw [tk, List.map_append, List.map_append]
          exact (hr2.same s5).append (.one hp)
        · rw [lc, List.take_length] at hr2
          have hD3 := sm3 _ _ hD1
          have la := hr2.length
          rw [List.length_map, List.length_map] at la
          refine ⟨D, D2, [], acc, rfl, rfl, hD3, eD, by rw [sizeLine_eq]; simp; omega, ?_⟩
          refine ⟨_, _, _, _, _, _, _, rfl, fun b o e => ?_, (exT.trans (.of_same sm3)).trans (Ext.mut hD3 trivial), acc, Z.calls.map Ev.call, upd_same, hr2.ext (Ext.mut hD3 trivial), fun h => absurd h (by decide), fun _ => ⟨fun e => ?_, by rw [List.length_map]; omega⟩⟩
          · rw [upd_ne (ne_of_none e nD)]
            exact sm3 _ _ (sm1 _ _ e)
          · cases e with
            | call c =>
              constructor
              · intro h
                obtain ⟨d, hd, e⟩ := List.mem_map.mp h
                cases e
                exact ⟨hd, b0, b0m, hb0⟩
              · exact fun h => List.mem_map_of_mem h.1
            | back r =>
              constructor
              · intro h
                obtain ⟨d, hd, e⟩ := List.mem_map.mp h
                cases e
              · rintro ⟨s2, h⟩
                have := idle _ h
                cases this
      · have busy : ∀ b ∈ b0 :: lr, b.2 ≠ .idle := by
          rcases hev with h | h
          · exact absurd (h b0 b0m) hb0
          · exact h
        have hz2 : ∃ a2, z2 = .ref a2 := by
          cases hx : b0.2 with
          | idle => exact absurd hx hb0
          | asks c =>
            rw [hx] at hk
            obtain ⟨a2, _, rfl, _⟩ := hk.tup_inv
            exact ⟨a2, rfl⟩
          | has r =>
            rw [hx] at hk
            obtain ⟨a2, _, rfl, _⟩ := hk.tup_inv
            exact ⟨a2, rfl⟩
        obtain ⟨a2, rfl⟩ := hz2
        refine ⟨.ref a2, rfl, false, rfl, iteF ?_⟩
        have hu2 := hu.same sm1
        obtain ⟨al, xl, rfl, hsl, hal⟩ := hu2.tup_inv
        have ll : xl.length = (b0 :: lr).length := by rw [hal.length, List.length_map]
        refine ⟨.ref al, rfl, al, rfl, ⟨_, hsl⟩, fun D2 nD2 => ?_⟩
        refine idc_it (K := K) (walk_tup (xs := xl)) nD2 (by omega) (fun H3 s3 => Ext.of_same s3 _ _ hsl) (fun j kvs => ∃ ms, IKs kvs ms ∧ (∀ r, r ∈ ms ↔ ∃ s, (s, Wt.has r) ∈ (b0 :: lr).take j)) ⟨[], IKs.nil, fun b => by simp⟩ (fun j x H3 H4 kvs N0 Nk hj sm3 hD3 hR hx h0 hkk => ?_) fun H3 kvs sm3 hD3 hR => ?_
        · obtain ⟨rfl, hx⟩ := hx
          obtain ⟨⟨sn, wx⟩, hbn, hxb⟩ := ats_bel (hal.same sm3) hx
          have nid := busy _ (List.mem_of_getElem? hbn)
          obtain ⟨ms, hk3, hm3⟩ := hR
          have tk : (b0 :: lr).take (j + 1) = (b0 :: lr).take j ++ [(sn, wx)] := by
            rw [List.take_add_one, hbn]
            rfl
          refine ⟨rfl, ?_⟩
          cases wx with
          | idle => exact absurd rfl nid
          | asks c =>
            refine ⟨x, rfl, _, 1, .tup [eW (.asks c)], hxb, rfl, rfl, fun y hy => ⟨.int 0, rfl, _, 0, eW (.asks c), hy, rfl, rfl, fun y2 hy2 => ⟨_, 0, .text "asks", hy2, rfl, rfl, fun y3 hy3 => ⟨_, _, hy3, .str _ kh, by simp [NestedKey.depth], _, rfl, ?_⟩⟩⟩⟩
            have nh : decide ((NestedKey.text "asks") = .text "has") = false := by decide +kernel
            rw [nh]
            refine iteF (h0 _ (Same.refl _) ⟨ms, hk3, fun r => ?_⟩)
            rw [hm3, tk]
            simp
          | has r =>
            refine ⟨x, rfl, _, 1, .tup [eW (.has r)], hxb, rfl, rfl, fun y hy => ⟨.int 0, rfl, _, 0, eW (.has r), hy, rfl, rfl, fun y2 hy2 => ⟨_, 0, .text "has", hy2, rfl, rfl, fun y3 hy3 => ⟨_, _, hy3, .str _ kh, by simp [NestedKey.depth], _, rfl, ?_⟩⟩⟩⟩
            rw [decide_eq_true rfl]
            refine iteT ?_
            refine ⟨x, rfl, _, 1, .tup [eW (.has r)], hxb, rfl, rfl, fun y hy => ⟨.int 0, rfl, _, 0, eW (.has r), hy, rfl, rfl, fun y2 hy2 => ⟨_, 1, .num r, hy2, rfl, rfl, fun y3 hy3 => ?_⟩⟩⟩
            obtain rfl := hy3.num_inv
            obtain ⟨ms', hk7, hm7⟩ := hk3.put r (.bl true)
            refine hkk (iK r) _ _ (Same.refl _) ⟨ms', hk7, fun q => ?_⟩
            rw [hm7, hm3, tk]
            simp only [List.mem_append, List.mem_singleton, Prod.mk.injEq, Wt.has.injEq]
            constructor
            · rintro (⟨s2, h⟩ | rfl)
              · exact ⟨s2, .inl h⟩
              · exact ⟨sn, .inr ⟨rfl, rfl⟩⟩
            · rintro ⟨s2, h | ⟨_, rfl⟩⟩
              · exact .inl ⟨s2, h⟩
              · exact .inr rfl
        · obtain ⟨ms, hk3, hm3⟩ := hR
          rw [ll, List.take_length] at hm3
          have lm : ms.length ≤ 10 := by
            have := nodup_len hk3.nd (m := List.range 10) fun r hr => by
              obtain ⟨s2, h⟩ := (hm3 r).mp hr
              have h9 : r ≤ 9 := (hb _ h).2.1
              exact List.mem_range.mpr (by omega)
            rwa [List.length_range] at this
          have lk3 := hk3.len
          have hDf := sm3 _ _ hD1
          have neD : D ≠ D2 := ne_of_none hD1 nD2
          refine ⟨.ref D, rfl, .inl ⟨rfl, [], SqL.of hDf⟩, ?_⟩
          refine ⟨D2, .dK kvs, hD3, trivial, fun od => ?_⟩
          refine ⟨.ref D2, rfl, D2, od, rfl, .inl ⟨kvs, upd_same, fun D3 nD3 => ?_⟩⟩
          refine lc_acc (K := K) (walk_keys (kvs := kvs)) nD3 (by omega) (fun H4 s4 => s4 _ _ upd_same) (fun i acc H4 => Ats K H4 acc (((ms.take i).map Ev.back).map eE)) (fun i acc H1 H2 e h => h.ext e) .nil (fun i x H4 H5 acc k k0 hi sm4 eD hr2 hx hkk _ => ?_) fun H4 acc sm4 eD hr2 => ?_
          · obtain ⟨rfl, kk, vv, hkv, rfl⟩ := hx
            have : (kvs.map (·.1))[i]? = some kk := by rw [List.getElem?_map, hkv]; rfl
            rw [hk3.keys, List.getElem?_map] at this
            obtain ⟨r, hr, rfl⟩ := Option.map_eq_some_iff.mp this
            refine ⟨rfl, lc_yes ?_⟩
            refine ⟨.int 0, rfl, .int r, rfl, [.text "back", .num 0, .num r], .cons (.str _ kb) (.two (.int 0) (.int r)), by simp, fun p H6 s6 hp => hkk p H6 s6 ?_⟩
            have tk : ms.take (i + 1) = ms.take i ++ [r] := by
              rw [List.take_add_one, hr]
              rfl
            rw [tk, List.map_append, List.map_append]
            exact (hr2.same s6).append (.one hp)
          · rw [lk3, List.take_length] at hr2
            have hz4 : H4 D2 = some (.frz od (.dK kvs)) := sm4 _ _ upd_same
            have hD4 : H4 D = some (.lst []) := sm4 _ _ (by rw [upd_ne neD]; exact hDf)
            have nD3' : H3 D3 = none := by
              by_cases e : D3 = D2
              · rw [e, upd_same] at nD3
                cases nD3
              · rw [upd_ne e] at nD3
                exact nD3
            have ne3 : D3 ≠ D2 := fun e => by
              rw [e, upd_same] at nD3
              cases nD3
            have exz : Ext K H4 (upd H4 D2 (.dK kvs)) := Ext.unfrz hz4
            have hD5 : upd H4 D2 (.dK kvs) D = some (.lst []) := by
              rw [upd_ne neD]
              exact hD4
            have la := hr2.length
            rw [List.length_map, List.length_map] at la
            refine ⟨hz4, D, D3, [], acc, rfl, rfl, hD5, by rw [upd_ne ne3]; exact eD, by rw [sizeLine_eq]; simp; omega, ?_⟩
            have nD2' : H D2 = none := sm1.free nD2
            have ex9 : Ext K H3 (upd H3 D2 (.frz od (.dK kvs))) := Ext.mut hD3 trivial
            refine ⟨_, _, _, _, _, _, _, rfl, fun b o e => ?_, ((((exT.trans (.of_same sm3)).trans ex9).trans (.of_same sm4)).trans exz).trans (Ext.mut hD5 trivial), acc, ms.map Ev.back, upd_same, (hr2.ext exz).ext (Ext.mut hD5 trivial), fun h => absurd h (by decide), fun _ => ⟨fun e => ?_, by rw [List.length_map]; omega⟩⟩
            · rw [upd_ne (ne_of_none e nD), upd_ne (ne_of_none e nD2')]
              refine sm4 _ _ ?_
              rw [upd_ne (ne_of_none e nD2')]
              exact sm3 _ _ (sm1 _ _ e)
            · cases e with
              | call c =>
                constructor
                · intro h
                  obtain ⟨d, hd, e⟩ := List.mem_map.mp h
                  cases e
                · rintro ⟨_, b, hb1, hb2⟩
                  exact absurd hb2 (busy b hb1)
              | back r =>
                constructor
                · intro h
                  obtain ⟨d, hd, e⟩ := List.mem_map.mp h
                  cases e
                  exact (hm3 _).mp hd
                · exact fun h => List.mem_map_of_mem ((hm3 r).mpr h)
    · rintro σ H1 ⟨p3, p4, p5, p6, p7, p8, p9, rfl, sm, ex, ys, es, hD, hy, he0, he1⟩
      rw [hl1] at he1
      obtain ⟨mem, len⟩ := he1 rfl
      have eok : ∀ e ∈ es, EOk e := fun e he => by
        have := (mem e).mp he
        cases e with
        | call c => exact hZ.cok c this.1
        | back r =>
          obtain ⟨s2, h⟩ := this
          exact (hb _ h).2.1
      refine ⟨.ref D, rfl, D, ys, es.map eE, rfl, SqL.of hD, hy, e_ranked eok, by rw [List.length_map]; omega, fun p zs np hz => ?_⟩
      rw [byRk_map] at hz
      refine q p zs (byRk (fun e => rkE (eE e)) es) _ (sm.free np) (sm.trans (same_upd np)) upd_same (hz.same (same_upd np)) (fun e => ?_) ?_
      · rw [byRk_mem, mem]
      · rw [byRk_length]
        exact len
end
end M

/-! watchers, plain -/
namespace M
open PySem PySem.Spec PyProof.Rows L2
def subs {α : Type} : List α → List (List α)
  | [] => [[]]
  | a :: r => subs r ++ (subs r).map (a :: ·)
theorem subs_nil {α : Type} : ∀ l : List α, [] ∈ subs l
  | [] => List.mem_singleton.mpr rfl
  | _ :: r => List.mem_append_left _ (subs_nil r)
theorem subs_len {α : Type} : ∀ l : List α, (subs l).length = 2 ^ l.length
  | [] => rfl
  | a :: r => by
    rw [subs, List.length_append, List.length_map, subs_len r, List.length_cons, Nat.pow_succ]
    omega
theorem asc_subs : ∀ (L S : List Nat), Asc L → Asc S → (∀ s ∈ S, s ∈ L) → S ∈ subs L
  | [], S, _, _, h => by
    have : S = [] := by
      cases S with
      | nil => rfl
      | cons a b => exact absurd (h a List.mem_cons_self) (by simp)
    rw [this]
    exact List.mem_singleton.mpr rfl
  | a :: r, [], _, _, _ => subs_nil _
  | a :: r, x :: S, hL, hS, h => by
    obtain ⟨h1, h2⟩ := List.pairwise_cons.mp hL
    obtain ⟨g1, g2⟩ := List.pairwise_cons.mp hS
    by_cases e : x = a
    · subst e
      refine List.mem_append_right _ (List.mem_map_of_mem (asc_subs r S h2 g2 fun s hs => ?_))
      rcases List.mem_cons.mp (h s (List.mem_cons_of_mem _ hs)) with z | z
      · have := g1 s hs
        omega
      · exact z
    · have xr : x ∈ r := by
        rcases List.mem_cons.mp (h x List.mem_cons_self) with z | z
        · exact absurd z e
        · exact z
      refine List.mem_append_left _ (asc_subs r (x :: S) h2 hS fun s hs => ?_)
      rcases List.mem_cons.mp (h s hs) with z | z
      · rcases List.mem_cons.mp hs with q | q
        · rw [q]
          exact xr
        · have := g1 s q
          have := h1 x xr
          omega
      · exact z
def idleU (T : Th) : List (List Bel) := (subs (List.range T.n)).map fun S => S.map fun s => (s, Wt.idle)
def busyU (T : Th) : List (List Bel) := (idleU T).flatMap fun l => T.calls.map fun c => lotOf (cl T (asking c l))
def lotU (T : Th) : List (List Bel) := idleU T ++ busyU T
theorem lotU_len {T : Th} (h : TOk T) : (lotU T).length ≤ 64 := by
  have hi : (idleU T).length ≤ 16 := by
    unfold idleU
    rw [List.length_map, subs_len, List.length_range]
    have h4 : T.n ≤ 4 := h.four
    exact Nat.pow_le_pow_right (by decide) h4
  have hb : (busyU T).length ≤ 3 * (idleU T).length := by
    unfold busyU
    have few := h.few
    generalize idleU T = l
    induction l with
    | nil => simp
    | cons a l ih =>
      rw [List.flatMap_cons, List.length_append, List.length_map, List.length_cons]
      omega
  unfold lotU
  rw [List.length_append]
  omega
structure Good (T : Th) (l : List Bel) : Prop where
  ne : l ≠ []
  lot : Lot l
  bt : ∀ b ∈ l, BT T b
  even : Even l
  u : l ∈ lotU T
theorem idle_u {T : Th} {l : List Bel} (hl : Lot l) (hb : ∀ b ∈ l, BT T b) (hi : ∀ b ∈ l, b.2 = .idle) : l ∈ idleU T := by
  have e : l = (l.map (·.1)).map fun s => (s, Wt.idle) := by
    rw [List.map_map]
    refine (List.map_id _).symm.trans (List.map_congr_left fun b hb => ?_)
    obtain ⟨s, x⟩ := b
    have hx : x = .idle := hi _ hb
    subst hx
    rfl
  rw [e]
  refine List.mem_map_of_mem (asc_subs _ _ List.pairwise_lt_range ?_ fun s hs => ?_)
  · unfold Asc
    rw [List.pairwise_map]
    refine List.Pairwise.imp_of_mem (fun {a b} ha hb h => ?_) hl
    have h1 := hi a ha
    have h2 := hi b hb
    simp only [rB, h1, h2, rW] at h
    omega
  · obtain ⟨b, hb', rfl⟩ := List.mem_map.mp hs
    exact List.mem_range.mpr (hb b hb').1
theorem cl_busy {T : Th} {c : Call} {l : List Bel} : ∀ b ∈ cl T (asking c l), b.2 ≠ .idle := by
  intro b hb
  rcases List.mem_append.mp hb with z | z
  · obtain ⟨d, _, rfl⟩ := List.mem_map.mp z
    exact fun h => by cases h
  · obtain ⟨d, h1, h2⟩ := List.mem_flatMap.mp z
    obtain ⟨e, _, rfl⟩ := List.mem_map.mp h1
    simp only [tak] at h2
    obtain ⟨o, _, rfl⟩ := List.mem_map.mp h2
    exact fun h => by cases h
theorem EvT.may {T : Th} {l : List Bel} (hb : ∀ b ∈ l, BT T b) {e : Ev} (h : May T l e) : EvT T e := by
  cases e with
  | call c => exact h.1
  | back r =>
    obtain ⟨s, h⟩ := h
    exact (hb _ h).2.1
theorem Good.step {T : Th} (hT : TOk T) {l : List Bel} (h : Good T l) {e : Ev} (m : May T l e) : Good T (lotOf (behind T l e)) := by
  have bt := behind_bt hT h.bt (EvT.may h.bt m)
  have lot : Lot (lotOf (behind T l e)) := lotOf_lot fun b hb => (bt b hb).ok hT
  have bt2 : ∀ b ∈ lotOf (behind T l e), BT T b := fun b hb => bt b (lotOf_mem.mp hb)
  cases e with
  | call c =>
    obtain ⟨hc, b, hb, hi⟩ := m
    have idle : ∀ b ∈ l, b.2 = .idle := by
      rcases h.even with z | z
      · exact z
      · exact absurd hi (z b hb)
    have mem : ((b.1, .asks c) : Bel) ∈ lotOf (behind T l (.call c)) := lotOf_mem.mpr (List.mem_append_left _ (List.mem_map.mpr ⟨b, List.mem_filter.mpr ⟨hb, decide_eq_true hi⟩, rfl⟩))
    refine ⟨fun z => (by rw [z] at mem; cases mem), lot, bt2, .inr fun d hd => cl_busy d (lotOf_mem.mp hd), List.mem_append_right _ (List.mem_flatMap.mpr ⟨l, idle_u h.lot h.bt idle, List.mem_map.mpr ⟨c, hc, rfl⟩⟩)⟩
  | back r =>
    obtain ⟨s, hs⟩ := m
    have mem : ((s, .idle) : Bel) ∈ lotOf (behind T l (.back r)) := lotOf_mem.mpr (List.mem_map.mpr ⟨(s, .has r), List.mem_filter.mpr ⟨hs, decide_eq_true rfl⟩, rfl⟩)
    have idle : ∀ b ∈ lotOf (behind T l (.back r)), b.2 = .idle := fun b hb => by
      obtain ⟨d, _, rfl⟩ := List.mem_map.mp (lotOf_mem.mp hb)
      rfl
    exact ⟨fun z => (by rw [z] at mem; cases mem), lot, bt2, .inl idle, List.mem_append_left _ (idle_u lot bt2 idle)⟩
theorem Good.first {T : Th} (hT : TOk T) : Good T [(0, .idle)] := by
  have hb : ∀ b ∈ ([(0, .idle)] : List Bel), BT T b := fun b hb => by
    rw [List.mem_singleton.mp hb]
    exact ⟨hT.one, trivial, fun c e => by cases e⟩
  have hi : ∀ b ∈ ([(0, .idle)] : List Bel), b.2 = .idle := fun b hb => by
    rw [List.mem_singleton.mp hb]
  have hl : Lot [(0, .idle)] := List.pairwise_singleton _ _
  exact ⟨by simp, hl, hb, .inl hi, List.mem_append_left _ (idle_u hl hb hi)⟩
theorem lotOf_nil : lotOf [] = [] := by
  unfold lotOf byRk
  simp [dd]
/-- an event that may not come leaves nothing -/
theorem may_iff {T : Th} {l : List Bel} (h : Good T l) {e : Ev} (he : EvT T e) : May T l e ↔ lotOf (behind T l e) ≠ [] := by
  cases e with
  | call c =>
    constructor
    · rintro ⟨hc, b, hb, hi⟩ z
      have mem : ((b.1, .asks c) : Bel) ∈ lotOf (behind T l (.call c)) := lotOf_mem.mpr (List.mem_append_left _ (List.mem_map.mpr ⟨b, List.mem_filter.mpr ⟨hb, decide_eq_true hi⟩, rfl⟩))
      rw [z] at mem
      cases mem
    · intro z
      refine ⟨he, Classical.byContradiction fun no => z ?_⟩
      have : asking c l = [] := by
        unfold asking
        rw [List.map_eq_nil_iff, List.filter_eq_nil_iff]
        exact fun b hb q => no ⟨b, hb, of_decide_eq_true q⟩
      show lotOf (cl T (asking c l)) = []
      rw [this]
      exact lotOf_nil
  | back r =>
    constructor
    · rintro ⟨s, hs⟩ z
      have mem : ((s, .idle) : Bel) ∈ lotOf (behind T l (.back r)) := lotOf_mem.mpr (List.mem_map.mpr ⟨(s, .has r), List.mem_filter.mpr ⟨hs, decide_eq_true rfl⟩, rfl⟩)
      rw [z] at mem
      cases mem
    · intro z
      refine Classical.byContradiction fun no => z ?_
      have : backing r l = [] := by
        unfold backing
        rw [List.map_eq_nil_iff, List.filter_eq_nil_iff]
        intro b hb q
        obtain ⟨s, x⟩ := b
        have hx : x = .has r := of_decide_eq_true q
        subst hx
        exact no ⟨s, hb⟩
      show lotOf (backing r l) = []
      rw [this]
      exact lotOf_nil
abbrev WRow := List (Ev × Nat)
structure RowW (T : Th) (Ls : List (List Bel)) (l : List Bel) (row : WRow) : Prop where
  ev : ∀ e, e ∈ row.map (·.1) ↔ May T l e
  to : ∀ p ∈ row, Ls[p.2]? = some (lotOf (behind T l p.1))
  few : row.length ≤ 10
structure WI (T : Th) (Ls : List (List Bel)) (sts : List WRow) : Prop where
  first : Ls[0]? = some [(0, .idle)]
  nd : Ls.Nodup
  good : ∀ l ∈ Ls, Good T l
  le : sts.length ≤ Ls.length
  rows : ∀ (i : Nat) (row : WRow), sts[i]? = some row → ∃ l : List Bel, Ls[i]? = some l ∧ RowW T Ls l row
theorem WI.len {T : Th} (hT : TOk T) {Ls : List (List Bel)} {sts : List WRow} (h : WI T Ls sts) : Ls.length ≤ 64 := Nat.le_trans (nodup_len h.nd fun l hl => (h.good l hl).u) (lotU_len hT)
theorem RowW.grow {T : Th} {Ls : List (List Bel)} {l : List Bel} {row : WRow} (h : RowW T Ls l row) (d : List Bel) : RowW T (Ls ++ [d]) l row :=
  ⟨h.ev, fun p hp => by
    have := h.to p hp
    rw [List.getElem?_append_left (List.getElem?_eq_some_iff.mp this).1]
    exact this, h.few⟩
theorem WI.grow {T : Th} {Ls : List (List Bel)} {sts : List WRow} (h : WI T Ls sts) {d : List Bel} (hd : Good T d) (hn : d ∉ Ls) : WI T (Ls ++ [d]) sts := by
  refine ⟨?_, List.nodup_append.mpr ⟨h.nd, by simp, fun a ha b hb e => ?_⟩, fun l hl => ?_, by have := h.le; simp only [List.length_append]; omega, fun i row hi => ?_⟩
  · rw [List.getElem?_append_left (List.getElem?_eq_some_iff.mp h.first).1]
    exact h.first
  · rw [List.mem_singleton.mp hb] at e
    exact hn (e ▸ ha)
  · rcases List.mem_append.mp hl with z | z
    · exact h.good l z
    · rw [List.mem_singleton.mp z]
      exact hd
  · obtain ⟨l, h1, h2⟩ := h.rows i row hi
    exact ⟨l, by rw [List.getElem?_append_left (List.getElem?_eq_some_iff.mp h1).1]; exact h1, h2.grow d⟩
/-- the watcher's state behind a history, as the watcher tells it -/
theorem watch_step {T : Th} (hT : TOk T) {Ls : List (List Bel)} {sts : List WRow} (h : WI T Ls sts) (hf : sts.length = Ls.length) {i : Nat} {l : List Bel} (hl : Ls[i]? = some l) {e : Ev} (he : EvT T e) :
    ∃ row, sts[i]? = some row ∧ ((∀ p ∈ row, p.1 ≠ e) ∧ lotOf (behind T l e) = [] ∨ lotOf (behind T l e) ≠ [] ∧ (∃ p ∈ row, p.1 = e) ∧ ∀ p ∈ row, p.1 = e → Ls[p.2]? = some (lotOf (behind T l e))) := by
  have lt : i < sts.length := by
    rw [hf]
    exact (List.getElem?_eq_some_iff.mp hl).1
  have hr : sts[i]? = some sts[i] := List.getElem?_eq_getElem lt
  obtain ⟨l2, h1, h2⟩ := h.rows i _ hr
  rw [hl] at h1
  obtain rfl := Option.some.inj h1
  refine ⟨_, hr, ?_⟩
  have g := h.good l (List.mem_of_getElem? hl)
  by_cases m : May T l e
  · refine .inr ⟨(may_iff g he).mp m, ?_, fun p hp q => ?_⟩
    · obtain ⟨p, hp, q⟩ := List.mem_map.mp ((h2.ev e).mpr m)
      exact ⟨p, hp, q⟩
    · rw [← q]
      exact h2.to p hp
  · refine .inl ⟨fun p hp q => m ((h2.ev e).mp (List.mem_map.mpr ⟨p, hp, q⟩)), Classical.byContradiction fun z => m ((may_iff g he).mpr z)⟩
def eL (l : List Bel) : NK := .tup (l.map eB)
theorem eL_inj {a b : List Bel} (h : eL a = eL b) : a = b := by
  simp only [eL, NestedKey.tup.injEq] at h
  exact List.map_inj_right (fun x y e => eB_inj e) |>.mp h
/-- lots and their numbers -/
def numK : Nat → List (List Bel) → List (NK × V)
  | _, [] => []
  | i, l :: r => (eL l, .int (i : Nat)) :: numK (i + 1) r
theorem numK_keys : ∀ (i : Nat) (Ls : List (List Bel)), (numK i Ls).map (·.1) = Ls.map eL
  | _, [] => rfl
  | i, l :: r => by
    rw [numK, List.map_cons, List.map_cons, numK_keys (i + 1) r]
theorem numK_snoc : ∀ (i : Nat) (Ls : List (List Bel)) (l : List Bel), numK i (Ls ++ [l]) = numK i Ls ++ [(eL l, .int ((i + Ls.length : Nat) : Int))]
  | i, [], l => rfl
  | i, d :: r, l => by
    rw [List.cons_append, numK, numK_snoc (i + 1) r l, numK, List.length_cons, List.cons_append, show i + 1 + r.length = i + (r.length + 1) by omega]
theorem numK_val : ∀ (i : Nat) (Ls : List (List Bel)) (j : Nat) (l : List Bel), Ls.Nodup → Ls[j]? = some l → valV (numK i Ls) (eL l) = some (.int ((i + j : Nat) : Int))
  | i, [], j, l, _, h => by simp at h
  | i, d :: r, 0, l, _, h => by
    have e : d = l := Option.some.inj h
    subst e
    exact valV_pos rfl
  | i, d :: r, j + 1, l, hn, h => by
    obtain ⟨h1, h2⟩ := List.nodup_cons.mp hn
    have hr : r[j]? = some l := by simpa using h
    have ne : ¬ eL d = eL l := fun z => h1 (by rw [eL_inj z]; exact List.mem_of_getElem? hr)
    rw [numK, valV_neg ne, numK_val (i + 1) r j l h2 hr, show i + 1 + j = i + (j + 1) by omega]
def eP (p : Ev × Nat) : NK := .tup [eE p.1, .num p.2]
def eWR (row : WRow) : NK := .tup (row.map eP)
end M

namespace M
open PySem PySem.Spec PyProof.Rows L2
section
variable {P : Program} {w : World} {K : PySem.W.Frag} {mg : Str → Option Value} {base : Heap}
theorem scWatcher : FnScope ["thing", "hands", "lots", "numbers", "states", "rows", "event", "after"] ["thing", "hands"] (defScope sWatcher) := ⟨rfl, rfl, rfl, by decide +kernel, rfl, by decide +kernel, by decide +kernel⟩
theorem eL_deep (l : List Bel) : (eL l).depth ≤ 8 := by
  have : NestedKey.depthAll (l.map eB) ≤ 3 := by
    induction l with
    | nil => simp [NestedKey.depthAll]
    | cons b l ih =>
      have hb : (eB b).depth ≤ 3 := by
        obtain ⟨s, x⟩ := b
        cases x <;> simp [eB, eW, NestedKey.depth, NestedKey.depthAll]
      simp only [List.map_cons, NestedKey.depthAll]
      omega
  simp only [eL, NestedKey.depth]
  omega
/-- a whole watcher -/
structure WF (T : Th) (Ls : List (List Bel)) (sts : List WRow) : Prop where
  wi : WI T Ls sts
  full : sts.length = Ls.length
def spWatcher (K : PySem.W.Frag) : Sp := fun vs H Q _ => ∃ (T : Th) (v : V), vs = [v, .int 1] ∧ Tg K H v T ∧ TOk T ∧ ∀ z Ls sts H', Same H H' → WF T Ls sts → At K H' z (.tup (sts.map eWR)) → Q z H'
theorem k_watcher (T : Tx K mg) (D : Df K mg "watcher" sWatcher ["thing", "hands"]) (F1 : Kn P w K mg base 2 "check_hands" ["hands"] spCheckHands) (F2 : Kn P w K mg base 1 "first_belief" ["hands"] (spFirstBelief K)) (F3 : Kn P w K mg base 3 "events_at" ["thing", "lot"] (spEventsAt K))
    (F4 : Kn P w K mg base 9 "behind_event" ["thing", "lot", "event"] (spBehindEvent K)) : Kn P w K mg base 10 "watcher" ["thing", "hands"] (spWatcher K) := by
  refine D.kn scWatcher (fun vs H Q E h => ?_) (fun f cdv A outer s H vs Q E hr h => ?_)
  · obtain ⟨Z, v, rfl, _⟩ := h
    rfl
  · obtain ⟨Z, v, rfl, hv, hZ, q⟩ := h
    refine ⟨_, (pss_cons (ps_expr (pe_kn F1 (hr.mono (by decide)) (pa_cons (pv 1) pa_nil))) (pss_cons (ps_set (i := 2) scWatcher.nd rfl (Or.inl rfl) (pe_lst (pa_cons (pe_tupN (pa_cons (pe_kn F2 (hr.mono (by decide)) (pa_cons (pv 1) pa_nil)) pa_nil)) pa_nil))) (pss_cons (ps_par (i := 3) (j := 4) rfl scWatcher.nd rfl rfl (by decide) rfl rfl (pa_cons (pe_nd1 hr.units (pe_ix ix_list (pv 2) pe_int (fun _ _ => rfl)) pe_int) (pa_cons (pe_lst pa_nil) pa_nil)) rfl) (pss_cons (ps_while PassesOwn.never (pt_cmpR op_lt (pe_callB len_n (by rfl) T.len PySem.boot_len (pa_cons (pv 4) pa_nil)) (pe_callB len_n (by rfl) T.len PySem.boot_len (pa_cons (pv 2) pa_nil)) (nomark _)) (pss_cons (ps_set (i := 5) scWatcher.nd rfl (Or.inl rfl) (pe_lst pa_nil)) (pss_cons (ps_for PassesOwn.never rfl (pi_list (pe_kn F3 (hr.mono (by decide)) (pa_cons (pv 0) (pa_cons (pe_ix ix_list (pv 2) (pe_callB len_n (by rfl) T.len PySem.boot_len (pa_cons (pv 4) pa_nil)) (fun _ _ => rfl)) pa_nil)))) (pg_name (i := 6) scWatcher.nd rfl (Or.inl rfl)) (pss_cons (ps_set (i := 7) scWatcher.nd rfl (Or.inl rfl) (pe_kn F4 hr (pa_cons (pv 0) (pa_cons (pe_ix ix_list (pv 2) (pe_callB len_n (by rfl) T.len PySem.boot_len (pa_cons (pv 4) pa_nil)) (fun _ _ => rfl)) (pa_cons (pv 6) pa_nil))))) (pss_cons (ps_if (pt_cmpR (op_notInD hr.units) (pv 7) (pv 3) (by rfl)) (pss_cons (ps_ndPut hr.units (pv 3) (pv 7) (pe_callB len_n (by rfl) T.len PySem.boot_len (pa_cons (pv 2) pa_nil))) (pss_one (ps_expr (pe_bm F.plainAttrs_list F.slot_list_append F.type_list_append mt_append (pv 2) (pa_cons (pv 7) pa_nil))))) pss_nil) (pss_one (ps_expr (pe_bm F.plainAttrs_list F.slot_list_append F.type_list_append mt_append (pv 5) (pa_cons (pe_tupN (pa_cons (pv 6) (pa_cons (pe_ndGet hr.units (pv 3) (pv 7) (fun _ _ => rfl)) pa_nil))) pa_nil))))))) (pss_cons (ps_expr (pe_bm F.plainAttrs_list F.slot_list_append F.type_list_append mt_append (pv 4) (pa_cons (pe_callTy tuple_n (by rfl) T.tuple boot_tuple (pa_cons (pv 5) pa_nil)) pa_nil))) (pss_one (ps_if (pt_cmpR op_gt (pe_callB len_n (by rfl) T.len PySem.boot_len (pa_cons (pv 2) pa_nil)) (pe_gi T.mostLots) (nomark _)) (pss_one ps_never) pss_nil)))))) (pss_one (ps_ret (pe_callTy tuple_n (by rfl) T.tuple boot_tuple (pa_cons (pv 4) pa_nil)))))))), ?_⟩
    refine ⟨.int 1, rfl, rfl, fun H1 s1 => ?_⟩
    refine ⟨.int 1, rfl, rfl, fun p H2 s2 hp => ⟨[eB (0, .idle)], .one hp, by decide, fun p2 H3 s3 hp2 => ⟨by show 1 ≤ sizeLine; decide, fun L nL => ?_⟩⟩⟩
    have sL := same_upd (o := .lst [p2]) nL
    have sm4 := ((s1.trans s2).trans s3).trans sL
    have nL0 : H L = none := ((s1.trans s2).trans s3).free nL
    have hL4 : upd H3 L (.lst [p2]) L = some (.lst [p2]) := upd_same
    have hp4 : At K (upd H3 L (.lst [p2])) p2 (eL [(0, .idle)]) := hp2.same sL
    generalize upd H3 L (.lst [p2]) = H4 at *
    refine fun D0 o0 nD h00 => ?_
    have sD : Same H4 (upd H4 D0 o0) := same_upd nD
    refine ⟨.ref L, rfl, L, [p2], 0, p2, rfl, rfl, SqL.of (sD _ _ hL4), rfl, eL [(0, .idle)], hp4.same sD, by decide, ⟨_, rfl⟩, h00, fun ob hob => ?_⟩
    obtain ⟨uD, huD, muD⟩ := h00.mut
    have exD : Ext K (upd H4 D0 o0) (upd (upd H4 D0 o0) D0 ob) := Ext.mut huD muD
    have neL : L ≠ D0 := ne_of_none hL4 nD
    have nD0 : H D0 = none := sm4.free nD
    have sm5 : Same H (upd (upd H4 D0 o0) D0 ob) := fun b o e => by
      rw [upd_ne (ne_of_none e nD0), upd_ne (ne_of_none e nD0)]
      exact sm4 _ _ e
    have hL5 : upd (upd H4 D0 o0) D0 ob L = some (.lst [p2]) := by
      rw [upd_ne neL, upd_ne neL]
      exact hL4
    have hp5 := (hp4.same sD).ext exD
    generalize upd (upd H4 D0 o0) D0 ob = H5 at *
    refine ⟨by decide, fun S nS => ⟨_, _, rfl, ?_⟩⟩
    have sS := same_upd (o := .lst []) nS
    have nS0 : H S = none := sm5.free nS
    have neS : S ≠ L := fun e => by
      rw [e, hL5] at nS
      cases nS
    have neSD : S ≠ D0 := fun e => by
      obtain ⟨o, hO, _⟩ := hob
      rw [e, hO] at nS
      cases nS
    -- the while
    refine ⟨fun m σ H' => ∃ p5 p6 p7, σ = [some v, some (.int 1), some (.ref L), some (.ref D0), some (.ref S), p5, p6, p7] ∧ Same H H' ∧ ∃ Ls sts lx sx, H' L = some (.lst lx) ∧ Ats K H' lx (Ls.map eL) ∧ DK P w K H' D0 (numK 0 Ls) ∧ H' S = some (.lst sx) ∧ Ats K H' sx (sts.map eWR) ∧ WI Z Ls sts ∧ m = 64 - sts.length, ⟨64, ?_⟩, ?_⟩
    · refine ⟨none, none, none, rfl, sm5.trans sS, [[(0, .idle)]], [], [p2], [], sS _ _ hL5, .one (hp5.same sS), hob.same sS, upd_same, .nil, ⟨rfl, by simp, fun l hl => ?_, by simp, fun i row h => by simp at h⟩, rfl⟩
      rw [List.mem_singleton.mp hl]
      exact Good.first hZ
    · rintro m _ H6 ⟨p5, p6, p7, rfl, sm6, Ls, sts, lx, sx, hL6, hlx, hD6, hS6, hsx, wi, rfl⟩
      have lL := wi.len hZ
      have lS := wi.le
      have ll : lx.length = Ls.length := by rw [hlx.length, List.length_map]
      have ls : sx.length = sts.length := by rw [hsx.length, List.length_map]
      refine ⟨.ref S, rfl, .ref S, _, rfl, Seq.lst (SqL.of hS6) hsx, .ref L, rfl, .ref L, _, rfl, Seq.lst (SqL.of hL6) hlx, _, _, rfl, rfl, _, rfl, ?_⟩
      rw [List.length_map, List.length_map]
      by_cases lt : sts.length < Ls.length
      · rw [decide_eq_true (show ((sts.length : Nat) : Int) < ((Ls.length : Nat) : Int) by omega)]
        refine iteT ⟨fun σ H' => ∃ m', m' < 64 - sts.length ∧ ∃ p5 p6 p7, σ = [some v, some (.int 1), some (.ref L), some (.ref D0), some (.ref S), p5, p6, p7] ∧ Same H H' ∧ ∃ Ls sts lx sx, H' L = some (.lst lx) ∧ Ats K H' lx (Ls.map eL) ∧ DK P w K H' D0 (numK 0 Ls) ∧ H' S = some (.lst sx) ∧ Ats K H' sx (sts.map eWR) ∧ WI Z Ls sts ∧ m' = 64 - sts.length, fun σ' H' z => z, ?_⟩
        obtain ⟨l0, hl0⟩ : ∃ l0, Ls[sts.length]? = some l0 := ⟨Ls[sts.length], List.getElem?_eq_getElem lt⟩
        have g0 := wi.good l0 (List.mem_of_getElem? hl0)
        have len0 := lot_len hZ (lot_nodup g0.lot) g0.bt
        refine ⟨by decide, fun R nR => ?_⟩
        have sR := same_upd (o := .lst []) nR
        have nR0 : H R = none := sm6.free nR
        have neRL : R ≠ L := fun e => by
          rw [e, hL6] at nR
          cases nR
        have neRS : R ≠ S := fun e => by
          rw [e, hS6] at nR
          cases nR
        have neRD : R ≠ D0 := fun e => by
          obtain ⟨o, hO, _⟩ := hD6
          rw [e, hO] at nR
          cases nR
        have sm7 := sm6.trans sR
        have hL7 := sR _ _ hL6
        have hS7 := sR _ _ hS6
        have hlx7 := hlx.same sR
        have hsx7 := hsx.same sR
        have hD7 := hD6.same sR
        have hR7 : upd H6 R (.lst []) R = some (.lst []) := upd_same
        generalize upd H6 R (.lst []) = H7 at *
        obtain ⟨y, hy, hyl⟩ := hlx7.get (i := sts.length) (k := eL l0) (by rw [List.getElem?_map, hl0]; rfl)
        refine ⟨v, rfl, .ref L, rfl, .ref S, rfl, .ref S, _, rfl, Seq.lst (SqL.of hS7) hsx7, L, lx, _, y, rfl, rfl, SqL.of hL7, atI_nat (by rw [List.length_map]; exact hy), ?_⟩
        refine ⟨Z, v, y, l0, rfl, hv.same sm7, hZ, hyl, g0.ne, by omega, g0.bt, g0.even, fun p ps es H8 np s8 hp hps mem len => ?_⟩
        have nePL : p ≠ L := fun e => by
          rw [e, hL7] at np
          cases np
        have nePR : p ≠ R := fun e => by
          rw [e, hR7] at np
          cases np
        have nePD : p ≠ D0 := fun e => by
          obtain ⟨o, hO, _⟩ := hD7
          rw [e, hO] at np
          cases np
        have lp : ps.length = es.length := by rw [hps.length, List.length_map]
        refine ⟨p, rfl, ⟨_, SqL.of hp⟩, ?_⟩
        refine for_it (walk_list (xs := ps)) (fun j σ H' => ∃ p6 p7, σ = [some v, some (.int 1), some (.ref L), some (.ref D0), some (.ref S), some (.ref R), p6, p7] ∧ Same H H' ∧ H' p = some (.lst ps) ∧ Ats K H' ps (es.map eE) ∧ ∃ (Ls : List (List Bel)) (lx rx : List V) (row : WRow), H' L = some (.lst lx) ∧ Ats K H' lx (Ls.map eL) ∧ DK P w K H' D0 (numK 0 Ls) ∧
          H' S = some (.lst sx) ∧ Ats K H' sx (sts.map eWR) ∧ H' R = some (.lst rx) ∧ Ats K H' rx (row.map eP) ∧ WI Z Ls sts ∧ Ls[sts.length]? = some l0 ∧ row.map (·.1) = es.take j ∧ ∀ w ∈ row, Ls[w.2]? = some (lotOf (behind Z l0 w.1))) ?_ ?_ ?_ ?_
        · exact ⟨p6, p7, rfl, sm7.trans s8, hp, hps, Ls, lx, [], [], s8 _ _ hL7, hlx7.same s8, hD7.same s8, s8 _ _ hS7, hsx7.same s8, s8 _ _ hR7, .nil, wi, hl0, rfl, fun w hw => by cases hw⟩
        · rintro j σ H9 _ ⟨_, _, _, _, h1, _⟩
          exact SqL.of h1
        · rintro j z σ H9' H9 hj ⟨p6, p7, rfl, sm9, hp9, hps9, Ls, lx, rx, row, hL9, hlx9, hD9, hS9, hsx9, hR9, hrx9, wi9, hl9, er, to9⟩ ⟨eH, hz⟩
          subst eH
          obtain ⟨e, he, hze⟩ := ats_ev hps9 hz
          have hm : May Z l0 e := (mem e).mp (List.mem_of_getElem? he)
          obtain ⟨y2, hy2, hyl2⟩ := hlx9.get (i := sts.length) (k := eL l0) (by rw [List.getElem?_map, hl9]; rfl)
          have hev := EvT.may g0.bt hm
          refine ⟨v, rfl, .ref L, rfl, .ref S, rfl, .ref S, _, rfl, Seq.lst (SqL.of hS9) hsx9, L, lx, _, y2, rfl, rfl, SqL.of hL9, atI_nat (by rw [List.length_map]; exact hy2), ?_⟩
          refine ⟨z, rfl, Z, v, y2, z, l0, e, rfl, hv.same sm9, hZ, hyl2, g0.bt, by omega, hze, hev, fun a ls HA sA lot mem2 ha => ?_⟩
          have el := lotOf_eq (fun b hb => (behind_bt hZ g0.bt hev b hb).ok hZ) lot mem2
          have g1 := g0.step hZ hm
          rw [← el] at g1
          obtain ⟨l1, el1⟩ : ∃ l1, l1 = ls := ⟨_, rfl⟩
          rw [← el1] at el g1 ha
          have ha : At K HA a (eL l1) := ha
          have smA := sm9.trans sA
          have hLA := sA _ _ hL9
          have hSA := sA _ _ hS9
          have hRA := sA _ _ hR9
          have hpA := sA _ _ hp9
          have hDA := hD9.same sA
          have lL9 := wi9.len hZ
          have ek : decide (eL l1 ∈ (numK 0 Ls).map (·.1)) = decide (l1 ∈ Ls) := by
            rw [numK_keys]
            by_cases c : l1 ∈ Ls
            · rw [decide_eq_true c, decide_eq_true (List.mem_map_of_mem c)]
            · rw [decide_eq_false c, decide_eq_false fun q => ?_]
              obtain ⟨d, hd, e⟩ := List.mem_map.mp q
              exact c (eL_inj e ▸ hd)
          have lk : (numK 0 Ls).length = Ls.length := by
            have := congrArg List.length (numK_keys 0 Ls)
            simpa using this
          refine ⟨a, rfl, .ref D0, rfl, eL l1, D0, numK 0 Ls, ha, rfl, hDA, eL_deep _, ⟨_, rfl⟩, _, rfl, ?_⟩
          rw [ek]
          by_cases c : l1 ∈ Ls
          · rw [decide_eq_true c]
            refine iteF ?_
            obtain ⟨j1, hj1⟩ := List.getElem?_of_mem c
            have hj1' : Ls[j1]? = some (lotOf (behind Z l0 e)) := by rw [← el]; exact hj1
            refine ⟨.ref R, rfl, .inl ⟨rfl, rx, SqL.of hRA⟩, ?_⟩
            refine ⟨z, rfl, .ref D0, rfl, a, rfl, D0, numK 0 Ls, eL l1, _, rfl, hDA, ha, eL_deep _, ⟨_, rfl⟩, numK_val 0 Ls j1 l1 wi9.nd hj1, ?_⟩
            refine ⟨[eE e, .num ((0 + j1 : Nat) : Int)], .two (hze.same sA) (.int _), by simp, fun pr H10 s10 hpr => ?_⟩
            have hR10 := s10 _ _ hRA
            have exR : Ext K H10 (upd H10 R (.lst (rx ++ [pr]))) := Ext.mut hR10 trivial
            refine ⟨R, rx, pr, rfl, rfl, hR10, ?_, ?_⟩
            · have h1 := ((hrx9.same sA)).length
              have h2 := congrArg List.length er
              rw [List.length_map] at h1 h2
              rw [List.length_take] at h2
              exact small1000 (by omega)
            · refine ⟨_, _, rfl, fun b o q => ?_, ?_, ((((hps9.same sA)).same s10).ext exR), Ls, lx, rx ++ [pr], row ++ [(e, j1)], ?_, ((((hlx9.same sA)).same s10).ext exR), ((hDA).same s10).other hR10 trivial (Ne.symm neRD), ?_, ((((hsx9.same sA)).same s10).ext exR), upd_same, ?_, wi9, hl9, ?_, fun w hw => ?_⟩
              · rw [upd_ne (ne_of_none q nR0)]
                exact s10 _ _ (smA _ _ q)
              · rw [upd_ne nePR]
                exact s10 _ _ hpA
              · rw [upd_ne (Ne.symm neRL)]
                exact s10 _ _ hLA
              · rw [upd_ne (Ne.symm neRS)]
                exact s10 _ _ hSA
              · rw [List.map_append]
                refine (((((hrx9.same sA)).same s10)).append (.one ?_)).ext exR
                have e0 : (((0 + j1 : Nat) : Int)) = ((j1 : Nat) : Int) := by omega
                rw [e0] at hpr
                exact hpr
              · rw [List.map_append, er, List.take_add_one, he]
                rfl
              · rcases List.mem_append.mp hw with z | z
                · exact to9 w z
                · rw [List.mem_singleton.mp z]
                  exact hj1'
          · rw [decide_eq_false c]
            refine iteT ?_
            refine ⟨.ref L, rfl, .ref L, _, rfl, Seq.lst (SqL.of hLA) (hlx9.same sA), .ref D0, rfl, a, rfl, D0, _, eL l1, rfl, hDA, by omega, ha, eL_deep _, ⟨_, rfl⟩, fun ob hob => ?_⟩
            obtain ⟨u, hu, mu⟩ := hDA.mut
            have exB : Ext K HA (upd HA D0 ob) := Ext.mut hu mu
            have neLD : L ≠ D0 := neL
            have hLB : upd HA D0 ob L = some (.lst lx) := by
              rw [upd_ne neLD]
              exact hLA
            refine ⟨.ref L, rfl, .inl ⟨rfl, lx, SqL.of hLB⟩, a, rfl, L, lx, a, rfl, rfl, hLB, ?_, ?_⟩
            · have h1 := hlx9.length
              rw [List.length_map] at h1
              exact small1000 (by omega)
            have exC : Ext K (upd HA D0 ob) (upd (upd HA D0 ob) L (.lst (lx ++ [a]))) := Ext.mut hLB trivial
            have exBC := exB.trans exC
            have smC : Same H (upd (upd HA D0 ob) L (.lst (lx ++ [a]))) := fun b o q => by
              rw [upd_ne (ne_of_none q nL0), upd_ne (ne_of_none q nD0)]
              exact smA _ _ q
            have hLC : upd (upd HA D0 ob) L (.lst (lx ++ [a])) L = some (.lst (lx ++ [a])) := upd_same
            have hpC : upd (upd HA D0 ob) L (.lst (lx ++ [a])) p = some (.lst ps) := by
              rw [upd_ne nePL, upd_ne nePD]
              exact hpA
            have hSC : upd (upd HA D0 ob) L (.lst (lx ++ [a])) S = some (.lst sx) := by
              rw [upd_ne neS, upd_ne neSD]
              exact hSA
            have hRC : upd (upd HA D0 ob) L (.lst (lx ++ [a])) R = some (.lst rx) := by
              rw [upd_ne neRL, upd_ne neRD]
              exact hRA
            have epk : putK (numK 0 Ls) (eL l1) (.int (((Ls.map eL).length : Nat) : Int)) = numK 0 (Ls ++ [l1]) := by
              have nv : valV (numK 0 Ls) (eL l1) = none := by
                have := isSome_mem (kvs := numK 0 Ls) (k := eL l1)
                rw [ek, decide_eq_false c] at this
                exact Option.not_isSome_iff_eq_none.mp (by rw [this]; exact Bool.false_ne_true)
              rw [putK_new _ nv, numK_snoc, List.length_map, Nat.zero_add]
            rw [epk] at hob
            have hDC := hob.other (o := .lst (lx ++ [a])) hLB trivial (Ne.symm neLD)
            have wiC := wi9.grow g1 c
            have hlxC : Ats K (upd (upd HA D0 ob) L (.lst (lx ++ [a]))) (lx ++ [a]) ((Ls ++ [l1]).map eL) := by
              rw [List.map_append]
              exact ((hlx9.same sA).append (.one ha)).ext exBC
            have hpsC := (hps9.same sA).ext exBC
            have hsxC := (hsx9.same sA).ext exBC
            have hrxC := (hrx9.same sA).ext exBC
            have hzC := (hze.same sA).ext exBC
            have haC := ha.ext exBC
            have hlC : (Ls ++ [l1])[sts.length]? = some l0 := by
              rw [List.getElem?_append_left (List.getElem?_eq_some_iff.mp hl9).1]
              exact hl9
            have toC : ∀ w ∈ row, (Ls ++ [l1])[w.2]? = some (lotOf (behind Z l0 w.1)) := fun w hw => by
              have := to9 w hw
              rw [List.getElem?_append_left (List.getElem?_eq_some_iff.mp this).1]
              exact this
            have hjC : (Ls ++ [l1])[Ls.length]? = some l1 := by simp
            have hjC' : (Ls ++ [l1])[Ls.length]? = some (lotOf (behind Z l0 e)) := by rw [← el]; exact hjC
            generalize upd (upd HA D0 ob) L (.lst (lx ++ [a])) = HC at *
            refine ⟨.ref R, rfl, .inl ⟨rfl, rx, SqL.of hRC⟩, ?_⟩
            refine ⟨z, rfl, .ref D0, rfl, a, rfl, D0, numK 0 (Ls ++ [l1]), eL l1, _, rfl, hDC, haC, eL_deep _, ⟨_, rfl⟩, numK_val 0 (Ls ++ [l1]) Ls.length l1 wiC.nd hjC, ?_⟩
            refine ⟨[eE e, .num ((0 + Ls.length : Nat) : Int)], .two (hzC) (.int _), by simp, fun pr H10 s10 hpr => ?_⟩
            have hR10 := s10 _ _ hRC
            have exR : Ext K H10 (upd H10 R (.lst (rx ++ [pr]))) := Ext.mut hR10 trivial
            refine ⟨R, rx, pr, rfl, rfl, hR10, ?_, ?_⟩
            · have h1 := (hrxC).length
              have h2 := congrArg List.length er
              rw [List.length_map] at h1 h2
              rw [List.length_take] at h2
              exact small1000 (by omega)
            · refine ⟨_, _, rfl, fun b o q => ?_, ?_, (((hpsC).same s10).ext exR), (Ls ++ [l1]), (lx ++ [a]), rx ++ [pr], row ++ [(e, Ls.length)], ?_, (((hlxC).same s10).ext exR), ((hDC).same s10).other hR10 trivial (Ne.symm neRD), ?_, (((hsxC).same s10).ext exR), upd_same, ?_, wiC, hlC, ?_, fun w hw => ?_⟩
              · rw [upd_ne (ne_of_none q nR0)]
                exact s10 _ _ (smC _ _ q)
              · rw [upd_ne nePR]
                exact s10 _ _ hpC
              · rw [upd_ne (Ne.symm neRL)]
                exact s10 _ _ hLC
              · rw [upd_ne (Ne.symm neRS)]
                exact s10 _ _ hSC
              · rw [List.map_append]
                refine ((((hrxC).same s10)).append (.one ?_)).ext exR
                have e0 : (((0 + Ls.length : Nat) : Int)) = ((Ls.length : Nat) : Int) := by omega
                rw [e0] at hpr
                exact hpr
              · rw [List.map_append, er, List.take_add_one, he]
                rfl
              · rcases List.mem_append.mp hw with z | z
                · exact toC w z
                · rw [List.mem_singleton.mp z]
                  exact hjC'
        · rintro σ H9 ⟨p6, p7, rfl, sm9, hp9, hps9, Ls, lx, rx, row, hL9, hlx9, hD9, hS9, hsx9, hR9, hrx9, wi9, hl9, er, to9⟩
          rw [lp, List.take_length] at er
          have lL9 := wi9.len hZ
          have lr : row.length = es.length := by
            have := congrArg List.length er
            simpa using this
          refine ⟨.ref S, rfl, .inl ⟨rfl, sx, SqL.of hS9⟩, .ref R, rfl, .ref R, _, rfl, Seq.lst (SqL.of hR9) hrx9, by rw [List.length_map]; omega, fun z HA sA hzA => ?_⟩
          have hSA := sA _ _ hS9
          have exS : Ext K HA (upd HA S (.lst (sx ++ [z]))) := Ext.mut hSA trivial
          refine ⟨S, sx, z, rfl, rfl, hSA, small1000 (by omega), ?_⟩
          have lt9 : sts.length < Ls.length := (List.getElem?_eq_some_iff.mp hl9).1
          have hLB : upd HA S (.lst (sx ++ [z])) L = some (.lst lx) := by
            rw [upd_ne (Ne.symm neS)]
            exact sA _ _ hL9
          refine ⟨.ref L, rfl, .ref L, _, rfl, Seq.lst (SqL.of hLB) ((hlx9.same sA).ext exS), _, 5000, rfl, rfl, false, congrArg V.bl (decide_eq_false (by rw [List.length_map]; omega)), iteF ?_⟩
          refine ⟨64 - (sts ++ [row]).length, by rw [List.length_append, List.length_singleton]; omega, _, _, _, rfl, fun b o q => ?_, Ls, sts ++ [row], lx, sx ++ [z], hLB, (hlx9.same sA).ext exS, (hD9.same sA).other hSA trivial (Ne.symm neSD), upd_same, ?_, ⟨wi9.first, wi9.nd, wi9.good, by rw [List.length_append, List.length_singleton]; omega, fun i r hr => ?_⟩, rfl⟩
          · rw [upd_ne (ne_of_none q nS0)]
            exact sA _ _ (sm9 _ _ q)
          · rw [List.map_append]
            exact ((hsx9.same sA).append (.one hzA)).ext exS
          · by_cases hi : i < sts.length
            · rw [List.getElem?_append_left hi] at hr
              exact wi9.rows i r hr
            · have e0 : i = sts.length := by
                have := (List.getElem?_eq_some_iff.mp hr).1
                rw [List.length_append, List.length_singleton] at this
                omega
              subst e0
              rw [List.getElem?_append_right (Nat.le_refl _), Nat.sub_self] at hr
              have e1 : row = r := Option.some.inj hr
              subst e1
              exact ⟨l0, hl9, fun e => by rw [er]; exact mem e, to9, by omega⟩
      · rw [decide_eq_false (show ¬ ((sts.length : Nat) : Int) < ((Ls.length : Nat) : Int) by omega)]
        refine iteF ?_
        refine ⟨.ref S, rfl, .ref S, _, rfl, Seq.lst (SqL.of hS6) hsx, by rw [List.length_map]; omega, fun z H7 s7 hz => q z Ls sts H7 (sm6.trans s7) ⟨wi, by omega⟩ hz⟩
end
end M

namespace M
open PySem PySem.Spec PyProof.Rows L2
theorem lotR_nil_after {T : Th} {es : List Ev} {i : Nat} (h : lotR T (es.take i) = []) : lotR T es = [] := by
  have : ∀ (fs : List Ev), fs.foldl (fun bs e => lotOf (behind T bs e)) [] = [] := by
    intro fs
    induction fs with
    | nil => rfl
    | cons e fs ih =>
      have z : lotOf (behind T [] e) = [] := by
        cases e with
        | call c => exact lotOf_nil
        | back r => exact lotOf_nil
      rw [List.foldl_cons, z, ih]
  have e : es = es.take i ++ es.drop i := (List.take_append_drop i es).symm
  rw [e]
  unfold lotR at h ⊢
  rw [List.foldl_append, h, this]
section
variable {P : Program} {w : World} {K : PySem.W.Frag} {mg : Str → Option Value} {base : Heap}
def spWatched (K : PySem.W.Frag) : Sp := fun vs H Q _ => ∃ (T : Th) (Ls : List (List Bel)) (sts : List WRow) (v u : V) (es : List Ev), vs = [v, u] ∧ TOk T ∧ WF T Ls sts ∧ At K H v (.tup (sts.map eWR)) ∧ At K H u (.tup (es.map eE)) ∧ (∀ e ∈ es, EvT T e) ∧ es.length ≤ 1000 ∧
  ∀ H', Same H H' → (lotR T es = [] → Q .non H') ∧ (lotR T es ≠ [] → ∀ i : Nat, Q (.int i) H')
theorem k_watched (T : Tx K mg) (D : Df K mg "watched" sWatched ["states", "history"]) : Kn P w K mg base 1 "watched" ["states", "history"] (spWatched K) := by
  refine D.kn scWatched (fun vs H Q E h => ?_) (fun f cdv A outer s H vs Q E hr h => ?_)
  · obtain ⟨Z, Ls, sts, v, u, es, rfl, _⟩ := h
    rfl
  · obtain ⟨Z, Ls, sts, v, u, es, rfl, hZ, wf, hv, hu, hev, hl, q⟩ := h
    refine ⟨_, pss_cons (ps_set (i := 2) scWatched.nd rfl (Or.inl rfl) pe_int)
      (pss_cons (ps_for PassesOwn.never rfl (pi_tup (pv 1)) (pg_name (i := 3) scWatched.nd rfl (Or.inr rfl))
        (pss_cons (ps_setLc (i := 4) (own := [("one", 5), ("to", 6)]) rfl scWatched.nd rfl rfl (sw_true rfl rfl rfl rfl) (pi_tup (pe_ix ix_n (pv 0) (pv 2) (fun _ _ => rfl))) (blkOk_by (N := ["states", "history", "state", "event", "behind", "one", "to"]) (sc := defScope sWatched) (by decide +kernel))
            (fun _ _ _ _ _ => pg_tupK (K := K) (n := 2) rfl rfl (pgs_cons (pg_name (i := 5) scWatched.nd rfl (Or.inl rfl)) (pgs_cons (pg_name (i := 6) scWatched.nd rfl (Or.inl rfl)) pgs_nil)))
            (fun _ _ _ _ _ => pts_one (pt_cmpR (op_eqNK (K := K) rfl hr.units) (pv 5) (pv 3) (nomark _))) (fun _ _ _ _ _ => pv 6))
        (pss_cons (ps_if (pt_cmpR (op_eqL hr.units) (pv 4) (pe_lst pa_nil) (nomark _)) (pss_one (ps_ret pe_non)) pss_nil)
        (pss_one (ps_set (i := 2) scWatched.nd rfl (Or.inl rfl) (pe_ix ix_list (pv 4) pe_int (fun _ _ => rfl)))))))
      (pss_one (ps_ret (pv 2)))), ?_⟩
    obtain ⟨a, xs, rfl, hs, ha⟩ := hu.tup_inv
    have lx : xs.length = es.length := by rw [ha.length, List.length_map]
    refine ⟨.ref a, rfl, a, rfl, ⟨_, hs⟩, ?_⟩
    refine for_it (walk_tup (xs := xs)) (fun i σ H' => ∃ p3 p4 p5 p6, ∃ st : Nat, σ = [some v, some (.ref a), some (.int (st : Nat)), p3, p4, p5, p6] ∧ Same H H' ∧ Ls[st]? = some (lotR Z (es.take i))) ?_ ?_ ?_ ?_
    · exact ⟨none, none, none, none, 0, rfl, Same.refl _, wf.wi.first⟩
    · rintro i σ H1 _ ⟨_, _, _, _, _, _, h1, _⟩
      exact Ext.of_same h1 _ _ hs
    · rintro i z σ H1' H1 hi ⟨p3, p4, p5, p6, st, rfl, sm, hst⟩ ⟨eH, hz⟩
      subst eH
      obtain ⟨e, he, hze⟩ := ats_ev (ha.same sm) hz
      have hevt := hev e (List.mem_of_getElem? he)
      obtain ⟨row, hrow, cases_⟩ := watch_step hZ wf.wi wf.full hst hevt
      rw [← lotR_take he] at cases_
      refine ⟨v, rfl, .int st, rfl, _, st, eWR row, hv.same sm, rfl, by rw [List.getElem?_map, hrow]; rfl, fun y hy => ?_⟩
      obtain ⟨ar, xr, rfl, hsr, har⟩ := hy.tup_inv
      have lr : xr.length = row.length := by rw [har.length, List.length_map]
      refine ⟨ar, rfl, ⟨_, hsr⟩, fun D0 nD => ?_⟩
      have rl : row.length ≤ 10 := by
        obtain ⟨_, _, h2⟩ := wf.wi.rows _ _ hrow
        exact h2.few
      refine lc_acc (K := K) (walk_tup (xs := xr)) nD (by omega) (fun H2 s2 => Ext.of_same s2 _ _ hsr) (fun j acc H2 => Ats K H2 acc (((row.take j).filter fun p : Ev × Nat => decide (p.1 = e)).map fun p : Ev × Nat => NestedKey.num p.2)) (fun j acc H1 H2 x h => h.ext x) .nil (fun j x H2 H3 acc k k0 hj sm2 eD hr2 hx hk h0 => ?_) fun H2 acc sm2 eD hr2 => ?_
      · obtain ⟨rfl, hx⟩ := hx
        obtain ⟨⟨e2, t⟩, hp, hxp⟩ := ats_map (har.same sm2) hx
        obtain ⟨a2, y1, y2, rfl, hs2, g1, g2⟩ := two_inv hxp
        obtain rfl := g2.num_inv
        have ft := filter_take (fun p : Ev × Nat => decide (p.1 = e)) (fun p => NestedKey.num p.2) row j _ hp
        have ed : decide (eE e2 = eE e) = decide (e2 = e) := by
          by_cases c : e2 = e
          · rw [decide_eq_true c, c, decide_eq_true rfl]
          · rw [decide_eq_false c, decide_eq_false fun z => c (eE_inj z)]
        refine ⟨a2, _, rfl, hs2, rfl, _, _, rfl, _, _, rfl, rfl, rfl, ?_⟩
        refine ⟨y1, rfl, z, rfl, eE e2, eE e, g1, hze.same sm2, by have := e_deep e2; omega, _, rfl, ?_⟩
        rw [ed]
        by_cases c : e2 = e
        · rw [decide_eq_true c]
          refine iteT ⟨_, rfl, hk _ _ (Same.refl _) ?_⟩
          rw [ft, if_pos (decide_eq_true c)]
          exact hr2.append (.one (.int _))
        · rw [decide_eq_false c]
          refine iteF (h0 _ (Same.refl _) ?_)
          rw [ft, if_neg (by simpa using c)]
          exact hr2
      · rw [lr, List.take_length] at hr2
        have smA := sm.trans sm2
        refine ⟨.ref D0, rfl, by decide, fun p np => ?_⟩
        have sp := same_upd (o := .lst []) np
        refine ⟨D0, p, acc, _, rfl, rfl, SqL.of (sp _ _ eD), hr2.same sp, SqL.of upd_same, _, rfl, ?_⟩
        have smB := smA.trans sp
        rcases cases_ with ⟨none_, hnil⟩ | ⟨hne, ⟨p0, hp0, e0⟩, to⟩
        · have f0 : row.filter (fun p => decide (p.1 = e)) = [] := by
            rw [List.filter_eq_nil_iff]
            exact fun p hp q => none_ p hp (of_decide_eq_true q)
          rw [f0]
          refine iteT ?_
          exact (q _ smB).1 (lotR_nil_after hnil)
        · obtain ⟨q0, fr, hf⟩ : ∃ q0 fr, row.filter (fun p => decide (p.1 = e)) = q0 :: fr := by
            cases hq : row.filter (fun p => decide (p.1 = e)) with
            | nil => exact absurd (decide_eq_true e0) (List.filter_eq_nil_iff.mp hq p0 hp0)
            | cons a b => exact ⟨a, b, rfl⟩
          have q0m : q0 ∈ row ∧ q0.1 = e := by
            have : q0 ∈ row.filter (fun p => decide (p.1 = e)) := by
              rw [hf]
              exact List.mem_cons_self
            have := List.mem_filter.mp this
            exact ⟨this.1, of_decide_eq_true this.2⟩
          rw [hf] at hr2 ⊢
          refine iteF ?_
          obtain ⟨y0, hy0, hya⟩ := hr2.get (i := 0) (k := .num q0.2) rfl
          obtain rfl := hya.num_inv
          refine ⟨.ref D0, rfl, D0, acc, 0, _, rfl, rfl, SqL.of (sp _ _ eD), atI_nat (j := 0) hy0, ?_⟩
          exact ⟨_, _, _, _, q0.2, rfl, smB, to q0 q0m.1 q0m.2⟩
    · rintro σ H1 ⟨p3, p4, p5, p6, st, rfl, sm, hst⟩
      rw [lx, List.take_length] at hst
      exact ⟨_, rfl, (q H1 sm).2 (wf.wi.good _ (List.mem_of_getElem? hst)).ne st⟩
end
end M

/-! histories of one hand from rows; spans -/
namespace M
open PySem PySem.Spec PyProof.Rows L2
/-- the history that tells a row, and a call more -/
def hist : Row → Option Call → List Ev
  | [], none => []
  | [], some c => [.call c]
  | p :: r, x => .call p.1 :: .back p.2 :: hist r x
def callsOf (row : Row) (x : Option Call) : List Call := row.map (·.1) ++ x.toList
theorem hist_call : ∀ (row : Row) (x : Option Call) (i : Nat), (hist row x)[2 * i]? = ((callsOf row x)[i]?).map Ev.call
  | [], none, i => by simp [hist, callsOf]
  | [], some c, 0 => by simp [hist, callsOf]
  | [], some c, i + 1 => by simp [hist, callsOf, Nat.mul_add]
  | p :: r, x, 0 => by simp [hist, callsOf]
  | p :: r, x, i + 1 => by
    rw [show 2 * (i + 1) = 2 * i + 1 + 1 by omega]
    simp only [hist, List.getElem?_cons_succ]
    rw [hist_call r x i]
    simp [callsOf]
theorem hist_back : ∀ (row : Row) (x : Option Call) (i : Nat), (hist row x)[2 * i + 1]? = (row[i]?).map fun p => Ev.back p.2
  | [], none, i => by simp [hist]
  | [], some c, i => by simp [hist]
  | p :: r, x, 0 => by simp [hist]
  | p :: r, x, i + 1 => by
    rw [show 2 * (i + 1) + 1 = (2 * i + 1) + 1 + 1 by omega]
    simp only [hist, List.getElem?_cons_succ]
    exact hist_back r x i
theorem hist_len : ∀ (row : Row) (x : Option Call), (hist row x).length = 2 * row.length + x.toList.length
  | [], none => rfl
  | [], some c => rfl
  | p :: r, x => by
    simp only [hist, List.length_cons, hist_len r x]
    omega
theorem callsOf_len (row : Row) (x : Option Call) : (callsOf row x).length = row.length + x.toList.length := by simp [callsOf]
theorem one_len {α : Type} (x : Option α) : x.toList.length ≤ 1 := by
  cases x <;> simp
theorem hist_alt : ∀ (row : Row) (x : Option Call), AltB false (hist row x)
  | [], none => trivial
  | [], some c => ⟨rfl, trivial⟩
  | p :: r, x => ⟨rfl, rfl, hist_alt r x⟩
/-- what is told of the i-th call -/
def endK (row : Row) (i : Nat) : NK := match row[i]? with
  | some p => .tup [.num ((2 * i + 1 : Nat) : Int), .num p.2]
  | none => .tup [.none, .none]
structure Ends (K : PySem.W.Frag) (H : Hp) (kvs : List (L2.Key × V)) (row : Row) (n : Nat) : Prop where
  keys : kvs.map (·.1) = (List.range n).map fun i => iK (2 * i)
  at_ : ∀ i, i < n → ∃ v, valV kvs (iK (2 * i)) = some v ∧ At K H v (endK row i)
theorem Ends.ext {K : PySem.W.Frag} {H H' : Hp} {kvs : List (L2.Key × V)} {row : Row} {n : Nat} (h : Ends K H kvs row n) (x : Ext K H H') : Ends K H' kvs row n :=
  ⟨h.keys, fun i hi => by
    obtain ⟨v, h1, h2⟩ := h.at_ i hi
    exact ⟨v, h1, h2.ext x⟩⟩
/-- .. behind so many events -/
def endJ (row : Row) (j i : Nat) : NK := if 2 * i + 1 < j then endK row i else .tup [.none, .none]
section
variable {X : Cx}
def rSetD : V → V → V → Hp → (Hp → Prop) → Prop := fun o i v H Q => ∃ a H', o = .ref a ∧ DPut H a i v H' ∧ Q H'
theorem set_dict (hu : X.A.units + 1 < cLine) : PSet X rSetD := fun pins s σ H o i v ov iv u Q I ro ri rv h => by
  obtain ⟨a, H', rfl, g, q⟩ := h
  cases ro
  exact d_setItem hu I g ri rv fun s' I' => ⟨H', I', q⟩
end
section
variable {P : Program} {w : World} {K : PySem.W.Frag} {mg : Str → Option Value} {base : Heap}
theorem scSpans : FnScope ["history", "found", "begun", "index", "event"] ["history"] (defScope sSpans) := ⟨rfl, rfl, rfl, by decide +kernel, rfl, by decide +kernel, by decide +kernel⟩
theorem range_snoc_map (n : Nat) : ((List.range (n + 1)).map fun i => iK (2 * i)) = ((List.range n).map fun i => iK (2 * i)) ++ [iK (2 * n)] := by
  rw [List.range_succ, List.map_append]
  rfl
theorem iK_mem_range {n i : Nat} : iK (2 * i) ∈ ((List.range n).map fun i => iK (2 * i)) ↔ i < n := by
  rw [List.mem_map]
  constructor
  · rintro ⟨j, hj, e⟩
    have := iK_inj e
    have := List.mem_range.mp hj
    omega
  · exact fun h => ⟨i, List.mem_range.mpr h, rfl⟩
def spSpans (K : PySem.W.Frag) : Sp := fun vs H Q _ => ∃ (u : V) (row : Row) (x : Option Call), vs = [u] ∧ At K H u (.tup ((hist row x).map eE)) ∧ row.length ≤ 40 ∧ ∀ p kvs H', H p = none → Same H H' → H' p = some (.dK kvs) → Ends K H' kvs row (callsOf row x).length → Q (.ref p) H'
theorem k_spans (T : Tx K mg) (D : Df K mg "spans" sSpans ["history"]) : Kn P w K mg base 1 "spans" ["history"] (spSpans K) := by
  refine D.kn scSpans (fun vs H Q E h => ?_) (fun f cdv A outer s H vs Q E hr h => ?_)
  · obtain ⟨u, row, x, rfl, _⟩ := h
    rfl
  · obtain ⟨u, row, x, rfl, hu, hl, q⟩ := h
    have kc : PyData.strOk "call" = true := by decide +kernel
    refine ⟨_, pss_cons (ps_par (i := 1) (j := 2) rfl scSpans.nd rfl rfl (by decide) rfl rfl (pa_cons pe_dnewK (pa_cons pe_dnewK pa_nil)) rfl)
      (pss_cons (ps_for PassesOwn.never rfl (pi_enumT (by rfl) T.enumerate (pa_cons (pv 0) pa_nil)) (pg_tup rfl (pgs_cons (pg_name (i := 3) scSpans.nd rfl (Or.inl rfl)) (pgs_cons (pg_name (i := 4) scSpans.nd rfl (Or.inl rfl)) pgs_nil)))
        (pss_one (ps_if (pt_cmpR (op_eqN hr.units) (pe_ix ix_n (pv 4) pe_int (fun _ _ => rfl)) pe_str (nomark _))
          (pss_one (ps_asg (pe_tupN (pa_cons (pe_tupN (pa_cons pe_non (pa_cons pe_non pa_nil))) (pa_cons (pv 3) pa_nil))) (pg_tup rfl (pgs_cons (pg_sub (pv 1) (pv 3) (set_dict (hu_of hr))) (pgs_cons (pg_sub (pv 2) (pe_ix ix_n (pv 4) pe_int (fun _ _ => rfl)) (set_dict (hu_of hr))) pgs_nil)))))
          (pss_one (ps_dput (hu_of hr) (pv 1) (pe_dget (hu_of hr) (pv 2) (pe_ix ix_n (pv 4) pe_int (fun _ _ => rfl)) (fun _ _ => rfl)) (pe_tupN (pa_cons (pv 3) (pa_cons (pe_ix ix_n (pv 4) pe_int (fun _ _ => rfl)) pa_nil))) rfl)))))
      (pss_one (ps_ret (pv 1)))), ?_⟩
    refine fun D1 n1 D2 n2 => ⟨_, _, rfl, ?_⟩
    have s1 : Same H (upd H D1 (.dK [])) := same_upd n1
    have s2 : Same (upd H D1 (.dK [])) (upd (upd H D1 (.dK [])) D2 (.dK [])) := same_upd n2
    have ne : D1 ≠ D2 := ne_of_none upd_same n2
    have n2' : H D2 = none := s1.free n2
    have hD1 : upd (upd H D1 (.dK [])) D2 (.dK []) D1 = some (.dK []) := s2 _ _ upd_same
    have hD2 : upd (upd H D1 (.dK [])) D2 (.dK []) D2 = some (.dK []) := upd_same
    have sm2 := s1.trans s2
    generalize upd (upd H D1 (.dK [])) D2 (.dK []) = H2 at *
    have hu2 := hu.same sm2
    obtain ⟨a, xs, rfl, hs, ha⟩ := hu2.tup_inv
    have lx : xs.length = (hist row x).length := by rw [ha.length, List.length_map]
    have hlen := hist_len row x
    have hx1 := one_len x
    have clen := callsOf_len row x
    refine ⟨.ref a, rfl, a, xs, rfl, hs, ?_⟩
    refine for_it (walk_enumT (xs := xs)) (fun j σ H' => ∃ p3 p4, σ = [some (.ref a), some (.ref D1), some (.ref D2), p3, p4] ∧ Same H H' ∧ Ext K H2 H' ∧ ∃ kvs bk, H' D1 = some (.dK kvs) ∧ H' D2 = some (.dK bk) ∧ kvs.map (·.1) = (List.range ((j + 1) / 2)).map (fun i => iK (2 * i)) ∧
      (∀ i, i < (j + 1) / 2 → ∃ v, valV kvs (iK (2 * i)) = some v ∧ At K H' v (endJ row j i)) ∧ (0 < j → valV bk (iK 0) = some (.int ((2 * ((j - 1) / 2) : Nat) : Int))) ∧ bk.length ≤ j) ?_ ?_ ?_ ?_
    · exact ⟨none, none, rfl, sm2, Ext.refl _, [], [], hD1, hD2, rfl, fun i hi => absurd hi (by omega), fun h => absurd h (by omega), Nat.le_refl _⟩
    · rintro j σ H3 _ ⟨_, _, _, _, h1, _⟩
      exact h1 _ _ hs
    · rintro j z σ H3 _ hj ⟨p3, p4, rfl, sm3, ex3, kvs, bk, hd1, hd2, hk, hv, hb, hbl⟩ ⟨Tp, z1, z2, rfl, nT, rfl, e1, e2⟩
      obtain rfl : V.int (j : Nat) = z1 := Option.some.inj e1
      obtain ⟨e, he, hze⟩ := ats_ev (ha.ext ex3) e2
      have sT : Same H3 (upd H3 Tp (.tup [.int (j : Nat), z2])) := same_upd nT
      have hT : SqT K (upd H3 Tp (.tup [.int (j : Nat), z2])) Tp [.int (j : Nat), z2] := SqT.of upd_same
      have sm4 := sm3.trans sT
      have ex4 := ex3.trans (.of_same sT)
      have hze := hze.same sT
      have hd1 := sT _ _ hd1
      have hd2 := sT _ _ hd2
      have hv : ∀ i, i < (j + 1) / 2 → ∃ v, valV kvs (iK (2 * i)) = some v ∧ At K (upd H3 Tp (.tup [.int (j : Nat), z2])) v (endJ row j i) := fun i hi => by
        obtain ⟨v, h1, h2⟩ := hv i hi
        exact ⟨v, h1, h2.same sT⟩
      generalize upd H3 Tp (.tup [.int (j : Nat), z2]) = H4 at *
      refine ⟨Tp, _, rfl, hT, rfl, _, _, rfl, _, _, rfl, rfl, ?_⟩
      obtain ⟨r, er⟩ := eE_one e
      have hz' := hze
      rw [er] at hz'
      have klen : kvs.length = (j + 1) / 2 := by
        have := congrArg List.length hk
        simpa using this
      refine ⟨z2, rfl, _, 0, _, hz', rfl, rfl, fun y hy => ⟨_, _, hy, .str _ kc, by simp [NestedKey.depth], _, rfl, ?_⟩⟩
      rw [call_dec]
      rcases (show (∃ i, j = 2 * i) ∨ ∃ i, j = 2 * i + 1 by
        rcases Nat.mod_two_eq_zero_or_one j with h | h
        · exact .inl ⟨j / 2, by omega⟩
        · exact .inr ⟨j / 2, by omega⟩) with ⟨i, hji⟩ | ⟨i, hji⟩
      · subst hji
        have hc := hist_call row x i
        rw [he] at hc
        obtain ⟨c, hcc, ec⟩ := Option.map_eq_some_iff.mp hc.symm
        subst ec
        refine iteT ?_
        refine ⟨[.none, .none], .two .non .non, by decide, fun w0 H5 s5 hw => ⟨_, rfl, [.tup [.none, .none], .num ((2 * i : Nat) : Int)], .two hw (.int _), by simp, fun w2 H6 s6 hw2 => ?_⟩⟩
        have s56 := s5.trans s6
        obtain ⟨a2, y1, y2, rfl, hs2, g1, g2⟩ := two_inv hw2
        obtain rfl := g2.num_inv
        have hd1' := s56 _ _ hd1
        have hd2' := s56 _ _ hd2
        have exA : Ext K H6 (upd H6 D1 (.dK (putK kvs (iK (2 * i)) y1))) := Ext.mut hd1' trivial
        have hd2A : upd H6 D1 (.dK (putK kvs (iK (2 * i)) y1)) D2 = some (.dK bk) := by
          rw [upd_ne (Ne.symm ne)]
          exact hd2'
        have exB : Ext K (upd H6 D1 (.dK (putK kvs (iK (2 * i)) y1))) (upd (upd H6 D1 (.dK (putK kvs (iK (2 * i)) y1))) D2 (.dK (putK bk (iK 0) (.int ((2 * i : Nat) : Int))))) := Ext.mut hd2A trivial
        refine ⟨a2, _, rfl, hs2, rfl, y1, _, rfl, .ref D1, rfl, _, rfl, D1, _, rfl, DPut.k (k := iK (2 * i)) hd1' (small1000 (by omega)), ?_⟩
        refine ⟨_, _, rfl, .ref D2, rfl, z2, rfl, _, 1, .num 0, (hz'.same s56).ext exA, rfl, rfl, fun y hy => ?_⟩
        obtain rfl := hy.num_inv
        refine ⟨D2, _, rfl, DPut.k (k := iK 0) hd2A (small1000 (by omega)), rfl, ?_⟩
        have ej : (2 * i + 1) / 2 = i := by omega
        have ej2 : (2 * i + 1 + 1) / 2 = i + 1 := by omega
        rw [ej] at hk hv
        refine ⟨_, _, rfl, fun b o q => ?_, ((ex4.trans (.of_same s56)).trans exA).trans exB, putK kvs (iK (2 * i)) y1, _, ?_, upd_same, ?_, fun t ht => ?_, fun _ => ?_, ?_⟩
        · rw [upd_ne (ne_of_none q n2'), upd_ne (ne_of_none q n1)]
          exact s56 _ _ (sm4 _ _ q)
        · rw [upd_ne ne]
          exact upd_same
        · rw [keysK_put, hk, if_neg (fun q => absurd (iK_mem_range.mp q) (Nat.lt_irrefl _)), ej2, range_snoc_map]
        · rw [ej2] at ht
          by_cases c2 : t = i
          · subst c2
            refine ⟨y1, by rw [valV_put, if_pos rfl], ?_⟩
            unfold endJ
            rw [if_neg (by omega)]
            exact (g1.ext exA).ext exB
          · obtain ⟨v, h1, h2⟩ := hv t (by omega)
            refine ⟨v, by rw [valV_put, if_neg fun q => c2 (by have := iK_inj q; omega)]; exact h1, ?_⟩
            unfold endJ at h2 ⊢
            rw [if_pos (by omega)] at h2
            rw [if_pos (by omega)]
            exact ((h2.same s56).ext exA).ext exB
        · rw [valV_put, if_pos rfl, show (2 * i + 1 - 1) / 2 = i by omega]
        · have := length_putK bk (iK 0) (.int ((2 * i : Nat) : Int))
          omega
      · subst hji
        have hbk := hist_back row x i
        rw [he] at hbk
        obtain ⟨p, hpp, ec⟩ := Option.map_eq_some_iff.mp hbk.symm
        subst ec
        refine iteF ?_
        have ej : (2 * i + 1 + 1) / 2 = i + 1 := by omega
        have ej2 : (2 * i + 1 + 1 + 1) / 2 = i + 1 := by omega
        have ei : (2 * i + 1 - 1) / 2 = i := by omega
        have hb1 := hb (by omega)
        rw [ei] at hb1
        rw [ej] at hk hv
        refine ⟨_, rfl, z2, rfl, _, 2, .num p.2, hze, rfl, rfl, fun y hy => ?_⟩
        obtain rfl := hy.num_inv
        refine ⟨[.num ((2 * i + 1 : Nat) : Int), .num p.2], .two (.int _) (.int _), by simp, fun w0 H5 s5 hw => ?_⟩
        have hd1' := s5 _ _ hd1
        have hd2' := s5 _ _ hd2
        have exA : Ext K H5 (upd H5 D1 (.dK (putK kvs (iK (2 * i)) w0))) := Ext.mut hd1' trivial
        refine ⟨.ref D1, rfl, .ref D2, rfl, z2, rfl, _, 1, .num 0, hz'.same s5, rfl, rfl, fun y hy => ?_⟩
        obtain rfl := hy.num_inv
        have hg : DGet H5 D2 (.int 0) (some (.int ((2 * i : Nat) : Int))) := by
          rw [← hb1]
          exact DGet.k (k := iK 0) hd2'
        refine ⟨D2, _, rfl, hg, D1, _, rfl, DPut.k (k := iK (2 * i)) hd1' (small1000 (by omega)), ?_⟩
        refine ⟨_, _, rfl, fun b o q => ?_, (ex4.trans (.of_same s5)).trans exA, _, bk, upd_same, ?_, ?_, fun t ht => ?_, fun _ => ?_, by omega⟩
        · rw [upd_ne (ne_of_none q n1)]
          exact s5 _ _ (sm4 _ _ q)
        · rw [upd_ne (Ne.symm ne)]
          exact hd2'
        · rw [keysK_put, hk, if_pos (iK_mem_range.mpr (by omega)), ej2]
        · rw [ej2] at ht
          by_cases c2 : t = i
          · subst c2
            refine ⟨w0, by rw [valV_put, if_pos rfl], ?_⟩
            unfold endJ endK
            rw [if_pos (by omega), hpp]
            exact hw.ext exA
          · obtain ⟨v, h1, h2⟩ := hv t ht
            refine ⟨v, by rw [valV_put, if_neg fun q => c2 (by have := iK_inj q; omega)]; exact h1, ?_⟩
            unfold endJ at h2 ⊢
            rw [if_pos (by omega)] at h2
            rw [if_pos (by omega)]
            exact (h2.same s5).ext exA
        · rw [show (2 * i + 1 + 1 - 1) / 2 = i by omega]
          exact hb1
    · rintro σ H3 ⟨p3, p4, rfl, sm3, ex3, kvs, bk, hd1, hd2, hk, hv, hb, hbl⟩
      refine ⟨_, rfl, q D1 kvs H3 n1 sm3 hd1 ⟨?_, fun i hi => ?_⟩⟩
      · rw [hk, lx, hlen, clen, show (2 * row.length + x.toList.length + 1) / 2 = row.length + x.toList.length by omega]
      · obtain ⟨v, h1, h2⟩ := hv i (by omega)
        refine ⟨v, h1, ?_⟩
        unfold endJ at h2
        by_cases c : 2 * i + 1 < xs.length
        · rw [if_pos c] at h2
          exact h2
        · rw [if_neg c] at h2
          have : row[i]? = none := List.getElem?_eq_none (by omega)
          unfold endK
          rw [this]
          exact h2
end
end M

/-! own order -/
namespace M
open PySem PySem.Spec PyProof.Rows L2
def resK (row : Row) (i : Nat) : NK := match row[i]? with
  | some p => .num p.2
  | none => .none
def rowK (row : Row) (i : Nat) : NK := .tup [.num ((2 * i : Nat) : Int), resK row i]
/-- rows of the one hand: a list that holds a list -/
def RowsAt (K : PySem.W.Frag) (H : Hp) (D R0 : Addr) (ys : List V) (row : Row) (n : Nat) : Prop := H D = some (.lst [.ref R0]) ∧ H R0 = some (.lst ys) ∧ Ats K H ys ((List.range n).map (rowK row))
theorem RowsAt.same {K : PySem.W.Frag} {H H' : Hp} {D R0 : Addr} {ys : List V} {row : Row} {n : Nat} (h : RowsAt K H D R0 ys row n) (s : Same H H') : RowsAt K H' D R0 ys row n := ⟨s _ _ h.1, s _ _ h.2.1, h.2.2.same s⟩
theorem endK_rowK (row : Row) (i : Nat) : ∃ k l, endK row i = .tup [k, l] ∧ rowK row i = .tup [.num ((2 * i : Nat) : Int), l] := by
  unfold endK rowK resK
  cases row[i]? with
  | none => exact ⟨_, _, rfl, rfl⟩
  | some p => exact ⟨_, _, rfl, rfl⟩
section
variable {P : Program} {w : World} {K : PySem.W.Frag} {mg : Str → Option Value} {base : Heap}
theorem scRowsOf : FnScope ["hands", "history", "ends", "found", "index", "hand"] ["hands", "history"] (defScope sRowsOf) := ⟨rfl, rfl, rfl, by decide +kernel, rfl, by decide +kernel, by decide +kernel⟩
def spRowsOf (K : PySem.W.Frag) : Sp := fun vs H Q _ => ∃ (u : V) (row : Row) (x : Option Call), vs = [.int 1, u] ∧ At K H u (.tup ((hist row x).map eE)) ∧ row.length ≤ 40 ∧
  ∀ D R0 ys H', Same H H' → RowsAt K H' D R0 ys row (callsOf row x).length → Q (.ref D) H'
theorem evens_asc (n : Nat) : Asc ((List.range n).map fun i => 2 * i) := by
  unfold Asc
  rw [List.pairwise_map]
  exact List.pairwise_lt_range.imp fun {a b} h => by omega
theorem k_rows_of (T : Tx K mg) (D : Df K mg "rows_of" sRowsOf ["hands", "history"]) (F1 : Kn P w K mg base 1 "spans" ["history"] (spSpans K)) : Kn P w K mg base 2 "rows_of" ["hands", "history"] (spRowsOf K) := by
  refine D.kn scRowsOf (fun vs H Q E h => ?_) (fun f cdv A outer s H vs Q E hr h => ?_)
  · obtain ⟨u, row, x, rfl, _⟩ := h
    rfl
  · obtain ⟨u, row, x, rfl, hu, hl, q⟩ := h
    refine ⟨_, pss_cons (ps_set (i := 2) scRowsOf.nd rfl (Or.inl rfl) (pe_kn F1 hr (pa_cons (pv 1) pa_nil)))
      (pss_cons (ps_setLc (i := 3) (own := [("hand", 5)]) (g := gName 5) (tt := tYes) rfl scRowsOf.nd rfl rfl (sw_true rfl rfl rfl rfl) (pi_range1 (by rfl) T.range (pa_cons (pv 0) pa_nil)) (blkOk_by (N := ["hands", "history", "ends", "found", "index", "hand"]) (sc := defScope sRowsOf) (by decide +kernel))
          (fun _ _ _ _ _ => pg_name (i := 5) scRowsOf.nd rfl (Or.inl rfl)) (fun _ _ _ _ _ => pts_nil) (fun _ _ _ _ _ => pe_lst pa_nil))
      (pss_cons (ps_for PassesOwn.never rfl (pi_list (pe_callB (call_sortedDI rfl) (by rfl) T.sorted boot_sorted (pa_cons (pv 2) pa_nil))) (pg_name (i := 4) scRowsOf.nd rfl (Or.inl rfl))
        (pss_one (ps_expr (pe_bm F.plainAttrs_list F.slot_list_append F.type_list_append mt_append (pe_ix ix_list (pv 3) (pe_ix ix_n (pe_ix ix_n (pv 1) (pv 4) (fun _ _ => rfl)) pe_int (fun _ _ => rfl)) (fun _ _ => rfl))
          (pa_cons (pe_tupN (pa_cons (pv 4) (pa_cons (pe_ix ix_n (pe_dget (hu_of hr) (pv 2) (pv 4) (fun _ _ => rfl)) pe_int (fun _ _ => rfl)) pa_nil))) pa_nil)))))
      (pss_one (ps_ret (pv 3))))), ?_⟩
    refine ⟨u, rfl, u, row, x, rfl, hu, hl, fun De kvs H1 nDe s1 hDe he => ?_⟩
    refine ⟨.int 1, rfl, 1, rfl, by decide, by decide, fun D0 nD => ?_⟩
    refine lc_it (walk_range (lo := 0) (n := (1 : Int).toNat)) (fun i H' => Same H1 H' ∧ ∃ acc, H' D0 = some (.lst acc) ∧ acc.length = i ∧ (i = 1 → ∃ R0, acc = [.ref R0] ∧ H' R0 = some (.lst []) ∧ R0 ≠ D0 ∧ H1 R0 = none)) ?_ ?_ ?_ ?_
    · exact ⟨same_upd nD, [], upd_same, rfl, fun h => absurd h (by decide)⟩
    · exact fun _ _ _ _ => trivial
    · rintro i z H2 H2' hi ⟨sm, acc, hacc, hlen, _⟩ ⟨rfl, rfl⟩
      have i0 : i = 0 := by
        have : i < 1 := hi
        omega
      subst i0
      obtain rfl : acc = [] := List.length_eq_zero_iff.mp hlen
      refine ⟨rfl, lc_yes ?_⟩
      refine ⟨by decide, fun R0 nR => ⟨[], ?_, by decide, ?_⟩⟩
      · rw [upd_ne (ne_of_none hacc nR)]
        exact hacc
      · have ne : R0 ≠ D0 := fun e => by
          rw [e, hacc] at nR
          cases nR
        refine ⟨fun b o e => ?_, _, upd_same, rfl, fun _ => ⟨R0, rfl, ?_, ne, sm.free nR⟩⟩
        · have h2 := sm _ _ e
          rw [upd_ne (ne_of_none e nD), upd_ne (ne_of_none h2 nR)]
          exact h2
        · rw [upd_ne ne]
          exact upd_same
    · rintro H2 ⟨sm, acc, hacc, hlen, h1⟩
      obtain ⟨R0, rfl, hR0, ne, nR1⟩ := h1 rfl
      have hDe2 := sm _ _ hDe
      have he2 := he.ext (.of_same sm)
      have nR : H R0 = none := s1.free nR1
      have neRe : R0 ≠ De := fun e => by
        rw [e, hDe] at nR1
        cases nR1
      have hn := callsOf_len row x
      have hx1 := one_len x
      refine ⟨.ref De, rfl, De, kvs, (List.range (callsOf row x).length).map (fun i => ((2 * i : Nat) : Int)), rfl, .inl hDe2, ?_, by rw [List.length_map, List.length_range]; omega, fun ys p hp hs np => ?_⟩
      · rw [he.keys, List.map_map]
        rfl
      · have hp' : ys.Perm (((List.range (callsOf row x).length).map fun i => 2 * i).map fun n : Nat => (n : Int)) := by
          rw [List.map_map]
          exact hp
        obtain ⟨zs, rfl, ha, hz⟩ := ints_sorted hp' hs (asc_nodup (evens_asc _))
        obtain rfl : zs = (List.range (callsOf row x).length).map fun i => 2 * i := asc_ext ha (evens_asc _) hz
        have sp := same_upd (o := .lst ((((List.range (callsOf row x).length).map fun i => 2 * i).map fun n : Nat => (n : Int)).map V.int)) np
        have sm3 := (s1.trans sm).trans sp
        have hp3 : upd H2 p (.lst ((((List.range (callsOf row x).length).map fun i => 2 * i).map fun n : Nat => (n : Int)).map V.int)) p = some (.lst ((((List.range (callsOf row x).length).map fun i => 2 * i).map fun n : Nat => (n : Int)).map V.int)) := upd_same
        have hacc3 := sp _ _ hacc
        have hR3 := sp _ _ hR0
        have hDe3 := sp _ _ hDe2
        have he3 := he2.ext (.of_same sp)
        have neP : p ≠ R0 := fun e => by
          rw [e, hR0] at np
          cases np
        generalize hps : ((((List.range (callsOf row x).length).map fun i => 2 * i).map fun n : Nat => (n : Int)).map V.int) = ps at *
        generalize upd H2 p (.lst ps) = H3 at *
        have lps : ps.length = (callsOf row x).length := by rw [← hps]; simp
        refine ⟨p, rfl, ⟨_, SqL.of hp3⟩, ?_⟩
        refine for_it (walk_list (xs := ps)) (fun j σ H' => ∃ p4 p5, σ = [some (.int 1), some u, some (.ref De), some (.ref D0), p4, p5] ∧ Same H H' ∧ H' p = some (.lst ps) ∧ H' D0 = some (.lst [.ref R0]) ∧ H' De = some (.dK kvs) ∧ Ends K H' kvs row (callsOf row x).length ∧ ∃ rs, H' R0 = some (.lst rs) ∧ Ats K H' rs ((List.range j).map (rowK row))) ?_ ?_ ?_ ?_
        · exact ⟨none, none, rfl, sm3, hp3, hacc3, hDe3, he3, [], hR3, .nil⟩
        · rintro j σ H4 _ ⟨_, _, _, _, h1, _⟩
          exact SqL.of h1
        · rintro j z σ H4' H4 hj ⟨p4, p5, rfl, sm4, hp4, hD4, hE4, en4, rs, hR4, hrs⟩ ⟨eH, hz2⟩
          subst eH
          have hjn : j < (callsOf row x).length := by omega
          obtain rfl : z = V.int ((2 * j : Nat) : Int) := by
            rw [← hps] at hz2
            simp [hjn] at hz2
            rw [← hz2]
            congr 1
          have hu4 := hu.same sm4
          have hc := hist_call row x j
          rw [List.getElem?_eq_getElem hjn] at hc
          obtain ⟨v, hv, hva⟩ := en4.at_ j hjn
          obtain ⟨k1, l1, ek, rk⟩ := endK_rowK row j
          refine ⟨.ref D0, rfl, u, rfl, _, rfl, _, 2 * j, eE (.call (callsOf row x)[j]), hu4, rfl, by rw [List.getElem?_map, hc]; rfl, fun y hy => ⟨_, 1, .num 0, hy, rfl, rfl, fun y2 hy2 => ?_⟩⟩
          obtain rfl := hy2.num_inv
          refine ⟨D0, _, 0, .ref R0, rfl, rfl, SqL.of hD4, rfl, .inl ⟨rfl, rs, SqL.of hR4⟩, ?_⟩
          have hg : DGet H4 De (.int ((2 * j : Nat) : Int)) (some v) := by
            rw [← hv]
            exact DGet.k (k := iK (2 * j)) hE4
          rw [ek] at hva
          refine ⟨_, rfl, .ref De, rfl, _, rfl, De, v, rfl, hg, _, 1, l1, hva, rfl, rfl, fun y hy => ?_⟩
          refine ⟨[.num ((2 * j : Nat) : Int), l1], .two (.int _) hy, by simp, fun w0 H5 s5 hw => ?_⟩
          have hR5 := s5 _ _ hR4
          have lrs := hrs.length
          rw [List.length_map, List.length_range] at lrs
          have exR : Ext K H5 (upd H5 R0 (.lst (rs ++ [w0]))) := Ext.mut hR5 trivial
          refine ⟨R0, rs, w0, rfl, rfl, hR5, small1000 (by omega), ?_⟩
          refine ⟨_, _, rfl, fun b o e => ?_, ?_, ?_, ?_, (en4.ext (.of_same s5)).ext exR, rs ++ [w0], upd_same, ?_⟩
          · rw [upd_ne (ne_of_none e nR)]
            exact s5 _ _ (sm4 _ _ e)
          · rw [upd_ne neP]
            exact s5 _ _ hp4
          · rw [upd_ne (Ne.symm ne)]
            exact s5 _ _ hD4
          · rw [upd_ne (Ne.symm neRe)]
            exact s5 _ _ hE4
          · rw [List.range_succ, List.map_append]
            refine ((hrs.same s5).append (.one ?_)).ext exR
            rw [rk]
            exact hw
        · rintro σ H4 ⟨p4, p5, rfl, sm4, hp4, hD4, hE4, en4, rs, hR4, hrs⟩
          rw [lps] at hrs
          exact ⟨_, rfl, q D0 R0 rs H4 sm4 ⟨hD4, hR4, hrs⟩⟩
end
end M

namespace M
open PySem PySem.Spec PyProof.Rows L2
abbrev Spot := Nat × Nat
def eSp (p : Spot) : NK := .tup [.tup [.num p.1], .num p.2]
def eNx (q : Spot × (Nat × Nat)) : NK := .tup [eSp q.1, .tup [.num q.2.1, .num q.2.2]]
def letsK (row : Row) (k g : Nat) : Bool := match row[k]? with
  | some p => decide (p.2 = g)
  | none => true
/-- the spots behind one more call done -/
def nxt (T : Th) (row : Row) (x : Option Call) (p : Spot) : List (Spot × (Nat × Nat)) := match (callsOf row x)[p.1]? with
  | some c => ((T.out p.2 c).filter fun o => letsK row p.1 o.1).map fun o => ((p.1 + 1, o.2), (2 * p.1, o.1))
  | none => []
section
variable {P : Program} {w : World} {K : PySem.W.Frag} {mg : Str → Option Value} {base : Heap}
theorem scNexts : FnScope ["thing", "history", "rows", "spot", "many", "state", "found", "hand", "row", "index", "result", "more", "given", "to"] ["thing", "history", "rows", "spot"] (defScope sNexts) := ⟨rfl, rfl, rfl, by decide +kernel, rfl, by decide +kernel, by decide +kernel⟩
theorem scIsEnd : FnScope ["rows", "spot", "hand", "row", "index", "result"] ["rows", "spot"] (defScope sIsEnd) := ⟨rfl, rfl, rfl, by decide +kernel, rfl, by decide +kernel, by decide +kernel⟩
def spNexts (K : PySem.W.Frag) : Sp := fun vs H Q _ => ∃ (T : Th) (v u z : V) (D R0 : Addr) (ys : List V) (row : Row) (x : Option Call) (p : Spot), vs = [v, u, .ref D, z] ∧ Tg K H v T ∧ TOk T ∧ At K H u (.tup ((hist row x).map eE)) ∧ row.length ≤ 40 ∧ (∀ c ∈ callsOf row x, c ∈ T.calls) ∧
  RowsAt K H D R0 ys row (callsOf row x).length ∧ At K H z (eSp p) ∧ p.2 < T.n ∧ ∀ p' zs H', H p' = none → Same H H' → H' p' = some (.lst zs) → Ats K H' zs ((nxt T row x p).map eNx) → Q (.ref p') H'
theorem k_nexts (T : Tx K mg) (D : Df K mg "nexts" sNexts ["thing", "history", "rows", "spot"]) (F1 : Kn P w K mg base 5 "outcomes_of" ["thing", "state", "call"] (spOutcomesOf K)) : Kn P w K mg base 6 "nexts" ["thing", "history", "rows", "spot"] (spNexts K) := by
  refine D.kn scNexts (fun vs H Q E h => ?_) (fun f cdv A outer s H vs Q E hr h => ?_)
  · obtain ⟨Z, v, u, z, D, R0, ys, row, x, p, rfl, _⟩ := h
    rfl
  · obtain ⟨Z, v, u, z, Dr, R0, ys, row, x, ⟨k, sn⟩, rfl, hv, hZ, hu, hl, hc, hrows, hz, hs, q⟩ := h
    refine ⟨_, pss_cons (ps_asg (pv 3) (pg_tup rfl (pgs_cons (pg_name (i := 4) scNexts.nd rfl (Or.inl rfl)) (pgs_cons (pg_name (i := 5) scNexts.nd rfl (Or.inl rfl)) pgs_nil))))
      (pss_cons (ps_set (i := 6) scNexts.nd rfl (Or.inl rfl) (pe_lst pa_nil))
      (pss_cons (ps_for PassesOwn.never rfl (pi_enum (by rfl) T.enumerate (pa_cons (pv 2) pa_nil)) (pg_tup rfl (pgs_cons (pg_name (i := 7) scNexts.nd rfl (Or.inl rfl)) (pgs_cons (pg_name (i := 8) scNexts.nd rfl (Or.inl rfl)) pgs_nil)))
        (pss_one (ps_if (pt_cmpR op_lt (pe_ix ix_n (pv 4) (pv 7) (fun _ _ => rfl)) (pe_callB len_n (by rfl) T.len PySem.boot_len (pa_cons (pv 8) pa_nil)) (nomark _))
          (pss_cons (ps_asg (pe_ix ix_list (pv 8) (pe_ix ix_n (pv 4) (pv 7) (fun _ _ => rfl)) (fun _ _ => rfl)) (pg_tup rfl (pgs_cons (pg_name (i := 9) scNexts.nd rfl (Or.inl rfl)) (pgs_cons (pg_name (i := 10) scNexts.nd rfl (Or.inl rfl)) pgs_nil))))
          (pss_cons (ps_set (i := 11) scNexts.nd rfl (Or.inl rfl) (pe_op op_catN (pe_op op_catN (pe_slice sl_n (pv 4) po_none (po_some (pv 7))) (pe_tupN (pa_cons (pe_op op_add (pe_ix ix_n (pv 4) (pv 7) (fun _ _ => rfl)) pe_int) pa_nil))) (pe_slice sl_n (pv 4) (po_some (pe_op op_add (pv 7) pe_int)) po_none)))
          (pss_one (ps_for PassesOwn.never rfl (pi_tup (pe_kn F1 hr (pa_cons (pv 0) (pa_cons (pv 5) (pa_cons (pe_slice sl_n (pe_ix ix_n (pv 1) (pv 9) (fun _ _ => rfl)) (po_some pe_int) po_none) pa_nil))))) (pg_tup rfl (pgs_cons (pg_name (i := 12) scNexts.nd rfl (Or.inl rfl)) (pgs_cons (pg_name (i := 13) scNexts.nd rfl (Or.inl rfl)) pgs_nil)))
            (pss_one (ps_if (pt_cmpR (op_inN hr.units) (pv 10) (pe_tupN (pa_cons pe_non (pa_cons (pv 12) pa_nil))) (by rfl))
              (pss_one (ps_expr (pe_bm F.plainAttrs_list F.slot_list_append F.type_list_append mt_append (pv 6) (pa_cons (pe_tupN (pa_cons (pe_tupN (pa_cons (pv 11) (pa_cons (pv 13) pa_nil))) (pa_cons (pe_tupN (pa_cons (pv 9) (pa_cons (pv 12) pa_nil))) pa_nil))) pa_nil)))) pss_nil)))))) pss_nil)))
      (pss_one (ps_ret (pv 6))))), ?_⟩
    obtain ⟨a, zm, zs, rfl, hs2, g1, g2⟩ := two_inv hz
    obtain rfl := g2.num_inv
    refine ⟨.ref a, rfl, a, _, rfl, hs2, rfl, _, _, rfl, _, _, rfl, rfl, ?_⟩
    refine ⟨by decide, fun F0 nF => ?_⟩
    have s1 := same_upd (o := .lst []) nF
    have hr1 := hrows.same s1
    have hF1 : upd H F0 (.lst []) F0 = some (.lst []) := upd_same
    refine ⟨.ref Dr, rfl, Dr, _, rfl, SqL.of hr1.1, ?_⟩
    refine for_it (walk_enum (xs := [V.ref R0])) (fun i σ H' => ∃ p7 p8 p9 p10 p11 p12 p13, σ = [some v, some u, some (.ref Dr), some (.ref a), some zm, some (.int sn), some (.ref F0), p7, p8, p9, p10, p11, p12, p13] ∧ Same H H' ∧ ∃ fs, H' F0 = some (.lst fs) ∧ (i = 0 → fs = []) ∧ (i = 1 → Ats K H' fs ((nxt Z row x (k, sn)).map eNx))) ?_ ?_ ?_ ?_
    · exact ⟨none, none, none, none, none, none, none, rfl, s1, [], hF1, fun _ => rfl, fun h => absurd h (by decide)⟩
    · rintro i σ H1 _ ⟨_, _, _, _, _, _, _, _, h1, _⟩
      exact SqL.of (h1 _ _ hrows.1)
    · rintro i zz σ H1 _ hi ⟨p7, p8, p9, p10, p11, p12, p13, rfl, sm, fs, hF, hf0, hf1⟩ ⟨Tp, z1, z2, rfl, nT, rfl, e1, e2⟩
      have i0 : i = 0 := by
        have : i < 1 := hi
        omega
      subst i0
      obtain rfl := hf0 rfl
      obtain rfl : V.int 0 = z1 := Option.some.inj e1
      obtain rfl : V.ref R0 = z2 := Option.some.inj e2
      have sT := same_upd (o := .tup [.int (0 : Nat), .ref R0]) nT
      have hT : SqT K (upd H1 Tp (.tup [.int (0 : Nat), .ref R0])) Tp [.int 0, .ref R0] := SqT.of upd_same
      have sm2 := sm.trans sT
      have hF2 := sT _ _ hF
      generalize upd H1 Tp (.tup [.int (0 : Nat), .ref R0]) = H2 at *
      have hr2 := hrows.same sm2
      have g12 := g1.same sm2
      refine ⟨Tp, _, rfl, hT, rfl, _, _, rfl, _, _, rfl, rfl, ?_⟩
      refine ⟨zm, rfl, .int 0, rfl, _, 0, .num k, g12, rfl, rfl, fun y hy => ?_⟩
      obtain rfl := hy.num_inv
      refine ⟨.ref R0, rfl, .ref R0, _, rfl, Seq.lst (SqL.of hr2.2.1) hr2.2.2, _, _, rfl, rfl, _, rfl, ?_⟩
      rw [List.length_map, List.length_range]
      by_cases lt : k < (callsOf row x).length
      · rw [decide_eq_true (show ((k : Nat) : Int) < (((callsOf row x).length : Nat) : Int) by omega)]
        refine iteT ?_
        obtain ⟨c, hcc⟩ : ∃ c, (callsOf row x)[k]? = some c := ⟨_, List.getElem?_eq_getElem lt⟩
        have hcT := hc c (List.mem_of_getElem? hcc)
        obtain ⟨yr, hyr, hyra⟩ := hr2.2.2.get (i := k) (k := rowK row k) (by rw [List.getElem?_map, List.getElem?_range lt]; rfl)
        refine ⟨.ref R0, rfl, zm, rfl, .int 0, rfl, _, 0, .num k, g12, rfl, rfl, fun y hy => ?_⟩
        obtain rfl := hy.num_inv
        refine ⟨R0, ys, k, yr, rfl, rfl, SqL.of hr2.2.1, atI_nat hyr, ?_⟩
        obtain ⟨ar, r1, r2, rfl, hsr, q1, q2⟩ := two_inv hyra
        obtain rfl := q1.num_inv
        refine ⟨ar, _, rfl, hsr, rfl, _, _, rfl, _, _, rfl, rfl, ?_⟩
        -- more
        refine ⟨zm, rfl, .int 0, rfl, 0, rfl, [.num k], none, some 0, g12, rfl, rfl, fun m1 H3 s3 hm1 => ?_⟩
        refine ⟨zm, rfl, .int 0, rfl, _, 0, .num k, g12.same s3, rfl, rfl, fun y hy => ?_⟩
        obtain rfl := hy.num_inv
        refine ⟨k, 1, rfl, rfl, [.num ((k : Int) + 1)], .one (.int _), by simp, fun m2 H4 s4 hm2 => ?_⟩
        refine ⟨_, _, hm1.same s4, hm2, by simp [cutK], fun m3 H5 s5 hm3 => ?_⟩
        have s35 := (s3.trans s4).trans s5
        refine ⟨zm, rfl, .int 0, rfl, 0, 1, rfl, rfl, _, rfl, [.num k], some 1, none, g12.same s35, rfl, rfl, fun m4 H6 s6 hm4 => ?_⟩
        refine ⟨_, _, hm3.same s6, hm4, by simp [cutK], fun m5 H7 s7 hm5 => ?_⟩
        have s37 := (s35.trans s6).trans s7
        have hm5 : At K H7 m5 (.tup [.num ((k : Int) + 1)]) := hm5
        have sm7 := sm2.trans s37
        have hF7 := s37 _ _ hF2
        have q27 := q2.same s37
        -- the outcomes
        have hce := hist_call row x k
        rw [hcc] at hce
        refine ⟨v, rfl, .int sn, rfl, u, rfl, _, rfl, _, 2 * k, eE (.call c), hu.same sm7, rfl, by rw [List.getElem?_map, hce]; rfl, fun ye hye => ?_⟩
        refine ⟨2, rfl, _, some 2, none, hye, rfl, rfl, fun yc H8 s8 hyc => ?_⟩
        refine ⟨Z, v, yc, sn, c, rfl, (hv.same sm7).same s8, hZ, hs, hyc, hcT, fun zo H9 s9 hzo => ?_⟩
        obtain ⟨ao, os, rfl, hos, hat⟩ := hzo.tup_inv
        have s89 := s8.trans s9
        have lo : os.length = (Z.out sn c).length := by rw [hat.length, List.length_map]
        have ll : (Z.out sn c).length ≤ 12 := Th.out_len hZ hs hcT
        have sm9 := sm7.trans s89
        have hF9 := s89 _ _ hF7
        have hm9 := hm5.same s89
        have q29 := q27.same s89
        refine ⟨ao, rfl, ⟨_, hos⟩, ?_⟩
        refine for_it (walk_tup (xs := os)) (fun j σ H' => ∃ p12 p13, σ = [some v, some u, some (.ref Dr), some (.ref a), some zm, some (.int sn), some (.ref F0), some (.int 0), some (.ref R0), some (.int ((2 * k : Nat) : Int)), some r2, some m5, p12, p13] ∧ Same H H' ∧ Ext K H9 H' ∧ ∃ fs, H' F0 = some (.lst fs) ∧ fs.length ≤ j ∧ Ats K H' fs (((((Z.out sn c).take j).filter fun o => letsK row k o.1).map fun o => (((k + 1, o.2), (2 * k, o.1)) : Spot × (Nat × Nat))).map eNx)) ?_ ?_ ?_ ?_
        · exact ⟨_, _, rfl, sm9, Ext.refl _, [], hF9, Nat.le_refl _, .nil⟩
        · rintro j σ HA _ ⟨_, _, _, _, h1, _⟩
          exact h1 _ _ hos
        · rintro j zz σ HA' HA hj ⟨p12, p13, rfl, smA, exA, fs, hFA, hfl, hfs⟩ ⟨eH, hzz⟩
          subst eH
          obtain ⟨⟨g, t⟩, ho, hzo⟩ := ats_map (hat.ext exA) hzz
          obtain ⟨a3, y1, y2, rfl, hs3, k1, k2⟩ := two_inv hzo
          obtain rfl := k1.num_inv
          obtain rfl := k2.num_inv
          have ft := filter_take (fun o : Nat × Nat => letsK row k o.1) (fun o => (((k + 1, o.2), (2 * k, o.1)) : Spot × (Nat × Nat))) (Z.out sn c) j _ ho
          refine ⟨a3, _, rfl, hs3, rfl, _, _, rfl, _, _, rfl, rfl, ?_⟩
          refine ⟨r2, rfl, _, rfl, [.none, .num g], .two .non (.int _), by simp, fun w0 HB sB hw => ?_⟩
          have q2B := (q29.ext exA).same sB
          refine ⟨_, [.none, .num g], q2B, hw.seq, ?_, _, rfl, ?_⟩
          · unfold resK
            cases row[k]? <;> simp [NestedKey.depth]
          have ed : decide (resK row k ∈ [NestedKey.none, .num g]) = letsK row k g := by
            unfold letsK resK
            cases row[k]? with
            | none => simp
            | some p =>
              simp only [List.mem_cons, List.mem_nil_iff, or_false]
              by_cases e : p.2 = g
              · rw [e]
                simp
              · have e' : ¬ (p.2 : Int) = g := by omega
                simp [e, e']
          rw [Bool.false_xor, ed]
          have smB := smA.trans sB
          have hFB := sB _ _ hFA
          by_cases cl_ : letsK row k g = true
          · rw [cl_]
            refine iteT ?_
            refine ⟨.ref F0, rfl, .inl ⟨rfl, fs, SqL.of hFB⟩, m5, rfl, _, rfl, [_, .num t], .two ((hm9.ext exA).same sB) (.int _), by simp, fun w1 HC sC hw1 => ?_⟩
            refine ⟨_, rfl, _, rfl, [.num ((2 * k : Nat) : Int), .num g], .two (.int _) (.int _), by simp, fun w2 HD sD hw2 => ?_⟩
            refine ⟨[_, _], .two (hw1.same sD) hw2, by simp, fun w3 HE sE hw3 => ?_⟩
            have sCE := (sC.trans sD).trans sE
            have hFE := sCE _ _ hFB
            have exF : Ext K HE (upd HE F0 (.lst (fs ++ [w3]))) := Ext.mut hFE trivial
            refine ⟨F0, fs, w3, rfl, rfl, hFE, small1000 (by omega), ?_⟩
            refine ⟨_, _, rfl, fun b o e => ?_, ((exA.trans (.of_same sB)).trans (.of_same sCE)).trans exF, fs ++ [w3], upd_same, by simp; omega, ?_⟩
            · rw [upd_ne (ne_of_none e nF)]
              exact sCE _ _ (smB _ _ e)
            · rw [ft, if_pos cl_, List.map_append]
              refine (((hfs.same sB).same sCE).append (.one ?_)).ext exF
              exact hw3
          · have cf : letsK row k g = false := by simpa using cl_
            rw [cf]
            refine iteF ⟨_, _, rfl, smB, exA.trans (.of_same sB), fs, hFB, by omega, ?_⟩
            rw [ft, if_neg cl_]
            exact hfs.same sB
        · rintro σ HA ⟨p12, p13, rfl, smA, exA, fs, hFA, hfl, hfs⟩
          rw [lo, List.take_length] at hfs
          refine ⟨_, _, _, _, _, _, _, rfl, smA, fs, hFA, fun h => absurd h (by decide), fun _ => ?_⟩
          unfold nxt
          rw [hcc]
          exact hfs
      · rw [decide_eq_false (show ¬ ((k : Nat) : Int) < (((callsOf row x).length : Nat) : Int) by omega)]
        refine iteF ⟨_, _, _, _, _, _, _, rfl, sm2, [], hF2, fun h => absurd h (by decide), fun _ => ?_⟩
        unfold nxt
        have : (callsOf row x)[k]? = none := List.getElem?_eq_none (by omega)
        rw [this]
        exact .nil
    · rintro σ H1 ⟨p7, p8, p9, p10, p11, p12, p13, rfl, sm, fs, hF, hf0, hf1⟩
      exact ⟨_, rfl, q F0 fs H1 nF sm hF (hf1 rfl)⟩
end
end M

namespace M
open PySem PySem.Spec PyProof.Rows L2
section
variable {P : Program} {w : World} {K : PySem.W.Frag} {mg : Str → Option Value} {base : Heap}
def spIsEnd (K : PySem.W.Frag) : Sp := fun vs H Q _ => ∃ (z : V) (D R0 : Addr) (ys : List V) (row : Row) (n : Nat) (p : Spot), vs = [.ref D, z] ∧ RowsAt K H D R0 ys row n ∧ row.length ≤ n ∧ n ≤ 100 ∧ At K H z (eSp p) ∧ ∀ H', Same H H' → Q (.bl (decide (row.length ≤ p.1))) H'
theorem k_is_end (T : Tx K mg) (D : Df K mg "is_end" sIsEnd ["rows", "spot"]) : Kn P w K mg base 1 "is_end" ["rows", "spot"] (spIsEnd K) := by
  refine D.kn scIsEnd (fun vs H Q E h => ?_) (fun f cdv A outer s H vs Q E hr h => ?_)
  · obtain ⟨z, D, R0, ys, row, n, p, rfl, _⟩ := h
    rfl
  · obtain ⟨z, Dr, R0, ys, row, n, ⟨k, sn⟩, rfl, hrows, hle, hn, hz, q⟩ := h
    refine ⟨_, pss_cons (ps_for PassesOwn.never rfl (pi_enum (by rfl) T.enumerate (pa_cons (pv 0) pa_nil)) (pg_tup rfl (pgs_cons (pg_name (i := 2) scIsEnd.nd rfl (Or.inl rfl)) (pgs_cons (pg_name (i := 3) scIsEnd.nd rfl (Or.inl rfl)) pgs_nil)))
        (pss_one (ps_if (pt_val (pe_callB (cr_any rfl) (by rfl) T.any (by decide +kernel) (pa_cons
          (pe_lc (own := [("index", 4), ("result", 5)]) (tt := tYes) rfl scIsEnd.nd (pi_list (pe_slice sl_list (pv 3) (po_some (pe_ix ix_n (pe_ix ix_n (pv 1) pe_int (fun _ _ => rfl)) (pv 2) (fun _ _ => rfl))) po_none)) (blkOk_by (N := ["rows", "spot", "hand", "row", "index", "result"]) (sc := defScope sIsEnd) (by decide +kernel))
            (fun _ _ _ _ _ => pg_tupK (K := K) (n := 2) rfl rfl (pgs_cons (pg_name (i := 4) scIsEnd.nd rfl (Or.inl rfl)) (pgs_cons (pg_name (i := 5) scIsEnd.nd rfl (Or.inl rfl)) pgs_nil))) (fun _ _ _ _ _ => pts_nil)
            (fun _ _ _ _ _ => pe_cmp (pc_notN (pv 5)))) pa_nil))) (pss_one (ps_ret pe_bl)) pss_nil)))
      (pss_one (ps_ret pe_bl)), ?_⟩
    refine ⟨.ref Dr, rfl, Dr, _, rfl, SqL.of hrows.1, ?_⟩
    refine for_it (walk_enum (xs := [V.ref R0])) (fun i σ H' => ∃ p2 p3 p4 p5, σ = [some (.ref Dr), some z, p2, p3, p4, p5] ∧ Same H H' ∧ (i = 1 → row.length ≤ k)) ?_ ?_ ?_ ?_
    · exact ⟨none, none, none, none, rfl, Same.refl _, fun h => absurd h (by decide)⟩
    · rintro i σ H1 _ ⟨_, _, _, _, _, h1, _⟩
      exact SqL.of (h1 _ _ hrows.1)
    · rintro i zz σ H1 _ hi ⟨p2, p3, p4, p5, rfl, sm, _⟩ ⟨Tp, z1, z2, rfl, nT, rfl, e1, e2⟩
      have i0 : i = 0 := by
        have : i < 1 := hi
        omega
      subst i0
      obtain rfl : V.int 0 = z1 := Option.some.inj e1
      obtain rfl : V.ref R0 = z2 := Option.some.inj e2
      have sT := same_upd (o := .tup [.int (0 : Nat), .ref R0]) nT
      have hT : SqT K (upd H1 Tp (.tup [.int (0 : Nat), .ref R0])) Tp [.int 0, .ref R0] := SqT.of upd_same
      have sm2 := sm.trans sT
      generalize upd H1 Tp (.tup [.int (0 : Nat), .ref R0]) = H2 at *
      have hr2 := hrows.same sm2
      have hz2 := hz.same sm2
      refine ⟨Tp, _, rfl, hT, rfl, _, _, rfl, _, _, rfl, rfl, ?_⟩
      refine ⟨.ref R0, rfl, z, rfl, _, 0, .tup [.num k], hz2, rfl, rfl, fun y hy => ⟨.int 0, rfl, _, 0, .num k, hy, rfl, rfl, fun y2 hy2 => ?_⟩⟩
      obtain rfl := hy2.num_inv
      refine ⟨k, rfl, R0, ys, rfl, SqL.of hr2.2.1, fun L nL => ?_⟩
      have ecut : cutV ys (some ((k : Nat) : Int)) none = ys.drop k := cutV_nat ys (some k) none
      have sL := same_upd (o := .lst (cutV ys (some ((k : Nat) : Int)) none)) nL
      have sm3 := sm2.trans sL
      have hL : upd H2 L (.lst (cutV ys (some ((k : Nat) : Int)) none)) L = some (.lst (ys.drop k)) := by
        rw [upd_same, ecut]
      have hys := (hr2.2.2.drop k).same sL
      generalize upd H2 L (.lst (cutV ys (some ((k : Nat) : Int)) none)) = H3 at *
      have ly : (ys.drop k).length = ((List.range n).drop k).length := by
        have := hys.length
        rw [List.length_drop, List.length_drop, List.length_map] at this
        rw [List.length_drop, List.length_drop]
        exact this
      refine ⟨L, rfl, ⟨_, SqL.of hL⟩, fun D2 nD2 => ?_⟩
      refine lc_acc (K := K) (walk_list (xs := ys.drop k)) nD2 (by rw [ly, List.length_drop, List.length_range]; omega) (fun H4 s4 => s4.seq (SqL.of hL)) (fun j acc H4 => acc = ((((List.range n).drop k).take j).map fun i => (row[i]?).isSome).map V.bl) (fun _ _ _ _ _ h => h) rfl (fun j x H4 H5 acc kk k0 hj sm4 eD hr4 hx hk _ => ?_) fun H4 acc sm4 eD hr4 => ?_
      · obtain ⟨rfl, hx⟩ := hx
        obtain ⟨kx, ekx, hxa⟩ := (hys.same sm4).back hx
        rw [← List.map_drop, List.getElem?_map] at ekx
        obtain ⟨i, hi2, rfl⟩ := Option.map_eq_some_iff.mp ekx
        obtain ⟨a2, y1, y2, rfl, hs2, g1, g2⟩ := two_inv hxa
        refine ⟨a2, _, rfl, hs2, rfl, _, _, rfl, _, _, rfl, rfl, rfl, lc_yes ?_⟩
        refine ⟨y2, rfl, hk _ _ (Same.refl _) ?_⟩
        have tk : ((List.range n).drop k).take (j + 1) = ((List.range n).drop k).take j ++ [i] := by
          rw [List.take_add_one, hi2]
          rfl
        have eb : (!decide (y2 = V.non)) = (row[i]?).isSome := by
          unfold resK at g2
          cases hq : row[i]? with
          | none =>
            rw [hq] at g2
            rw [g2.none_inv]
            rfl
          | some p =>
            rw [hq] at g2
            rw [g2.num_inv]
            rfl
        rw [hr4, tk, List.map_append, List.map_append, eb]
        rfl
      · rw [ly, List.take_length] at hr4
        subst hr4
        refine ⟨D2, _, rfl, SqL.of eD, _, rfl, ?_⟩
        have ea : ((((List.range n).drop k).map fun i => (row[i]?).isSome).any id) = decide (k < row.length) := by
          rw [Bool.eq_iff_iff, List.any_eq_true, decide_eq_true_iff]
          constructor
          · rintro ⟨b, hb, hb2⟩
            obtain ⟨i, hi2, rfl⟩ := List.mem_map.mp hb
            obtain ⟨j, hj, hj2⟩ := List.getElem_of_mem hi2
            rw [List.getElem_drop, List.getElem_range] at hj2
            have : i < row.length := by
              have h2 : (row[i]?).isSome = true := hb2
              rcases Nat.lt_or_ge i row.length with z | z
              · exact z
              · rw [List.getElem?_eq_none z] at h2
                cases h2
            omega
          · intro hk
            refine ⟨true, List.mem_map.mpr ⟨k, ?_, ?_⟩, rfl⟩
            · refine List.mem_iff_getElem?.mpr ⟨0, ?_⟩
              rw [List.getElem?_drop, List.getElem?_range (by omega)]
              rfl
            · rw [List.getElem?_eq_getElem hk]
              rfl
        rw [ea]
        by_cases c : k < row.length
        · rw [decide_eq_true c]
          refine iteT ?_
          exact q_bl (decide_eq_false (by omega)).symm (q H4 (sm3.trans sm4))
        · rw [decide_eq_false c]
          exact iteF ⟨_, _, _, _, rfl, sm3.trans sm4, fun _ => by omega⟩
    · rintro σ H1 ⟨p2, p3, p4, p5, rfl, sm, h1⟩
      exact q_bl (decide_eq_true (h1 rfl)).symm (q H1 sm)
end
end M

namespace M
open PySem PySem.Spec PyProof.Rows L2
theorem eSp_inj {p q : Spot} (h : eSp p = eSp q) : p = q := by
  obtain ⟨a, b⟩ := p
  obtain ⟨c, d⟩ := q
  simp only [eSp, NestedKey.tup.injEq, List.cons.injEq, NestedKey.num.injEq, and_true] at h
  have h1 : a = c := by omega
  have h2 : b = d := by omega
  rw [h1, h2]
theorem eSp_deep (p : Spot) : (eSp p).depth ≤ 8 := by simp [eSp, NestedKey.depth, NestedKey.depthAll]
def eM (m : Nat × Nat) : NK := .tup [.num m.1, .num m.2]
/-- how each spot was come to -/
structure Wys (K : PySem.W.Frag) (H : Hp) (kvs : List (NK × V)) (line : List Spot) : Prop where
  keys : kvs.map (·.1) = line.map eSp
  way : ∀ i p, line[i]? = some p → ∃ v, valV kvs (eSp p) = some v ∧ (i = 0 ∧ v = .non ∨ 0 < i ∧ ∃ j q m, j < i ∧ line[j]? = some q ∧ At K H v (.tup [eSp q, eM m]))
theorem Wys.ext {K : PySem.W.Frag} {H H' : Hp} {kvs : List (NK × V)} {line : List Spot} (h : Wys K H kvs line) (x : Ext K H H') : Wys K H' kvs line := ⟨h.keys, fun i p hp => by
  obtain ⟨v, h1, h2⟩ := h.way i p hp
  refine ⟨v, h1, h2.elim .inl fun ⟨h3, j, q, m, h4, h5, h6⟩ => .inr ⟨h3, j, q, m, h4, h5, h6.ext x⟩⟩⟩
theorem mem_eSp {ls : List Spot} {p : Spot} : eSp p ∈ ls.map eSp ↔ p ∈ ls := by
  constructor
  · intro h
    obtain ⟨q, hq, e⟩ := List.mem_map.mp h
    rw [← eSp_inj e]
    exact hq
  · exact fun h => List.mem_map_of_mem h
theorem Wys.snoc {K : PySem.W.Frag} {H : Hp} {kvs : List (NK × V)} {line : List Spot} (h : Wys K H kvs line) {p q : Spot} {m : Nat × Nat} {j : Nat} {v : V} (hn : p ∉ line) (hj : line[j]? = some q) (hv : At K H v (.tup [eSp q, eM m])) : Wys K H (putK kvs (eSp p) v) (line ++ [p]) := by
  have jl := (List.getElem?_eq_some_iff.mp hj).1
  refine ⟨?_, fun i r hr => ?_⟩
  · rw [keys_put_map, h.keys, if_neg fun z => hn (mem_eSp.mp z), List.map_append]
    rfl
  · by_cases hi : i < line.length
    · rw [List.getElem?_append_left hi] at hr
      obtain ⟨w, h1, h2⟩ := h.way i r hr
      have ne : ¬ eSp r = eSp p := fun z => hn (by rw [← eSp_inj z]; exact List.mem_of_getElem? hr)
      refine ⟨w, by rw [valV_put, if_neg ne]; exact h1, h2.elim .inl fun ⟨h3, j, q, m, h4, h5, h6⟩ => .inr ⟨h3, j, q, m, h4, ?_, h6⟩⟩
      rw [List.getElem?_append_left (by omega)]
      exact h5
    · have e : i = line.length := by
        have := (List.getElem?_eq_some_iff.mp hr).1
        rw [List.length_append, List.length_singleton] at this
        omega
      subst e
      rw [List.getElem?_append_right (Nat.le_refl _), Nat.sub_self] at hr
      have e2 : p = r := Option.some.inj hr
      subst e2
      refine ⟨v, by rw [valV_put, if_pos rfl], .inr ⟨by omega, j, q, m, jl, ?_, hv⟩⟩
      rw [List.getElem?_append_left jl]
      exact hj
section
variable {P : Program} {w : World} {K : PySem.W.Frag} {mg : Str → Option Value} {base : Heap}
theorem scWayOf : FnScope ["ways", "spot", "found", "moment"] ["ways", "spot"] (defScope sWayOf) := ⟨rfl, rfl, rfl, by decide +kernel, rfl, by decide +kernel, by decide +kernel⟩
def spWayOf (P : Program) (w : World) (K : PySem.W.Frag) : Sp := fun vs H Q _ => ∃ (D : Addr) (z : V) (kvs : List (NK × V)) (line : List Spot) (i : Nat) (p : Spot), vs = [.ref D, z] ∧ DK P w K H D kvs ∧ Wys K H kvs line ∧ line[i]? = some p ∧ At K H z (eSp p) ∧ i ≤ 500 ∧ ∀ a H', Same H H' → Q (.ref a) H'
theorem k_way_of (T : Tx K mg) (D : Df K mg "way_of" sWayOf ["ways", "spot"]) : Kn P w K mg base 1 "way_of" ["ways", "spot"] (spWayOf P w K) := by
  refine D.kn scWayOf (fun vs H Q E h => ?_) (fun f cdv A outer s H vs Q E hr h => ?_)
  · obtain ⟨D0, z, kvs, line, i, p, rfl, _⟩ := h
    rfl
  · obtain ⟨D0, z, kvs, line, i, p, rfl, hD, hW, hi, hz, hl, q⟩ := h
    refine ⟨_, pss_cons (ps_set (i := 2) scWayOf.nd rfl (Or.inl rfl) (pe_lst pa_nil))
      (pss_cons (ps_while PassesOwn.never (pt_cmp (pc_notN (pe_ndGet hr.units (pv 0) (pv 1) (fun _ _ => rfl))))
        (pss_cons (ps_asg (pe_ndGet hr.units (pv 0) (pv 1) (fun _ _ => rfl)) (pg_tup rfl (pgs_cons (pg_name (i := 1) scWayOf.nd rfl (Or.inl rfl)) (pgs_cons (pg_name (i := 3) scWayOf.nd rfl (Or.inl rfl)) pgs_nil))))
          (pss_one (ps_expr (pe_bm F.plainAttrs_list F.slot_list_append F.type_list_append mt_append (pv 2) (pa_cons (pv 3) pa_nil))))))
      (pss_one (ps_ret (pe_callTy tuple_n (by rfl) T.tuple boot_tuple (pa_cons (pe_revL (pv 2)) pa_nil))))), ?_⟩
    refine ⟨by decide, fun F0 nF => ?_⟩
    have s0 := same_upd (o := .lst []) nF
    refine ⟨fun m σ H' => ∃ y p3, σ = [some (.ref D0), some y, some (.ref F0), p3] ∧ Same H H' ∧ ∃ (fs : List V) (ms : List (Nat × Nat)) (p : Spot), H' F0 = some (.lst fs) ∧ Ats K H' fs (ms.map eM) ∧ fs.length + m ≤ 500 ∧ line[m]? = some p ∧ At K H' y (eSp p), ⟨i, z, none, rfl, s0, [], [], p, upd_same, .nil, by simpa using hl, hi, hz.same s0⟩, ?_⟩
    rintro m _ H1 ⟨y, p3, rfl, sm, fs, ms, p, hF, hfs, hlen, hm, hy⟩
    obtain ⟨v, hv, hc⟩ := hW.way m p hm
    refine ⟨.ref D0, rfl, y, rfl, D0, kvs, eSp p, v, rfl, hD.same sm, hy, eSp_deep p, ⟨_, rfl⟩, hv, ?_⟩
    rcases hc with ⟨rfl, rfl⟩ | ⟨hpos, j, q2, mm, hj, hq, hva⟩
    · refine ⟨false, rfl, iteF ?_⟩
      refine ⟨.ref F0, rfl, F0, fs, rfl, SqL.of hF, fun p' np => ?_⟩
      have sp := same_upd (o := .lst fs.reverse) np
      have hrev : Ats K H1 fs.reverse (ms.map eM).reverse := by
        have : ∀ {xs : List V} {ks : List NK}, Ats K H1 xs ks → Ats K H1 xs.reverse ks.reverse := by
          intro xs ks
          induction ks generalizing xs with
          | nil =>
            intro h
            cases h
            exact .nil
          | cons k ks ih =>
            intro h
            cases h with
            | cons a b =>
              rw [List.reverse_cons, List.reverse_cons]
              exact (ih b).append (.one a)
        exact this hfs
      refine ⟨_, _, rfl, Seq.lst (SqL.of upd_same) (hrev.same sp), ?_, fun u H2 s2 hu => ?_⟩
      · rw [List.length_reverse, ← hfs.length]
        omega
      · obtain ⟨a, _, rfl, _⟩ := hu.tup_inv
        exact q a H2 ((sm.trans sp).trans s2)
    · obtain ⟨a, y1, y2, rfl, hs2, g1, g2⟩ := two_inv (hva.same sm)
      refine ⟨true, rfl, iteT ⟨fun σ H' => ∃ m', m' < m ∧ ∃ y p3, σ = [some (.ref D0), some y, some (.ref F0), p3] ∧ Same H H' ∧ ∃ (fs : List V) (ms : List (Nat × Nat)) (p : Spot), H' F0 = some (.lst fs) ∧ Ats K H' fs (ms.map eM) ∧ fs.length + m' ≤ 500 ∧ line[m']? = some p ∧ At K H' y (eSp p), fun σ' H' z => z, ?_⟩⟩
      refine ⟨.ref D0, rfl, y, rfl, D0, kvs, eSp p, .ref a, rfl, hD.same sm, hy, eSp_deep p, ⟨_, rfl⟩, hv, ?_⟩
      refine ⟨a, _, rfl, hs2, rfl, _, _, rfl, _, _, rfl, rfl, ?_⟩
      have exF : Ext K H1 (upd H1 F0 (.lst (fs ++ [y2]))) := Ext.mut hF trivial
      refine ⟨.ref F0, rfl, .inl ⟨rfl, fs, SqL.of hF⟩, y2, rfl, F0, fs, y2, rfl, rfl, hF, small1000 (by omega), ?_⟩
      refine ⟨j, hj, y1, some y2, rfl, fun b o e => ?_, fs ++ [y2], ms ++ [mm], q2, upd_same, ?_, by simp; omega, hq, g1.ext exF⟩
      · rw [upd_ne (ne_of_none e nF)]
        exact sm _ _ e
      · rw [List.map_append]
        exact (hfs.append (.one g2)).ext exF
end
/-- spots that one comes to -/
inductive Rc (T : Th) (row : Row) (x : Option Call) : Spot → Prop
  | first : Rc T row x (0, 0)
  | step {p q : Spot} {m : Nat × Nat} : Rc T row x p → (q, m) ∈ nxt T row x p → Rc T row x q
theorem nxt_inv {T : Th} {row : Row} {x : Option Call} {p q : Spot} {m : Nat × Nat} (h : (q, m) ∈ nxt T row x p) : ∃ c g, (callsOf row x)[p.1]? = some c ∧ (g, q.2) ∈ T.out p.2 c ∧ letsK row p.1 g = true ∧ q.1 = p.1 + 1 := by
  unfold nxt at h
  cases hc : (callsOf row x)[p.1]? with
  | none =>
    rw [hc] at h
    cases h
  | some c =>
    rw [hc] at h
    obtain ⟨⟨g, t⟩, ho, e⟩ := List.mem_map.mp h
    obtain ⟨h1, h2⟩ := List.mem_filter.mp ho
    injection e with e1 e2
    subst e1
    exact ⟨c, g, rfl, h1, h2, rfl⟩
theorem calls_row {row : Row} {x : Option Call} {k : Nat} {p : Call × Nat} (h : row[k]? = some p) : (callsOf row x)[k]? = some p.1 := by
  unfold callsOf
  rw [List.getElem?_append_left (by rw [List.length_map]; exact (List.getElem?_eq_some_iff.mp h).1), List.getElem?_map, h]
  rfl
theorem Rc.in_ {T : Th} (hT : TOk T) {row : Row} {x : Option Call} (hc : ∀ c ∈ callsOf row x, c ∈ T.calls) : ∀ {p : Spot}, Rc T row x p → p.2 < T.n ∧ p.1 ≤ (callsOf row x).length ∧ (p.1 ≤ row.length → p.2 ∈ rowS T (row.take p.1)) ∧ (row.length ≤ p.1 → rowS T row ≠ []) := by
  intro p h
  induction h with
  | first =>
    refine ⟨hT.one, Nat.zero_le _, fun _ => by simp [rowS], fun h => ?_⟩
    have : row = [] := List.length_eq_zero_iff.mp (Nat.le_zero.mp h)
    rw [this]
    simp [rowS]
  | @step p q m hp hq ih =>
    obtain ⟨i1, i2, i3, i4⟩ := ih
    obtain ⟨c, g, hcc, ho, hl, e⟩ := nxt_inv hq
    have hcT := hc c (List.mem_of_getElem? hcc)
    have lt := (List.getElem?_eq_some_iff.mp hcc).1
    have h3 : q.1 ≤ row.length → q.2 ∈ rowS T (row.take q.1) := fun hle => by
      have hk : p.1 < row.length := by omega
      have hr : row[p.1]? = some row[p.1] := List.getElem?_eq_getElem hk
      have hc2 := calls_row (x := x) hr
      rw [hcc] at hc2
      have e2 : c = row[p.1].1 := Option.some.inj hc2
      unfold letsK at hl
      rw [hr] at hl
      have e3 : row[p.1].2 = g := of_decide_eq_true hl
      rw [e, rowS_take hr, stp_mem]
      refine ⟨(Th.out_ok hT i1 hcT _ ho).2, p.2, i3 (by omega), ?_⟩
      rw [e3, ← e2]
      exact ho
    refine ⟨(Th.out_ok hT i1 hcT _ ho).2, by omega, h3, fun hle => ?_⟩
    by_cases z : row.length ≤ p.1
    · exact i4 z
    · have e5 : q.1 = row.length := by omega
      have := h3 (by omega)
      rw [e5, List.take_length] at this
      exact fun z => by rw [z] at this; cases this
/-- all that is come to is met -/
theorem closed_all {T : Th} {row : Row} {x : Option Call} {L : List Spot} (h0 : (0, 0) ∈ L) (hs : ∀ p ∈ L, ∀ q m, (q, m) ∈ nxt T row x p → q ∈ L) : ∀ k, k ≤ row.length → ∀ s ∈ rowS T (row.take k), (k, s) ∈ L
  | 0, _, s, h => by
    have : s = 0 := by simpa [rowS] using h
    rw [this]
    exact h0
  | k + 1, hk, s, h => by
    have hr : row[k]? = some row[k] := List.getElem?_eq_getElem (by omega)
    rw [rowS_take hr, stp_mem] at h
    obtain ⟨_, s0, h1, h2⟩ := h
    refine hs (k, s0) (closed_all h0 hs k (by omega) s0 h1) (k + 1, s) (2 * k, row[k].2) ?_
    unfold nxt
    rw [calls_row hr]
    refine List.mem_map.mpr ⟨(row[k].2, s), List.mem_filter.mpr ⟨h2, ?_⟩, rfl⟩
    unfold letsK
    rw [hr]
    exact decide_eq_true rfl
end M

namespace M
open PySem PySem.Spec PyProof.Rows L2
/-- spots met in line, those ahead of t gone on from -/
structure OI (T : Th) (row : Row) (x : Option Call) (line : List Spot) (t : Nat) : Prop where
  nd : line.Nodup
  h0 : line[0]? = some (0, 0)
  rc : ∀ p ∈ line, Rc T row x p
  le : t ≤ line.length
  done : ∀ i p, i < t → line[i]? = some p → p.1 < row.length ∧ ∀ q m, (q, m) ∈ nxt T row x p → q ∈ line
theorem OI.len {T : Th} {row : Row} {x : Option Call} {line : List Spot} {t : Nat} (h : OI T row x line t) (hT : TOk T) (hc : ∀ c ∈ callsOf row x, c ∈ T.calls) (hl : row.length ≤ 40) : line.length ≤ 200 := by
  have := nodup_len (m := (List.range 42).flatMap fun k => (List.range 4).map fun s => ((k, s) : Spot)) h.nd fun p hp => by
    obtain ⟨h1, h2, _⟩ := (h.rc p hp).in_ hT hc
    have h3 : (callsOf row x).length ≤ row.length + 1 := by
      unfold callsOf
      rw [List.length_append, List.length_map]
      cases x <;> simp
    have h4 : T.n ≤ 4 := hT.four
    refine List.mem_flatMap.mpr ⟨p.1, List.mem_range.mpr (by omega), List.mem_map.mpr ⟨p.2, List.mem_range.mpr (by omega), rfl⟩⟩
  have e : ((List.range 42).flatMap fun k => (List.range 4).map fun s => ((k, s) : Spot)).length = 168 := by decide +kernel
  omega
theorem OI.first (T : Th) (row : Row) (x : Option Call) : OI T row x [(0, 0)] 0 := ⟨by simp, rfl, fun p hp => by
  rw [List.mem_singleton.mp hp]
  exact .first, Nat.zero_le _, fun i p hi => absurd hi (Nat.not_lt_zero _)⟩
theorem OI.add {T : Th} {row : Row} {x : Option Call} {line : List Spot} {t : Nat} (h : OI T row x line t) {p : Spot} (hn : p ∉ line) (hp : Rc T row x p) : OI T row x (line ++ [p]) t := by
  have l0 := (List.getElem?_eq_some_iff.mp h.h0).1
  refine ⟨?_, ?_, fun q hq => ?_, ?_, fun i q hi hq => ?_⟩
  · rw [List.nodup_append]
    refine ⟨h.nd, by simp, fun a ha b hb => ?_⟩
    rw [List.mem_singleton.mp hb]
    exact fun e => hn (e ▸ ha)
  · rw [List.getElem?_append_left l0]
    exact h.h0
  · rcases List.mem_append.mp hq with z | z
    · exact h.rc q z
    · rw [List.mem_singleton.mp z]
      exact hp
  · have := h.le
    rw [List.length_append]
    omega
  · have := h.le
    rw [List.getElem?_append_left (by omega)] at hq
    obtain ⟨h1, h2⟩ := h.done i q hi hq
    exact ⟨h1, fun r m hr => List.mem_append_left _ (h2 r m hr)⟩
theorem OI.shut {T : Th} {row : Row} {x : Option Call} {line : List Spot} {t : Nat} (h : OI T row x line t) {p : Spot} (hp : line[t]? = some p) (h1 : p.1 < row.length) (h2 : ∀ q m, (q, m) ∈ nxt T row x p → q ∈ line) : OI T row x line (t + 1) := by
  refine ⟨h.nd, h.h0, h.rc, (List.getElem?_eq_some_iff.mp hp).1, fun i q hi hq => ?_⟩
  rcases Nat.lt_or_ge i t with z | z
  · exact h.done i q z hq
  · obtain rfl : i = t := by omega
    rw [hp] at hq
    obtain rfl := Option.some.inj hq
    exact ⟨h1, h2⟩
theorem OI.over {T : Th} {row : Row} {x : Option Call} {line : List Spot} {t : Nat} (h : OI T row x line t) (ht : line.length ≤ t) : rowS T row = [] := by
  refine List.eq_nil_iff_forall_not_mem.mpr fun s hs => ?_
  have hm : ((row.length, s) : Spot) ∈ line := by
    refine closed_all (T := T) (row := row) (x := x) (List.mem_of_getElem? h.h0) (fun p hp q m hq => ?_) row.length (Nat.le_refl _) s (by rw [List.take_length]; exact hs)
    obtain ⟨i, hi, e⟩ := List.getElem_of_mem hp
    exact (h.done i p (by omega) (by rw [List.getElem?_eq_getElem hi, e])).2 q m hq
  obtain ⟨i, hi, e⟩ := List.getElem_of_mem hm
  have := (h.done i _ (by omega) (by rw [List.getElem?_eq_getElem hi, e])).1
  exact absurd this (Nat.lt_irrefl _)
theorem sp_snd {w : Nat × Nat} : eM w = .tup [.num w.1, .num w.2] := rfl
section
variable {P : Program} {w : World} {K : PySem.W.Frag} {mg : Str → Option Value} {base : Heap}
theorem scOwnOrderOf : FnScope ["thing", "hands", "history", "rows", "first", "ways", "line", "at", "spot", "after", "moment"] ["thing", "hands", "history"] (defScope sOwnOrderOf) := ⟨rfl, rfl, rfl, by decide +kernel, rfl, by decide +kernel, by decide +kernel⟩
def spOwnOrderOf (K : PySem.W.Frag) : Sp := fun vs H Q _ => ∃ (T : Th) (v u : V) (row : Row) (x : Option Call), vs = [v, .int 1, u] ∧ Tg K H v T ∧ TOk T ∧ At K H u (.tup ((hist row x).map eE)) ∧ Hs T (hist row x) ∧ row.length ≤ 40 ∧ (∀ c ∈ callsOf row x, c ∈ T.calls) ∧
  (rowS T row = [] → ∀ H', Same H H' → Q .non H') ∧ (rowS T row ≠ [] → ∀ a H', Same H H' → Q (.ref a) H')
theorem k_own_order_of (T : Tx K mg) (D : Df K mg "own_order_of" sOwnOrderOf ["thing", "hands", "history"])
    (F1 : Kn P w K mg base 9 "check_history" ["thing", "hands", "history"] (spCheckHistory K)) (F2 : Kn P w K mg base 2 "rows_of" ["hands", "history"] (spRowsOf K))
    (F3 : Kn P w K mg base 1 "is_end" ["rows", "spot"] (spIsEnd K)) (F4 : Kn P w K mg base 1 "way_of" ["ways", "spot"] (spWayOf P w K)) (F5 : Kn P w K mg base 6 "nexts" ["thing", "history", "rows", "spot"] (spNexts K)) :
    Kn P w K mg base 10 "own_order_of" ["thing", "hands", "history"] (spOwnOrderOf K) := by
  refine D.kn scOwnOrderOf (fun vs H Q E h => ?_) (fun f cdv A outer s H vs Q E hr h => ?_)
  · obtain ⟨Z, v, u, row, x, rfl, _⟩ := h
    rfl
  · obtain ⟨Z, v, u, row, x, rfl, hv, hZ, hu, hh, hl, hc, qn, qs⟩ := h
    refine ⟨_, pss_cons (ps_expr (pe_kn F1 hr (pa_cons (pv 0) (pa_cons (pv 1) (pa_cons (pv 2) pa_nil)))))
      (pss_cons (ps_set (i := 3) scOwnOrderOf.nd rfl (Or.inl rfl) (pe_kn F2 (hr.mono (by decide)) (pa_cons (pv 1) (pa_cons (pv 2) pa_nil))))
      (pss_cons (ps_set (i := 4) scOwnOrderOf.nd rfl (Or.inl rfl) (pe_tupN (pa_cons (pe_op op_mul1 (pe_tupN (pa_cons pe_int pa_nil)) (pv 1)) (pa_cons pe_int pa_nil))))
      (pss_cons (ps_par3 (i := 5) (j := 6) (l := 7) rfl scOwnOrderOf.nd rfl rfl rfl (by decide) (by decide) (by decide) rfl rfl rfl (pa_cons (pe_nd1 hr.units (pv 4) pe_non) (pa_cons (pe_lst (pa_cons (pv 4) pa_nil)) (pa_cons pe_int pa_nil))) rfl)
      (pss_cons (ps_while PassesOwn.never (pt_cmpR op_lt (pv 7) (pe_callB len_n (by rfl) T.len PySem.boot_len (pa_cons (pv 6) pa_nil)) (nomark _))
        (pss_cons (ps_set (i := 8) scOwnOrderOf.nd rfl (Or.inl rfl) (pe_ix ix_list (pv 6) (pv 7) (fun _ _ => rfl)))
        (pss_cons (ps_if (pt_val (pe_kn F3 (hr.mono (by decide)) (pa_cons (pv 3) (pa_cons (pv 8) pa_nil)))) (pss_one (ps_ret (pe_kn F4 (hr.mono (by decide)) (pa_cons (pv 5) (pa_cons (pv 8) pa_nil))))) pss_nil)
        (pss_cons (ps_for PassesOwn.never rfl (pi_list (pe_kn F5 (hr.mono (by decide)) (pa_cons (pv 0) (pa_cons (pv 2) (pa_cons (pv 3) (pa_cons (pv 8) pa_nil)))))) (pg_tup rfl (pgs_cons (pg_name (i := 9) scOwnOrderOf.nd rfl (Or.inl rfl)) (pgs_cons (pg_name (i := 10) scOwnOrderOf.nd rfl (Or.inl rfl)) pgs_nil)))
          (pss_one (ps_if (pt_cmpR (op_notInD hr.units) (pv 9) (pv 5) (by rfl))
            (pss_cons (ps_ndPut hr.units (pv 5) (pv 9) (pe_tupN (pa_cons (pv 8) (pa_cons (pv 10) pa_nil)))) (pss_one (ps_expr (pe_bm F.plainAttrs_list F.slot_list_append F.type_list_append mt_append (pv 6) (pa_cons (pv 9) pa_nil))))) pss_nil)))
        (pss_cons (ps_if (pt_cmpR op_gt (pe_callB len_n (by rfl) T.len PySem.boot_len (pa_cons (pv 6) pa_nil)) (pe_gi T.mostSpots) (nomark _)) (pss_one ps_never) pss_nil)
        (pss_one (ps_aug (i := 7) scOwnOrderOf.nd rfl (Or.inl rfl) pe_int ip_add)))))))
      (pss_one (ps_ret pe_non)))))), ?_⟩
    refine ⟨v, rfl, .int 1, rfl, u, rfl, Z, v, u, _, rfl, hv, hZ, hu, hh, fun H1 s1 => ?_⟩
    refine ⟨.int 1, rfl, u, rfl, u, row, x, rfl, hu.same s1, hl, fun Dr R0 ys H2 s2 hrows2 => ?_⟩
    refine ⟨[.num 0], .one (.int 0), by decide, fun w1 H3 s3 hw1 => ⟨.int 1, rfl, _, hw1, rfl, ?_⟩⟩
    refine ⟨[.tup [.num 0], .num 0], .two hw1 (.int 0), by decide, fun w2 HB s4 hw2 => ?_⟩
    have hw2 : At K HB w2 (eSp (0, 0)) := hw2
    have smB : Same H HB := ((s1.trans s2).trans s3).trans s4
    have hrB := hrows2.same (s3.trans s4)
    have hvB := hv.same smB
    have huB := hu.same smB
    refine fun D0 o0 nD h00 => ?_
    have sD : Same HB (upd HB D0 o0) := same_upd nD
    refine ⟨w2, rfl, eSp (0, 0), hw2.same sD, eSp_deep _, ⟨_, rfl⟩, h00, fun ob hob => ?_⟩
    obtain ⟨uD, huD, muD⟩ := h00.mut
    have exD : Ext K (upd HB D0 o0) (upd (upd HB D0 o0) D0 ob) := Ext.mut huD muD
    have sm5 : Same HB (upd (upd HB D0 o0) D0 ob) := fun b o e => by
      rw [upd_ne (ne_of_none e nD), upd_ne (ne_of_none e nD)]
      exact e
    generalize upd (upd HB D0 o0) D0 ob = H5 at *
    refine ⟨w2, rfl, by show 1 ≤ sizeLine; decide, fun L nL => ⟨_, _, _, rfl, ?_⟩⟩
    have sL := same_upd (o := .lst [w2]) nL
    have nLB : HB L = none := sm5.free nL
    have neL : L ≠ D0 := fun e => by
      obtain ⟨o, hO, _⟩ := hob
      rw [e, hO] at nL
      cases nL
    have lc1 : (callsOf row x).length ≤ row.length + 1 := by
      unfold callsOf
      rw [List.length_append, List.length_map]
      cases x <;> simp
    have lc2 : row.length ≤ (callsOf row x).length := by
      unfold callsOf
      rw [List.length_append, List.length_map]
      omega
    refine ⟨fun m σ H' => ∃ (t : Nat) (p8 p9 p10 : Option V), σ = [some v, some (.int 1), some u, some (.ref Dr), some w2, some (.ref D0), some (.ref L), some (.int t), p8, p9, p10] ∧ Same HB H' ∧ ∃ kvs line lx, DK P w K H' D0 kvs ∧ Wys K H' kvs line ∧ H' L = some (.lst lx) ∧ Ats K H' lx (line.map eSp) ∧ OI Z row x line t ∧ m = 400 - t, ⟨400, ?_⟩, ?_⟩
    · refine ⟨0, none, none, none, rfl, sm5.trans sL, [(eSp (0, 0), .non)], [(0, 0)], [w2], hob.same sL, ⟨rfl, fun i p hp => ?_⟩, upd_same, .one ((hw2.same sm5).same sL), OI.first _ _ _, rfl⟩
      cases i with
      | zero =>
        obtain rfl : ((0, 0) : Spot) = p := Option.some.inj hp
        exact ⟨.non, by simp [valV], .inl ⟨rfl, rfl⟩⟩
      | succ i => exact absurd hp (by simp)
    · rintro m _ H6 ⟨t, p8, p9, p10, rfl, sm6, kvs, line, lx, hD6, hW6, hL6, hlx, oi, rfl⟩
      have ln := oi.len hZ hc hl
      have tl := oi.le
      have lx_ : lx.length = line.length := by rw [hlx.length, List.length_map]
      refine ⟨.int t, rfl, .ref L, rfl, .ref L, _, rfl, Seq.lst (SqL.of hL6) hlx, _, _, rfl, rfl, _, rfl, ?_⟩
      rw [List.length_map]
      by_cases lt : t < line.length
      · rw [decide_eq_true (show ((t : Nat) : Int) < ((line.length : Nat) : Int) by omega)]
        refine iteT ⟨fun σ H' => ∃ m', m' < 400 - t ∧ ∃ (t : Nat) (p8 p9 p10 : Option V), σ = [some v, some (.int 1), some u, some (.ref Dr), some w2, some (.ref D0), some (.ref L), some (.int t), p8, p9, p10] ∧ Same HB H' ∧ ∃ kvs line lx, DK P w K H' D0 kvs ∧ Wys K H' kvs line ∧ H' L = some (.lst lx) ∧ Ats K H' lx (line.map eSp) ∧ OI Z row x line t ∧ m' = 400 - t, fun σ' H' z => z, ?_⟩
        obtain ⟨p, hp⟩ : ∃ p, line[t]? = some p := ⟨_, List.getElem?_eq_getElem lt⟩
        have rp := oi.rc p (List.mem_of_getElem? hp)
        obtain ⟨pi1, pi2, pi3, pi4⟩ := rp.in_ hZ hc
        obtain ⟨y, hy, hya⟩ := hlx.get (i := t) (k := eSp p) (by rw [List.getElem?_map, hp]; rfl)
        refine ⟨.ref L, rfl, .int t, rfl, L, lx, t, y, rfl, rfl, SqL.of hL6, atI_nat hy, ?_⟩
        refine ⟨.ref Dr, rfl, y, rfl, y, Dr, R0, ys, row, _, p, rfl, hrB.same sm6, lc2, by omega, hya, fun H7 s7 => ⟨_, rfl, ?_⟩⟩
        have sm7 := sm6.trans s7
        have hD7 := hD6.same s7
        have hW7 := hW6.ext (.of_same s7)
        have hL7 := s7 _ _ hL6
        have hlx7 := hlx.same s7
        have hya7 := hya.same s7
        by_cases en : row.length ≤ p.1
        · rw [decide_eq_true en]
          refine iteT ?_
          refine ⟨.ref D0, rfl, y, rfl, D0, y, kvs, line, t, p, rfl, hD7, hW7, hp, hya7, by omega, fun a H8 s8 => ?_⟩
          exact qs (pi4 en) a H8 ((smB.trans sm7).trans s8)
        · rw [decide_eq_false en]
          refine iteF ?_
          refine ⟨v, rfl, u, rfl, .ref Dr, rfl, y, rfl, Z, v, u, y, Dr, R0, ys, row, x, p, rfl, hvB.same sm7, hZ, huB.same sm7, hl, hc, hrB.same sm7, hya7, pi1, fun p' zs H8 np s8 hp8 hz8 => ?_⟩
          have lz : zs.length = (nxt Z row x p).length := by rw [hz8.length, List.length_map]
          have neP : p' ≠ L := fun z => by
            rw [z, hL7] at np
            cases np
          have neQ : p' ≠ D0 := fun z => by
            obtain ⟨o, hO, _⟩ := hD7
            rw [z, hO] at np
            cases np
          refine ⟨p', rfl, ⟨_, SqL.of hp8⟩, ?_⟩
          refine for_it (walk_list (xs := zs)) (fun j σ H' => ∃ p9 p10, σ = [some v, some (.int 1), some u, some (.ref Dr), some w2, some (.ref D0), some (.ref L), some (.int t), some y, p9, p10] ∧ Same HB H' ∧ H' p' = some (.lst zs) ∧ Ats K H' zs ((nxt Z row x p).map eNx) ∧ At K H' y (eSp p) ∧ ∃ kvs line lx, DK P w K H' D0 kvs ∧ Wys K H' kvs line ∧ H' L = some (.lst lx) ∧ Ats K H' lx (line.map eSp) ∧ OI Z row x line t ∧ line[t]? = some p ∧ (∀ d ∈ (nxt Z row x p).take j, d.1 ∈ line)) ?_ ?_ ?_ ?_
          · exact ⟨_, _, rfl, sm7.trans s8, hp8, hz8, hya7.same s8, kvs, line, lx, hD7.same s8, hW7.ext (.of_same s8), s8 _ _ hL7, hlx7.same s8, oi, hp, fun d hd => by simp at hd⟩
          · rintro j σ H9 _ ⟨_, _, _, _, h1, _⟩
            exact SqL.of h1
          · rintro j z σ H9' H9 hj ⟨p9, p10, rfl, sm9, hp9, hz9, hy9, kvs9, line9, lx9, hD9, hW9, hL9, hlx9, oi9, ht9, in9⟩ ⟨eH, hz⟩
            subst eH
            obtain ⟨⟨d, mm⟩, hd, hzd⟩ := ats_map hz9 hz
            obtain ⟨a3, y1, y2, rfl, hs3, k1, k2⟩ := two_inv hzd
            have tk : (nxt Z row x p).take (j + 1) = (nxt Z row x p).take j ++ [(d, mm)] := by
              rw [List.take_add_one, hd]
              rfl
            have rd : Rc Z row x d := .step rp (List.mem_of_getElem? hd)
            have e8 : decide (eSp d ∈ kvs9.map (·.1)) = decide (d ∈ line9) := by
              rw [hW9.keys]
              by_cases c : d ∈ line9
              · rw [decide_eq_true c, decide_eq_true (mem_eSp.mpr c)]
              · rw [decide_eq_false c, decide_eq_false fun q => c (mem_eSp.mp q)]
            have lk9 : kvs9.length = line9.length := by
              have := congrArg List.length hW9.keys
              simpa using this
            have ll9 := oi9.len hZ hc hl
            refine ⟨a3, _, rfl, hs3, rfl, _, _, rfl, _, _, rfl, rfl, ?_⟩
            refine ⟨y1, rfl, .ref D0, rfl, eSp d, D0, kvs9, k1, rfl, hD9, eSp_deep d, ⟨_, rfl⟩, _, rfl, ?_⟩
            rw [e8]
            by_cases c : d ∈ line9
            · rw [decide_eq_true c]
              refine iteF ⟨_, _, rfl, sm9, hp9, hz9, hy9, kvs9, line9, lx9, hD9, hW9, hL9, hlx9, oi9, ht9, fun e he => ?_⟩
              rw [tk] at he
              rcases List.mem_append.mp he with q | q
              · exact in9 e q
              · rw [List.mem_singleton.mp q]
                exact c
            · rw [decide_eq_false c]
              refine iteT ?_
              refine ⟨y, rfl, y2, rfl, [eSp p, eM mm], .two hy9 k2, by simp [eSp, eM, NestedKey.depth, NestedKey.depthAll], fun wv HA sA hwv => ?_⟩
              have hDA := hD9.same sA
              have hLA := sA _ _ hL9
              refine ⟨.ref D0, rfl, y1, rfl, D0, kvs9, eSp d, rfl, hDA, by omega, k1.same sA, eSp_deep d, ⟨_, rfl⟩, fun ob hob => ?_⟩
              obtain ⟨u3, hu3, mu3⟩ := hDA.mut
              have ex8 : Ext K HA (upd HA D0 ob) := Ext.mut hu3 mu3
              have hL8 : upd HA D0 ob L = some (.lst lx9) := by
                rw [upd_ne neL]
                exact hLA
              refine ⟨.ref L, rfl, .inl ⟨rfl, lx9, SqL.of hL8⟩, y1, rfl, L, lx9, y1, rfl, rfl, hL8, ?_, ?_⟩
              · have h1 := hlx9.length
                rw [List.length_map] at h1
                exact small1000 (by omega)
              · have ex9 : Ext K (upd HA D0 ob) (upd (upd HA D0 ob) L (.lst (lx9 ++ [y1]))) := Ext.mut hL8 trivial
                have exA : Ext K H9 (upd (upd HA D0 ob) L (.lst (lx9 ++ [y1]))) := ((Ext.of_same sA).trans ex8).trans ex9
                refine ⟨_, _, rfl, fun b o q => ?_, ?_, hz9.ext exA, hy9.ext exA, putK kvs9 (eSp d) wv, line9 ++ [d], lx9 ++ [y1], hob.other hL8 trivial (Ne.symm neL), ?_, upd_same, ?_, oi9.add c rd, ?_, fun e he => ?_⟩
                · rw [upd_ne (ne_of_none q nLB), upd_ne (ne_of_none q nD)]
                  exact sA _ _ (sm9 _ _ q)
                · rw [upd_ne neP, upd_ne neQ]
                  exact sA _ _ hp9
                · exact (hW9.ext exA).snoc c ht9 (hwv.ext (ex8.trans ex9))
                · rw [List.map_append]
                  exact (hlx9.append (.one k1)).ext exA
                · rw [List.getElem?_append_left (List.getElem?_eq_some_iff.mp ht9).1]
                  exact ht9
                · rw [tk] at he
                  rcases List.mem_append.mp he with q | q
                  · exact List.mem_append_left _ (in9 e q)
                  · rw [List.mem_singleton.mp q]
                    exact List.mem_append_right _ (List.mem_singleton.mpr rfl)
          · rintro σ H9 ⟨p9, p10, rfl, sm9, hp9, hz9, hy9, kvs9, line9, lx9, hD9, hW9, hL9, hlx9, oi9, ht9, in9⟩
            have ll9 := oi9.len hZ hc hl
            rw [lz, List.take_length] at in9
            refine ⟨.ref L, rfl, .ref L, _, rfl, Seq.lst (SqL.of hL9) hlx9, _, 200000, rfl, rfl, false, congrArg V.bl (decide_eq_false (by rw [List.length_map]; omega)), iteF ?_⟩
            refine ⟨.int t, rfl, t, 1, rfl, rfl, ?_⟩
            refine ⟨400 - (t + 1), by omega, t + 1, _, _, _, rfl, sm9, kvs9, line9, lx9, hD9, hW9, hL9, hlx9, oi9.shut ht9 (by omega) (fun q mm hq => in9 _ hq), rfl⟩
      · rw [decide_eq_false (show ¬ ((t : Nat) : Int) < ((line.length : Nat) : Int) by omega)]
        refine iteF ?_
        exact qn (oi.over (by omega)) H6 (smB.trans sm6)
end
end M

namespace M
open PySem PySem.Spec PyProof.Rows L2
section
variable {P : Program} {w : World} {K : PySem.W.Frag} {mg : Str → Option Value} {base : Heap}
theorem scIsInOwnOrder : FnScope ["thing", "hands", "history"] ["thing", "hands", "history"] (defScope sIsInOwnOrder) := ⟨rfl, rfl, rfl, by decide +kernel, rfl, by decide +kernel, by decide +kernel⟩
def spIsInOwnOrder (K : PySem.W.Frag) : Sp := fun vs H Q _ => ∃ (T : Th) (v u : V) (row : Row) (x : Option Call), vs = [v, .int 1, u] ∧ Tg K H v T ∧ TOk T ∧ At K H u (.tup ((hist row x).map eE)) ∧ Hs T (hist row x) ∧ row.length ≤ 40 ∧ (∀ c ∈ callsOf row x, c ∈ T.calls) ∧
  ∀ H', Same H H' → Q (.bl (!decide (rowS T row = []))) H'
theorem k_is_in_own_order (T : Tx K mg) (D : Df K mg "is_in_own_order" sIsInOwnOrder ["thing", "hands", "history"])
    (F1 : Kn P w K mg base 10 "own_order_of" ["thing", "hands", "history"] (spOwnOrderOf K)) :
    Kn P w K mg base 11 "is_in_own_order" ["thing", "hands", "history"] (spIsInOwnOrder K) := by
  refine D.kn scIsInOwnOrder (fun vs H Q E h => ?_) (fun f cdv A outer s H vs Q E hr h => ?_)
  · obtain ⟨Z, v, u, row, x, rfl, _⟩ := h
    rfl
  · obtain ⟨Z, v, u, row, x, rfl, hv, hZ, hu, hh, hl, hc, q⟩ := h
    refine ⟨_, pss_one (ps_ret (pe_cmp (pc_notN (pe_kn F1 hr (pa_cons (pv 0) (pa_cons (pv 1) (pa_cons (pv 2) pa_nil))))))), ?_⟩
    refine ⟨v, rfl, .int 1, rfl, u, rfl, Z, v, u, row, x, rfl, hv, hZ, hu, hh, hl, hc, fun e H1 s1 => ?_, fun e a H1 s1 => ?_⟩
    · exact q_bl (by rw [decide_eq_true e]; rfl) (q H1 s1)
    · exact q_bl (by rw [decide_eq_false e]; rfl) (q H1 s1)
end
end M

namespace L2
open PySem PySem.Spec PyProof.Rows
section
variable {X : Cx}
/-- xs[i] of a list, 0 ≤ i, as an augmented store reads it -/
theorem get_list : PGet X (fun x y H Q => ∃ p xs i v, x = .ref p ∧ y = .int ((i : Nat) : Int) ∧ H p = some (.lst xs) ∧ xs[i]? = some v ∧ i < 1000000 ∧ Q v H) := by
  intro pins s σ H x y v u Q I rx ry h
  obtain ⟨p, xs, i, z, rfl, rfl, hq, he, hi, q⟩ := h
  cases rx
  obtain ⟨t, rfl⟩ := ry
  obtain ⟨its, r, pl, hz⟩ := I.list (SqL.of hq)
  obtain ⟨w, ew, rw'⟩ := r.get he
  exact wpAny_getItem_list pl.isList (by omega) (by omega) (by simpa using ew) ⟨z, H, I, rw', q⟩
end
end L2
namespace M
open PySem PySem.Spec PyProof.Rows L2
/-- what is no bag stays -/
def SameB (B : Addr) (H H' : Hp) : Prop := ∀ b o, b ≠ B → H b = some o → H' b = some o
theorem SameB.of {B : Addr} {H H' : Hp} (s : Same H H') : SameB B H H' := fun b o _ e => s b o e
theorem SameB.trans {B : Addr} {H H1 H2 : Hp} (a : SameB B H H1) (b : SameB B H1 H2) : SameB B H H2 := fun c o n e => b c o n (a c o n e)
theorem SameB.upd {B : Addr} {H : Hp} {o : HO} : SameB B H (L2.upd H B o) := fun b u n e => by
  rw [upd_ne n]
  exact e
/-- the law's bag -/
structure Bag (H : Hp) (B C : Addr) (cs : List Int) (a b c : Int) : Prop where
  bag : H B = some (.lst [.int a, .int b, .int c, .ref C])
  cells : H C = some (.lst (cs.map V.int))
  ne : C ≠ B
  few : cs.length ≤ 63
theorem Bag.same {H H' : Hp} {B C : Addr} {cs : List Int} {a b c : Int} (h : Bag H B C cs a b c) (s : Same H H') : Bag H' B C cs a b c := ⟨s _ _ h.bag, s _ _ h.cells, h.ne, h.few⟩
theorem Bag.put {H : Hp} {B C : Addr} {cs : List Int} {a b c : Int} (h : Bag H B C cs a b c) (a' b' c' : Int) : Bag (L2.upd H B (.lst [.int a', .int b', .int c', .ref C])) B C cs a' b' c' := ⟨upd_same, by rw [upd_ne h.ne]; exact h.cells, h.ne, h.few⟩
section
variable {P : Program} {w : World} {K : PySem.W.Frag} {mg : Str → Option Value} {base : Heap}
theorem fin_take {Q : VK} {H' : Hp} {many : Nat} (x : Int) (h : 1 ≤ many) (q : ∀ n : Nat, n < many → Q (.int n) H') : Q (.int (x % (many : Int))) H' := by
  have n1 : 0 ≤ x % (many : Int) := Int.emod_nonneg _ (by omega)
  have n2 : x % (many : Int) < many := Int.emod_lt_of_pos _ (by omega)
  have := q (x % (many : Int)).toNat (by omega)
  rw [Int.toNat_of_nonneg n1] at this
  exact this
theorem scLTake : FnScope ["bag", "many", "cell", "stirred", "value", "begin", "second"] ["bag", "many"] (defScope sLTake) := ⟨rfl, rfl, rfl, by decide +kernel, rfl, by decide +kernel, by decide +kernel⟩
def spLTake (K : PySem.W.Frag) : Sp := fun vs H Q _ => ∃ (B C : Addr) (cs : List Int) (a b c : Int) (many : Nat), vs = [.ref B, .int many] ∧ Bag H B C cs a b c ∧ 1 ≤ many ∧ many ≤ 1000000 ∧
  ∀ (n : Nat) (a' b' c' : Int) H', n < many → SameB B H H' → Ext K H H' → Bag H' B C cs a' b' c' → Q (.int n) H'
theorem k_law_take (T : Tx K mg) (D : Df K mg "_law_take" sLTake ["bag", "many"]) : Kn P w K mg base 1 "_law_take" ["bag", "many"] (spLTake K) := by
  refine D.kn scLTake (fun vs H Q E h => ?_) (fun f cdv A outer s H vs Q E hr h => ?_)
  · obtain ⟨B, C, cs, a, b, c, many, rfl, _⟩ := h
    rfl
  · obtain ⟨B, C, cs, a, b, c, many, rfl, hB, h1, h2, q⟩ := h
    refine ⟨_, pss_cons (ps_if (pt_cmpR op_eq (pe_ix ix_list (pv 0) pe_int (fun _ _ => rfl)) pe_int (nomark _))
        (pss_cons (ps_set (i := 2) scLTake.nd rfl (Or.inl rfl) (pe_ix ix_list (pe_op op_cat (pe_slice sl_list (pe_ix ix_list (pv 0) pe_int (fun _ _ => rfl)) (po_some (pe_ix ix_list (pv 0) pe_int (fun _ _ => rfl))) po_none) (pe_lst (pa_cons pe_int pa_nil))) pe_int (fun _ _ => rfl)))
        (pss_cons (ps_augS (pv 0) pe_int get_list pe_int ip_add set_list)
        (pss_cons (ps_if (pt_cmpR op_ge (pv 2) (pe_op op_pow pe_int pe_int) (nomark _)) (pss_one (ps_asg (pv 2) (pg_sub (pv 0) pe_int set_list))) pss_nil)
        (pss_cons (ps_set (i := 3) scLTake.nd rfl (Or.inl rfl) (pe_op op_add (pe_op op_add (pe_op op_mul (pe_ix ix_list (pv 0) pe_int (fun _ _ => rfl)) pe_int) (pe_op op_mod (pe_callTy call_int1 (by rfl) T.int boot_int (pa_cons (pv 2) pa_nil)) pe_int)) (pe_op op_mul pe_int (pe_ix ix_list (pv 0) pe_int (fun _ _ => rfl)))))
        (pss_one (ps_asg (pe_op op_mod (pe_callTy call_int1 (by rfl) T.int boot_int (pa_cons (pv 3) pa_nil)) pe_int) (pg_sub (pv 0) pe_int set_list))))))) pss_nil)
      (pss_cons (ps_if (pt_cmpR op_gt (pe_ix ix_list (pv 0) pe_int (fun _ _ => rfl)) pe_int (nomark _))
        (pss_cons (ps_set (i := 4) scLTake.nd rfl (Or.inl rfl) (pe_op op_mod (pe_callTy call_int1 (by rfl) T.int boot_int (pa_cons (pe_ix ix_list (pv 0) pe_int (fun _ _ => rfl)) pa_nil)) (pv 1)))
        (pss_cons (ps_asg (pe_op op_fdiv (pe_callTy call_int1 (by rfl) T.int boot_int (pa_cons (pe_ix ix_list (pv 0) pe_int (fun _ _ => rfl)) pa_nil)) (pv 1)) (pg_sub (pv 0) pe_int set_list))
        (pss_one (ps_ret (pv 4))))) pss_nil)
      (pss_cons (ps_set (i := 5) scLTake.nd rfl (Or.inl rfl) (pe_op op_mod (pe_callTy call_int1 (by rfl) T.int boot_int (pa_cons (pe_op op_mul (pe_op op_add (pe_ix ix_list (pv 0) pe_int (fun _ _ => rfl)) pe_int) pe_int) pa_nil)) pe_int))
      (pss_cons (ps_set (i := 6) scLTake.nd rfl (Or.inl rfl) (pe_op op_mod (pe_callTy call_int1 (by rfl) T.int boot_int (pa_cons (pe_op op_mul (pe_op op_mod (pe_callTy call_int1 (by rfl) T.int boot_int (pa_cons (pe_op op_mul (pv 5) (pv 5)) pa_nil)) pe_int) pe_int) pa_nil)) pe_int))
      (pss_one (ps_ret (pe_op op_mod (pe_callTy call_int1 (by rfl) T.int boot_int (pa_cons (pe_op op_fdiv (pv 6) pe_int) pa_nil)) (pv 1))))))), ?_⟩
    refine ⟨.ref B, rfl, B, _, 0, _, rfl, rfl, SqL.of hB.bag, rfl, rfl, _, rfl, ?_⟩
    by_cases z : a = 0
    · subst z
      rw [decide_eq_true (rfl : V.int 0 = V.int 0)]
      refine iteT ?_
      refine ⟨.ref B, rfl, B, _, 3, _, rfl, rfl, SqL.of hB.bag, rfl, .ref B, rfl, B, _, 2, _, rfl, rfl, SqL.of hB.bag, rfl, c, rfl, C, _, rfl, SqL.of hB.cells, fun L nL => ?_⟩
      obtain ⟨ds, hds, lds⟩ : ∃ ds : List Int, cutV (cs.map V.int) (some c) none = ds.map V.int ∧ ds.length ≤ 63 := by
        have l := cutV_length (cs.map V.int) (some c) none
        refine ⟨(cs.drop (HT.sIx (cs.map V.int).length 0 (some c))).take (HT.sIx (cs.map V.int).length (cs.map V.int).length none - HT.sIx (cs.map V.int).length 0 (some c)), by unfold cutV; rw [List.map_take, List.map_drop], ?_⟩
        have := hB.few
        rw [List.length_take, List.length_drop]
        omega
      rw [hds]
      have sL := same_upd (o := .lst (ds.map V.int)) nL
      have hB1 := hB.same sL
      have hL1 : upd H L (.lst (ds.map V.int)) L = some (.lst (ds.map V.int)) := upd_same
      generalize upd H L (.lst (ds.map V.int)) = H1 at *
      refine ⟨by decide, fun M nM => ?_⟩
      have sM := same_upd (o := .lst [.int 0]) nM
      refine ⟨L, M, _, _, rfl, rfl, sM _ _ hL1, upd_same, by rw [List.length_map, sizeLine_eq]; simp; omega, fun N nN => ?_⟩
      have hB2 := hB1.same sM
      have sN := same_upd (o := .lst (ds.map V.int ++ [V.int 0])) nN
      have hB3 := hB2.same sN
      have sm3 : Same H (upd (upd H1 M (.lst [.int 0])) N (.lst (ds.map V.int ++ [V.int 0]))) := (sL.trans sM).trans sN
      have hN3 : upd (upd H1 M (.lst [.int 0])) N (.lst (ds.map V.int ++ [V.int 0])) N = some (.lst (ds.map V.int ++ [V.int 0])) := upd_same
      generalize upd (upd H1 M (.lst [.int 0])) N (.lst (ds.map V.int ++ [V.int 0])) = H3 at *
      obtain ⟨cell, hc⟩ : ∃ cell : Int, (ds.map V.int ++ [V.int 0])[0]? = some (V.int cell) := by
        cases ds with
        | nil => exact ⟨0, rfl⟩
        | cons d r => exact ⟨d, rfl⟩
      refine ⟨N, _, ((0 : Nat) : Int), _, rfl, rfl, SqL.of hN3, atI_nat hc, ?_⟩
      have smB := SameB.of (B := B) sm3
      have exB : Ext K H H3 := Ext.of_same sm3
      refine ⟨.ref B, rfl, B, _, 2, _, rfl, rfl, hB3.bag, rfl, by decide, c, 1, rfl, rfl, B, _, 2, 2, rfl, rfl, hB3.bag, rfl, ?_⟩
      have hb4 := hB3.put 0 b (c + 1)
      have sm4 := smB.trans (SameB.upd (o := .lst [.int 0, .int b, .int (c + 1), .ref C]))
      have ex4 : Ext K H (upd H3 B (.lst [.int 0, .int b, .int (c + 1), .ref C])) := exB.trans (Ext.mut hB3.bag trivial)
      refine ⟨.int cell, rfl, 10, 18, rfl, rfl, ⟨by decide, by decide, by decide⟩, cell, _, rfl, rfl, _, rfl, ?_⟩
      have pw : (10 : Int) ^ (18 : Int).toNat = 1000000000000000000 := by decide
      rw [pw]
      by_cases g0 : (1000000000000000000 : Int) ≤ cell
      · rw [decide_eq_true g0]
        refine iteT ?_
        refine ⟨.int cell, rfl, .ref B, rfl, B, _, 0, 0, rfl, rfl, hb4.bag, rfl, ?_⟩
        have hb5 := hb4.put cell b (c + 1)
        have sm5 := sm4.trans (SameB.upd (o := .lst [.int cell, .int b, .int (c + 1), .ref C]))
        have ex5 : Ext K H (upd (upd H3 B (.lst [.int 0, .int b, .int (c + 1), .ref C])) B (.lst [.int cell, .int b, .int (c + 1), .ref C])) := ex4.trans (Ext.mut hb4.bag trivial)
        refine ⟨.ref B, rfl, B, _, 1, _, rfl, rfl, SqL.of hb5.bag, rfl, _, _, rfl, rfl, .inr ⟨by decide, by decide⟩, _, rfl, .inl ⟨_, rfl, _, _, rfl, rfl, by show (0 : Int) < 2147483647; decide, _, _, rfl, rfl, ?_⟩⟩
        refine ⟨.ref B, rfl, B, _, 2, _, rfl, rfl, SqL.of hb5.bag, rfl, _, _, rfl, rfl, .inl ⟨by decide, by decide⟩, _, _, rfl, rfl, ?_⟩
        refine ⟨_, rfl, .inl ⟨_, rfl, _, _, rfl, rfl, by show (0 : Int) < 2147483647; decide, ?_⟩⟩
        refine ⟨.ref B, rfl, B, _, 1, 1, rfl, rfl, hb5.bag, rfl, ?_⟩
        have hb9 := hb5.put cell ((b * 48271 + cell % 2147483647 + 7919 * (c + 1)) % 2147483647) (c + 1)
        have sm9 := sm5.trans (SameB.upd (o := .lst [.int cell, .int ((b * 48271 + cell % 2147483647 + 7919 * (c + 1)) % 2147483647), .int (c + 1), .ref C]))
        have ex9 : Ext K H (upd (upd (upd H3 B (.lst [.int 0, .int b, .int (c + 1), .ref C])) B (.lst [.int cell, .int b, .int (c + 1), .ref C])) B (.lst [.int cell, .int ((b * 48271 + cell % 2147483647 + 7919 * (c + 1)) % 2147483647), .int (c + 1), .ref C])) := ex5.trans (Ext.mut hb5.bag trivial)
        refine ⟨.ref B, rfl, B, _, 0, _, rfl, rfl, SqL.of hb9.bag, rfl, _, _, rfl, rfl, _, rfl, ?_⟩
        by_cases g : 0 < cell
        · rw [decide_eq_true g]
          refine iteT ?_
          refine ⟨.ref B, rfl, B, _, 0, _, rfl, rfl, SqL.of hb9.bag, rfl, .inl ⟨_, rfl, .int many, rfl, _, _, rfl, rfl, by omega, ?_⟩⟩
          refine ⟨.ref B, rfl, B, _, 0, _, rfl, rfl, SqL.of hb9.bag, rfl, .inl ⟨_, rfl, .int many, rfl, _, _, rfl, rfl, ⟨by omega, by omega⟩, ?_⟩⟩
          refine ⟨.ref B, rfl, B, _, 0, 0, rfl, rfl, hb9.bag, rfl, ?_⟩
          exact ⟨_, rfl, fin_take _ h1 fun n hn => q n (cell / (many : Int)) ((b * 48271 + cell % 2147483647 + 7919 * (c + 1)) % 2147483647) (c + 1) _ hn (sm9.trans .upd) (ex9.trans (Ext.mut hb9.bag trivial)) (hb9.put _ _ _)⟩
        · rw [decide_eq_false g]
          refine iteF ?_
          refine ⟨.ref B, rfl, B, _, 1, _, rfl, rfl, SqL.of hb9.bag, rfl, _, _, rfl, rfl, _, _, rfl, rfl, .inr ⟨by decide, by decide⟩, .inl ⟨_, rfl, _, _, rfl, rfl, by show (0 : Int) < 1000000007; decide, ?_⟩⟩
          have g1 := Int.emod_nonneg ((((b * 48271 + cell % 2147483647 + 7919 * (c + 1)) % 2147483647) + 1) * 39373) (by decide : (1000000007 : Int) ≠ 0)
          have g2 := Int.emod_lt_of_pos ((((b * 48271 + cell % 2147483647 + 7919 * (c + 1)) % 2147483647) + 1) * 39373) (by decide : (0 : Int) < 1000000007)
          refine ⟨_, rfl, _, rfl, _, _, rfl, rfl, .inl ⟨Int.lt_of_lt_of_le (by decide) g1, Int.lt_trans g2 (by decide)⟩, .inl ⟨_, rfl, _, _, rfl, rfl, by show (0 : Int) < 998244353; decide, _, _, rfl, rfl, .inr ⟨by decide, by decide⟩, .inl ⟨_, rfl, _, _, rfl, rfl, by show (0 : Int) < 998244353; decide, ?_⟩⟩⟩
          refine ⟨_, rfl, _, _, rfl, rfl, ⟨by decide, by decide⟩, .inl ⟨_, rfl, .int many, rfl, _, _, rfl, rfl, by omega, ?_⟩⟩
          exact fin_take _ h1 fun n hn => q n cell ((b * 48271 + cell % 2147483647 + 7919 * (c + 1)) % 2147483647) (c + 1) _ hn sm9 ex9 hb9
      · rw [decide_eq_false g0]
        refine iteF ?_
        refine ⟨.ref B, rfl, B, _, 1, _, rfl, rfl, SqL.of hb4.bag, rfl, _, _, rfl, rfl, .inr ⟨by decide, by decide⟩, _, rfl, .inl ⟨_, rfl, _, _, rfl, rfl, by show (0 : Int) < 2147483647; decide, _, _, rfl, rfl, ?_⟩⟩
        refine ⟨.ref B, rfl, B, _, 2, _, rfl, rfl, SqL.of hb4.bag, rfl, _, _, rfl, rfl, .inl ⟨by decide, by decide⟩, _, _, rfl, rfl, ?_⟩
        refine ⟨_, rfl, .inl ⟨_, rfl, _, _, rfl, rfl, by show (0 : Int) < 2147483647; decide, ?_⟩⟩
        refine ⟨.ref B, rfl, B, _, 1, 1, rfl, rfl, hb4.bag, rfl, ?_⟩
        have hb9 := hb4.put (0 : Int) ((b * 48271 + cell % 2147483647 + 7919 * (c + 1)) % 2147483647) (c + 1)
        have sm9 := sm4.trans (SameB.upd (o := .lst [.int (0 : Int), .int ((b * 48271 + cell % 2147483647 + 7919 * (c + 1)) % 2147483647), .int (c + 1), .ref C]))
        have ex9 : Ext K H (upd (upd H3 B (.lst [.int 0, .int b, .int (c + 1), .ref C])) B (.lst [.int (0 : Int), .int ((b * 48271 + cell % 2147483647 + 7919 * (c + 1)) % 2147483647), .int (c + 1), .ref C])) := ex4.trans (Ext.mut hb4.bag trivial)
        refine ⟨.ref B, rfl, B, _, 0, _, rfl, rfl, SqL.of hb9.bag, rfl, _, _, rfl, rfl, _, rfl, ?_⟩
        by_cases g : 0 < (0 : Int)
        · rw [decide_eq_true g]
          refine iteT ?_
          refine ⟨.ref B, rfl, B, _, 0, _, rfl, rfl, SqL.of hb9.bag, rfl, .inl ⟨_, rfl, .int many, rfl, _, _, rfl, rfl, by omega, ?_⟩⟩
          refine ⟨.ref B, rfl, B, _, 0, _, rfl, rfl, SqL.of hb9.bag, rfl, .inl ⟨_, rfl, .int many, rfl, _, _, rfl, rfl, ⟨by omega, by omega⟩, ?_⟩⟩
          refine ⟨.ref B, rfl, B, _, 0, 0, rfl, rfl, hb9.bag, rfl, ?_⟩
          exact ⟨_, rfl, fin_take _ h1 fun n hn => q n ((0 : Int) / (many : Int)) ((b * 48271 + cell % 2147483647 + 7919 * (c + 1)) % 2147483647) (c + 1) _ hn (sm9.trans .upd) (ex9.trans (Ext.mut hb9.bag trivial)) (hb9.put _ _ _)⟩
        · rw [decide_eq_false g]
          refine iteF ?_
          refine ⟨.ref B, rfl, B, _, 1, _, rfl, rfl, SqL.of hb9.bag, rfl, _, _, rfl, rfl, _, _, rfl, rfl, .inr ⟨by decide, by decide⟩, .inl ⟨_, rfl, _, _, rfl, rfl, by show (0 : Int) < 1000000007; decide, ?_⟩⟩
          have g1 := Int.emod_nonneg ((((b * 48271 + cell % 2147483647 + 7919 * (c + 1)) % 2147483647) + 1) * 39373) (by decide : (1000000007 : Int) ≠ 0)
          have g2 := Int.emod_lt_of_pos ((((b * 48271 + cell % 2147483647 + 7919 * (c + 1)) % 2147483647) + 1) * 39373) (by decide : (0 : Int) < 1000000007)
          refine ⟨_, rfl, _, rfl, _, _, rfl, rfl, .inl ⟨Int.lt_of_lt_of_le (by decide) g1, Int.lt_trans g2 (by decide)⟩, .inl ⟨_, rfl, _, _, rfl, rfl, by show (0 : Int) < 998244353; decide, _, _, rfl, rfl, .inr ⟨by decide, by decide⟩, .inl ⟨_, rfl, _, _, rfl, rfl, by show (0 : Int) < 998244353; decide, ?_⟩⟩⟩
          refine ⟨_, rfl, _, _, rfl, rfl, ⟨by decide, by decide⟩, .inl ⟨_, rfl, .int many, rfl, _, _, rfl, rfl, by omega, ?_⟩⟩
          exact fin_take _ h1 fun n hn => q n (0 : Int) ((b * 48271 + cell % 2147483647 + 7919 * (c + 1)) % 2147483647) (c + 1) _ hn sm9 ex9 hb9
    · rw [decide_eq_false (fun e : V.int a = V.int 0 => z (V.int.inj e))]
      refine iteF ?_
      have smZ : SameB B H H := fun _ _ _ e => e
      have exZ : Ext K H H := Ext.refl _
      refine ⟨.ref B, rfl, B, _, 0, _, rfl, rfl, SqL.of hB.bag, rfl, _, _, rfl, rfl, _, rfl, ?_⟩
      by_cases g : 0 < a
      · rw [decide_eq_true g]
        refine iteT ?_
        refine ⟨.ref B, rfl, B, _, 0, _, rfl, rfl, SqL.of hB.bag, rfl, .inl ⟨_, rfl, .int many, rfl, _, _, rfl, rfl, by omega, ?_⟩⟩
        refine ⟨.ref B, rfl, B, _, 0, _, rfl, rfl, SqL.of hB.bag, rfl, .inl ⟨_, rfl, .int many, rfl, _, _, rfl, rfl, ⟨by omega, by omega⟩, ?_⟩⟩
        refine ⟨.ref B, rfl, B, _, 0, 0, rfl, rfl, hB.bag, rfl, ?_⟩
        exact ⟨_, rfl, fin_take _ h1 fun n hn => q n (a / (many : Int)) b c _ hn (smZ.trans .upd) (exZ.trans (Ext.mut hB.bag trivial)) (hB.put _ _ _)⟩
      · rw [decide_eq_false g]
        refine iteF ?_
        refine ⟨.ref B, rfl, B, _, 1, _, rfl, rfl, SqL.of hB.bag, rfl, _, _, rfl, rfl, _, _, rfl, rfl, .inr ⟨by decide, by decide⟩, .inl ⟨_, rfl, _, _, rfl, rfl, by show (0 : Int) < 1000000007; decide, ?_⟩⟩
        have g1 := Int.emod_nonneg ((b + 1) * 39373) (by decide : (1000000007 : Int) ≠ 0)
        have g2 := Int.emod_lt_of_pos ((b + 1) * 39373) (by decide : (0 : Int) < 1000000007)
        refine ⟨_, rfl, _, rfl, _, _, rfl, rfl, .inl ⟨Int.lt_of_lt_of_le (by decide) g1, Int.lt_trans g2 (by decide)⟩, .inl ⟨_, rfl, _, _, rfl, rfl, by show (0 : Int) < 998244353; decide, _, _, rfl, rfl, .inr ⟨by decide, by decide⟩, .inl ⟨_, rfl, _, _, rfl, rfl, by show (0 : Int) < 998244353; decide, ?_⟩⟩⟩
        refine ⟨_, rfl, _, _, rfl, rfl, ⟨by decide, by decide⟩, .inl ⟨_, rfl, .int many, rfl, _, _, rfl, rfl, by omega, ?_⟩⟩
        exact fin_take _ h1 fun n hn => q n a b c _ hn smZ exZ hB
end
end M

namespace M
open PySem PySem.Spec PyProof.Rows L2
section
variable {P : Program} {w : World} {K : PySem.W.Frag} {mg : Str → Option Value} {base : Heap}
theorem scLBag : FnScope ["script", "cell"] ["script"] (defScope sLBag) := ⟨rfl, rfl, rfl, by decide +kernel, rfl, by decide +kernel, by decide +kernel⟩
theorem scLSome : FnScope ["bag", "things"] ["bag", "things"] (defScope sLSome) := ⟨rfl, rfl, rfl, by decide +kernel, rfl, by decide +kernel, by decide +kernel⟩
theorem scLOutcomes : FnScope ["thing", "state", "call"] ["thing", "state", "call"] (defScope sLOutcomes) := ⟨rfl, rfl, rfl, by decide +kernel, rfl, by decide +kernel, by decide +kernel⟩
theorem scLHandKey : FnScope ["what"] ["what"] (defScope sLHandKey) := ⟨rfl, rfl, rfl, by decide +kernel, rfl, by decide +kernel, by decide +kernel⟩
/-- one of some things in a list -/
def spLSome (K : PySem.W.Frag) : Sp := fun vs H Q _ => ∃ (B C X : Addr) (cs : List Int) (a b c : Int) (xs : List V), vs = [.ref B, .ref X] ∧ Bag H B C cs a b c ∧ H X = some (.lst xs) ∧ X ≠ B ∧ 1 ≤ xs.length ∧ xs.length ≤ 1000 ∧
  ∀ (n : Nat) (v : V) (a' b' c' : Int) H', xs[n]? = some v → SameB B H H' → Ext K H H' → Bag H' B C cs a' b' c' → Q v H'
theorem k_law_some (T : Tx K mg) (D : Df K mg "_law_some" sLSome ["bag", "things"]) (F1 : Kn P w K mg base 1 "_law_take" ["bag", "many"] (spLTake K)) : Kn P w K mg base 2 "_law_some" ["bag", "things"] (spLSome K) := by
  refine D.kn scLSome (fun vs H Q E h => ?_) (fun f cdv A outer s H vs Q E hr h => ?_)
  · obtain ⟨B, C, X, cs, a, b, c, xs, rfl, _⟩ := h
    rfl
  · obtain ⟨B, C, X, cs, a, b, c, xs, rfl, hB, hX, hne, h1, h2, q⟩ := h
    refine ⟨_, pss_one (ps_ret (pe_ix ix_list (pv 1) (pe_kn F1 hr (pa_cons (pv 0) (pa_cons (pe_callB call_len_seq (by rfl) T.len PySem.boot_len (pa_cons (pv 1) pa_nil)) pa_nil))) (fun _ _ => rfl))), ?_⟩
    refine ⟨.ref X, rfl, .ref B, rfl, .ref X, rfl, X, xs, rfl, .inl (SqL.of hX), B, C, cs, a, b, c, xs.length, rfl, hB, h1, by omega, fun n a' b' c' H1 hn sm ex hB' => ?_⟩
    exact ⟨X, xs, n, xs[n], rfl, rfl, SqL.of (sm _ _ hne hX), atI_nat (List.getElem?_eq_getElem hn), q n xs[n] a' b' c' H1 (List.getElem?_eq_getElem hn) sm ex hB'⟩
/-- the outcomes, the law's way -/
theorem k_law_outcomes (T : Tx K mg) (D : Df K mg "_law_outcomes" sLOutcomes ["thing", "state", "call"]) :
    Kn P w K mg base 1 "_law_outcomes" ["thing", "state", "call"] (spOutcomesOf K) := by
  refine D.kn scLOutcomes (fun vs H Q E h => ?_) (fun f cdv A outer s H vs Q E hr h => ?_)
  · obtain ⟨T, v, u, s, c, rfl, _⟩ := h
    rfl
  · obtain ⟨Z, v, u, s, c, rfl, hv, hZ, hs, hu, hc, q⟩ := h
    refine ⟨_, pss_one (ps_ret (pe_ix ix_n (pe_ix ix_n (pe_ix ix_t1 (pv 0) pe_int (fun _ _ => rfl)) (pv 1) (fun _ _ => rfl)) (pe_idx (pe_ix ix_t0 (pv 0) pe_int (fun _ _ => rfl)) (pv 2) hr.units) (fun _ _ => rfl))), ?_⟩
    obtain ⟨st, lot, h1, h2, h3⟩ := Th.out_at hZ hs hc
    refine ⟨v, rfl, Z, hv, rfl, fun y hy => ⟨.int s, rfl, _, s, eSt st, hy, rfl, by rw [List.getElem?_map, h1]; rfl, fun y2 hy2 => ?_⟩⟩
    refine ⟨v, rfl, Z, hv, rfl, fun y3 hy3 => ⟨_, hy3, u, rfl, eC c, hy3, hu, List.mem_map_of_mem hc, by simp [eC, NestedKey.depth, NestedKey.depthAll], ?_⟩⟩
    refine ⟨_, _, .tup (lot.map eO), hy2, rfl, ?_, fun z hz => ?_⟩
    · rw [idxOf_eC, List.getElem?_map, h2]
      rfl
    · rw [h3] at hz
      exact q z H (Same.refl _) hz
theorem k_law_hand_key (T : Tx K mg) (D : Df K mg "_law_hand_key" sLHandKey ["what"]) : Kn P w K mg base 1 "_law_hand_key" ["what"] (spHandKey K) := by
  refine D.kn scLHandKey (fun vs H Q E h => ?_) (fun f cdv A outer s H vs Q E hr h => ?_)
  · obtain ⟨v, x, rfl, _⟩ := h
    rfl
  · obtain ⟨v, x, rfl, hv, hx, q⟩ := h
    refine ⟨_, pss_cons (ps_if (pt_cmp (pc_isN (pv 0))) (pss_one (ps_ret (pe_tupN (pa_cons pe_int pa_nil)))) pss_nil)
      (pss_one (ps_ret (pe_ifExp (pt_cmpR (op_eqN hr.units) (pe_ix ix_n (pv 0) pe_int (fun _ _ => rfl)) pe_str (nomark _))
        (pe_op op_catN (pe_tupN (pa_cons pe_int pa_nil)) (pe_slice sl_n (pv 0) (po_some pe_int) po_none)) (pe_tupN (pa_cons pe_int (pa_cons (pe_ix ix_n (pv 0) pe_int (fun _ _ => rfl)) pa_nil)))))), ?_⟩
    have s1 : PyData.strOk "asks" = true := by decide +kernel
    cases x with
    | idle =>
      cases hv
      refine ⟨.non, rfl, true, rfl, iteT ?_⟩
      exact ⟨[.num 0], .one (.int 0), by decide, fun z H1 s1 hz => q z H1 s1 hz⟩
    | asks c =>
      obtain ⟨a, xs, rfl, hs, hr2⟩ := hv.tup_inv
      refine ⟨.ref a, rfl, false, rfl, iteF ?_⟩
      refine ⟨.ref a, rfl, _, 0, _, hv, rfl, rfl, fun y hy => ?_⟩
      refine ⟨.text "asks", .text "asks", hy, .str _ s1, by decide, _, rfl, iteT ?_⟩
      refine ⟨[.num 1], .one (.int 1), by decide, fun z1 H1 s1 hz1 => ?_⟩
      refine ⟨.ref a, rfl, 1, rfl, _, some 1, none, hv.same s1, rfl, rfl, fun y2 H2 s2 hy2 => ?_⟩
      exact ⟨_, _, hz1.same s2, hy2, by simp [cutK], fun z H3 s3 hz => q z H3 ((s1.trans s2).trans s3) hz⟩
    | has r =>
      obtain ⟨a, xs, rfl, hs, hr2⟩ := hv.tup_inv
      refine ⟨.ref a, rfl, false, rfl, iteF ?_⟩
      refine ⟨.ref a, rfl, _, 0, _, hv, rfl, rfl, fun y hy => ?_⟩
      have nh : decide ((NestedKey.text "has") = .text "asks") = false := by decide +kernel
      refine ⟨.text "has", .text "asks", hy, .str _ s1, by decide, _, rfl, ?_⟩
      rw [nh]
      refine iteF ?_
      refine ⟨.ref a, rfl, _, 1, _, hv, rfl, rfl, fun y hy => ?_⟩
      exact ⟨[.num 2, .num r], .two (.int 2) hy, by simp, fun z H1 s1 hz => q z H1 s1 hz⟩
/-- the bag of a script -/
def spLBag (K : PySem.W.Frag) : Sp := fun vs H Q _ => ∃ (S : Addr) (ns : List Int), vs = [.ref S] ∧ SqL K H S (ns.map V.int) ∧ ∀ (B C : Addr) (cs : List Int) H', H B = none → H C = none → Same H H' → Bag H' B C cs 0 1234567891 0 → Q (.ref B) H'
theorem k_law_bag (T : Tx K mg) (D : Df K mg "_law_bag" sLBag ["script"]) : Kn P w K mg base 1 "_law_bag" ["script"] (spLBag K) := by
  refine D.kn scLBag (fun vs H Q E h => ?_) (fun f cdv A outer s H vs Q E hr h => ?_)
  · obtain ⟨S, ns, rfl, _⟩ := h
    rfl
  · obtain ⟨S, ns, rfl, hS, q⟩ := h
    refine ⟨_, pss_one (ps_ret (pe_lst (pa_cons pe_int (pa_cons pe_int (pa_cons pe_int (pa_cons
      (pe_lc (own := [("cell", 1)]) (g := gName 1) (tt := tYes) rfl scLBag.nd (pi_list (pe_slice sl_list (pv 0) po_none (po_some pe_int))) (blkOk_by (N := ["script", "cell"]) (sc := defScope sLBag) (by decide +kernel)) (fun _ _ _ _ _ => pg_name (i := 1) scLBag.nd rfl (Or.inl rfl)) (fun _ _ _ _ _ => pts_nil)
          (fun _ _ _ _ _ => pe_callB call_abs (by rfl) T.abs boot_abs (pa_cons (pv 1) pa_nil))) pa_nil)))))), ?_⟩
    refine ⟨.ref S, rfl, 63, rfl, S, _, rfl, hS, fun L nL => ?_⟩
    obtain ⟨ds, hds, lds⟩ : ∃ ds : List Int, cutV (ns.map V.int) none (some 63) = ds.map V.int ∧ ds.length ≤ 63 := by
      have l := cutV_length (ns.map V.int) none (some 63)
      have e : cutV (ns.map V.int) none (some 63) = (ns.map V.int).take 63 := (cutV_nat (ns.map V.int) none (some 63)).trans (by simp [cutX])
      exact ⟨ns.take 63, by rw [e, List.map_take], by rw [List.length_take]; omega⟩
    rw [hds]
    have sL := same_upd (o := .lst (ds.map V.int)) nL
    have hL1 : upd H L (.lst (ds.map V.int)) L = some (.lst (ds.map V.int)) := upd_same
    generalize upd H L (.lst (ds.map V.int)) = H1 at *
    refine ⟨L, rfl, ⟨_, SqL.of hL1⟩, fun C nC => ?_⟩
    refine lc_acc (K := K) (walk_list (xs := ds.map V.int)) nC (by rw [List.length_map]; omega) (fun H2 s2 => s2.seq (SqL.of hL1)) (fun i acc _ => ∃ es : List Int, acc = es.map V.int ∧ es.length = i) (fun _ _ _ _ _ h => h) ⟨[], rfl, rfl⟩ (fun i x H2 H3 acc k k0 hi sm eD hr2 hy hk _ => ?_) fun H2 acc sm eD hr2 => ?_
    · obtain ⟨rfl, hx⟩ := hy
      rw [List.getElem?_map] at hx
      obtain ⟨z, hz, rfl⟩ := Option.map_eq_some_iff.mp hx
      obtain ⟨es, rfl, le⟩ := hr2
      refine ⟨rfl, lc_yes ?_⟩
      refine ⟨.int z, rfl, z, rfl, hk _ _ (Same.refl _) ⟨es ++ [if z < 0 then -z else z], by simp, by simp [le]⟩⟩
    · obtain ⟨es, rfl, le⟩ := hr2
      rw [List.length_map] at le
      refine ⟨by show 4 ≤ sizeLine; decide, fun B nB => ?_⟩
      have sB := same_upd (o := .lst [.int 0, .int 1234567891, .int 0, .ref C]) nB
      have nCB : C ≠ B := fun e => by
        rw [← e, eD] at nB
        cases nB
      exact q B C es _ ((sL.trans sm).free nB) (sL.free nC) ((sL.trans sm).trans sB) ⟨upd_same, sB _ _ eD, nCB, by omega⟩
end
end M

namespace M
open PySem PySem.Spec PyProof.Rows L2
section
variable {P : Program} {w : World} {K : PySem.W.Frag} {mg : Str → Option Value} {base : Heap}
theorem scIsMoment : FnScope ["value", "ends", "one"] ["value", "ends"] (defScope sIsMoment) := ⟨rfl, rfl, rfl, by decide +kernel, rfl, by decide +kernel, by decide +kernel⟩
/-- a moment of a row's call that its result allows -/
def spIsMoment (K : PySem.W.Frag) : Sp := fun vs H Q _ => ∃ (z : V) (p : Addr) (kvs : List (L2.Key × V)) (row : Row) (n k r : Nat), vs = [z, .ref p] ∧ At K H z (eM (2 * k, r)) ∧ H p = some (.dK kvs) ∧ Ends K H kvs row n ∧ k < n ∧ letsK row k r = true ∧ ∀ H', Same H H' → Q (.bl true) H'
theorem k_is_moment (T : Tx K mg) (D : Df K mg "is_moment" sIsMoment ["value", "ends"]) (F1 : Kn P w K mg base 1 "is_integer" ["thing"] spIsInt) : Kn P w K mg base 2 "is_moment" ["value", "ends"] (spIsMoment K) := by
  refine D.kn scIsMoment (fun vs H Q E h => ?_) (fun f cdv A outer s H vs Q E hr h => ?_)
  · obtain ⟨z, p, kvs, row, n, k, r, rfl, _⟩ := h
    rfl
  · obtain ⟨z, p, kvs, row, n, k, r, rfl, hz, hp, he, hk, hl, q⟩ := h
    refine ⟨_, pss_cons (ps_if (PW.pt (pw_or (pt_not (pt_val (pe_isi (T := "tuple") (pv 0) T.isi T.tuple (by decide +kernel)))) (pw_or (pt_cmpR op_ne (pe_callB len_n (by rfl) T.len PySem.boot_len (pa_cons (pv 0) pa_nil)) pe_int (nomark _))
        (pw_or1 (pt_not (pt_val (pe_callB (cr_all rfl) (by rfl) T.all (by decide +kernel) (pa_cons
          (pe_lc (own := [("one", 2)]) (g := gName 2) (tt := tYes) rfl scIsMoment.nd (pi_tup (pv 0)) (blkOk_by (N := ["value", "ends", "one"]) (sc := defScope sIsMoment) (by decide +kernel)) (fun _ _ _ _ _ => pg_name (i := 2) scIsMoment.nd rfl (Or.inl rfl)) (fun _ _ _ _ _ => pts_nil)
            (fun _ _ _ _ _ => pe_kn F1 hr (pa_cons (pv 2) pa_nil))) pa_nil)))))))) (pss_one (ps_ret pe_bl)) pss_nil)
      (pss_one (ps_ret (pe_and (pe_cmp (pc_din (hu_of hr) (pe_ix ix_n (pv 0) pe_int (fun _ _ => rfl)) (pv 1)))
        (pe_one (pe_cmpR (op_inN hr.units) (pe_ix ix_n (pe_dget (hu_of hr) (pv 1) (pe_ix ix_n (pv 0) pe_int (fun _ _ => rfl)) (fun _ _ => rfl)) pe_int (fun _ _ => rfl)) (pe_tupN (pa_cons pe_non (pa_cons (pe_ix ix_n (pv 0) pe_int (fun _ _ => rfl)) pa_nil))) (by rfl)))))), ?_⟩
    obtain ⟨a, y1, y2, rfl, hs, g1, g2⟩ := two_inv hz
    obtain rfl := g1.num_inv
    obtain rfl := g2.num_inv
    refine ⟨.ref a, rfl, .ref a, .ty "tuple", .type "tuple", .type "tuple", true, rfl, .ty _, tyx_tup hz, by rfl, true, rfl, iteF ?_⟩
    refine ⟨.ref a, rfl, .ref a, _, rfl, hz.seq, rfl, false, rfl, iteF ?_⟩
    refine ⟨.ref a, rfl, a, rfl, ⟨_, hs⟩, fun D nD => ?_⟩
    refine lc_acc (K := K) (walk_tup (xs := [V.int ((2 * k : Nat) : Int), V.int (r : Int)])) nD (by simp) (fun H1 s1 => Ext.of_same s1 _ _ hs) (fun i acc _ => acc = List.replicate i (.bl true)) (fun _ _ _ _ _ h => h) rfl (fun i x H1 H2 acc k1 k0 hi sm eD hr2 hy hk2 _ => ?_) fun H1 acc sm eD hr2 => ?_
    · obtain ⟨rfl, hx⟩ := hy
      have : ∃ j : Int, x = .int j := by
        match i, hx with
        | 0, e => exact ⟨_, (Option.some.inj e).symm⟩
        | 1, e => exact ⟨_, (Option.some.inj e).symm⟩
      obtain ⟨j, rfl⟩ := this
      refine ⟨rfl, lc_yes ?_⟩
      refine ⟨.int j, rfl, j, rfl, hk2 _ _ (Same.refl _) ?_⟩
      rw [hr2, List.replicate_succ']
    · subst hr2
      refine ⟨D, [true, true], rfl, SqL.of eD, true, rfl, iteF ?_⟩
      have hz1 := hz.same sm
      obtain ⟨v, hv, hva⟩ := (he.ext (.of_same sm)).at_ k hk
      have hg : DGet H1 p (.int ((2 * k : Nat) : Int)) (some v) := by
        rw [← hv]
        exact DGet.k (k := iK (2 * k)) (sm _ _ hp)
      refine ⟨.ref a, rfl, _, 0, .num ((2 * k : Nat) : Int), hz1, rfl, rfl, fun y hy => ?_⟩
      obtain rfl := hy.num_inv
      refine ⟨.ref p, rfl, p, some v, rfl, hg, true, rfl, ?_⟩
      obtain ⟨k1, l1, ek, rk⟩ := endK_rowK row k
      have hl1 : l1 = .none ∨ l1 = .num r := by
        unfold letsK at hl
        unfold endK at ek
        cases hrk : row[k]? with
        | none =>
          rw [hrk] at ek
          injection ek with ek
          injection ek with e1 e2
          injection e2 with e2 _
          exact .inl e2.symm
        | some pp =>
          rw [hrk] at ek hl
          injection ek with ek
          injection ek with e1 e2
          injection e2 with e2 _
          have := of_decide_eq_true hl
          rw [← e2, this]
          exact .inr rfl
      rw [ek] at hva
      refine ⟨.ref p, rfl, .ref a, rfl, _, 0, .num ((2 * k : Nat) : Int), hz1, rfl, rfl, fun y hy => ?_⟩
      obtain rfl := hy.num_inv
      refine ⟨p, v, rfl, hg, _, 1, l1, hva, rfl, rfl, fun y hy => ?_⟩
      refine ⟨.ref a, rfl, _, 1, .num (r : Int), hz1, rfl, rfl, fun y2 hy2 => ⟨[.none, .num r], .two .non hy2, by simp, fun w0 H3 s3 hw => ?_⟩⟩
      refine ⟨l1, [.none, .num r], hy.same s3, hw.seq, by rcases hl1 with e | e <;> (subst e; simp [NestedKey.depth]), ?_⟩
      refine q_bl ?_ (q H3 (sm.trans s3))
      rw [Bool.false_xor]
      rcases hl1 with e | e <;> (subst e; simp)
end
end M

namespace M
open PySem PySem.Spec PyProof.Rows L2
section
variable {P : Program} {w : World} {K : PySem.W.Frag} {mg : Str → Option Value} {base : Heap}
theorem scIsTimeKept : FnScope ["order", "ends", "at", "index", "result", "later", "other"] ["order", "ends"] (defScope sIsTimeKept) := ⟨rfl, rfl, rfl, by decide +kernel, rfl, by decide +kernel, by decide +kernel⟩
/-- moments of a row that ascend -/
structure Ms (ms : List (Nat × Nat)) (n : Nat) : Prop where
  asc : (ms.map (·.1)).Pairwise (· < ·)
  at_ : ∀ m ∈ ms, ∃ k, k < n ∧ m.1 = 2 * k
  few : ms.length ≤ 100
def spIsTimeKept (K : PySem.W.Frag) : Sp := fun vs H Q _ => ∃ (z : V) (p : Addr) (kvs : List (L2.Key × V)) (row : Row) (n : Nat) (ms : List (Nat × Nat)), vs = [z, .ref p] ∧ At K H z (.tup (ms.map eM)) ∧ H p = some (.dK kvs) ∧ Ends K H kvs row n ∧ Ms ms n ∧ ∀ H', Same H H' → Q (.bl true) H'
theorem k_is_time_kept (T : Tx K mg) (D : Df K mg "is_time_kept" sIsTimeKept ["order", "ends"]) : Kn P w K mg base 1 "is_time_kept" ["order", "ends"] (spIsTimeKept K) := by
  refine D.kn scIsTimeKept (fun vs H Q E h => ?_) (fun f cdv A outer s H vs Q E hr h => ?_)
  · obtain ⟨z, p, kvs, row, n, ms, rfl, _⟩ := h
    rfl
  · obtain ⟨z, p, kvs, row, n, ms, rfl, hz, hp, he, hm, q⟩ := h
    refine ⟨_, pss_cons (ps_for PassesOwn.never rfl (pi_enumT (by rfl) T.enumerate (pa_cons (pv 0) pa_nil)) (pg_tup rfl (pgs_cons (pg_name (i := 2) scIsTimeKept.nd rfl (Or.inl rfl)) (pgs_cons (pg_tup rfl (pgs_cons (pg_name (i := 3) scIsTimeKept.nd rfl (Or.inl rfl)) (pgs_cons (pg_name (i := 4) scIsTimeKept.nd rfl (Or.inl rfl)) pgs_nil))) pgs_nil)))
        (pss_one (ps_for PassesOwn.never rfl (pi_tup (pe_slice sl_n (pv 0) (po_some (pe_op op_add (pv 2) pe_int)) po_none)) (pg_tup rfl (pgs_cons (pg_name (i := 5) scIsTimeKept.nd rfl (Or.inl rfl)) (pgs_cons (pg_name (i := 6) scIsTimeKept.nd rfl (Or.inl rfl)) pgs_nil)))
          (pss_one (ps_if (PW.pt (pw_and (pt_cmp (pc_notN (pe_ix ix_n (pe_dget (hu_of hr) (pv 1) (pv 5) (fun _ _ => rfl)) pe_int (fun _ _ => rfl)))) (pw_and1 (pt_cmpR op_lt (pe_ix ix_n (pe_dget (hu_of hr) (pv 1) (pv 5) (fun _ _ => rfl)) pe_int (fun _ _ => rfl)) (pv 3) (nomark _)))))
            (pss_one (ps_ret pe_bl)) pss_nil)))))
      (pss_one (ps_ret pe_bl)), ?_⟩
    obtain ⟨a, xs, rfl, hs, ha⟩ := id hz.tup_inv
    have lx : xs.length = ms.length := by rw [ha.length, List.length_map]
    refine ⟨.ref a, rfl, a, xs, rfl, hs, ?_⟩
    refine for_it (walk_enumT (xs := xs)) (fun i σ H' => ∃ p2 p3 p4 p5 p6, σ = [some (.ref a), some (.ref p), p2, p3, p4, p5, p6] ∧ Same H H') ?_ ?_ ?_ ?_
    · exact ⟨_, _, _, _, _, rfl, Same.refl _⟩
    · rintro i σ H4 _ ⟨_, _, _, _, _, _, h1⟩
      exact Ext.of_same h1 _ _ hs
    · rintro i z σ H4 _ hi ⟨p2, p3, p4, p5, p6, rfl, sm4⟩ ⟨Tp, z1, z2, rfl, nT, rfl, e1, e2⟩
      obtain rfl : V.int (i : Nat) = z1 := Option.some.inj e1
      have sT : Same H4 (upd H4 Tp (.tup [.int (i : Nat), z2])) := same_upd nT
      have hT : SqT K (upd H4 Tp (.tup [.int (i : Nat), z2])) Tp [.int (i : Nat), z2] := SqT.of upd_same
      have sm5 := sm4.trans sT
      generalize upd H4 Tp (.tup [.int (i : Nat), z2]) = H5 at *
      obtain ⟨⟨m1, m2⟩, hmi, hzm⟩ := ats_map (ha.same sm5) e2
      obtain ⟨a3, y1, y2, rfl, hs3, k1, k2⟩ := two_inv hzm
      obtain rfl := k1.num_inv
      obtain rfl := k2.num_inv
      refine ⟨Tp, _, rfl, hT, rfl, _, _, rfl, _, _, rfl, a3, _, rfl, hs3, rfl, _, _, rfl, _, _, rfl, rfl, rfl, ?_⟩
      refine ⟨.ref a, rfl, .int (i : Nat), rfl, i, 1, rfl, rfl, _, rfl, ms.map eM, some (i + 1), none, hz.same sm5, rfl, rfl, fun yc H6 s6 hyc => ?_⟩
      have hyc : At K H6 yc (.tup ((ms.drop (i + 1)).map eM)) := by
        rw [List.map_drop]
        exact hyc
      obtain ⟨ac, xc, rfl, hsc, hac⟩ := hyc.tup_inv
      have sm6 := sm5.trans s6
      refine ⟨ac, rfl, ⟨_, hsc⟩, ?_⟩
      refine for_it (walk_tup (xs := xc)) (fun j σ H' => ∃ p5 p6, σ = [some (.ref a), some (.ref p), some (.int (i : Nat)), some (.int (m1 : Nat)), some (.int (m2 : Nat)), p5, p6] ∧ Same H H' ∧ Ext K H6 H') ?_ ?_ ?_ ?_
      · exact ⟨_, _, rfl, sm6, Ext.refl _⟩
      · rintro j σ H7 _ ⟨_, _, _, _, h1⟩
        exact h1 _ _ hsc
      · rintro j x σ H7' H7 hj ⟨p5, p6, rfl, sm7, ex7⟩ ⟨eH, hx⟩
        subst eH
        obtain ⟨⟨l1, l2⟩, hl, hxl⟩ := ats_map (hac.ext ex7) hx
        obtain ⟨a4, y1, y2, rfl, hs4, g1, g2⟩ := two_inv hxl
        obtain rfl := g1.num_inv
        obtain rfl := g2.num_inv
        rw [List.getElem?_drop] at hl
        have lt : m1 < l1 := by
          have h1 := (List.getElem?_eq_some_iff.mp hmi)
          have h2 := (List.getElem?_eq_some_iff.mp hl)
          have := List.pairwise_iff_getElem.mp hm.asc i (i + 1 + j) (by rw [List.length_map]; exact h1.1) (by rw [List.length_map]; exact h2.1) (by omega)
          rw [List.getElem_map, List.getElem_map, h1.2, h2.2] at this
          exact this
        obtain ⟨k, hk, e⟩ := hm.at_ _ (List.mem_of_getElem? hl)
        have e : l1 = 2 * k := e
        subst e
        have en7 := he.ext (.of_same sm7)
        obtain ⟨v, hv, hva⟩ := en7.at_ k hk
        have hg : DGet H7 p (.int ((2 * k : Nat) : Int)) (some v) := by
          rw [← hv]
          exact DGet.k (k := iK (2 * k)) (sm7 _ _ hp)
        refine ⟨a4, _, rfl, hs4, rfl, _, _, rfl, _, _, rfl, rfl, ?_⟩
        unfold endK at hva
        cases hrk : row[k]? with
        | none =>
          rw [hrk] at hva
          refine ⟨.ref p, rfl, _, rfl, p, v, rfl, hg, _, 0, .none, hva, rfl, rfl, fun y hy => ?_⟩
          rw [hy.none_inv]
          exact ⟨false, rfl, iteF ⟨_, _, rfl, sm7, ex7⟩⟩
        | some pp =>
          rw [hrk] at hva
          refine ⟨.ref p, rfl, _, rfl, p, v, rfl, hg, _, 0, _, hva, rfl, rfl, fun y hy => ?_⟩
          obtain rfl := hy.num_inv
          refine ⟨true, rfl, ?_⟩
          refine ⟨.ref p, rfl, _, rfl, p, v, rfl, hg, _, 0, _, hva, rfl, rfl, fun y hy => ?_⟩
          obtain rfl := hy.num_inv
          refine ⟨_, rfl, _, _, rfl, rfl, _, rfl, ?_⟩
          rw [decide_eq_false (by omega)]
          exact iteF ⟨_, _, rfl, sm7, ex7⟩
      · rintro σ H7 ⟨p5, p6, rfl, sm7, ex7⟩
        exact ⟨_, _, _, _, _, rfl, sm7⟩
    · rintro σ H4 ⟨p2, p3, p4, p5, p6, rfl, sm4⟩
      exact q H4 sm4
end
end M

/-! d != {}, keys ints or texts -/
namespace M
open PySem PySem.Spec PyProof.Rows L2
section
variable {X : Cx}
theorem dk_zero {pins : List (Addr × Obj)} {σ : L2.St} {H : Hp} {s : Shared} {d : Addr} {kvs : List (L2.Key × V)} (I : Inv X pins σ H s) (g : H d = some (.dK kvs)) : ∃ es ep, (d == sysModules) = false ∧ s.heap.DictRaw d es ep ∧ (es.size == 0) = decide (kvs = []) := by
  obtain ⟨z, l, vs, r, o, es, ep, ho, hx, hd, hk, hp, nd⟩ := dk_of I.hok g
  refine ⟨es, ep, l, ⟨o, ho, hx, hd⟩, ?_⟩
  have e1 := r.length
  have e2 := hp.length
  rw [Array.length_toList] at e2
  cases kvs with
  | nil =>
    have : es.size = 0 := by simp at e1; omega
    simp [this]
  | cons a b =>
    have : es.size ≠ 0 := by simp at e1; omega
    simp [this]
def rNeE : R2 := fun x y H Q => ∃ a b kvs, x = .ref a ∧ y = .ref b ∧ H a = some (.dK kvs) ∧ H b = some (.dK []) ∧ Q (.bl (!decide (kvs = []))) H
theorem op_neEK (hu : X.A.units + 64 < cLine) : OpR X (compareOp .NotEq) rNeE := fun pins s σ H x y v u Q I rx ry h => by
  obtain ⟨a, b, kvs, rfl, rfl, ga, gb, q⟩ := h
  cases rx
  cases ry
  obtain ⟨es, ep, l1, r1, z1⟩ := dk_zero I ga
  obtain ⟨es', ep', l2, r2, z2⟩ := dk_zero I gb
  obtain rfl : es' = #[] := Array.size_eq_zero_iff.mp (by simpa using z2)
  refine ne_empty l1 l2 r1 r2 (by omega) ⟨.bl _, H, I, rfl, ?_⟩
  rw [z1]
  exact q
end
end M

namespace M
open PySem PySem.Spec PyProof.Rows L2
/-- the moments of a row -/
def mom (row : Row) : List (Nat × Nat) := (List.range row.length).map fun i => (2 * i, ((row[i]?).map (·.2)).getD 0)
theorem mom_len (row : Row) : (mom row).length = row.length := by simp [mom]
theorem mom_at {row : Row} {i : Nat} {m : Nat × Nat} (h : (mom row)[i]? = some m) : ∃ p, row[i]? = some p ∧ m = (2 * i, p.2) := by
  have hi : i < row.length := by
    have := (List.getElem?_eq_some_iff.mp h).1
    rwa [mom_len] at this
  refine ⟨row[i], List.getElem?_eq_getElem hi, ?_⟩
  unfold mom at h
  rw [List.getElem?_map, List.getElem?_range hi] at h
  rw [← Option.some.inj h]
  simp [hi]
theorem mom_ms {row : Row} {n : Nat} (h : row.length ≤ n) (h4 : row.length ≤ 40) : Ms (mom row) n := by
  refine ⟨?_, fun m hm => ?_, by rw [mom_len]; omega⟩
  · unfold mom
    rw [List.map_map, List.pairwise_map]
    exact List.pairwise_lt_range.imp fun {a b} h => by simp only [Function.comp]; omega
  · obtain ⟨i, hi⟩ := List.mem_iff_getElem?.mp hm
    obtain ⟨p, hp, rfl⟩ := mom_at hi
    exact ⟨i, by have := (List.getElem?_eq_some_iff.mp hp).1; omega, rfl⟩
section
variable {P : Program} {w : World} {K : PySem.W.Frag} {mg : Str → Option Value} {base : Heap}
theorem scIsOrder : FnScope ["thing", "hands", "history", "value", "ends", "indexes", "states", "index", "result", "nexts", "state", "given", "to", "one"] ["thing", "hands", "history", "value"] (defScope sIsOrder) := ⟨rfl, rfl, rfl, by decide +kernel, rfl, by decide +kernel, by decide +kernel⟩
def spIsOrder (K : PySem.W.Frag) : Sp := fun vs H Q _ => ∃ (T : Th) (v u z : V) (row : Row) (x : Option Call), vs = [v, .int 1, u, z] ∧ Tg K H v T ∧ TOk T ∧ At K H u (.tup ((hist row x).map eE)) ∧ Hs T (hist row x) ∧ row.length ≤ 40 ∧ (∀ c ∈ callsOf row x, c ∈ T.calls) ∧
  At K H z (.tup ((mom row).map eM)) ∧ rowS T row ≠ [] ∧ ∀ H', Same H H' → Q (.bl true) H'
theorem k_is_order (T : Tx K mg) (D : Df K mg "is_order" sIsOrder ["thing", "hands", "history", "value"])
    (F1 : Kn P w K mg base 9 "check_history" ["thing", "hands", "history"] (spCheckHistory K)) (F2 : Kn P w K mg base 1 "spans" ["history"] (spSpans K))
    (F3 : Kn P w K mg base 2 "is_moment" ["value", "ends"] (spIsMoment K)) (F4 : Kn P w K mg base 5 "outcomes_of" ["thing", "state", "call"] (spOutcomesOf K)) (F5 : Kn P w K mg base 1 "is_time_kept" ["order", "ends"] (spIsTimeKept K)) :
    Kn P w K mg base 10 "is_order" ["thing", "hands", "history", "value"] (spIsOrder K) := by
  refine D.kn scIsOrder (fun vs H Q E h => ?_) (fun f cdv A outer s H vs Q E hr h => ?_)
  · obtain ⟨Z, v, u, z, row, x, rfl, _⟩ := h
    rfl
  · obtain ⟨Z, v, u, z, row, x, rfl, hv, hZ, hu, hh, hl, hc, hz, hne, q⟩ := h
    refine ⟨_, pss_cons (ps_expr (pe_kn F1 hr (pa_cons (pv 0) (pa_cons (pv 1) (pa_cons (pv 2) pa_nil)))))
      (pss_cons (ps_set (i := 4) scIsOrder.nd rfl (Or.inr rfl) (pe_kn F2 (hr.mono (by decide)) (pa_cons (pv 2) pa_nil)))
      (pss_cons (ps_if (PW.pt (pw_or (pt_not (pt_val (pe_isi (T := "tuple") (pv 3) T.isi T.tuple (by decide +kernel)))) (pw_or1 (pt_not (pt_val (pe_callB (cr_all rfl) (by rfl) T.all (by decide +kernel) (pa_cons
          (pe_lc (own := [("one", 13)]) (g := gName 13) (tt := tYes) rfl scIsOrder.nd (pi_tup (pv 3)) (blkOk_by (N := ["thing", "hands", "history", "value", "ends", "indexes", "states", "index", "result", "nexts", "state", "given", "to", "one"]) (sc := defScope sIsOrder) (by decide +kernel)) (fun _ _ _ _ _ => pg_name (i := 13) scIsOrder.nd rfl (Or.inl rfl)) (fun _ _ _ _ _ => pts_nil)
            (fun _ _ _ _ _ => pe_kn F3 (hr.mono (by decide)) (pa_cons (pv 13) (pa_cons (pv 4) pa_nil)))) pa_nil))))))) (pss_one (ps_ret pe_bl)) pss_nil)
      (pss_cons (ps_set (i := 5) scIsOrder.nd rfl (Or.inr rfl) (pe_dc (own := [("index", 7), ("result", 8)]) (tt := tYes) rfl scIsOrder.nd (pi_tup (pv 3)) (blkOk_by (N := ["thing", "hands", "history", "value", "ends", "indexes", "states", "index", "result", "nexts", "state", "given", "to", "one"]) (sc := defScope sIsOrder) (by decide +kernel))
          (fun _ _ _ _ _ => pg_tupK (K := K) (n := 2) rfl rfl (pgs_cons (pg_name (i := 7) scIsOrder.nd rfl (Or.inl rfl)) (pgs_cons (pg_name (i := 8) scIsOrder.nd rfl (Or.inl rfl)) pgs_nil))) (fun _ _ _ _ _ => pts_nil) (fun _ _ _ _ _ => pv 7) (fun _ _ _ _ _ => pe_bl)))
      (pss_cons (ps_if (PW.pt (pw_or (pt_cmpR op_lt (pe_callB call_lenD (by rfl) T.len PySem.boot_len (pa_cons (pv 5) pa_nil)) (pe_callB len_n (by rfl) T.len PySem.boot_len (pa_cons (pv 3) pa_nil)) (nomark _)) (pw_or1 (pt_val (pe_callB (cr_any rfl) (by rfl) T.any (by decide +kernel) (pa_cons
          (pe_lock (pe_lc (own := [("index", 7)]) (g := gName 7) (tt := tYes) rfl scIsOrder.nd (pi_keys (pv 4)) (blkOk_by (N := ["thing", "hands", "history", "value", "ends", "indexes", "states", "index", "result", "nexts", "state", "given", "to", "one"]) (sc := defScope sIsOrder) (by decide +kernel)) (fun _ _ _ _ _ => pg_name (i := 7) scIsOrder.nd rfl (Or.inl rfl)) (fun _ _ _ _ _ => pts_nil)
            (fun _ _ _ _ _ => pe_and (pe_cmp (pc_notN (pe_ix (ix_nK (K := K) rfl) (pe_dget (hu_of hr) (pv 4) (pv 7) (fun _ _ => rfl)) pe_int (fun _ _ => rfl)))) (pe_one (pe_cmp (pc_dnotin (hu_of hr) (pv 7) (pv 5))))))) pa_nil)))))) (pss_one (ps_ret pe_bl)) pss_nil)
      (pss_cons (ps_set (i := 6) scIsOrder.nd rfl (Or.inl rfl) (pe_disp (pps_cons pe_int pe_bl pps_nil) rfl rfl (by simp) (by decide)))
      (pss_cons (ps_for PassesOwn.never rfl (pi_tup (pv 3)) (pg_tup rfl (pgs_cons (pg_name (i := 7) scIsOrder.nd rfl (Or.inl rfl)) (pgs_cons (pg_name (i := 8) scIsOrder.nd rfl (Or.inl rfl)) pgs_nil)))
        (pss_cons (ps_set (i := 9) scIsOrder.nd rfl (Or.inl rfl) pe_dnewK)
        (pss_cons (ps_lock (ps_for PassesOwn.never rfl (pi_keys (pv 6)) (pg_name (i := 10) scIsOrder.nd rfl (Or.inl rfl))
          (pss_one (ps_for PassesOwn.never rfl (pi_tup (pe_kn F4 (hr.mono (by decide)) (pa_cons (pv 0) (pa_cons (pv 10) (pa_cons (pe_slice sl_n (pe_ix ix_n (pv 2) (pv 7) (fun _ _ => rfl)) (po_some pe_int) po_none) pa_nil))))) (pg_tup rfl (pgs_cons (pg_name (i := 11) scIsOrder.nd rfl (Or.inl rfl)) (pgs_cons (pg_name (i := 12) scIsOrder.nd rfl (Or.inl rfl)) pgs_nil)))
            (pss_one (ps_if (pt_cmpR op_eq (pv 11) (pv 8) (nomark _)) (pss_one (ps_dput (hu_of hr) (pv 9) (pv 12) pe_bl rfl)) pss_nil))))))
        (pss_one (ps_set (i := 6) scIsOrder.nd rfl (Or.inl rfl) (pv 9))))))
      (pss_one (ps_ret (pe_and (pe_cmpR (op_neEK hr.units) (pv 6) pe_dnewK (nomark _)) (pe_one (pe_kn F5 (hr.mono (by decide)) (pa_cons (pv 3) (pa_cons (pv 4) pa_nil))))))))))))), ?_⟩
    have lc2 : row.length ≤ (callsOf row x).length := by
      unfold callsOf
      rw [List.length_append, List.length_map]
      omega
    have lc1 : (callsOf row x).length ≤ row.length + 1 := by
      unfold callsOf
      rw [List.length_append, List.length_map]
      cases x <;> simp
    refine ⟨v, rfl, .int 1, rfl, u, rfl, Z, v, u, _, rfl, hv, hZ, hu, hh, fun H1 s1 => ?_⟩
    refine ⟨u, rfl, u, row, x, rfl, hu.same s1, hl, fun p kvs H2 np s2 hp2 he2 => ?_⟩
    have s12 := s1.trans s2
    have hz2 := hz.same s12
    obtain ⟨az, zs, rfl, hzs, hza⟩ := id hz2.tup_inv
    have lz : zs.length = row.length := by rw [hza.length, List.length_map, mom_len]
    have lk : kvs.length = (callsOf row x).length := by
      have := congrArg List.length he2.keys
      simpa using this
    refine ⟨.ref az, rfl, .ref az, .ty "tuple", .type "tuple", .type "tuple", true, rfl, .ty _, tyx_tup hz2, by rfl, true, rfl, iteF ?_⟩
    refine ⟨.ref az, rfl, az, rfl, ⟨_, hzs⟩, fun D nD => ?_⟩
    refine lc_acc (K := K) (walk_tup (xs := zs)) nD (by omega) (fun H3 s3 => Ext.of_same s3 _ _ hzs) (fun i acc _ => acc = List.replicate i (.bl true)) (fun _ _ _ _ _ h => h) rfl (fun i y H3 H4 acc k k0 hi sm eD hr2 hy hk _ => ?_) fun H3 acc sm eD hr2 => ?_
    · obtain ⟨rfl, hx⟩ := hy
      obtain ⟨m, hm, hxm⟩ := ats_map (hza.same sm) hx
      obtain ⟨pp, hpp, rfl⟩ := mom_at hm
      have lt := (List.getElem?_eq_some_iff.mp hpp).1
      refine ⟨rfl, lc_yes ?_⟩
      refine ⟨y, rfl, .ref p, rfl, y, p, kvs, row, _, i, pp.2, rfl, hxm, sm _ _ hp2, he2.ext (.of_same sm), by omega, by unfold letsK; rw [hpp]; exact decide_eq_true rfl, fun H5 s5 => hk _ _ s5 ?_⟩
      rw [hr2, List.replicate_succ']
    · subst hr2
      refine ⟨D, List.replicate zs.length true, rfl, by rw [List.map_replicate]; exact SqL.of eD, true, by simp, iteF ?_⟩
      refine ⟨.ref az, rfl, az, rfl, ⟨_, Ext.of_same sm _ _ hzs⟩, fun D1 nD1 => ?_⟩
      refine idc_it (K := K) (walk_tup (xs := zs)) nD1 (by omega) (fun H4 s4 => Ext.of_same (sm.trans s4) _ _ hzs) (fun j kv => kv.map (·.1) = (List.range j).map fun i => iK (2 * i)) rfl (fun j y H4 H5 kv N0 Nk hj sm4 hD4 hR hy h0 hk => ?_) fun H4 kv4 sm4 hD4 hR4 => ?_
      · obtain ⟨rfl, hx⟩ := hy
        obtain ⟨m, hm, hxm⟩ := ats_map ((hza.same sm).same sm4) hx
        obtain ⟨pp, hpp, rfl⟩ := mom_at hm
        obtain ⟨a2, y1, y2, rfl, hs2, h1, h2⟩ := two_inv hxm
        obtain rfl := h1.num_inv
        refine ⟨a2, _, rfl, hs2, rfl, _, _, rfl, _, _, rfl, rfl, rfl, lc_yes ?_⟩
        refine ⟨_, rfl, hk (iK (2 * j)) _ _ (Same.refl _) ?_⟩
        rw [keysK_put, hR, if_neg fun z => Nat.lt_irrefl _ (iK_mem_range.mp z), range_snoc_map]
      · have sm24 := sm.trans sm4
        have l4 : kv4.length = row.length := by
          have := congrArg List.length hR4
          rw [← lz]
          simpa using this
        refine ⟨.ref D1, rfl, D1, kv4, rfl, hD4, .ref az, rfl, .ref az, _, rfl, (hz2.same sm24).seq, _, _, rfl, rfl, _, rfl, ?_⟩
        rw [decide_eq_false (by rw [List.length_map, mom_len, l4]; omega)]
        refine iteF ?_
        have hp4 := sm24 _ _ hp2
        have he4 := he2.ext (.of_same sm24)
        have ne1 : p ≠ D1 := ne_of_none (sm _ _ hp2) nD1
        refine ⟨p, .dK kvs, hp4, trivial, fun od => ?_⟩
        refine ⟨.ref p, rfl, p, od, rfl, .inl ⟨kvs, upd_same, fun D2 nD2 => ?_⟩⟩
        refine lc_acc (K := K) (walk_keys (kvs := kvs)) nD2 (by omega) (fun H5 s5 => s5 _ _ upd_same) (fun i acc _ => acc = List.replicate i (.bl false)) (fun _ _ _ _ _ h => h) rfl (fun i y H6 H5 acc k k0 hi sm5 eD5 hr5 hy hkk _ => ?_) fun H5 acc sm5 eD5 hr5 => ?_
        · obtain ⟨rfl, kk, vv, hkv, rfl⟩ := hy
          have hf5 : H5 p = some (.frz od (.dK kvs)) := sm5 _ _ upd_same
          have hD5 : H5 D1 = some (.dK kv4) := sm5 _ _ (by rw [upd_ne (Ne.symm ne1)]; exact hD4)
          have ik : (kvs.map (·.1))[i]? = some kk := by rw [List.getElem?_map, hkv]; rfl
          have iN : i < (callsOf row x).length := by omega
          rw [he2.keys, List.getElem?_map, List.getElem?_range iN] at ik
          obtain rfl := Option.some.inj ik
          have he5 := he4.ext ((Ext.mut (o := .frz od (.dK kvs)) hp4 trivial).trans (.of_same sm5))
          obtain ⟨v2, hv2, hva⟩ := he5.at_ i iN
          have hg : DGet H5 p (.int ((2 * i : Nat) : Int)) (some v2) := .inl ⟨kvs, iK (2 * i), .inr ⟨od, hf5⟩, rfl, hv2.symm⟩
          refine ⟨rfl, lc_yes ?_⟩
          unfold endK at hva
          cases hrk : row[i]? with
          | none =>
            rw [hrk] at hva
            refine ⟨.ref p, rfl, _, rfl, p, v2, rfl, hg, _, 0, .none, hva, rfl, rfl, fun y hy => ?_⟩
            rw [hy.none_inv]
            refine ⟨false, rfl, iteF (hkk _ _ (Same.refl _) ?_)⟩
            rw [hr5, List.replicate_succ']
          | some pp =>
            rw [hrk] at hva
            refine ⟨.ref p, rfl, _, rfl, p, v2, rfl, hg, _, 0, _, hva, rfl, rfl, fun y hy => ?_⟩
            obtain rfl := hy.num_inv
            refine ⟨true, rfl, iteT ?_⟩
            have lt := (List.getElem?_eq_some_iff.mp hrk).1
            have hin : (valV kv4 (iK (2 * i))).isSome = true := by
              obtain ⟨q, hq, e⟩ := List.mem_map.mp (hR4 ▸ iK_mem_range.mpr (by omega) : iK (2 * i) ∈ kv4.map (·.1))
              rw [← valV_any, List.any_eq_true]
              exact ⟨q, hq, decide_eq_true e⟩
            refine ⟨_, rfl, .ref D1, rfl, D1, _, rfl, DGet.k (k := iK (2 * i)) hD5, ?_⟩
            rw [hin]
            refine hkk _ _ (Same.refl _) ?_
            rw [hr5, List.replicate_succ']
            rfl
        · subst hr5
          have hf5 : H5 p = some (.frz od (.dK kvs)) := sm5 _ _ upd_same
          refine ⟨hf5, D2, List.replicate kvs.length false, rfl, ?_, false, by simp, iteF ?_⟩
          · have ne2 : D2 ≠ p := fun e => by
              rw [e, upd_same] at nD2
              cases nD2
            rw [List.map_replicate]
            exact SqL.of (by rw [upd_ne ne2]; exact eD5)
          · have sm6 : Same H2 (upd H5 p (.dK kvs)) := fun b o e => by
              by_cases c : b = p
              · subst c
                rw [upd_same, ← e]
                exact hp2.symm
              · rw [upd_ne c]
                refine sm5 _ _ ?_
                rw [upd_ne c]
                exact sm24 _ _ e
            generalize upd H5 p (.dK kvs) = H6 at *
            have smH := s12.trans sm6
            refine fun S nS => ⟨upd_same, [(iK 0, .bl true)], rfl, by decide, ?_⟩
            have e1 : upd (upd H6 S (.dK [])) S (.dK (mergeK [] [(iK 0, .bl true)])) S = some (.dK [(iK 0, .bl true)]) := upd_same
            have sS : Same H6 (upd (upd H6 S (.dK [])) S (.dK (mergeK [] [(iK 0, .bl true)]))) := fun b o e => by
              rw [upd_ne (ne_of_none e nS), upd_ne (ne_of_none e nS)]
              exact e
            generalize upd (upd H6 S (.dK [])) S (.dK (mergeK [] [(iK 0, .bl true)])) = H7 at *
            have hz6 := hza.same sm6
            refine ⟨.ref az, rfl, az, rfl, ⟨_, Ext.of_same (sm6.trans sS) _ _ hzs⟩, ?_⟩
            refine for_it (walk_tup (xs := zs)) (fun j σ H' => ∃ (S : Addr) (p7 p8 p9 p10 p11 p12 p13 : Option V), σ = [some v, some (.int 1), some u, some (.ref az), some (.ref p), some (.ref D1), some (.ref S), p7, p8, p9, p10, p11, p12, p13] ∧ Same H6 H' ∧ H6 S = none ∧ ∃ kv ls, H' S = some (.dK kv) ∧ IKs kv ls ∧ ∀ b, b ∈ ls ↔ b ∈ rowS Z (row.take j)) ?_ ?_ ?_ ?_
            · refine ⟨S, none, none, none, none, none, none, none, rfl, sS, nS, _, [0], e1, ⟨rfl, by simp⟩, fun b => by simp [rowS]⟩
            · rintro j σ H8 _ ⟨_, _, _, _, _, _, _, _, _, h1, _⟩
              exact Ext.of_same (sm6.trans h1) _ _ hzs
            · rintro j y σ H8' H8 hj ⟨S, p7, p8, p9, p10, p11, p12, p13, rfl, sm8, nS, kv, ls, hS8, hk8, hm8⟩ ⟨eH, hy⟩
              subst eH
              obtain ⟨m, hm, hxm⟩ := ats_map (hz6.same sm8) hy
              obtain ⟨pp, hpp, rfl⟩ := mom_at hm
              have lt := (List.getElem?_eq_some_iff.mp hpp).1
              obtain ⟨a2, y1, y2, rfl, hs2, g1, g2⟩ := two_inv hxm
              obtain rfl := g1.num_inv
              obtain rfl := g2.num_inv
              refine ⟨a2, _, rfl, hs2, rfl, _, _, rfl, _, _, rfl, rfl, ?_⟩
              refine fun N0 nN => ?_
              have sN : Same H8 (upd H8 N0 (.dK [])) := same_upd nN
              have hN9 : upd H8 N0 (.dK []) N0 = some (.dK []) := upd_same
              have sm9 := sm8.trans sN
              have hS9 := sN _ _ hS8
              have nN6 : H6 N0 = none := sm8.free nN
              have neN : N0 ≠ S := (ne_of_none hS8 nN).symm
              generalize upd H8 N0 (.dK []) = H9 at *
              have hcc := calls_row (x := x) hpp
              have hcT := hc pp.1 (List.mem_of_getElem? hcc)
              have hsT : ∀ b ∈ ls, b < Z.n := fun b hb => by
                have := (rowS_ok hZ (row.take j)).1 b ((hm8 b).mp hb)
                exact this
              refine ⟨S, .dK kv, hS9, trivial, fun od => ?_⟩
              refine ⟨.ref S, rfl, S, od, rfl, .inl ⟨kv, upd_same, ?_⟩⟩
              refine for_it (walk_keys (kvs := kv)) (fun i σ H' => ∃ (p10 p11 p12 p13 : Option V), σ = [some v, some (.int 1), some u, some (.ref az), some (.ref p), some (.ref D1), some (.ref S), some (.int ((2 * j : Nat) : Int)), some (.int (pp.2 : Nat)), some (.ref N0), p10, p11, p12, p13] ∧ Same H6 H' ∧ H' S = some (.frz od (.dK kv)) ∧ ∃ k2 l2, H' N0 = some (.dK k2) ∧ IKs k2 l2 ∧ ∀ b, b ∈ l2 ↔ ∃ s ∈ ls.take i, (pp.2, b) ∈ Z.out s pp.1) ?_ ?_ ?_ ?_
              · refine ⟨p10, p11, p12, p13, rfl, fun b o e => ?_, upd_same, [], [], by rw [upd_ne neN]; exact hN9, IKs.nil, fun b => by simp⟩
                rw [upd_ne (ne_of_none e nS)]
                exact sm9 _ _ e
              · rintro i σ HA _ ⟨_, _, _, _, _, _, h1, _⟩
                exact h1
              · rintro i y σ HA' HA hi ⟨p10, p11, p12, p13, rfl, smA, hSA, k2, l2, hNA, hkA, hmA⟩ ⟨eH, kk, vv, hkv, rfl⟩
                subst eH
                have ik : (kv.map (·.1))[i]? = some kk := by rw [List.getElem?_map, hkv]; rfl
                rw [hk8.keys, List.getElem?_map] at ik
                obtain ⟨sn, hsn, rfl⟩ := Option.map_eq_some_iff.mp ik
                have hsnT := hsT sn (List.mem_of_getElem? hsn)
                have ll : (Z.out sn pp.1).length ≤ 12 := Th.out_len hZ hsnT hcT
                have hce := hist_call row x j
                rw [hcc] at hce
                have smHA := smH.trans smA
                refine ⟨v, rfl, .int sn, rfl, u, rfl, _, rfl, _, 2 * j, eE (.call pp.1), hu.same smHA, rfl, by rw [List.getElem?_map, hce]; rfl, fun ye hye => ?_⟩
                refine ⟨2, rfl, _, some 2, none, hye, rfl, rfl, fun yc HB sB hyc => ?_⟩
                refine ⟨Z, v, yc, sn, pp.1, rfl, (hv.same smHA).same sB, hZ, hsnT, hyc, hcT, fun zo HC sC hzo => ?_⟩
                obtain ⟨ao, os, rfl, hos, hat⟩ := hzo.tup_inv
                have sBC := sB.trans sC
                have lo : os.length = (Z.out sn pp.1).length := by rw [hat.length, List.length_map]
                refine ⟨ao, rfl, ⟨_, hos⟩, ?_⟩
                refine for_it (walk_tup (xs := os)) (fun k σ H' => ∃ (p11 p12 p13 : Option V), σ = [some v, some (.int 1), some u, some (.ref az), some (.ref p), some (.ref D1), some (.ref S), some (.int ((2 * j : Nat) : Int)), some (.int (pp.2 : Nat)), some (.ref N0), some (.int (sn : Nat)), p11, p12, p13] ∧ Same H6 H' ∧ Ext K HC H' ∧ H' S = some (.frz od (.dK kv)) ∧ ∃ k2 l2, H' N0 = some (.dK k2) ∧ IKs k2 l2 ∧ ∀ b, b ∈ l2 ↔ (∃ s ∈ ls.take i, (pp.2, b) ∈ Z.out s pp.1) ∨ (pp.2, b) ∈ (Z.out sn pp.1).take k) ?_ ?_ ?_ ?_
                · exact ⟨p11, p12, p13, rfl, smA.trans sBC, Ext.refl _, sBC _ _ hSA, k2, l2, sBC _ _ hNA, hkA, fun b => by rw [hmA]; simp⟩
                · rintro k σ HD _ ⟨_, _, _, _, _, h1, _⟩
                  exact h1 _ _ hos
                · rintro k y σ HD' HD hk ⟨p11, p12, p13, rfl, smD, exD, hSD, k3, l3, hND, hkD, hmD⟩ ⟨eH, hy⟩
                  subst eH
                  obtain ⟨⟨r2, t⟩, ho, hxo⟩ := ats_map (hat.ext exD) hy
                  obtain ⟨a3, y1, y2, rfl, hs3, f1, f2⟩ := two_inv hxo
                  obtain rfl := f1.num_inv
                  obtain rfl := f2.num_inv
                  have tk : (Z.out sn pp.1).take (k + 1) = (Z.out sn pp.1).take k ++ [(r2, t)] := by
                    rw [List.take_add_one, ho]
                    rfl
                  have l6 : l3.length ≤ 4 := below_len hZ hkD.nd fun b hb => by
                    rcases (hmD b).mp hb with ⟨s2, h1, h2⟩ | h2
                    · exact (Th.out_ok hZ (hsT s2 (List.mem_of_mem_take h1)) hcT _ h2).2
                    · exact (Th.out_ok hZ hsnT hcT _ (List.mem_of_mem_take h2)).2
                  refine ⟨a3, _, rfl, hs3, rfl, _, _, rfl, _, _, rfl, rfl, ?_⟩
                  refine ⟨_, rfl, .int (pp.2 : Nat), rfl, rfl, _, rfl, ?_⟩
                  by_cases e : r2 = pp.2
                  · rw [decide_eq_true (show V.int (r2 : Int) = V.int (pp.2 : Int) by rw [e])]
                    refine iteT ?_
                    obtain ⟨ms', hk7, hm7⟩ := hkD.put t (.bl true)
                    refine ⟨.ref N0, rfl, _, rfl, N0, _, rfl, DPut.k (k := iK t) hND (by rw [hkD.len, sizeLine_eq]; omega), ?_⟩
                    refine ⟨_, _, _, rfl, fun b o q => ?_, exD.trans (Ext.mut hND trivial), by rw [upd_ne neN.symm]; exact hSD, _, ms', upd_same, hk7, fun b => ?_⟩
                    · rw [upd_ne (ne_of_none q nN6)]
                      exact smD _ _ q
                    · rw [hm7, hmD, tk, List.mem_append, List.mem_singleton, ← e]
                      simp [or_assoc]
                  · have e' : ¬ V.int (r2 : Int) = V.int (pp.2 : Int) := fun z => e (by injection z with z; omega)
                    rw [decide_eq_false e']
                    refine iteF ⟨_, _, _, rfl, smD, exD, hSD, k3, l3, hND, hkD, fun b => ?_⟩
                    rw [hmD, tk, List.mem_append, List.mem_singleton]
                    constructor
                    · rintro (z | z)
                      · exact .inl z
                      · exact .inr (.inl z)
                    · rintro (z | z | z)
                      · exact .inl z
                      · exact .inr z
                      · injection z with z1 z2
                        exact absurd z1.symm e
                · rintro σ HD ⟨p11, p12, p13, rfl, smD, exD, hSD, k3, l3, hND, hkD, hmD⟩
                  rw [lo, List.take_length] at hmD
                  refine ⟨_, _, _, _, rfl, smD, hSD, k3, l3, hND, hkD, fun b => ?_⟩
                  rw [hmD, List.take_add_one, hsn]
                  simp only [Option.toList_some, List.mem_append, List.mem_singleton]
                  constructor
                  · rintro (⟨s2, h1, h2⟩ | h2)
                    · exact ⟨s2, .inl h1, h2⟩
                    · exact ⟨sn, .inr rfl, h2⟩
                  · rintro ⟨s2, h1 | rfl, h2⟩
                    · exact .inl ⟨s2, h1, h2⟩
                    · exact .inr h2
              · rintro σ HA ⟨p10, p11, p12, p13, rfl, smA, hSA, k2, l2, hNA, hkA, hmA⟩
                rw [hk8.len, List.take_length] at hmA
                refine ⟨hSA, ?_⟩
                refine ⟨.ref N0, rfl, N0, _, _, _, _, _, _, _, rfl, fun b o e => ?_, nN6, k2, l2, by rw [upd_ne neN]; exact hNA, hkA, fun b => ?_⟩
                · rw [upd_ne (ne_of_none e nS)]
                  exact smA _ _ e
                · rw [hmA, rowS_take hpp, stp_mem]
                  constructor
                  · rintro ⟨s2, h1, h2⟩
                    exact ⟨(Th.out_ok hZ (hsT s2 h1) hcT _ h2).2, s2, (hm8 s2).mp h1, h2⟩
                  · rintro ⟨_, s2, h1, h2⟩
                    exact ⟨s2, (hm8 s2).mpr h1, h2⟩
            · rintro σ H8 ⟨S, p7, p8, p9, p10, p11, p12, p13, rfl, sm8, nS, kv, ls, hS8, hk8, hm8⟩
              rw [lz, List.take_length] at hm8
              have nek : kv ≠ [] := fun e => by
                subst e
                have l0 : ls = [] := List.length_eq_zero_iff.mp hk8.len.symm
                subst l0
                refine hne (List.eq_nil_iff_forall_not_mem.mpr fun b hb => ?_)
                exact absurd ((hm8 b).mpr hb) (by simp)
              refine ⟨.ref S, rfl, fun E0 nE => ⟨S, E0, kv, rfl, rfl, same_upd nE _ _ hS8, upd_same, true, by rw [decide_eq_false nek]; rfl, iteT ?_⟩⟩
              have sm9 := sm8.trans (same_upd (o := .dK []) nE)
              refine ⟨.ref az, rfl, .ref p, rfl, .ref az, p, kvs, row, _, mom row, rfl, (hz2.same sm6).same sm9, (sm6.trans sm9) _ _ hp2, he2.ext (.of_same (sm6.trans sm9)), mom_ms lc2 hl, fun H10 s10 => ?_⟩
              exact q H10 ((smH.trans sm9).trans s10)
end
end M

/-! the plain law: beliefs of one hand behind the history of a row -/
namespace M
open PySem PySem.Spec PyProof.Rows L2
theorem behind_call_mem {T : Th} {bs : List Bel} {c : Call} {b : Bel} : b ∈ behind T bs (.call c) ↔ ∃ s, (s, Wt.idle) ∈ bs ∧ (b = (s, .asks c) ∨ ∃ o ∈ T.out s c, b = (o.2, .has o.1)) := by
  show b ∈ asking c bs ++ (asking c bs).flatMap (tak T) ↔ _
  have am : ∀ d : Bel, d ∈ asking c bs ↔ ∃ s, (s, Wt.idle) ∈ bs ∧ d = (s, .asks c) := fun d => by
    unfold asking
    rw [List.mem_map]
    constructor
    · rintro ⟨⟨s, x⟩, h, rfl⟩
      obtain ⟨h1, h2⟩ := List.mem_filter.mp h
      have h2 : x = .idle := of_decide_eq_true h2
      subst h2
      exact ⟨s, h1, rfl⟩
    · rintro ⟨s, h, rfl⟩
      exact ⟨(s, .idle), List.mem_filter.mpr ⟨h, decide_eq_true rfl⟩, rfl⟩
  rw [List.mem_append, List.mem_flatMap]
  constructor
  · rintro (h | ⟨d, h, h2⟩)
    · obtain ⟨s, h1, e⟩ := (am b).mp h
      exact ⟨s, h1, .inl e⟩
    · obtain ⟨s, h1, rfl⟩ := (am d).mp h
      obtain ⟨o, ho, e⟩ := List.mem_map.mp (show b ∈ (T.out s c).map fun o => ((o.2, .has o.1) : Bel) from h2)
      exact ⟨s, h1, .inr ⟨o, ho, e.symm⟩⟩
  · rintro ⟨s, h, e | ⟨o, ho, e⟩⟩
    · exact .inl ((am b).mpr ⟨s, h, e⟩)
    · exact .inr ⟨(s, .asks c), (am _).mpr ⟨s, h, rfl⟩, List.mem_map.mpr ⟨o, ho, e.symm⟩⟩
theorem behind_back_mem {T : Th} {bs : List Bel} {r : Nat} {b : Bel} : b ∈ behind T bs (.back r) ↔ ∃ s, (s, Wt.has r) ∈ bs ∧ b = (s, .idle) := by
  show b ∈ backing r bs ↔ _
  unfold backing
  rw [List.mem_map]
  constructor
  · rintro ⟨⟨s, x⟩, h, rfl⟩
    obtain ⟨h1, h2⟩ := List.mem_filter.mp h
    have h2 : x = .has r := of_decide_eq_true h2
    subst h2
    exact ⟨s, h1, rfl⟩
  · rintro ⟨s, h, rfl⟩
    exact ⟨(s, .has r), List.mem_filter.mpr ⟨h, decide_eq_true rfl⟩, rfl⟩
theorem hist_end : ∀ (row : Row) (x : Option Call), hist row x = hist row none ++ (x.toList.map Ev.call)
  | [], none => rfl
  | [], some c => rfl
  | p :: r, x => by
    show Ev.call p.1 :: Ev.back p.2 :: hist r x = _
    rw [hist_end r x]
    rfl
theorem hist_snoc : ∀ (row : Row) (p : Call × Nat), hist (row ++ [p]) none = hist row none ++ [.call p.1, .back p.2]
  | [], p => rfl
  | q :: r, p => by
    show Ev.call q.1 :: Ev.back q.2 :: hist (r ++ [p]) none = _
    rw [hist_snoc r p]
    rfl
/-- behind the history of a row a hand is idle, in the states behind the row -/
theorem lotR_hist {T : Th} (hT : TOk T) : ∀ (n : Nat) (row : Row), row.length = n → (∀ p ∈ row, p.1 ∈ T.calls) → ∀ b, b ∈ lotR T (hist row none) ↔ ∃ s ∈ rowS T row, b = (s, .idle)
  | 0, row, hn, hc => fun b => by
    obtain rfl := List.length_eq_zero_iff.mp hn
    simp [hist, lotR, rowS]
  | n + 1, row, hn, hc => fun b => by
    rcases List.eq_nil_or_concat row with rfl | ⟨fs, p, rfl⟩
    · cases hn
    · rw [List.concat_eq_append] at *
      have ih := lotR_hist hT n fs (by simpa using hn) fun q hq => hc q (List.mem_append_left _ hq)
      have hp := hc p (List.mem_append_right _ (List.mem_singleton.mpr rfl))
      rw [hist_snoc, show hist fs none ++ [Ev.call p.1, .back p.2] = (hist fs none ++ [.call p.1]) ++ [.back p.2] by simp, lotR_snoc, lotR_snoc, lotOf_mem, behind_back_mem, rowS_snoc]
      constructor
      · rintro ⟨s, h, rfl⟩
        obtain ⟨s0, h0, e | ⟨o, ho, e⟩⟩ := behind_call_mem.mp (lotOf_mem.mp h)
        · cases e
        · injection e with e1 e2
          injection e2 with e2
          obtain ⟨s1, h1, e3⟩ := (ih _).mp h0
          injection e3 with e3 _
          subst e3
          refine ⟨s, stp_mem.mpr ⟨?_, s0, h1, ?_⟩, rfl⟩
          · rw [e1]
            exact (Th.out_ok hT ((rowS_ok hT fs).1 s0 h1) hp _ ho).2
          · rw [e1, e2]
            exact ho
      · rintro ⟨s, h, rfl⟩
        obtain ⟨h1, s0, h2, h3⟩ := stp_mem.mp h
        exact ⟨s, lotOf_mem.mpr (behind_call_mem.mpr ⟨s0, (ih _).mpr ⟨s0, h2, rfl⟩, .inr ⟨_, h3, rfl⟩⟩), rfl⟩
theorem hist_evT {T : Th} : ∀ {row : Row} {x : Option Call}, (∀ c ∈ callsOf row x, c ∈ T.calls) → (∀ p ∈ row, p.2 ≤ 9) → ∀ e ∈ hist row x, EvT T e
  | [], none, _, _, e, h => by cases h
  | [], some c, hc, _, e, h => by
    rw [List.mem_singleton.mp h]
    exact hc c (by simp [callsOf])
  | p :: r, x, hc, h9, e, h => by
    rcases List.mem_cons.mp h with rfl | h
    · exact hc p.1 (by simp [callsOf])
    · rcases List.mem_cons.mp h with rfl | h
      · exact h9 p List.mem_cons_self
      · exact hist_evT (fun c hh => hc c (by
          unfold callsOf at *
          simp only [List.map_cons, List.cons_append]
          exact List.mem_cons_of_mem _ hh)) (fun q hq => h9 q (List.mem_cons_of_mem _ hq)) e h
/-- the lot behind the history of a row -/
theorem lotR_row {T : Th} (hT : TOk T) {row : Row} (hc : ∀ p ∈ row, p.1 ∈ T.calls) (h9 : ∀ p ∈ row, p.2 ≤ 9) : lotR T (hist row none) = (rowS T row).map fun s => (s, Wt.idle) := by
  have hs : Asc (rowS T row) := by
    rcases List.eq_nil_or_concat row with rfl | ⟨fs, p, rfl⟩
    · exact List.pairwise_singleton _ _
    · rw [List.concat_eq_append, rowS_snoc]
      exact stp_asc T _ _ _
  refine strict_ext (rk := rB) (lotR_lot hT (hist_evT (fun c hcc => ?_) h9)) ?_ fun b => ?_
  · unfold callsOf at hcc
    rw [Option.toList_none, List.append_nil] at hcc
    obtain ⟨p, hp, rfl⟩ := List.mem_map.mp hcc
    exact hc p hp
  · rw [List.pairwise_map]
    exact List.Pairwise.imp (fun {a b} h => by simp only [rB, rW]; omega) hs
  · rw [lotR_hist hT _ row rfl hc, List.mem_map]
    constructor
    · rintro ⟨s, h, rfl⟩
      exact ⟨s, h, rfl⟩
    · rintro ⟨s, h, rfl⟩
      exact ⟨s, h, rfl⟩
/-- a row's history, with or without a call begun, can be just when the row can -/
theorem lotR_none {T : Th} (hT : TOk T) {row : Row} {x : Option Call} (hc : ∀ p ∈ row, p.1 ∈ T.calls) : lotR T (hist row x) = [] ↔ rowS T row = [] := by
  have h := lotR_hist hT _ row rfl hc
  cases x with
  | none =>
    constructor
    · intro e
      exact List.eq_nil_iff_forall_not_mem.mpr fun s hs => by
        have := (h (s, .idle)).mpr ⟨s, hs, rfl⟩
        rw [e] at this
        cases this
    · intro e
      exact List.eq_nil_iff_forall_not_mem.mpr fun b hb => by
        obtain ⟨s, hs, _⟩ := (h b).mp hb
        rw [e] at hs
        cases hs
  | some c =>
    rw [hist_end, show ((some c).toList.map Ev.call) = [Ev.call c] from rfl, lotR_snoc]
    constructor
    · intro e
      exact List.eq_nil_iff_forall_not_mem.mpr fun s hs => by
        have : (s, Wt.asks c) ∈ lotOf (behind T (lotR T (hist row none)) (.call c)) := lotOf_mem.mpr (behind_call_mem.mpr ⟨s, (h _).mpr ⟨s, hs, rfl⟩, .inl rfl⟩)
        rw [e] at this
        cases this
    · intro e
      exact List.eq_nil_iff_forall_not_mem.mpr fun b hb => by
        obtain ⟨s, hs, _⟩ := behind_call_mem.mp (lotOf_mem.mp hb)
        obtain ⟨s2, hs2, _⟩ := (h _).mp hs
        rw [e] at hs2
        cases hs2
end M

/-! the plain law: the first event that cannot be -/
namespace M
open PySem PySem.Spec PyProof.Rows L2
theorem take_even : ∀ (row : Row) (x : Option Call) (i : Nat), i ≤ row.length → (hist row x).take (2 * i) = hist (row.take i) none
  | row, x, 0, _ => by simp [hist]
  | [], x, i + 1, h => absurd h (by simp)
  | p :: r, x, i + 1, h => by
    have e : 2 * (i + 1) = 2 * i + 1 + 1 := by omega
    show (Ev.call p.1 :: Ev.back p.2 :: hist r x).take (2 * (i + 1)) = Ev.call p.1 :: Ev.back p.2 :: hist (r.take i) none
    rw [e, List.take_succ_cons, List.take_succ_cons, take_even r x i (by simpa using h)]
theorem take_odd : ∀ (row : Row) (x : Option Call) (i : Nat) (c : Call), (callsOf row x)[i]? = some c → i ≤ row.length → (hist row x).take (2 * i + 1) = hist (row.take i) (some c)
  | [], none, i, c, h, _ => by simp [callsOf] at h
  | [], some d, 0, c, h, _ => by
    have e : d = c := by simpa [callsOf] using h
    rw [e]
    rfl
  | [], some d, i + 1, c, _, h => absurd h (by simp)
  | p :: r, x, 0, c, h, _ => by
    have e : p.1 = c := by simpa [callsOf] using h
    rw [← e]
    rfl
  | p :: r, x, i + 1, c, h, hi => by
    have e : 2 * (i + 1) + 1 = (2 * i + 1) + 1 + 1 := by omega
    show (Ev.call p.1 :: Ev.back p.2 :: hist r x).take (2 * (i + 1) + 1) = Ev.call p.1 :: Ev.back p.2 :: hist (r.take i) (some c)
    rw [e, List.take_succ_cons, List.take_succ_cons, take_odd r x i c (by simpa [callsOf] using h) (by simpa using hi)]
theorem lot_take {T : Th} (hT : TOk T) {row : Row} {x : Option Call} (hc : ∀ p ∈ row, p.1 ∈ T.calls) {j : Nat} (hj : j < (hist row x).length) : lotR T ((hist row x).take (j + 1)) = [] ↔ rowS T (row.take ((j + 1) / 2)) = [] := by
  have hl := hist_len row x
  have hx : x.toList.length ≤ 1 := by cases x <;> simp
  have hc2 : ∀ i, ∀ p ∈ row.take i, p.1 ∈ T.calls := fun i p hp => hc p (List.mem_of_mem_take hp)
  rcases Nat.mod_two_eq_zero_or_one (j + 1) with h | h
  · have e : j + 1 = 2 * ((j + 1) / 2) := by omega
    have le : (j + 1) / 2 ≤ row.length := by omega
    generalize (j + 1) / 2 = i at *
    rw [e, take_even row x i le, lotR_none hT (hc2 i)]
  · have e : j + 1 = 2 * ((j + 1) / 2) + 1 := by omega
    have le : (j + 1) / 2 ≤ row.length := by omega
    have lt : (j + 1) / 2 < (callsOf row x).length := by
      unfold callsOf
      rw [List.length_append, List.length_map]
      omega
    generalize (j + 1) / 2 = i at *
    rw [e, take_odd row x i _ (List.getElem?_eq_getElem lt) le, lotR_none hT (hc2 i)]
/-- the calls done at which a row is wrong -/
def wrongs (T : Th) (row : Row) : List Nat := (List.range row.length).filter fun k => decide (rowS T (row.take (k + 1)) = [])
theorem wrongs_mem {T : Th} {row : Row} {k : Nat} : k ∈ wrongs T row ↔ k < row.length ∧ rowS T (row.take (k + 1)) = [] := by
  unfold wrongs
  rw [List.mem_filter, List.mem_range, decide_eq_true_iff]
theorem rowS_zero (T : Th) (row : Row) : rowS T (row.take 0) ≠ [] := by simp [rowS]
theorem wrong_none {T : Th} (hT : TOk T) {row : Row} {x : Option Call} (hc : ∀ p ∈ row, p.1 ∈ T.calls) (h : wrongs T row = []) : ∀ i, i < (hist row x).length → lotR T ((hist row x).take (i + 1)) ≠ [] := by
  intro i hi e
  have hl := hist_len row x
  have hx : x.toList.length ≤ 1 := by cases x <;> simp
  have e2 := (lot_take hT hc hi).mp e
  rcases Nat.eq_zero_or_pos ((i + 1) / 2) with z | z
  · rw [z] at e2
    exact rowS_zero T row e2
  · have : (i + 1) / 2 - 1 ∈ wrongs T row := wrongs_mem.mpr ⟨by omega, by rw [show (i + 1) / 2 - 1 + 1 = (i + 1) / 2 by omega]; exact e2⟩
    rw [h] at this
    cases this
theorem wrong_some {T : Th} (hT : TOk T) {row : Row} {x : Option Call} (hc : ∀ p ∈ row, p.1 ∈ T.calls) {a : Nat} {ws : List Nat} (h : wrongs T row = a :: ws) :
    2 * a + 1 < (hist row x).length ∧ lotR T ((hist row x).take (2 * a + 1 + 1)) = [] ∧ ∀ j, j < 2 * a + 1 → lotR T ((hist row x).take (j + 1)) ≠ [] := by
  have hl := hist_len row x
  obtain ⟨h1, h2⟩ := wrongs_mem.mp (h ▸ List.mem_cons_self : a ∈ wrongs T row)
  have lt : 2 * a + 1 < (hist row x).length := by omega
  have pw : (a :: ws).Pairwise (· < ·) := h ▸ List.Pairwise.filter _ List.pairwise_lt_range
  refine ⟨lt, (lot_take hT hc lt).mpr (by rw [show (2 * a + 1 + 1) / 2 = a + 1 by omega]; exact h2), fun j hj e => ?_⟩
  have e2 := (lot_take hT hc (by omega : j < (hist row x).length)).mp e
  rcases Nat.eq_zero_or_pos ((j + 1) / 2) with z | z
  · rw [z] at e2
    exact rowS_zero T row e2
  · have m : (j + 1) / 2 - 1 ∈ wrongs T row := wrongs_mem.mpr ⟨by omega, by rw [show (j + 1) / 2 - 1 + 1 = (j + 1) / 2 by omega]; exact e2⟩
    rw [h] at m
    rcases List.mem_cons.mp m with m | m
    · omega
    · have := (List.pairwise_cons.mp pw).1 _ m
      omega
/-- a row's states behind are none just when a part of it has none -/
theorem rowS_nil_mono {T : Th} {row : Row} {i : Nat} (hi : i ≤ row.length) (h : rowS T (row.take i) = []) : rowS T row = [] := by
  suffices ∀ k, i + k ≤ row.length → rowS T (row.take (i + k)) = [] by
    have e := this (row.length - i) (by omega)
    rwa [show i + (row.length - i) = row.length by omega, List.take_length] at e
  intro k
  induction k with
  | zero => exact fun _ => h
  | succ k ih =>
    intro hk
    have hr : row[i + k]? = some row[i + k] := List.getElem?_eq_getElem (by omega)
    rw [show i + (k + 1) = (i + k) + 1 by omega, rowS_take hr, ih (by omega)]
    exact List.eq_nil_iff_forall_not_mem.mpr fun s hs => by
      obtain ⟨_, _, h2, _⟩ := stp_mem.mp hs
      cases h2
end M

namespace M
open PySem PySem.Spec PyProof.Rows L2
/-- a row's history keeps the form -/
theorem hist_hs {T : Th} {row : Row} {x : Option Call} (hc : ∀ c ∈ callsOf row x, c ∈ T.calls) (h9 : ∀ p ∈ row, p.2 ≤ 9) (hl : row.length ≤ 40) : Hs T (hist row x) :=
  ⟨hist_alt row x, hist_evT hc h9, by
    have := hist_len row x
    have hx : x.toList.length ≤ 1 := by cases x <;> simp
    omega⟩
theorem calls_of_row {T : Th} {row : Row} {x : Option Call} (hc : ∀ c ∈ callsOf row x, c ∈ T.calls) : ∀ p ∈ row, p.1 ∈ T.calls := fun p hp => hc p.1 (by
  unfold callsOf
  exact List.mem_append_left _ (List.mem_map_of_mem hp))
theorem calls_mk {T : Th} {row : Row} {x : Option Call} (hc : ∀ p ∈ row, p.1 ∈ T.calls) (hx : ∀ c, x = some c → c ∈ T.calls) : ∀ c ∈ callsOf row x, c ∈ T.calls := fun c h => by
  unfold callsOf at h
  rcases List.mem_append.mp h with h | h
  · obtain ⟨p, hp, rfl⟩ := List.mem_map.mp h
    exact hc p hp
  · exact hx c (by simpa using h)
/-- the first of an order's moments are the row's -/
theorem mom_take (row : Row) : (mom row).take row.length = mom row := by
  rw [List.take_of_length_le (by rw [mom_len]; exact Nat.le_refl _)]
end M

/-! the way by which a belief of one hand is come to -/
namespace M
open PySem PySem.Spec PyProof.Rows L2
def wayOf (row : Row) (b : Bel) : List (Nat × Nat) := match b.2 with
  | .has r => mom row ++ [(2 * row.length, r)]
  | _ => mom row
theorem mom_snoc (row : Row) (p : Call × Nat) : mom (row ++ [p]) = mom row ++ [(2 * row.length, p.2)] := by
  unfold mom
  rw [List.length_append, List.length_singleton, List.range_succ, List.map_append]
  congr 1
  · refine List.map_congr_left fun i hi => ?_
    rw [List.getElem?_append_left (List.mem_range.mp hi)]
  · simp
theorem wayOf_idle (row : Row) (s : Nat) : wayOf row (s, .idle) = mom row := rfl
theorem wayOf_asks (row : Row) (s : Nat) (c : Call) : wayOf row (s, .asks c) = mom row := rfl
/-- a way of a result that is there becomes the way of the row with it -/
theorem wayOf_back (row : Row) (c : Call) (s t r : Nat) : wayOf row (s, .has r) = wayOf (row ++ [(c, r)]) (t, .idle) := by
  rw [wayOf_idle, mom_snoc]
  rfl
theorem wayOf_prefix (row : Row) (b : Bel) : mom row <+: wayOf row b := by
  unfold wayOf
  split
  · exact List.prefix_append _ _
  · exact List.prefix_refl _
end M

/-! the least value of a dict with nested keys; setdefault; slots as targets -/
namespace M
open PySem PySem.Spec PyProof.Rows L2
/-- the view of the values of the dict at d -/
def VwO (p d : Addr) : HO := .ext fun h => h.IsValuesView p d
def tVals (P : Program) (w : World) (K : PySem.W.Frag) (td : TE) : TE := fun σ H Q => td σ H fun x H1 => ∃ d o kvs, x = .ref d ∧ DO P w K H1 d o kvs ∧ ∀ p, H1 p = none → Q (.ref p) (upd H1 p (VwO p d))
section
variable {X : Cx} {e : Expr} {td : TE} {apos cpos : Pos}
/-- d.values() -/
theorem pe_vals (he : PE X e td) (hbase : attributeBase e "values" X.env (eval e X.env) = eval e X.env := by rfl) (hline : (apos.endLine == cpos.line) = true := by rfl) :
    PE X (.Call (.Attribute e "values" apos) [] [] cpos) (tVals X.prog X.w X.K td) := ⟨fun pins s σ H Q I h =>
  wpAny_Call_method (T := "dict") (id := "dict.values") hbase rfl hline F.plainAttrs_dict F.slot_dict_values F.type_dict_values (thn (he.run pins s σ H _ I h) fun u s1 ⟨x, H1, I1, rx, d, o, kvs, ex, g, q⟩ => by
    subst ex
    cases rx
    obtain ⟨es, ep, z⟩ := nd_at I1 g
    refine ⟨nd_typeIs I1 ⟨o, g⟩, nd_noDict I1 ⟨o, g⟩, method_meetsIn F.slot_dict_values F.entry_dict_values rfl (PySem.evalArgs_none ⟨rfl, nd_typeIs I1 ⟨o, g⟩, F.args_dict_values_1 _, _, meets_dict_values_raw d z.low, ⟨es, ep, z.raw⟩, ?_⟩)⟩
    exact ⟨.ref s1.heap.objs.size, _, I1.laid (o := VwO s1.heap.objs.size d) (t' := s1.toks) (fun _ _ q => Heap.get?_push_of_some _ q) (Nat.le_refl _) ⟨⟨_, Heap.get?_push_size _ rfl, rfl, rfl⟩, ⟨_, Heap.get?_push_size _ rfl⟩, fun h1 h2 ⟨o, a, b⟩ st => ⟨o, st _ a, b⟩⟩, rfl,
      q _ (I1.hok.fresh (Nat.le_refl _))⟩)⟩
/-- the least by first wins -/
theorem fold_least {f : NK → NK → Bool} {k0 : NK} : ∀ (ks : List NK) (a : NK), (∀ k ∈ a :: ks, k ≠ k0 → f k0 k = true) → (∀ k ∈ a :: ks, f k k0 = false) → k0 ∈ a :: ks → ks.foldl (fun a y => if f y a then y else a) a = k0
  | [], a, _, _, h => by
    rcases List.mem_cons.mp h with e | e
    · exact e.symm
    · cases e
  | k :: ks, a, h1, h2, h3 => by
    rw [List.foldl_cons]
    refine fold_least ks _ (fun l hl => ?_) (fun l hl => ?_) ?_
    · rcases List.mem_cons.mp hl with rfl | hl
      · split
        · exact h1 _ (by simp)
        · exact h1 _ (by simp)
      · exact h1 l (by simp [hl])
    · rcases List.mem_cons.mp hl with rfl | hl
      · split
        · exact h2 _ (by simp)
        · exact h2 _ (by simp)
      · exact h2 l (by simp [hl])
    · rcases List.mem_cons.mp h3 with rfl | h3
      · rw [h2 k (by simp)]
        simp
      · rcases List.mem_cons.mp h3 with rfl | h3
        · by_cases e : a = k0
          · subst e
            split <;> simp
          · rw [h1 a (by simp) e]
            simp
        · exact List.mem_cons_of_mem _ h3
theorem kis_grow {h h' : Heap} {k : NK} {v : Value} (x : KIs h k v) (hk : ∀ b o, h.get? b = some o → h'.get? b = some o) : KIs h' k v := KIs.keeps (fun b o _ _ e _ _ => hk b o e) k v x
/-- min(d.values()) -/
def rMinV (P : Program) (w : World) (K : PySem.W.Frag) : List V → Hp → VK → Prop := fun xs H Q => ∃ (p d : Addr) (o : Obj) (kvs : List (NK × V)) (ks : List NK) (k0 : NK), xs = [.ref p] ∧ H p = some (VwO p d) ∧ DO P w K H d o kvs ∧ kvs.length ≤ 1000000 ∧
  Paired (fun kv k => At K H kv.2 k) kvs ks ∧ (∀ k ∈ ks, k.depth ≤ 8) ∧ k0 ∈ ks ∧ (∀ k ∈ ks, ∀ l ∈ ks, ∃ c, ltN k l = some c) ∧ (∀ k ∈ ks, k ≠ k0 → ltN k0 k = some true) ∧ (∀ k ∈ ks, ltN k k0 = some false) ∧ ∀ v, At K H v k0 → Q v H
theorem min_vals (hu : X.A.units + 64 < cLine) (hc : X.calm = true) : CallR X (.builtin "min") (rMinV X.prog X.w X.K) := fun pins s σ H xs us Q I r h => by
  obtain ⟨p, d, o, kvs, ks, k0, rfl, hp, g, hl, pr, dp, m0, cmp, l1, l2, q⟩ := h
  obtain ⟨u, rfl, ru⟩ := Vals.one r
  cases ru
  obtain ⟨es, ep, z⟩ := nd_at I g
  have hv : s.heap.IsValuesView p d := (show ObjOk X.prog X.w H s.heap p (VwO p d) from I.hok p _ hp).1
  have lks := Paired.length pr
  have hlt : d < s.heap.objs.size := Heap.lt_size z.get
  obtain ⟨x, xs, rfl⟩ : ∃ x xs, ks = x :: xs := by
    cases ks with
    | nil => cases m0
    | cons x xs => exact ⟨x, xs, rfl⟩
  have hval : ∀ (i : Nat) (vi : Value), (∃ hi : i < es.size, vi = es[i].val) → ∃ k, (x :: xs)[i]? = some k ∧ KIs s.heap k vi ∧ ∃ kv, kvs[i]? = some kv ∧ At X.K H kv.2 k ∧ RelV kv.2 vi := fun i vi ⟨hi, e⟩ => by
    have hi2 : i < kvs.length := by
      rw [← z.size]
      exact hi
    have hkv : kvs[i]? = some kvs[i] := List.getElem?_eq_getElem hi2
    obtain ⟨en, q1, hen, hkey, hq, hrv⟩ := z.ent i _ _ hkv
    obtain ⟨k, hk, hat⟩ := paired_nth pr hkv
    have e2 : vi = en.val := by
      rw [e]
      rw [Array.getElem?_eq_getElem hi] at hen
      rw [Option.some.inj hen]
    subst e2
    exact ⟨k, hk, At.kis I _ _ _ hat hrv, _, hkv, hat, hrv⟩
  refine PySem.call_min_walkH (wpAny_pyIter_values_raw hv z.raw ?_)
  refine ⟨s.heap.objs.size, [s.heap.objs.size, d], [s.heap.objs.size], (fun a b => b = a), es.size, _, _, s.heap, fun i j => (ltN ((x :: xs).getD i .none) ((x :: xs).getD j .none)).getD false, rfl, (Walks.rawValues (A := X.A.in1) (I.ok.hd hc) s.heap.objs.size d (Nat.ne_of_lt hlt) es ep).toS, ⟨⟨_, Heap.get?_push_size _ rfl, rfl, rfl⟩, z.raw.at fun q e => Heap.get?_push_of_some _ e⟩, fun b hb => ?_, by rw [z.size, lks]; simp, fun b o e hb => ?_, fun b o e => Heap.get?_push_of_some _ e, ?_, fun v s' hP m => ?_⟩
  · show b < (s.heap.push _).objs.size
    rw [Heap.size_push]
    rcases List.mem_cons.mp hb with rfl | hb
    · exact Nat.lt_succ_self _
    · rcases List.mem_cons.mp hb with rfl | hb
      · exact Nat.lt_succ_of_lt hlt
      · cases hb
  · exact absurd (Heap.lt_size e) ((List.mem_singleton.mp hb) ▸ Nat.lt_irrefl _)
  · intro i j vi vj s' Q' E' hk hi hj hq
    obtain ⟨k, ek, kk, _⟩ := hval i vi hi
    obtain ⟨l, el, kl, _⟩ := hval j vj hj
    have e1 : (x :: xs).getD i .none = k := by rw [List.getD_eq_getElem?_getD, ek]; rfl
    have e2 : (x :: xs).getD j .none = l := by rw [List.getD_eq_getElem?_getD, el]; rfl
    dsimp only at hq
    rw [e1, e2] at hq
    obtain ⟨c, hcc⟩ := cmp k (List.mem_of_getElem? ek) l (List.mem_of_getElem? el)
    rw [hcc] at hq
    have hd := dp k (List.mem_of_getElem? ek)
    have hu1 : X.A.in1.units = X.A.units + 1 := rfl
    exact rcN k.depth k l (Nat.le_refl _) X.A.in1 s' vi vj c (kis_grow kk hk) (kis_grow kl hk) hcc (by omega) X.prog X.w E' Q' hq
  · obtain ⟨h', tk, rfl, hk'⟩ := PySem.W.moved_old (s := s) rfl rfl m
    obtain ⟨k, ek, kk, kv, _, hat, hrv⟩ := hval _ v hP
    have e1 : es.size - 1 = xs.length := by
      rw [z.size, lks]
      simp
    have e2 := (PySem.W.argBest_fold (fun a b => (ltN a b).getD false) NestedKey.none x xs xs.length (Nat.le_refl _)).2
    rw [List.take_length, fold_least (k0 := k0) xs x (fun k hk ne => by rw [l1 k hk ne]; rfl) (fun k hk => by rw [l2 k hk]; rfl) m0] at e2
    rw [e1] at ek
    rw [List.getD_eq_getElem?_getD, ek] at e2
    obtain rfl : k = k0 := e2
    exact ⟨kv.2, H, I.kept (h' := h') (t' := tk) hk', hrv, q _ hat⟩
end
end M

namespace M
open PySem PySem.Spec PyProof.Rows L2
/-- d.setdefault(k, v) -/
def tSetDef (P : Program) (w : World) (K : PySem.W.Frag) (to : TE) (t : TA) : TE := fun σ H Q => to σ H fun x H1 => ∃ d kvs0, x = .ref d ∧ DK P w K H1 d kvs0 ∧ t σ H1 fun vs H2 => ∃ y z kvs k, vs = [y, z] ∧ DK P w K H2 d kvs ∧ kvs.length ≤ 1000000 ∧ At K H2 y k ∧ k.depth ≤ 8 ∧ (∃ ks, k = .tup ks) ∧
  (∀ v, valV kvs k = some v → Q v H2) ∧ (valV kvs k = none → ∀ ob, DK P w K (upd H2 d ob) d (putK kvs k z) → Q z (upd H2 d ob))
section
variable {X : Cx} {o e : Expr} {es : List Expr} {to ta : TE} {t : TA} {apos cpos pos : Pos} {f : Str}
theorem vals_two {y z : V} {us : List Value} (r : Vals [y, z] us) : ∃ u v, us = [u, v] ∧ RelV y u ∧ RelV z v := by
  cases r with
  | cons a r => cases r with
    | cons b r =>
      cases r
      exact ⟨_, _, rfl, a, b⟩
theorem pe_setdef (hu : X.A.units + 64 < cLine) (ho : PE X o to) (ha : PA X (e :: es) t)
    (hbase : attributeBase o "setdefault" X.env (eval o X.env) = eval o X.env := by rfl)
    (hfew : ((backTo cpos (starEach (e :: es) X.env)).all (fun x => !x.1) && (backToKw cpos (keywordEach [] X.env)).all (fun x => x.1.isSome)
      && decide ((e :: es).length + ([] : List Keyword).length + (if ([] : List Keyword).isEmpty then 0 else 1) < 30)) = true := by rfl)
    (hline : (apos.endLine == cpos.line) = true := by rfl) (hs : starEach (e :: es) X.env = (false, eval e X.env) :: starEach es X.env := by rfl) (hplain : (backTo cpos (starEach es X.env)).any (·.1) = false := by rfl) :
    PE X (.Call (.Attribute o "setdefault" apos) (e :: es) [] cpos) (tSetDef X.prog X.w X.K to t) := by
  refine ⟨fun pins s σ H Q I h => ?_⟩
  refine wpAny_Call_method_late hbase hfew hline rfl (thn (ho.run pins s σ H _ I h) fun v s1 ⟨x, H1, I1, r1, d, kvs0, ex, g0, q1⟩ => ?_)
  subst ex
  cases r1
  refine ⟨"dict", "dict.setdefault", F.plainAttrs_dict, F.slot_dict_setdefault, F.type_dict_setdefault, nd_typeIs I1 g0, nd_noDict I1 g0, ?_⟩
  have hA := ha.run cpos pins s1 σ H1 _ I1 q1
  rw [hs] at hA ⊢
  refine Calls.callWith_builtin (by show (false || (backTo cpos (starEach es X.env)).any (·.1)) = false; rw [hplain] <;> rfl) (Calls.evalArgs_plain ?_)
  refine thn hA fun us s2 ⟨vs, H2, I2, r2, y, z, kvs, k, ev, g, hl, hy, hk, ht, q2, q3⟩ => ?_
  subst ev
  obtain ⟨u1, u2, rfl, ry, rz⟩ := vals_two r2
  obtain ⟨ob, hd, xs, hz, rr⟩ := g
  obtain ⟨ks, rfl⟩ := ht
  obtain ⟨ad, zs, rfl, _⟩ := hy.tup_inv
  cases ry
  have hsz : xs.length ≤ sizeLine := by
    rw [← Paired.length rr.rel, sizeLine_eq]
    omega
  have hv := ndr_val rr.rel (.tup ks)
  refine call_setdefault_heap (hsz := hsz) (room_nd hu) (nd_is I2 hy hk) rr.low (nd_dict I2 hd hz rr) (fun p hp => ?_) fun hp h' dd hs' => ?_
  · rw [hp] at hv
    cases hvv : valV kvs (.tup ks) with
    | none =>
      rw [hvv] at hv
      exact hv.elim
    | some v =>
      rw [hvv] at hv
      exact ⟨v, H2, I2.tok _, hv, q2 v hvv⟩
  · rw [hp] at hv
    have hvv : valV kvs (.tup ks) = none := by
      cases hvv : valV kvs (.tup ks) with
      | none => rfl
      | some v =>
        rw [hvv] at hv
        exact hv.elim
    obtain ⟨q, hq, I'⟩ := nd_now (t' := _) I2 hd hs' dd
    exact ⟨z, _, I', rz, q3 hvv _ ⟨q, upd_same, _, hq, dke_put rr hd hy hk rz⟩⟩
/-- o.f = .. , f a slot -/
def gSl (K : PySem.W.Frag) (ta : TE) (f : Str) : TG := fun v σ H Q => ta σ H fun x H1 => ∃ a C dx p vs i, x = .ref a ∧ SlX.Slt H1 a C dx vs ∧ SlX.SCls K C ∧ SlX.Slot1 K C f p i ∧ Q σ (SlX.slH H1 a C dx (SlX.putS i v vs))
theorem pg_sl (ho : PE X o ta) : PG X (.Attribute o f pos) (gSl X.K ta f) := ⟨fun pins s σ H v u Q I r h => by
  rw [assign_Attribute]
  refine wpAny_bind (wpAny_holding (thn (ho.run pins s σ H _ I h) fun ov s1 ⟨x, H1, I1, r1, a, C, dx, p, vs, i, ex, hsl, c, t, q2⟩ => ?_))
  subst ex
  obtain rfl : ov = Value.ref a := r1
  refine wpAny_bind (wpAny_standAt (wpAny_bind (wpAny_holding (SlX.setslot_ok I1 hsl c t r fun s3 I3 => wpAny_release ⟨σ, _, I3, q2⟩))))⟩
/-- a star within a block -/
theorem pa_starK {K : PySem.W.Frag} {te : TE} {sp : Pos} (hK : X.K = K) (he : PE X e te) (hr : PA X es t) (hs : starEach (.Starred e sp :: es) X.env = (true, eval e X.env) :: starEach es X.env := by rfl) : PA X (.Starred e sp :: es) (StX.tStar K te t) := by
  subst hK
  exact StX.pa_star he hr hs
end
end M

/-! the class Ways: what stands in it; __init__ -/
namespace M
open PySem PySem.Spec PyProof.Rows L2
abbrev sWays : Stmt := topS 48
abbrev sWInit : Stmt := inClass sWays 1
abbrev sWClosed : Stmt := inClass sWays 2
abbrev sWGoes : Stmt := inClass sWays 3
abbrev iTh : Nat := 2
abbrev iFo : Nat := 1
abbrev iBe : Nat := 0
structure WaC (K : PySem.W.Frag) (C : Addr) : Prop where
  c : SlX.SCls K C
  th : ∃ p, SlX.Slot1 K C "thing" p iTh
  fo : ∃ p, SlX.Slot1 K C "found" p iFo
  be : ∃ p, SlX.Slot1 K C "begun" p iBe
/-- a method of the class, and where it stands -/
structure DfM (K : PySem.W.Frag) (C : Addr) (m qn : Str) (st : Stmt) (ps : List Str) : Prop where
  ex : ∃ f fd, Fun K m qn st f fd ∧ SlX.SCls K C ∧ Meth K C m f ∧ Binds K fd ps []
/-- .. that keeps its promise -/
structure KnM (P : Program) (w : World) (K : PySem.W.Frag) (mg : Str → Option Value) (base : Heap) (C : Addr) (k : Nat) (m : Str) (sp : Sp) : Prop where
  ex : ∃ g, FnR P w K mg base CX0 k g sp ∧ Meth K C m g
/-- the class can be called -/
structure DfI (K : PySem.W.Frag) (mg : Str → Option Value) (C : Addr) (x qn : Str) (st : Stmt) (ps : List Str) : Prop where
  ex : ∃ f fd, Fun K "__init__" qn st f fd ∧ mg x = some (.ref C) ∧ Mk K C f ∧ Binds K fd ps []
structure KnI (P : Program) (w : World) (K : PySem.W.Frag) (mg : Str → Option Value) (base : Heap) (C : Addr) (k : Nat) (x : Str) (ps : List Str) (sp : Sp) : Prop where
  ex : ∃ f fd, FnOk P w K mg base CX0 k f fd ps sp ∧ mg x = some (.ref C) ∧ Mk K C f ∧ Binds K fd ps []
section
variable {P : Program} {w : World} {K : PySem.W.Frag} {mg : Str → Option Value} {base : Heap} {C : Addr} {m qn x : Str} {st : Stmt} {ps : List Str} {sp : Sp} {k : Nat}
theorem DfM.kn {N : List Str} (D : DfM K C m qn st ps) (S : FnScope N ps (defScope st)) (len : ∀ vs H Q E, sp vs H Q E → vs.length = ps.length)
    (hbody : ∀ (f : Addr) (cdv : Value) (A : Around) (outer : List Env) (s : Shared) (H : Hp) (vs : List V) (Q : VK) (E : XK), Room k (A.deeper (envOfC qn (defScope st) s.heap.objs.size f cdv)) → sp vs H Q E →
      ∃ t, PSs (cxOf CX0 P w K mg base N qn (defScope st) f cdv A outer s H E).nox (defBody st) t ∧ t { nx := fun _ H' => Q .non H', rt := Q } (start N vs) H) : KnM P w K mg base C (k + 1) m sp := by
  obtain ⟨f, fd, F, _, hm, hb⟩ := D.ex
  refine ⟨⟨f, ?_, hm⟩⟩
  have := FnOk.raw (dvs := []) (F.ok S len (hbody f)) hb .nil
  exact this.imp fun vs H Q E h => by
    rw [List.append_nil]
    exact h
theorem DfI.kn {N : List Str} (D : DfI K mg C x qn st ps) (S : FnScope N ps (defScope st)) (len : ∀ vs H Q E, sp vs H Q E → vs.length = ps.length)
    (hbody : ∀ (f : Addr) (cdv : Value) (A : Around) (outer : List Env) (s : Shared) (H : Hp) (vs : List V) (Q : VK) (E : XK), Room k (A.deeper (envOfC qn (defScope st) s.heap.objs.size f cdv)) → sp vs H Q E →
      ∃ t, PSs (cxOf CX0 P w K mg base N qn (defScope st) f cdv A outer s H E).nox (defBody st) t ∧ t { nx := fun _ H' => Q .non H', rt := Q } (start N vs) H) : KnI P w K mg base C (k + 1) x ps sp := by
  obtain ⟨f, fd, F, hm, M, hb⟩ := D.ex
  exact ⟨⟨f, fd, F.ok S len (hbody f), hm, M, hb⟩⟩
end
section
variable {X : Cx} {C : Addr} {k : Nat} {m x : Str} {ps : List Str} {sp : Sp} {o e : Expr} {es : List Expr} {ta : TE} {t : TA} {p pos apos : Pos}
theorem pe_km {pl : Sem Bool} (he : PE X o ta) (c : SlX.SCls X.K C) (F : KnM X.prog X.w X.K X.mg X.base C k m sp) (hr : Room k X.A) (ha : PA X (e :: es) t)
    (hst : starEach (e :: es) X.env = (false, eval e X.env) :: starEach es X.env := by rfl) (hpl : (backTo pos (starEach es X.env)).any (·.1) = false := by rfl)
    (ht : eval (.Call (.Attribute o m apos) (e :: es) [] pos) X.env = (do
      let ov ← eval o X.env
      standAt apos.atName
      let (f, first) ← holding [ov] (getMethod ov m pl)
      callWith pos f first (backTo pos (starEach (e :: es) X.env)) (backToKw pos (keywordEach [] X.env))) := by rfl) :
    PE X (.Call (.Attribute o m apos) (e :: es) [] pos) (SlX.tMethSl C sp E0 ta t) := by
  obtain ⟨g, F, hm⟩ := F.ex
  exact SlX.pe_methSl (pl := pl) he c hm F hr pass0 ha hst hpl ht
theorem pe_km0 {pl : Sem Bool} (he : PE X o ta) (c : SlX.SCls X.K C) (F : KnM X.prog X.w X.K X.mg X.base C k m sp) (hr : Room k X.A)
    (ht : eval (.Call (.Attribute o m apos) [] [] pos) X.env = (do
      let ov ← eval o X.env
      standAt apos.atName
      let (f, first) ← holding [ov] (getMethod ov m pl)
      callWith pos f first (backTo pos (starEach [] X.env)) (backToKw pos (keywordEach [] X.env))) := by rfl) :
    PE X (.Call (.Attribute o m apos) [] [] pos) (SlX.tMethSl C sp E0 ta tNil) := by
  obtain ⟨g, F, hm⟩ := F.ex
  exact SlX.pe_methSl0 (pl := pl) he c hm F hr pass0 ht
theorem pe_ki (F : KnI X.prog X.w X.K X.mg X.base C k x ps sp) (hr : Room (k + 1) X.A) (ha : PA X (e :: es) t) (hg : Gl X x := by rfl)
    (hdb : (x == ("__debug__" : Str)) = false := by decide) (he : starEach (e :: es) X.env = (false, eval e X.env) :: starEach es X.env := by rfl) (hpl : (backTo pos (starEach es X.env)).any (·.1) = false := by rfl) :
    PE X (.Call (.Name x p) (e :: es) [] pos) (tMake C sp [] E0 t) := by
  obtain ⟨f, fd, F, hm, M, hb⟩ := F.ex
  exact pe_make M F hr hg hm hb .nil pass0 ha hdb he hpl
end
abbrev Wy := List (Nat × Nat)
def eWy (ms : Wy) : NK := .tup (ms.map eM)
/-- the beliefs, each with its way -/
def DW (K : PySem.W.Frag) (H : Hp) (kvs : List (NK × V)) (W : List (Bel × Wy)) : Prop := Paired (fun kv bw => kv.1 = eB bw.1 ∧ At K H kv.2 (eWy bw.2)) kvs W
theorem DW.ext {K : PySem.W.Frag} {H H' : Hp} {kvs : List (NK × V)} {W : List (Bel × Wy)} (h : DW K H kvs W) (x : Ext K H H') : DW K H' kvs W := Paired.mapP h fun _ _ r => ⟨r.1, r.2.ext x⟩
theorem DW.keys {K : PySem.W.Frag} {H : Hp} {kvs : List (NK × V)} {W : List (Bel × Wy)} (h : DW K H kvs W) : kvs.map (·.1) = (W.map (·.1)).map eB := by
  rw [List.map_map]
  exact paired_map h fun _ _ r => r.1
/-- at x stands an instance over the thing T: what it keeps; H0 stood before it -/
def WA (P : Program) (w : World) (K : PySem.W.Frag) (C : Addr) (H0 H : Hp) (x : Addr) (T : Th) (bg : V) (W : List (Bel × Wy)) : Prop :=
  Same H0 H ∧ H0 x = none ∧ ∃ (dx d g : Addr) (vs : List (Option V)) (tv : V) (kvs : List (NK × V)), H0 dx = none ∧ H0 d = none ∧ H0 g = none ∧ d ≠ x ∧ SlX.Slt H x C dx vs ∧ vs[iTh]? = some (some tv) ∧ vs[iFo]? = some (some (.ref d)) ∧ vs[iBe]? = some (some (.ref g)) ∧
    Tg K H0 tv T ∧ DK P w K H d kvs ∧ DW K H kvs W ∧ H g = some (.lst [bg])
section
variable {K : PySem.W.Frag} {H : Hp} {x C dx : Addr} {vs ws : List (Option V)}
theorem slt_some (h : SlX.Slt H x C dx vs) : ∃ u, H x = some u ∧ Mut (some u) := by
  rcases h with ⟨h, _⟩ | ⟨h, _⟩
  · exact ⟨_, h, trivial⟩
  · exact ⟨_, h, trivial⟩
theorem slh_at : SlX.slH H x C dx ws x = some (SlX.SlO x C dx ws) := upd_same
theorem xd_mut : (∀ xs, (HO.xd []) ≠ .tup xs) ∧ ∀ q w, (HO.xd []) ≠ .frz q w := ⟨fun _ z => (nomatch z), fun _ _ z => (nomatch z)⟩
theorem slh_ext (h : SlX.Slt H x C dx vs) (hd : H dx = some (.own x) ∨ H dx = some (.xd []) ∨ H dx = none) : Ext K H (SlX.slH H x C dx ws) := by
  have e1 : Ext K H (upd H dx (.xd [])) := Ext.upd fun u e => by
    rcases hd with z | z | z
    · rw [z] at e
      cases e
      exact ⟨fun _ z => (nomatch z), fun _ _ z => (nomatch z)⟩
    · rw [z] at e
      cases e
      exact xd_mut
    · rw [z] at e
      cases e
  obtain ⟨u, hu, mu⟩ := slt_some h
  refine e1.trans ?_
  unfold SlX.slH
  refine Ext.upd fun v e => ?_
  by_cases c : x = dx
  · rw [c, upd_same] at e
    cases e
    exact xd_mut
  · rw [upd_ne c, hu] at e
    cases e
    refine ⟨fun xs z => ?_, fun q w z => ?_⟩
    · rw [z] at mu
      exact mu
    · rw [z] at mu
      exact mu
end
section
variable {P : Program} {w : World} {K : PySem.W.Frag} {mg : Str → Option Value} {base : Heap} {C : Addr}
theorem scWInit : FnScope ["self", "thing", "hands"] ["self", "thing", "hands"] (defScope sWInit) := ⟨rfl, rfl, rfl, by decide +kernel, rfl, by decide +kernel, by decide +kernel⟩
def spWInit (P : Program) (w : World) (K : PySem.W.Frag) (C : Addr) : Sp := fun vs H Q _ => ∃ (H0 : Hp) (T : Th) (x dx : Addr) (v : V), vs = [.ref x, v, .int 1] ∧ Same H0 H ∧ H0 x = none ∧ H0 dx = none ∧ dx ≠ x ∧ H x = some (.ins C dx []) ∧ H dx = some (.own x) ∧ Tg K H0 v T ∧
  ∀ H', WA P w K C H0 H' x T .non [((0, .idle), [])] → Q .non H'
theorem k_w_init (T : Tx K mg) (W : WaC K C) (D : DfI K mg C "Ways" "Ways.__init__" sWInit ["self", "thing", "hands"]) (F1 : Kn P w K mg base 1 "first_belief" ["hands"] (spFirstBelief K)) :
    KnI P w K mg base C 2 "Ways" ["self", "thing", "hands"] (spWInit P w K C) := by
  refine D.kn scWInit (fun vs H Q E h => ?_) (fun f cdv A outer s H vs Q E hr h => ?_)
  · obtain ⟨H0, Z, x, dx, v, rfl, _⟩ := h
    rfl
  · obtain ⟨H0, Z, x, dx, v, rfl, s0, x0, dx0, ne, hx, hdx, hv, q⟩ := h
    refine ⟨_, pss_one (ps_asg (pe_tup (pa_cons (pv 1) (pa_cons (pe_nd1 hr.units (pe_kn F1 hr (pa_cons (pv 2) pa_nil)) (pe_tupN pa_nil)) (pa_cons (pe_op op_rep (pe_lst (pa_cons pe_non pa_nil)) (pv 2)) pa_nil))))
      (pg_tup rfl (pgs_cons (pg_sl (pv 0)) (pgs_cons (pg_sl (pv 0)) (pgs_cons (pg_sl (pv 0)) pgs_nil))))), ?_⟩
    refine ⟨v, rfl, fun d o0 nD h00 => ⟨.int 1, rfl, rfl, fun z H1 s1 hz => ⟨[], .nil, by decide, fun wv H2 s2 hw => ⟨eB (0, .idle), hz.same s2, (b_deep _).1, ⟨_, rfl⟩, (h00.same s1).same s2, fun ob hob => ?_⟩⟩⟩⟩
    have smD : Same H (upd H d o0) := same_upd nD
    have sm2 : Same H (upd H2 d ob) := fun b u e => by
      rw [upd_ne (ne_of_none e nD)]
      exact s2 _ _ (s1 _ _ (smD _ _ e))
    have hw2 : At K (upd H2 d ob) wv (eWy []) := by
      obtain ⟨u, hu, mu⟩ := ((h00.same s1).same s2).mut
      exact hw.ext (Ext.mut hu mu)
    generalize upd H2 d ob = H3 at *
    refine ⟨by decide, fun p np => ⟨.int 1, rfl, p, 1, [.non], rfl, rfl, upd_same, by decide, by decide, by decide, fun L nL => ?_⟩⟩
    have sp : Same H3 (upd H3 p (.lst [.non])) := same_upd np
    have sL := same_upd (o := .lst (List.replicate (1 : Int).toNat [V.non]).flatten) nL
    have hL : upd (upd H3 p (.lst [.non])) L (.lst (List.replicate (1 : Int).toNat [V.non]).flatten) L = some (.lst [.non]) := upd_same
    have s34 := sp.trans sL
    generalize upd (upd H3 p (.lst [.non])) L (.lst (List.replicate (1 : Int).toNat [V.non]).flatten) = H4 at *
    refine ⟨by show 3 ≤ sizeLine; decide, fun t nt => ?_⟩
    have sT := same_upd (o := .tup [v, .ref d, .ref L]) nt
    have hT : SqT K (upd H4 t (.tup [v, .ref d, .ref L])) t [v, .ref d, .ref L] := SqT.of upd_same
    have sm5 := (sm2.trans s34).trans sT
    have hD5 := (hob.same s34).same sT
    have hw5 := (hw2.same s34).same sT
    have hL5 := sT _ _ hL
    have nL3 : H3 L = none := sp.free nL
    have nL0 : H L = none := sm2.free nL3
    generalize upd H4 t (.tup [v, .ref d, .ref L]) = H5 at *
    obtain ⟨pT, tT⟩ := W.th
    obtain ⟨pF, tF⟩ := W.fo
    obtain ⟨pB, tB⟩ := W.be
    have hx5 := sm5 _ _ hx
    have hdx5 := sm5 _ _ hdx
    have S0 : SlX.Slt H5 x C dx [] := .inl ⟨hx5, rfl⟩
    have nDx : d ≠ x := fun z => by
      rw [z, hx] at nD
      cases nD
    have nDdx : d ≠ dx := fun z => by
      rw [z, hdx] at nD
      cases nD
    have nLx : L ≠ x := fun z => by
      rw [z, hx] at nL0
      cases nL0
    have nLdx : L ≠ dx := fun z => by
      rw [z, hdx] at nL0
      cases nL0
    refine ⟨t, _, rfl, hT, rfl, v, _, rfl, .ref x, rfl, x, C, dx, pT, [], iTh, rfl, S0, W.c, tT, ?_⟩
    refine ⟨.ref d, _, rfl, .ref x, rfl, x, C, dx, pF, _, iFo, rfl, SlX.slH_slt ne, W.c, tF, ?_⟩
    refine ⟨.ref L, _, rfl, .ref x, rfl, x, C, dx, pB, _, iBe, rfl, SlX.slH_slt ne, W.c, tB, rfl, ?_⟩
    rw [SlX.slH_twice ne, SlX.slH_twice ne]
    have ex : Ext K H5 (SlX.slH H5 x C dx (SlX.putS iBe (.ref L) (SlX.putS iFo (.ref d) (SlX.putS iTh v [])))) := slh_ext S0 (.inl hdx5)
    refine q _ ⟨fun b o e => ?_, x0, dx, d, L, _, v, _, dx0, s0.free nD, s0.free nL0, nDx, SlX.slH_slt ne, ?_, ?_, ?_, hv, hD5.mono ex (fun o e => ?_), .cons ⟨rfl, hw5.ext ex⟩ .nil, ?_⟩
    · rw [SlX.slH_ne (ne_of_none e x0) (ne_of_none e dx0)]
      exact sm5 _ _ (s0 _ _ e)
    · rw [SlX.putS_ne (by decide), SlX.putS_ne (by decide), SlX.putS_get]
    · rw [SlX.putS_ne (by decide), SlX.putS_get]
    · rw [SlX.putS_get]
    · rw [SlX.slH_ne nDx nDdx]
      exact e
    · rw [SlX.slH_ne nLx nLdx]
      exact hL5
end
end M

/-! Ways.closed -/
namespace M
open PySem PySem.Spec PyProof.Rows L2
/-- the way of a belief, where the hand's call began at n behind the way m -/
def wayX (m : Wy) (n : Nat) (b : Bel) : Wy := match b.2 with
  | .has r => m ++ [(n, r)]
  | _ => m
theorem wayOf_x (row : Row) (b : Bel) : wayOf row b = wayX (mom row) (2 * row.length) b := by
  obtain ⟨s, x⟩ := b
  cases x <;> rfl
def wys (m : Wy) (n : Nat) (ls : List Bel) : List (Bel × Wy) := ls.map fun b => (b, wayX m n b)
theorem wys_keys (m : Wy) (n : Nat) (ls : List Bel) : (wys m n ls).map (·.1) = ls := by
  unfold wys
  rw [List.map_map]
  exact List.map_id _
section
variable {P : Program} {w : World} {K : PySem.W.Frag} {H H' H'' : Hp} {kvs : List (NK × V)} {m : Wy} {n : Nat} {ls lb : List Bel} {b : Bel}
theorem dw_get : ∀ {ls : List Bel} {kvs : List (NK × V)}, DW K H kvs (wys m n ls) → b ∈ ls → ∃ v, valV kvs (eB b) = some v ∧ At K H v (eWy (wayX m n b))
  | [], _, _, h => by cases h
  | c :: ls, _, h, hb => by
    cases h with
    | @cons p _ ps _ r t =>
      by_cases e : p.1 = eB b
      · have eb : c = b := eB_inj (r.1.symm.trans e)
        subst eb
        exact ⟨p.2, valV_pos e, r.2⟩
      · rcases List.mem_cons.mp hb with rfl | hb
        · exact absurd r.1 e
        · obtain ⟨v, h1, h2⟩ := dw_get t hb
          exact ⟨v, by rw [valV_neg e]; exact h1, h2⟩
theorem dw_put {z : V} (h : DW K H kvs (wys m n ls)) (hn : b ∉ ls) (hz : At K H z (eWy (wayX m n b))) : DW K H (putK kvs (eB b) z) (wys m n (ls ++ [b])) := by
  have e : valV kvs (eB b) = none := by
    have e1 : (kvs.any fun kv => decide (kv.1 = eB b)) = false := by
      rw [List.any_eq_false]
      intro p hp q
      have : p.1 ∈ kvs.map (·.1) := List.mem_map_of_mem hp
      rw [h.keys, wys_keys, of_decide_eq_true q] at this
      exact hn (mem_eB.mp this)
    rw [valV_any] at e1
    cases q : valV kvs (eB b) with
    | none => rfl
    | some v =>
      rw [q] at e1
      cases e1
  rw [putK_new z e]
  unfold wys
  rw [List.map_append]
  exact Paired.snoc h ⟨rfl, hz⟩
/-- all that closed changes: the dict at d and its list at L -/
structure CS (P : Program) (w : World) (K : PySem.W.Frag) (H H' : Hp) (d L : Addr) (m : Wy) (n : Nat) (ls lb : List Bel) : Prop where
  sb : ∀ b o, b ≠ d → H b = some o → H' b = some o
  ex : Ext K H H'
  dk : ∃ kvs, DK P w K H' d kvs ∧ DW K H' kvs (wys m n ls)
  ln : ∃ ys, H' L = some (.lst ys) ∧ Ats K H' ys (lb.map eB)
theorem CS.same {d L : Addr} (h : CS P w K H H' d L m n ls lb) (s : Same H' H'') : CS P w K H H'' d L m n ls lb := by
  obtain ⟨sb, ex, ⟨kvs, h1, h2⟩, ys, h3, h4⟩ := h
  exact ⟨fun b o e q => s _ _ (sb b o e q), ex.trans (.of_same s), ⟨kvs, h1.same s, h2.ext (.of_same s)⟩, ys, s _ _ h3, h4.same s⟩
theorem CInv.popF {T : Th} {bs ls lc : List Bel} {b : Bel} (h : CInv T bs ls (b :: lc) fun _ => False) : CInv T bs ls lc (· = b) :=
  ⟨h.nd, h.sub, h.all, fun d hd => h.open_ d (List.mem_cons_of_mem _ hd), by have := h.le; simp only [List.length_cons] at this; omega, fun d hd => by
    rcases h.done d hd with q | q | q
    · rcases List.mem_cons.mp q with z | z
      · exact .inr (.inl z)
      · exact .inl z
    · exact q.elim
    · exact .inr (.inr q)⟩
theorem slt_full {x C dx : Addr} {vs : List (Option V)} {i : Nat} {o : Option V} (h : SlX.Slt H x C dx vs) (e : vs[i]? = some o) : H x = some (SlX.SlO x C dx vs) ∧ H dx = some (.xd []) := by
  rcases h with ⟨_, rfl⟩ | h
  · simp at e
  · exact h
theorem nd_not_sl {d x C dx : Addr} {vs : List (Option V)} (h : DK P w K H d kvs) (hd : H dx = some (.xd [])) : d ≠ dx := fun z => by
  obtain ⟨o, h, _⟩ := h
  rw [z, hd] at h
  cases h
theorem nd_not_lst {d l : Addr} {xs : List V} (h : DK P w K H d kvs) (hd : H l = some (.lst xs)) : d ≠ l := fun z => by
  obtain ⟨o, h, _⟩ := h
  rw [z, hd] at h
  cases h
end
section
variable {P : Program} {w : World} {K : PySem.W.Frag} {mg : Str → Option Value} {base : Heap} {C : Addr}
theorem scWClosed : FnScope ["self", "line", "belief", "hand", "what", "result", "to", "more"] ["self"] (defScope sWClosed) := ⟨rfl, rfl, rfl, by decide +kernel, rfl, by decide +kernel, by decide +kernel⟩
def spWClosed (P : Program) (w : World) (K : PySem.W.Frag) (C : Addr) : Sp := fun vs H Q _ => ∃ (H0 : Hp) (T : Th) (x : Addr) (m : Wy) (n : Nat) (bs : List Bel), vs = [.ref x] ∧ WA P w K C H0 H x T (.int n) (wys m n bs) ∧ TOk T ∧ m.length ≤ 100 ∧ bs.Nodup ∧ (∀ b ∈ bs, BT T b) ∧ (cl T bs).length ≤ 4000 ∧
  ∀ H' ls, WA P w K C H0 H' x T (.int n) (wys m n ls) → ls.Nodup → (∀ b, b ∈ ls ↔ b ∈ cl T bs) → Q .non H'
theorem k_w_closed (T : Tx K mg) (W : WaC K C) (D : DfM K C "closed" "Ways.closed" sWClosed ["self"]) (F1 : Kn P w K mg base 5 "outcomes_of" ["thing", "state", "call"] (spOutcomesOf K)) (F2 : Kn P w K mg base 1 "with_hand" ["belief", "hand", "what"] (spWithHand K)) :
    KnM P w K mg base C 6 "closed" (spWClosed P w K C) := by
  refine D.kn scWClosed (fun vs H Q E h => ?_) (fun f cdv A outer s H vs Q E hr h => ?_)
  · obtain ⟨H0, Z, x, m, n, bs, rfl, _⟩ := h
    rfl
  · obtain ⟨H0, Z, x, m, n, bs, rfl, ⟨s0, x0, dx, d, g, sv, tv, kvs0, dx0, d0, g0, dnx, hsl, eT, eF, eB', hv, hD0, hW0, hg⟩, hZ, hm, nd, hb, hl, q⟩ := h
    refine ⟨_, pss_cons (ps_set (i := 1) scWClosed.nd rfl (Or.inl rfl) (pe_callTy (list_nd rfl) (by rfl) T.list boot_list (pa_cons (SlX.pe_sl (pv 0)) pa_nil)))
      (pss_one (ps_while PassesOwn.never (pt_cmpR (op_neL hr.units) (pv 1) (pe_lst pa_nil) (nomark _))
        (pss_cons (ps_set (i := 2) scWClosed.nd rfl (Or.inl rfl) (pe_bm F.plainAttrs_list F.slot_list_pop F.type_list_pop mt_popAt (pv 1) (pa_cons pe_int pa_nil)))
        (pss_cons (ps_for PassesOwn.never rfl (pi_enumT (by rfl) T.enumerate (pa_cons (pe_ix ix_n (pv 2) pe_int (fun _ _ => rfl)) pa_nil)) (pg_tup rfl (pgs_cons (pg_name (i := 3) scWClosed.nd rfl (Or.inl rfl)) (pgs_cons (pg_name (i := 4) scWClosed.nd rfl (Or.inl rfl)) pgs_nil)))
          (pss_one (ps_if (PW.pt (pw_and (pt_cmp (pc_notN (pv 4))) (pw_and1 (pt_cmpR (op_eqN hr.units) (pe_ix ix_n (pv 4) pe_int (fun _ _ => rfl)) (pe_gs T.asks) (nomark _)))))
            (pss_one (ps_for PassesOwn.never rfl (pi_tup (pe_kn F1 hr (pa_cons (SlX.pe_sl (pv 0)) (pa_cons (pe_ix ix_n (pv 2) pe_int (fun _ _ => rfl)) (pa_cons (pe_slice sl_n (pv 4) (po_some pe_int) po_none) pa_nil))))) (pg_tup rfl (pgs_cons (pg_name (i := 5) scWClosed.nd rfl (Or.inl rfl)) (pgs_cons (pg_name (i := 6) scWClosed.nd rfl (Or.inl rfl)) pgs_nil)))
              (pss_cons (ps_set (i := 7) scWClosed.nd rfl (Or.inl rfl) (pe_kn F2 (hr.mono (by decide)) (pa_cons (pe_tupN (pa_cons (pv 6) (pa_cons (pe_ix ix_n (pv 2) pe_int (fun _ _ => rfl)) pa_nil))) (pa_cons (pv 3) (pa_cons (pe_tupN (pa_cons (pe_gs T.has) (pa_cons (pv 5) pa_nil))) pa_nil)))))
              (pss_one (ps_if (pt_cmpR (op_notInD hr.units) (pv 7) (SlX.pe_sl (pv 0)) (by rfl))
                (pss_cons (ps_ndPut hr.units (SlX.pe_sl (pv 0)) (pv 7) (pe_tupN (StX.pa_star (pe_ndGet hr.units (SlX.pe_sl (pv 0)) (pv 2) (fun _ _ => rfl)) (pa_cons (pe_tupN (pa_cons (pe_ix ix_list (SlX.pe_sl (pv 0)) (pv 3) (fun _ _ => rfl)) (pa_cons (pv 5) pa_nil))) pa_nil))))
                (pss_one (ps_expr (pe_bm F.plainAttrs_list F.slot_list_append F.type_list_append mt_append (pv 1) (pa_cons (pv 7) pa_nil))))) pss_nil))))) pss_nil)))
        (pss_one (ps_if (pt_cmpR op_gt (pe_callB len_nd (by rfl) T.len PySem.boot_len (pa_cons (SlX.pe_sl (pv 0)) pa_nil)) (pe_gi T.mostBeliefs) (nomark _)) (pss_one ps_never) pss_nil)))))), ?_⟩
    obtain ⟨pT, tT⟩ := W.th
    obtain ⟨pF, tF⟩ := W.fo
    obtain ⟨pB, tB⟩ := W.be
    obtain ⟨hx, hdx⟩ := slt_full hsl eT
    have ka : PyData.strOk "asks" = true := by decide +kernel
    have kh : PyData.strOk "has" = true := by decide +kernel
    have dndx := nd_not_sl (x := x) (C := C) (vs := sv) hD0 hdx
    have dng := nd_not_lst hD0 hg
    have lk0 : kvs0.length = bs.length := by
      have := Paired.length hW0
      simpa [wys] using this
    have lb0 : bs.length ≤ (cl Z bs).length := by simp [cl]
    have okU := cl_bt hZ hb
    refine ⟨.ref x, rfl, x, C, dx, pF, sv, iFo, .ref d, rfl, hsl, W.c, tF, eF, d, kvs0, rfl, hD0, by omega, fun L ys nL hys => ?_⟩
    have sL : Same H (upd H L (.lst ys)) := same_upd nL
    have nL0 : H0 L = none := s0.free nL
    rw [hW0.keys, wys_keys] at hys
    have cs0 : CS P w K H (upd H L (.lst ys)) d L m n bs bs := ⟨fun b o _ e => sL _ _ e, Ext.of_same sL, ⟨kvs0, hD0.same sL, hW0.ext (.of_same sL)⟩, ys, upd_same, hys.same sL⟩
    generalize upd H L (.lst ys) = H1 at *
    clear sL hys
    -- what a state keeps
    have hdn : ∀ {H' : Hp} {ls lb : List Bel}, CS P w K H H' d L m n ls lb → SlX.Slt H' x C dx sv ∧ H' g = some (.lst [.int n]) ∧ Same H0 H' := fun cs =>
      ⟨.inr ⟨cs.sb _ _ (Ne.symm dnx) hx, cs.sb _ _ (Ne.symm dndx) hdx⟩, cs.sb _ _ (Ne.symm dng) hg, fun b o e => cs.sb _ _ (ne_of_none e d0) (s0 _ _ e)⟩
    have nLd : ∀ {H' : Hp} {ls lb : List Bel}, CS P w K H H' d L m n ls lb → d ≠ L := fun cs => by
      obtain ⟨ys, h, _⟩ := cs.ln
      obtain ⟨kvs, h2, _⟩ := cs.dk
      exact nd_not_lst h2 h
    refine ⟨fun k σ H' => ∃ p2 p3 p4 p5 p6 p7, σ = [some (.ref x), some (.ref L), p2, p3, p4, p5, p6, p7] ∧ ∃ ls lb, CS P w K H H' d L m n ls lb ∧ CInv Z bs ls lb (fun _ => False) ∧ k = 2 * ((cl Z bs).length - ls.length) + lb.length, ⟨2 * ((cl Z bs).length - bs.length) + bs.length, ?_⟩, ?_⟩
    · exact ⟨none, none, none, none, none, none, rfl, bs, bs, cs0, ⟨nd, fun b h => List.mem_append_left _ h, fun b h => h, fun b h => h, Nat.le_refl _, fun b h => .inl h⟩, rfl⟩
    · rintro k _ H3 ⟨p2, p3, p4, p5, p6, p7, rfl, ls, lb, cs, ci, rfl⟩
      refine ⟨.ref L, rfl, ?_⟩
      refine ⟨by decide, fun p np => ?_⟩
      have sp : Same H3 (upd H3 p (.lst [])) := same_upd np
      obtain ⟨ys, hL, hy⟩ := cs.ln
      refine ⟨L, p, ys, lb.map eB, rfl, rfl, SqL.of (sp _ _ hL), hy.same sp, SqL.of upd_same, _, rfl, ?_⟩
      have cs4 := cs.same sp
      clear hL hy
      generalize upd H3 p (.lst []) = H4 at *
      clear cs sp np
      cases lb with
      | nil =>
        refine iteF ?_
        obtain ⟨h1, h2, h3⟩ := hdn cs4
        obtain ⟨kvs, h4, h5⟩ := cs4.dk
        exact q H4 ls ⟨h3, x0, dx, d, g, sv, tv, kvs, dx0, d0, g0, dnx, h1, eT, eF, eB', hv, h4, h5, h2⟩ ci.nd fun b => ci.fin b
      | cons b lc =>
        refine iteT ⟨fun σ H' => ∃ k', k' < 2 * ((cl Z bs).length - ls.length) + (b :: lc).length ∧ ∃ p2 p3 p4 p5 p6 p7, σ = [some (.ref x), some (.ref L), p2, p3, p4, p5, p6, p7] ∧ ∃ ls lb, CS P w K H H' d L m n ls lb ∧ CInv Z bs ls lb (fun _ => False) ∧ k' = 2 * ((cl Z bs).length - ls.length) + lb.length, fun σ' H' z => z, ?_⟩
        -- what is popped
        obtain ⟨ys, hL, hy⟩ := cs4.ln
        have hyl : ys.length = lc.length + 1 := by
          have := hy.length
          simpa using this
        obtain ⟨y, yr, rfl⟩ : ∃ y yr, ys = y :: yr := by
          cases ys with
          | nil => simp at hyl
          | cons y yr => exact ⟨y, yr, rfl⟩
        obtain ⟨hy1, hy2⟩ : At K H4 y (eB b) ∧ Ats K H4 yr (lc.map eB) := by
          cases hy with
          | cons a c => exact ⟨a, c⟩
        refine ⟨.ref L, rfl, .inl ⟨rfl, _, SqL.of hL⟩, L, y :: yr, 0, 0, y, rfl, rfl, hL, by decide, by decide, by simp [seqIndex?], rfl, ?_⟩
        have exL : Ext K H4 (upd H4 L (.lst ((y :: yr).eraseIdx 0))) := Ext.mut hL trivial
        have cs5 : CS P w K H (upd H4 L (.lst ((y :: yr).eraseIdx 0))) d L m n ls lc := by
          obtain ⟨sb, ex, ⟨kvs, h1, h2⟩, _⟩ := id cs4
          refine ⟨fun b o ne e => ?_, ex.trans exL, ⟨kvs, h1.other hL trivial (nLd cs4), h2.ext exL⟩, yr, upd_same, hy2.ext exL⟩
          rw [upd_ne (ne_of_none e nL)]
          exact sb b o ne e
        have hyb := hy1.ext exL
        generalize upd H4 L (.lst ((y :: yr).eraseIdx 0)) = H5 at *
        clear exL cs4 hL hy hy1 hy2 hyl
        have hbT := okU b (ci.sub b (ci.open_ b (by simp)))
        have bin := ci.open_ b (by simp)
        have bcl := ci.sub b bin
        have ci := ci.popF
        obtain ⟨sn, xw⟩ := b
        refine ⟨y, rfl, _, 1, .tup [eW xw], hyb, rfl, rfl, fun y2 hy2 => ?_⟩
        obtain ⟨a, xs, rfl, hs, ha⟩ := hy2.tup_inv
        have hl1 : xs.length = 1 := ha.length
        refine ⟨a, xs, rfl, hs, ?_⟩
        refine for_it (walk_enumT (xs := xs)) (fun i σ H' => ∃ p3 p4 p5 p6 p7, σ = [some (.ref x), some (.ref L), some y, p3, p4, p5, p6, p7] ∧ Ext K H5 H' ∧ ∃ ls' lb', CS P w K H H' d L m n ls' lb' ∧ CInv Z bs ls' lb' (· = (sn, xw)) ∧ (sn, xw) ∈ ls' ∧ (∀ e ∈ (if i = 0 then [] else tak Z (sn, xw)), e ∈ ls') ∧
          2 * ((cl Z bs).length - ls'.length) + lb'.length ≤ 2 * ((cl Z bs).length - ls.length) + lc.length) ?_ ?_ ?_ ?_
        · exact ⟨p3, p4, p5, p6, p7, rfl, Ext.refl _, ls, lc, cs5, ci, bin, fun e he => by simp at he, Nat.le_refl _⟩
        · rintro i σ H6 _ ⟨_, _, _, _, _, _, ex6, _⟩
          exact ex6 _ _ hs
        · rintro i z σ H6 H6' hi ⟨p3, p4, p5, p6, p7, rfl, ex6, ls6, lb6, cs6, ci6, bin6, in6, m6⟩ ⟨Tp, z1, z2, rfl, nT, rfl, e1, e2⟩
          have i0 : i = 0 := by omega
          subst i0
          obtain rfl : V.int 0 = z1 := Option.some.inj e1
          obtain ⟨k1, ek, hk⟩ := (ha.ext ex6).back e2
          obtain rfl : eW xw = k1 := Option.some.inj ek
          have sT : Same H6 (upd H6 Tp (.tup [.int (0 : Nat), z2])) := same_upd nT
          have hk := hk.same sT
          have hT : SqT K (upd H6 Tp (.tup [.int (0 : Nat), z2])) Tp [.int 0, z2] := SqT.of upd_same
          have cs7 := cs6.same sT
          have ex7 := ex6.trans (.of_same sT)
          have hyb7 := hyb.ext ex7
          generalize upd H6 Tp (.tup [.int (0 : Nat), z2]) = H7 at *
          clear cs6 sT ex6
          refine ⟨Tp, [.int 0, z2], rfl, hT, rfl, _, _, rfl, _, _, rfl, rfl, ?_⟩
          cases xw with
          | idle =>
            obtain rfl := hk.none_inv
            refine ⟨.non, rfl, false, rfl, iteF (iteF ?_)⟩
            exact ⟨_, _, _, _, _, rfl, ex7, ls6, lb6, cs7, ci6, bin6, fun e he => by simp [tak] at he, m6⟩
          | has r =>
            obtain ⟨a2, zs, rfl, hs2, hr2⟩ := hk.tup_inv
            refine ⟨.ref a2, rfl, true, rfl, iteT ?_⟩
            have nh : decide ((NestedKey.text "has") = .text "asks") = false := by decide +kernel
            refine ⟨.ref a2, rfl, _, 0, _, hk, rfl, rfl, fun y9 hy9 => ⟨.text "has", .text "asks", hy9, .str _ ka, by decide, _, rfl, ?_⟩⟩
            rw [nh]
            exact iteF ⟨_, _, _, _, _, rfl, ex7, ls6, lb6, cs7, ci6, bin6, fun e he => by simp [tak] at he, m6⟩
          | asks c =>
            obtain ⟨a2, zs, rfl, hs2, hr2⟩ := hk.tup_inv
            refine ⟨.ref a2, rfl, true, rfl, iteT ?_⟩
            refine ⟨.ref a2, rfl, _, 0, _, hk, rfl, rfl, fun y9 hy9 => ⟨.text "asks", .text "asks", hy9, .str _ ka, by decide, _, rfl, iteT ?_⟩⟩
            obtain ⟨S7, hg7, s07⟩ := hdn cs7
            refine ⟨.ref x, rfl, x, C, dx, pT, sv, iTh, tv, rfl, S7, W.c, tT, eT, y, rfl, _, 0, .num sn, hyb7, rfl, rfl, fun y3 hy3 => ?_⟩
            obtain rfl := hy3.num_inv
            refine ⟨.ref a2, rfl, 1, rfl, _, some 1, none, hk, rfl, rfl, fun y3 H8 s8 hy3 => ?_⟩
            refine ⟨Z, tv, y3, sn, c, rfl, (hv.same s07).same s8, hZ, hbT.1, hy3, hbT.2.2 c rfl, fun zo H9 s9 hzo => ?_⟩
            obtain ⟨ao, os, rfl, hos, hat⟩ := hzo.tup_inv
            have s89 := s8.trans s9
            have cs9 := cs7.same s89
            have ex9 := ex7.trans (.of_same s89)
            have hl2 : os.length = (Z.out sn c).length := by rw [hat.length, List.length_map]
            have hl3 : (Z.out sn c).length ≤ 12 := Th.out_len hZ hbT.1 (hbT.2.2 c rfl)
            have ett : tak Z (sn, .asks c) = (Z.out sn c).map fun o => ((o.2, .has o.1) : Bel) := rfl
            refine ⟨ao, rfl, ⟨_, hos⟩, ?_⟩
            refine for_it (walk_tup (xs := os)) (fun j σ H' => ∃ p5 p6 p7, σ = [some (.ref x), some (.ref L), some y, some (.int 0), some (.ref a2), p5, p6, p7] ∧ Ext K H9 H' ∧ ∃ ls' lb', CS P w K H H' d L m n ls' lb' ∧ CInv Z bs ls' lb' (· = (sn, .asks c)) ∧ (sn, .asks c) ∈ ls' ∧ (∀ e ∈ (tak Z (sn, .asks c)).take j, e ∈ ls') ∧
              2 * ((cl Z bs).length - ls'.length) + lb'.length ≤ 2 * ((cl Z bs).length - ls.length) + lc.length) ?_ ?_ ?_ ?_
            · exact ⟨_, _, _, rfl, Ext.refl _, ls6, lb6, cs9, ci6, bin6, fun e he => by simp at he, m6⟩
            · rintro j σ HA _ ⟨_, _, _, _, exA, _⟩
              exact exA _ _ hos
            · rintro j z σ HA _ hj ⟨p5, p6, p7, rfl, exA, lsA, lbA, csA, ciA, binA, inA, mA⟩ ⟨rfl, ez⟩
              obtain ⟨k2, ek2, hz⟩ := (hat.ext exA).back ez
              rw [List.getElem?_map] at ek2
              obtain ⟨⟨r, t⟩, ho, rfl⟩ := Option.map_eq_some_iff.mp ek2
              obtain ⟨a3, z3, z4, rfl, hs3, g1, g2⟩ := two_inv hz
              obtain rfl := g1.num_inv
              obtain rfl := g2.num_inv
              have hybA := (hyb.ext ex9).ext exA
              refine ⟨a3, _, rfl, hs3, rfl, _, _, rfl, _, _, rfl, rfl, ?_⟩
              refine ⟨_, rfl, y, rfl, _, 1, .tup [eW (.asks c)], hybA, rfl, rfl, fun y4 hy4 => ?_⟩
              refine ⟨[.num t, .tup [eW (.asks c)]], .two (.int t) hy4, by simp, fun q5 HB sB hq5 => ?_⟩
              refine ⟨.int 0, rfl, _, rfl, [.text "has", .num r], .two (.str _ kh) (.int r), by simp, fun q6 HC sC hq6 => ?_⟩
              refine ⟨q5, q6, t, .asks c, .has r, rfl, hq5.same sC, hq6, fun q7 HD sD hq7 => ?_⟩
              have sBD := (sB.trans sC).trans sD
              have csD := csA.same sBD
              have exD := exA.trans (.of_same sBD)
              have hybD := hybA.same sBD
              obtain ⟨SD, hgD, s0D⟩ := hdn csD
              obtain ⟨ysD, hLD, hyD⟩ := csD.ln
              obtain ⟨kvD, hDD, hWD⟩ := csD.dk
              have hk7 := hWD.keys
              rw [wys_keys] at hk7
              have dcl : ((t, .has r) : Bel) ∈ cl Z bs := cl_step bcl (by rw [ett]; exact List.mem_map.mpr ⟨(r, t), List.mem_of_getElem? ho, rfl⟩)
              have tk : (tak Z (sn, .asks c)).take (j + 1) = (tak Z (sn, .asks c)).take j ++ [((t, .has r) : Bel)] := by
                rw [List.take_add_one, ett, List.getElem?_map, ho]
                rfl
              have e8 : decide (eB (t, .has r) ∈ kvD.map (·.1)) = decide (((t, .has r) : Bel) ∈ lsA) := by
                rw [hk7]
                by_cases cc : ((t, .has r) : Bel) ∈ lsA
                · rw [decide_eq_true cc, decide_eq_true (mem_eB.mpr cc)]
                · rw [decide_eq_false cc, decide_eq_false fun q => cc (mem_eB.mp q)]
              have lkD : kvD.length = lsA.length := by
                have := congrArg List.length hk7
                simpa using this
              have llD := ciA.len
              refine ⟨q7, rfl, .ref x, rfl, x, C, dx, pF, sv, iFo, .ref d, rfl, SD, W.c, tF, eF, eB (t, .has r), d, kvD, hq7, rfl, hDD, (b_deep _).1, ⟨_, rfl⟩, _, rfl, ?_⟩
              rw [e8]
              by_cases cc : ((t, .has r) : Bel) ∈ lsA
              · rw [decide_eq_true cc]
                refine iteF ⟨_, _, _, rfl, exD, lsA, lbA, csD, ciA, binA, fun e he => ?_, mA⟩
                rw [tk] at he
                rcases List.mem_append.mp he with q | q
                · exact inA e q
                · rw [List.mem_singleton.mp q]
                  exact cc
              · rw [decide_eq_false cc]
                refine iteT ?_
                obtain ⟨vw, hvw, hatw⟩ := dw_get hWD binA
                obtain ⟨aw, ws, rfl, hws, haw⟩ := hatw.tup_inv
                have lmw : (wayX m n (sn, .asks c)).length = m.length := rfl
                refine ⟨.ref x, rfl, x, C, dx, pF, sv, iFo, .ref d, rfl, SD, W.c, tF, eF, y, rfl, d, kvD, eB (sn, .asks c), .ref aw, rfl, hDD, hybD, (b_deep _).1, ⟨_, rfl⟩, hvw, ?_⟩
                refine ⟨aw, ws, rfl, .inl hws, ?_⟩
                refine ⟨.ref x, rfl, x, C, dx, pB, sv, iBe, .ref g, rfl, SD, W.c, tB, eB', .int 0, rfl, g, _, _, _, rfl, rfl, SqL.of hgD, atI_nat (j := 0) rfl, ?_⟩
                refine ⟨.int r, rfl, [.num n, .num r], .two (.int n) (.int r), by simp, fun pq HE sE hpq => ?_⟩
                refine ⟨(wayX m n (sn, .asks c)).map eM ++ [eM (n, r)], (haw.same sE).append (.one hpq), by simp only [List.length_append, List.length_map, List.length_singleton]; omega, fun pw HF sF hpw => ?_⟩
                have sEF := sE.trans sF
                have csF := csD.same sEF
                obtain ⟨SF, hgF, s0F⟩ := hdn csF
                have hDF := hDD.same sEF
                have hWF := hWD.ext (.of_same sEF)
                have hLF := sEF _ _ hLD
                have hyF := hyD.same sEF
                have hq7F := hq7.same sEF
                refine ⟨.ref x, rfl, x, C, dx, pF, sv, iFo, .ref d, rfl, SF, W.c, tF, eF, q7, rfl, d, kvD, eB (t, .has r), rfl, hDF, by omega, hq7F, (b_deep _).1, ⟨_, rfl⟩, fun ob hob => ?_⟩
                obtain ⟨u, hu, mu⟩ := hDF.mut
                have exG : Ext K HF (upd HF d ob) := Ext.mut hu mu
                have neL := nLd csF
                have hLG : upd HF d ob L = some (.lst ysD) := by
                  rw [upd_ne (Ne.symm neL)]
                  exact hLF
                refine ⟨.ref L, rfl, .inl ⟨rfl, ysD, SqL.of hLG⟩, q7, rfl, L, ysD, q7, rfl, rfl, hLG, ?_, ?_⟩
                · have h1 := hyD.length
                  have h3 := ciA.le
                  rw [List.length_map] at h1
                  rw [sizeLine_eq]
                  omega
                · have exI : Ext K (upd HF d ob) (upd (upd HF d ob) L (.lst (ysD ++ [q7]))) := Ext.mut hLG trivial
                  have ciB := ciA.add dcl cc
                  have hpwW : At K HF pw (eWy (wayX m n (t, .has r))) := by
                    have : eWy (wayX m n (t, .has r)) = .tup ((wayX m n (sn, .asks c)).map eM ++ [eM (n, r)]) := by
                      unfold eWy
                      show NestedKey.tup ((m ++ [(n, r)]).map eM) = NestedKey.tup (m.map eM ++ [eM (n, r)])
                      rw [List.map_append]
                      rfl
                    rw [this]
                    exact hpw
                  refine ⟨_, _, _, rfl, ((exD.trans (.of_same sEF)).trans exG).trans exI, lsA ++ [(t, .has r)], lbA ++ [(t, .has r)], ⟨fun b o ne e => ?_, (csF.ex.trans exG).trans exI, ⟨putK kvD (eB (t, .has r)) pw, hob.other hLG trivial neL, ((dw_put hWF cc hpwW).ext exG).ext exI⟩, ysD ++ [q7], upd_same, ?_⟩, ciB, List.mem_append_left _ binA, fun e he => ?_, ?_⟩
                  · rw [upd_ne (ne_of_none e nL), upd_ne ne]
                    exact csF.sb b o ne e
                  · rw [List.map_append]
                    exact (hyF.append (.one hq7F)).ext (exG.trans exI)
                  · rw [tk] at he
                    rcases List.mem_append.mp he with q | q
                    · exact List.mem_append_left _ (inA e q)
                    · exact List.mem_append_right _ q
                  · have := ciB.len
                    simp only [List.length_append, List.length_singleton] at this ⊢
                    omega
            · rintro σ HA ⟨p5, p6, p7, rfl, exA, lsA, lbA, csA, ciA, binA, inA, mA⟩
              have e9 : (tak Z (sn, .asks c)).take os.length = tak Z (sn, .asks c) := by
                rw [hl2, ett, ← List.length_map (f := fun o : Nat × Nat => ((o.2, .has o.1) : Bel)), List.take_length]
              rw [e9] at inA
              exact ⟨_, _, _, _, _, rfl, ex9.trans exA, lsA, lbA, csA, ciA, binA, fun e he => inA e (by simpa using he), mA⟩
        · rintro σ H6 ⟨p3, p4, p5, p6, p7, rfl, ex6, ls6, lb6, cs6, ci6, bin6, in6, m6⟩
          obtain ⟨kv6, hD6, hW6⟩ := cs6.dk
          have lk6 : kv6.length = ls6.length := by
            have := Paired.length hW6
            simpa [wys] using this
          have ll6 := ci6.len
          obtain ⟨S6, _, _⟩ := hdn cs6
          refine ⟨.ref x, rfl, x, C, dx, pF, sv, iFo, .ref d, rfl, S6, W.c, tF, eF, d, kv6, rfl, hD6, by omega, (kv6.length : Nat), 4000, rfl, rfl, false, congrArg V.bl (decide_eq_false (by omega)), iteF ?_⟩
          rw [hl1] at in6
          exact ⟨_, by simp only [List.length_cons]; omega, _, _, _, _, _, _, rfl, ls6, lb6, cs6, ci6.shut fun e he => in6 e (by simpa using he), rfl⟩
end
end M

/-! Ways.goes -/
namespace M
open PySem PySem.Spec PyProof.Rows L2
theorem sl_apart {H : Hp} {x C dx : Addr} {vs : List (Option V)} (hx : H x = some (SlX.SlO x C dx vs)) (hd : H dx = some (.xd [])) : dx ≠ x := fun z => by
  rw [z, hx] at hd
  exact SlX.slO_not (Option.some.inj hd)
/-- self.found = the dict at D -/
theorem WA.found {P : Program} {w : World} {K : PySem.W.Frag} {C x dx D g : Addr} {H0 H1 : Hp} {vs : List (Option V)} {tv bg : V} {T : Th} {kvs : List (NK × V)} {Y : List (Bel × Wy)} (s0 : Same H0 H1) (x0 : H0 x = none) (dx0 : H0 dx = none) (D0 : H0 D = none) (g0 : H0 g = none)
    (hx : H1 x = some (SlX.SlO x C dx vs)) (hdx : H1 dx = some (.xd [])) (nDx : D ≠ x) (eT : vs[iTh]? = some (some tv)) (eB' : vs[iBe]? = some (some (.ref g))) (hv : Tg K H0 tv T) (hD : DK P w K H1 D kvs) (hW : DW K H1 kvs Y) (hg : H1 g = some (.lst [bg])) :
    WA P w K C H0 (SlX.slH H1 x C dx (SlX.putS iFo (.ref D) vs)) x T bg Y ∧ SlX.Slt (SlX.slH H1 x C dx (SlX.putS iFo (.ref D) vs)) x C dx (SlX.putS iFo (.ref D) vs) := by
  have ne := sl_apart hx hdx
  have nDdx := nd_not_sl (x := x) (C := C) (vs := vs) hD hdx
  have ngx : g ≠ x := fun z => by
    rw [z, hx] at hg
    unfold SlX.SlO at hg
    cases hg
  have ngdx : g ≠ dx := fun z => by
    rw [z, hdx] at hg
    cases hg
  have S1 : SlX.Slt H1 x C dx vs := .inr ⟨hx, hdx⟩
  have ex : Ext K H1 (SlX.slH H1 x C dx (SlX.putS iFo (.ref D) vs)) := slh_ext S1 (.inr (.inl hdx))
  have S2 : SlX.Slt (SlX.slH H1 x C dx (SlX.putS iFo (.ref D) vs)) x C dx (SlX.putS iFo (.ref D) vs) := SlX.slH_slt ne
  refine ⟨⟨fun b o e => ?_, x0, dx, D, g, _, tv, kvs, dx0, D0, g0, nDx, S2, ?_, ?_, ?_, hv, hD.mono ex fun o e => ?_, hW.ext ex, ?_⟩, S2⟩
  · rw [SlX.slH_ne (ne_of_none e x0) (ne_of_none e dx0)]
    exact s0 _ _ e
  · rw [SlX.putS_ne (by decide)]
    exact eT
  · rw [SlX.putS_get]
  · rw [SlX.putS_ne (by decide)]
    exact eB'
  · rw [SlX.slH_ne nDx nDdx]
    exact e
  · rw [SlX.slH_ne ngx ngdx]
    exact hg
theorem wys_idle {m : Wy} {n k : Nat} : ∀ {ls : List Bel}, (∀ b ∈ ls, b.2 = .idle) → wys m n ls = wys m k ls
  | [], _ => rfl
  | b :: ls, h => by
    have e : wayX m n b = wayX m k b := by
      obtain ⟨s, x⟩ := b
      obtain rfl : x = .idle := h _ List.mem_cons_self
      rfl
    have ih := wys_idle (m := m) (n := n) (k := k) fun b hb => h b (List.mem_cons_of_mem _ hb)
    unfold wys at *
    rw [List.map_cons, List.map_cons, e, ih]
/-- the idle ones, now asking, as the dict has them -/
def ask (c : Call) (ls : List Bel) : List Bel := ls.map fun b => (b.1, .asks c)
theorem ask_asking {c : Call} {ls : List Bel} (h : ∀ b ∈ ls, b.2 = .idle) : asking c ls = ask c ls := by
  unfold asking ask
  rw [List.filter_eq_self.mpr fun b hb => decide_eq_true (h b hb)]
theorem ask_nodup {c : Call} : ∀ {ls : List Bel}, (∀ b ∈ ls, b.2 = .idle) → ls.Nodup → (ask c ls).Nodup
  | [], _, _ => List.nodup_nil
  | b :: ls, h, hn => by
    obtain ⟨n1, n2⟩ := List.nodup_cons.mp hn
    refine List.nodup_cons.mpr ⟨fun hm => ?_, ask_nodup (fun b hb => h b (List.mem_cons_of_mem _ hb)) n2⟩
    obtain ⟨d, hd, e⟩ := List.mem_map.mp hm
    have e1 : d.1 = b.1 := by
      have := congrArg Prod.fst e
      exact this
    have e2 := h d (List.mem_cons_of_mem _ hd)
    have e3 := h b List.mem_cons_self
    have : d = b := by
      obtain ⟨s, x⟩ := d
      obtain ⟨t, y⟩ := b
      simp only at e1 e2 e3
      rw [e1, e2, e3]
    exact n1 (this ▸ hd)
theorem dw_at {K : PySem.W.Frag} {H : Hp} {kvs : List (NK × V)} {m : Wy} {n : Nat} {ls : List Bel} {i : Nat} {k : NK} {v : V} (h : DW K H kvs (wys m n ls)) (e : kvs[i]? = some (k, v)) : ∃ b, ls[i]? = some b ∧ k = eB b ∧ At K H v (eWy (wayX m n b)) := by
  obtain ⟨q, hq, r1, r2⟩ := paired_nth h e
  unfold wys at hq
  rw [List.getElem?_map] at hq
  obtain ⟨b, hb, rfl⟩ := Option.map_eq_some_iff.mp hq
  exact ⟨b, hb, r1, r2⟩
section
variable {P : Program} {w : World} {K : PySem.W.Frag} {mg : Str → Option Value} {base : Heap} {C : Addr}
theorem scWGoes : FnScope ["self", "index", "event", "hand", "one", "way", "kept", "belief"] ["self", "index", "event"] (defScope sWGoes) := ⟨rfl, rfl, rfl, by decide +kernel, rfl, by decide +kernel, by decide +kernel⟩
def spWGoes (P : Program) (w : World) (K : PySem.W.Frag) (C : Addr) : Sp := fun vs H Q _ => ∃ (H0 : Hp) (T : Th) (x : Addr) (m : Wy) (n idx : Nat) (ls : List Bel) (e : Ev) (ev bg : V), vs = [.ref x, .int idx, ev] ∧ WA P w K C H0 H x T bg (wys m n ls) ∧ TOk T ∧ m.length ≤ 99 ∧ ls.Nodup ∧ (∀ b ∈ ls, BT T b) ∧
  At K H0 ev (eE e) ∧ EvT T e ∧
  ((∃ c, e = .call c ∧ (∀ b ∈ ls, b.2 = .idle) ∧ (cl T (asking c ls)).length ≤ 4000 ∧ ∀ H' ls', WA P w K C H0 H' x T (.int idx) (wys m idx ls') → ls'.Nodup → (∀ b, b ∈ ls' ↔ b ∈ behind T ls e) → Q .non H') ∨
   (∃ r, e = .back r ∧ ∀ H' ls', WA P w K C H0 H' x T bg (wys (m ++ [(n, r)]) 0 ls') → ls'.Nodup → (∀ b, b ∈ ls' ↔ b ∈ behind T ls e) → Q .non H'))
theorem k_w_goes (T : Tx K mg) (W : WaC K C) (D : DfM K C "goes" "Ways.goes" sWGoes ["self", "index", "event"]) (F1 : Kn P w K mg base 1 "with_hand" ["belief", "hand", "what"] (spWithHand K)) (F2 : KnM P w K mg base C 6 "closed" (spWClosed P w K C)) :
    KnM P w K mg base C 7 "goes" (spWGoes P w K C) := by
  refine D.kn scWGoes (fun vs H Q E h => ?_) (fun f cdv A outer s H vs Q E hr h => ?_)
  · obtain ⟨H0, Z, x, m, n, idx, ls, e, ev, bg, rfl, _⟩ := h
    rfl
  · obtain ⟨H0, Z, x, m, n, idx, ls, e, ev, bg, rfl, ⟨s0, x0, dx, d, g, sv, tv, kvs0, dx0, d0, g0, dnx, hsl, eT, eF, eB', hv, hD0, hW0, hg⟩, hZ, hm, nd, hb, hev, hEv, q⟩ := h
    refine ⟨_, pss_cons (ps_set (i := 3) scWGoes.nd rfl (Or.inr rfl) (pe_ix ix_n (pv 2) pe_int (fun _ _ => rfl)))
      (pss_cons (ps_if (pt_cmpR (op_eqN hr.units) (pe_ix ix_n (pv 2) pe_int (fun _ _ => rfl)) pe_str (nomark _))
        (pss_cons (ps_asg (pv 1) (pg_sub (SlX.pe_sl (pv 0)) (pv 3) set_list))
        (pss_cons (SlX.ps_sl (pv 0) (pe_ndc (own := [("one", 4), ("way", 5)]) (tt := tYes) hr.units rfl scWGoes.nd (pi_ni (SlX.pe_sl (pv 0))) (blkOk_by (N := ["self", "index", "event", "hand", "one", "way", "kept", "belief"]) (sc := defScope sWGoes) (by decide +kernel))
            (fun _ _ _ _ _ => ⟨pg_tupK (K := K) (n := 2) rfl rfl (pgs_cons (pg_name (i := 4) scWGoes.nd rfl (Or.inl rfl)) (pgs_cons (pg_name (i := 5) scWGoes.nd rfl (Or.inl rfl)) pgs_nil)), pts_nil,
              pe_kn F1 (hr.mono (by decide)) (pa_cons (pv 4) (pa_cons (pv 3) (pa_cons (pe_tupK (K := K) rfl (pa_cons (pe_gs T.asks) (pa_starK (K := K) rfl (pe_slice (sl_nK (K := K) rfl) (pv 2) (po_some pe_int) po_none) pa_nil))) pa_nil))), pv 5⟩)) )
        (pss_cons (ps_expr (pe_km0 (pv 0) W.c F2 hr)) (pss_one ps_retN)))) pss_nil)
      (pss_cons (ps_set (i := 6) scWGoes.nd rfl (Or.inl rfl) pe_ndNew)
      (pss_cons (ps_for PassesOwn.never rfl (pi_ni (SlX.pe_sl (pv 0))) (pg_tup rfl (pgs_cons (pg_name (i := 7) scWGoes.nd rfl (Or.inl rfl)) (pgs_cons (pg_name (i := 5) scWGoes.nd rfl (Or.inl rfl)) pgs_nil)))
        (pss_one (ps_if (pt_cmpR (op_eqN hr.units) (pe_ix ix_n (pe_ix ix_n (pv 7) pe_int (fun _ _ => rfl)) (pv 3) (fun _ _ => rfl)) (pe_tupN (pa_cons (pe_gs T.has) (pa_cons (pe_ix ix_n (pv 2) pe_int (fun _ _ => rfl)) pa_nil))) (nomark _))
          (pss_one (ps_expr (pe_setdef hr.units (pv 6) (pa_cons (pe_kn F1 (hr.mono (by decide)) (pa_cons (pv 7) (pa_cons (pv 3) (pa_cons pe_non pa_nil)))) (pa_cons (pv 5) pa_nil))))) pss_nil)))
      (pss_one (SlX.ps_sl (pv 0) (pv 6)))))), ?_⟩
    obtain ⟨pT, tT⟩ := W.th
    obtain ⟨pF, tF⟩ := W.fo
    obtain ⟨pB, tB⟩ := W.be
    obtain ⟨hx, hdx⟩ := slt_full hsl eT
    have ka : PyData.strOk "asks" = true := by decide +kernel
    have kh : PyData.strOk "has" = true := by decide +kernel
    have kc : PyData.strOk "call" = true := by decide +kernel
    have dndx := nd_not_sl (x := x) (C := C) (vs := sv) hD0 hdx
    have dng := nd_not_lst hD0 hg
    have ne := sl_apart hx hdx
    have ngx : g ≠ x := fun z => by
      rw [z, hx] at hg
      unfold SlX.SlO at hg
      cases hg
    have ngdx : g ≠ dx := fun z => by
      rw [z, hdx] at hg
      cases hg
    have lk0 : kvs0.length = ls.length := by
      have := Paired.length hW0
      simpa [wys] using this
    have lls : ls.length ≤ 56 := lot_len hZ nd hb
    have hevH := hev.same s0
    obtain ⟨r0, er⟩ := eE_one e
    have hev1 := hevH
    rw [er] at hev1
    refine ⟨ev, rfl, _, 1, .num 0, hev1, rfl, rfl, fun y hy => ?_⟩
    obtain rfl := hy.num_inv
    refine ⟨ev, rfl, _, 0, _, hev1, rfl, rfl, fun y hy => ⟨_, _, hy, .str _ kc, by simp [NestedKey.depth], _, rfl, ?_⟩⟩
    rw [call_dec]
    rcases q with ⟨c, rfl, hidle, hlen, q⟩ | ⟨r, rfl, q⟩
    · refine iteT ?_
      have s1 : Same H0 (upd H g (.lst ([bg].set 0 (.int idx)))) := fun b o e => by
        rw [upd_ne (ne_of_none e g0)]
        exact s0 _ _ e
      have ex1 : Ext K H (upd H g (.lst ([bg].set 0 (.int idx)))) := Ext.mut hg trivial
      have hx1 : upd H g (.lst ([bg].set 0 (.int idx))) x = _ := (upd_ne (Ne.symm ngx)).trans hx
      have hdx1 : upd H g (.lst ([bg].set 0 (.int idx))) dx = _ := (upd_ne (Ne.symm ngdx)).trans hdx
      have hD1 : DK P w K (upd H g (.lst ([bg].set 0 (.int idx)))) d kvs0 := hD0.other hg trivial dng
      have hW1 := hW0.ext ex1
      have hg1 : upd H g (.lst ([bg].set 0 (.int idx))) g = some (.lst [.int idx]) := upd_same
      refine ⟨.int idx, rfl, .ref x, rfl, x, C, dx, pB, sv, iBe, .ref g, rfl, hsl, W.c, tB, eB', .int 0, rfl, g, [bg], 0, 0, rfl, rfl, hg, rfl, ?_⟩
      generalize upd H g (.lst ([bg].set 0 (.int idx))) = H1 at *
      have S1 : SlX.Slt H1 x C dx sv := .inr ⟨hx1, hdx1⟩
      obtain ⟨od, hDO⟩ := id hD1
      refine ⟨.ref x, rfl, x, C, dx, pF, sv, iFo, .ref d, rfl, S1, W.c, tF, eF, d, od, kvs0, rfl, hDO, fun D2 o2 nD2 h00 => ?_⟩
      refine ndc_it (P := P) (w := w) (K := K) (walkNi (d := d) (o := od) (kvs := kvs0)) nD2 h00 (by omega) (fun H2 s2 => hDO.same s2) (fun i kv H2 => DW K H2 kv (wys m idx (ask c (ls.take i)))) (fun i l H2 H3 ex h => h.ext ex) .nil (fun i z H2 H2' kv N0 Nk hi sm2 hD2 hR hy h0 hk => ?_) fun H2 kv sm2 hD2 hR => ?_
      · obtain ⟨T2, y1, k1, v1, e1, hy1, rfl, nT2, rfl⟩ := hy
        obtain ⟨⟨sb, xb⟩, hb1, rfl, hv1⟩ := dw_at hW1 e1
        obtain rfl : xb = .idle := hidle _ (List.mem_of_getElem? hb1)
        have sT := same_upd (o := .tup [y1, v1]) nT2
        have hT : SqT K (upd H2 T2 (.tup [y1, v1])) T2 [y1, v1] := SqT.of upd_same
        have sm3 := sm2.trans sT
        have hy3 := hy1.same sT
        have hev3 : At K (upd H2 T2 (.tup [y1, v1])) ev (eE (.call c)) := (hev.same s1).same sm3
        have smT := sT
        generalize upd H2 T2 (.tup [y1, v1]) = H3 at *
        refine ⟨T2, _, rfl, hT, rfl, y1, _, rfl, v1, _, rfl, rfl, rfl, lc_yes ?_⟩
        refine ⟨y1, rfl, .int 0, rfl, ev, rfl, 2, rfl, _, some 2, none, hev3, rfl, rfl, fun y2 H6 s6 hy2 => ?_⟩
        obtain ⟨a3, zs3, rfl, hs3, hat3⟩ := hy2.tup_inv
        refine ⟨a3, zs3, rfl, .inl hs3, [.text "asks", .text c.1, .num c.2], .cons (.str _ ka) (by rw [List.append_nil]; exact hat3), by simp, fun y5 H7 s7 hy5 => ?_⟩
        refine ⟨y1, y5, sb, .idle, .asks c, rfl, (hy3.same s6).same s7, hy5, fun zz H8 s8 hzz => ?_⟩
        have s38 := (s6.trans s7).trans s8
        refine ⟨v1, rfl, hk zz v1 H8 (eB (sb, .asks c)) (smT.trans s38) hzz (b_deep _).1 ⟨_, rfl⟩ ?_⟩
        have tk : ls.take (i + 1) = ls.take i ++ [(sb, .idle)] := by
          rw [List.take_add_one, hb1]
          rfl
        have e5 : ask c (ls.take (i + 1)) = ask c (ls.take i) ++ [(sb, .asks c)] := by
          rw [tk]
          unfold ask
          rw [List.map_append]
          rfl
        rw [e5]
        refine dw_put (hR.ext (.of_same (smT.trans s38))) (fun hm2 => ?_) ((hv1.same sm3).same s38)
        have nd2 : (ask c (ls.take (i + 1))).Nodup := ask_nodup (fun b hb => hidle b (List.mem_of_mem_take hb)) (nd.sublist (List.take_sublist _ _))
        rw [e5] at nd2
        exact (List.nodup_append.mp nd2).2.2 _ hm2 _ (List.mem_singleton.mpr rfl) rfl
      · have lke : kvs0.length = ls.length := lk0
        rw [lke, List.take_length] at hR
        have s2 : Same H0 H2 := s1.trans sm2
        have D20 : H0 D2 = none := s1.free nD2
        have nDx : D2 ≠ x := fun z => by
          rw [z, hx1] at nD2
          cases nD2
        obtain ⟨wa, S3⟩ := WA.found (C := C) (T := Z) s2 x0 dx0 D20 g0 (sm2 _ _ hx1) (sm2 _ _ hdx1) nDx eT eB' hv hD2 hR (sm2 _ _ hg1)
        refine ⟨.ref x, rfl, x, C, dx, pF, sv, iFo, rfl, .inr ⟨sm2 _ _ hx1, sm2 _ _ hdx1⟩, W.c, tF, ?_⟩
        refine ⟨.ref x, rfl, x, dx, _, rfl, S3, H0, Z, x, m, idx, ask c ls, rfl, wa, hZ, by omega, ask_nodup hidle nd, ?_, ?_, fun H' ls' wa' nd' mem' => ?_⟩
        · rw [← ask_asking hidle]
          exact asking_bt hZ hEv hb
        · rw [← ask_asking hidle]
          exact hlen
        · refine q H' ls' wa' nd' fun b => (mem' b).trans ?_
          rw [← ask_asking hidle]
          exact Iff.rfl
    · refine iteF ?_
      refine fun D2 o2 nD2 h00 => ?_
      have sD : Same H (upd H D2 o2) := same_upd nD2
      generalize upd H D2 o2 = H1 at *
      have S1 : SlX.Slt H1 x C dx sv := .inr ⟨sD _ _ hx, sD _ _ hdx⟩
      have hD1 := hD0.same sD
      have hW1 := hW0.ext (.of_same sD)
      obtain ⟨od, hDO⟩ := id hD0
      refine ⟨.ref x, rfl, x, C, dx, pF, sv, iFo, .ref d, rfl, S1, W.c, tF, eF, d, od, kvs0, rfl, hDO.same sD, ?_⟩
      refine for_it (walkNi (P := P) (w := w) (K := K) (d := d) (o := od) (kvs := kvs0)) (fun i σ H' => ∃ p5 p7, σ = [some (.ref x), some (.int idx), some ev, some (.int 0), none, p5, some (.ref D2), p7] ∧ Same H H' ∧ ∃ kv ls', DK P w K H' D2 kv ∧ DW K H' kv (wys (m ++ [(n, r)]) 0 ls') ∧ ls'.Nodup ∧
        (∀ b, b ∈ ls' ↔ b ∈ behind Z (ls.take i) (.back r)) ∧ ls'.length ≤ i) ?_ ?_ ?_ ?_
      · exact ⟨none, none, rfl, sD, [], [], h00, .nil, List.nodup_nil, fun b => by simp [behind, backing], Nat.le_refl _⟩
      · rintro i σ H2 _ ⟨_, _, _, sm, _⟩
        exact hDO.same sm
      · rintro i z σ H2 _ hi ⟨p5, p7, rfl, sm2, kv, ls', hK2, hR2, nd2, mem2, len2⟩ ⟨T2, y1, k1, v1, e1, hy1, rfl, nT2, rfl⟩
        obtain ⟨⟨sb, xb⟩, hb1, rfl, hv1⟩ := dw_at (hW0.ext (.of_same sm2)) e1
        have sT := same_upd (o := .tup [y1, v1]) nT2
        have hT : SqT K (upd H2 T2 (.tup [y1, v1])) T2 [y1, v1] := SqT.of upd_same
        have sm3 := sm2.trans sT
        have hy3 := hy1.same sT
        have hv3 := hv1.same sT
        have hev3 : At K (upd H2 T2 (.tup [y1, v1])) ev (eE (.back r)) := hevH.same sm3
        have hK3 := hK2.same sT
        have hR3 := hR2.ext (.of_same sT)
        clear hK2 hR2 sT hy1 hv1
        generalize upd H2 T2 (.tup [y1, v1]) = H3 at *
        refine ⟨T2, _, rfl, hT, rfl, y1, _, rfl, v1, _, rfl, rfl, ?_⟩
        refine ⟨y1, rfl, _, 1, .tup [eW xb], hy3, rfl, rfl, fun y2 hy2 => ⟨.int 0, rfl, _, 0, eW xb, hy2, rfl, rfl, fun y3 hy3' => ?_⟩⟩
        refine ⟨ev, rfl, _, 2, .num r, hev3, rfl, rfl, fun y4 hy4 => ⟨[.text "has", .num r], .two (.str _ kh) hy4, by simp, fun p H5 s5 hp => ?_⟩⟩
        refine ⟨eW xb, eW (.has r), hy3'.same s5, hp, by cases xb <;> simp [eW, NestedKey.depth, NestedKey.depthAll], _, rfl, ?_⟩
        have ed : decide (eW xb = eW (.has r)) = decide (xb = .has r) := by
          by_cases c : xb = .has r
          · rw [c, decide_eq_true rfl, decide_eq_true rfl]
          · rw [decide_eq_false c, decide_eq_false fun z => c (eW_inj z)]
        rw [ed]
        have sm5 := sm3.trans s5
        have tk : ls.take (i + 1) = ls.take i ++ [(sb, xb)] := by
          rw [List.take_add_one, hb1]
          rfl
        have memT : ∀ b, b ∈ behind Z (ls.take (i + 1)) (.back r) ↔ b ∈ behind Z (ls.take i) (.back r) ∨ (xb = .has r ∧ b = (sb, .idle)) := fun b => by
          rw [behind_back_mem, behind_back_mem, tk]
          constructor
          · rintro ⟨s, h1, rfl⟩
            rcases List.mem_append.mp h1 with h1 | h1
            · exact .inl ⟨s, h1, rfl⟩
            · have := List.mem_singleton.mp h1
              injection this with a1 a2
              exact .inr ⟨a2.symm, by rw [a1]⟩
          · rintro (⟨s, h1, rfl⟩ | ⟨rfl, rfl⟩)
            · exact ⟨s, List.mem_append_left _ h1, rfl⟩
            · exact ⟨sb, List.mem_append_right _ (List.mem_singleton.mpr rfl), rfl⟩
        by_cases cx : xb = .has r
        · rw [decide_eq_true cx]
          subst cx
          refine iteT ?_
          refine ⟨.ref D2, rfl, D2, kv, rfl, hK3.same s5, y1, rfl, .int 0, rfl, y1, .non, sb, .has r, .idle, rfl, hy3.same s5, .non, fun z H6 s6 hz => ?_⟩
          have s56 := s5.trans s6
          have hK6 := hK3.same s56
          have hR6 := hR3.ext (.of_same s56)
          have hv6 := hv3.same s56
          have lkv : kv.length = ls'.length := by
            have := Paired.length hR3
            simpa [wys] using this
          refine ⟨v1, rfl, z, v1, kv, eB (sb, .idle), rfl, hK6, by omega, hz, (b_deep _).1, ⟨_, rfl⟩, fun v hv => ?_, fun hnone ob hob => ?_⟩
          · have hin : ((sb, .idle) : Bel) ∈ ls' := by
              have h1 : (valV kv (eB (sb, .idle))).isSome = true := by
                rw [hv]
                rfl
              rw [isSome_mem, hR6.keys, wys_keys] at h1
              exact mem_eB.mp (of_decide_eq_true h1)
            refine ⟨_, _, rfl, sm3.trans s56, kv, ls', hK6, hR6, nd2, fun b => ?_, by omega⟩
            rw [memT, ← mem2]
            constructor
            · exact .inl
            · rintro (h | ⟨_, rfl⟩)
              · exact h
              · exact hin
          · have hnin : ((sb, .idle) : Bel) ∉ ls' := fun hin => by
              have h1 : (valV kv (eB (sb, .idle))).isSome = true := by
                rw [isSome_mem, hR6.keys, wys_keys]
                exact decide_eq_true (mem_eB.mpr hin)
              rw [hnone] at h1
              cases h1
            obtain ⟨u, hu, mu⟩ := hK6.mut
            have ex7 : Ext K H6 (upd H6 D2 ob) := Ext.mut hu mu
            refine ⟨_, _, rfl, fun b o e => ?_, putK kv (eB (sb, .idle)) v1, ls' ++ [(sb, .idle)], hob, (dw_put hR6 hnin hv6).ext ex7, ?_, fun b => ?_, by simp only [List.length_append, List.length_singleton]; omega⟩
            · rw [upd_ne (ne_of_none e nD2)]
              exact (sm3.trans s56) _ _ e
            · exact List.nodup_append.mpr ⟨nd2, by simp, fun a ha b hb e => hnin (by rw [List.mem_singleton.mp hb] at e; exact e ▸ ha)⟩
            · rw [memT, ← mem2, List.mem_append, List.mem_singleton]
              constructor
              · rintro (h | h)
                · exact .inl h
                · exact .inr ⟨rfl, h⟩
              · rintro (h | ⟨_, h⟩)
                · exact .inl h
                · exact .inr h
        · rw [decide_eq_false cx]
          refine iteF ⟨_, _, rfl, sm5, kv, ls', hK3.same s5, hR3.ext (.of_same s5), nd2, fun b => ?_, by omega⟩
          rw [memT, ← mem2]
          constructor
          · exact .inl
          · rintro (h | ⟨h, _⟩)
            · exact h
            · exact absurd h cx
      · rintro σ H2 ⟨p5, p7, rfl, sm2, kv, ls', hK2, hR2, nd2, mem2, len2⟩
        rw [lk0, List.take_length] at mem2
        have D20 : H0 D2 = none := s0.free nD2
        have nDx : D2 ≠ x := fun z => by
          rw [z, hx] at nD2
          cases nD2
        obtain ⟨wa, S3⟩ := WA.found (C := C) (T := Z) (s0.trans sm2) x0 dx0 D20 g0 (sm2 _ _ hx) (sm2 _ _ hdx) nDx eT eB' hv hK2 hR2 (sm2 _ _ hg)
        refine ⟨.ref D2, rfl, .ref x, rfl, x, C, dx, pF, sv, iFo, rfl, .inr ⟨sm2 _ _ hx, sm2 _ _ hdx⟩, W.c, tF, ?_⟩
        exact q _ ls' wa nd2 mem2
end
end M

/-! order_of -/
namespace M
open PySem PySem.Spec PyProof.Rows L2
theorem SlX_slt_same {H H' : Hp} {x C dx : Addr} {vs : List (Option V)} (h : SlX.Slt H x C dx vs) (s : Same H H') : SlX.Slt H' x C dx vs := by
  rcases h with ⟨h1, h2⟩ | ⟨h1, h2⟩
  · exact .inl ⟨s _ _ h1, h2⟩
  · exact .inr ⟨s _ _ h1, s _ _ h2⟩
theorem WA.same {P : Program} {w : World} {K : PySem.W.Frag} {C x : Addr} {H0 H H' : Hp} {T : Th} {bg : V} {Y : List (Bel × Wy)} (h : WA P w K C H0 H x T bg Y) (s : Same H H') : WA P w K C H0 H' x T bg Y := by
  obtain ⟨s0, x0, dx, d, g, sv, tv, kvs, dx0, d0, g0, dnx, hsl, eT, eF, eB', hv, hD, hW, hg⟩ := h
  exact ⟨s0.trans s, x0, dx, d, g, sv, tv, kvs, dx0, d0, g0, dnx, SlX_slt_same hsl s, eT, eF, eB', hv, hD.same s, hW.ext (.of_same s), s _ _ hg⟩
theorem beq_refl_nk (k : NK) : NestedKey.beq k k = true := by
  have := NestedKey.decide_eq k k
  rw [← this]
  exact decide_eq_true rfl
theorem ltNs_app : ∀ (p a b : List NK), ltNs (p ++ a) (p ++ b) = ltNs a b
  | [], a, b => rfl
  | k :: p, a, b => by
    rw [List.cons_append, List.cons_append, ltNs, if_pos (beq_refl_nk k)]
    exact ltNs_app p a b
theorem eWy_app (m : Wy) (q : Nat × Nat) : eWy (m ++ [q]) = .tup (m.map eM ++ [eM q]) := by
  unfold eWy
  rw [List.map_append]
  rfl
theorem lt_refl_wy (m : Wy) : ltN (eWy m) (eWy m) = some false := by
  have := ltNs_app (m.map eM) [] []
  rw [List.append_nil] at this
  unfold eWy
  rw [ltN, this]
  rfl
theorem lt_more (m : Wy) (q : Nat × Nat) : ltN (eWy m) (eWy (m ++ [q])) = some true := by
  have := ltNs_app (m.map eM) [] [eM q]
  rw [List.append_nil] at this
  rw [eWy_app]
  unfold eWy
  rw [ltN, this]
  rfl
theorem lt_less (m : Wy) (q : Nat × Nat) : ltN (eWy (m ++ [q])) (eWy m) = some false := by
  have := ltNs_app (m.map eM) [eM q] []
  rw [List.append_nil] at this
  rw [eWy_app]
  unfold eWy
  rw [ltN, this]
  rfl
theorem lt_two (m : Wy) (q r : Nat × Nat) : ∃ c, ltN (eWy (m ++ [q])) (eWy (m ++ [r])) = some c := by
  rw [eWy_app, eWy_app, ltN, ltNs_app]
  unfold ltNs
  split
  · exact ⟨_, rfl⟩
  · unfold eM
    rw [ltN]
    unfold ltNs
    split
    · unfold ltNs
      split
      · exact ⟨_, rfl⟩
      · exact ⟨_, rfl⟩
    · exact ⟨_, rfl⟩
/-- the ways that there are -/
theorem way_two (m : Wy) (n : Nat) (b : Bel) : wayX m n b = m ∨ ∃ r, wayX m n b = m ++ [(n, r)] := by
  obtain ⟨s, x⟩ := b
  cases x with
  | idle => exact .inl rfl
  | asks c => exact .inl rfl
  | has r => exact .inr ⟨r, rfl⟩
theorem way_deep (m : Wy) : (eWy m).depth ≤ 8 := by
  have h : ∀ l : Wy, NestedKey.depthAll (l.map eM) ≤ 1 := fun l => by
    induction l with
    | nil => simp [NestedKey.depthAll]
    | cons a l ih =>
      rw [List.map_cons]
      simp only [NestedKey.depthAll, eM, NestedKey.depth] at *
      omega
  have := h m
  simp only [eWy, NestedKey.depth]
  omega
theorem dw_vals {K : PySem.W.Frag} {H : Hp} {m : Wy} {n : Nat} : ∀ {ls : List Bel} {kvs : List (NK × V)}, DW K H kvs (wys m n ls) → Paired (fun kv k => At K H kv.2 k) kvs (ls.map fun b => eWy (wayX m n b))
  | [], _, h => by
    cases h
    exact .nil
  | b :: ls, _, h => by
    cases h with
    | cons r t => exact .cons r.2 (dw_vals t)
section
variable {P : Program} {w : World} {K : PySem.W.Frag} {mg : Str → Option Value} {base : Heap} {C : Addr}
theorem scOrderOf : FnScope ["thing", "hands", "history", "ways", "index", "event"] ["thing", "hands", "history"] (defScope sOrderOf) := ⟨rfl, rfl, rfl, by decide +kernel, rfl, by decide +kernel, by decide +kernel⟩
def spOrderOf (K : PySem.W.Frag) : Sp := fun vs H Q _ => ∃ (T : Th) (v u : V) (row : Row) (x : Option Call), vs = [v, .int 1, u] ∧ Tg K H v T ∧ TOk T ∧ At K H u (.tup ((hist row x).map eE)) ∧ (∀ c ∈ callsOf row x, c ∈ T.calls) ∧ (∀ p ∈ row, p.2 ≤ 9) ∧ row.length ≤ 40 ∧
  ∀ H', Same H H' → (rowS T row = [] → Q .non H') ∧ (rowS T row ≠ [] → ∀ z, At K H' z (eWy (mom row)) → Q z H')
theorem behind_same {T : Th} {as bs : List Bel} (h : ∀ b, b ∈ as ↔ b ∈ bs) (e : Ev) (b : Bel) : b ∈ behind T as e ↔ b ∈ behind T bs e := by
  cases e with
  | call c =>
    rw [behind_call_mem, behind_call_mem]
    constructor
    · rintro ⟨s, h1, h2⟩
      exact ⟨s, (h _).mp h1, h2⟩
    · rintro ⟨s, h1, h2⟩
      exact ⟨s, (h _).mpr h1, h2⟩
  | back r =>
    rw [behind_back_mem, behind_back_mem]
    constructor
    · rintro ⟨s, h1, h2⟩
      exact ⟨s, (h _).mp h1, h2⟩
    · rintro ⟨s, h1, h2⟩
      exact ⟨s, (h _).mpr h1, h2⟩
theorem asking_len {c : Call} (bs : List Bel) : (asking c bs).length ≤ bs.length := by
  unfold asking
  rw [List.length_map]
  exact List.length_filter_le _ _
theorem row_take_snoc {row : Row} {j : Nat} {p : Call × Nat} (h : row[j]? = some p) : row.take (j + 1) = row.take j ++ [p] := by
  rw [List.take_add_one, h]
  rfl
theorem k_order_of (T : Tx K mg) (W : WaC K C) (D : Df K mg "order_of" sOrderOf ["thing", "hands", "history"]) (F1 : Kn P w K mg base 9 "check_history" ["thing", "hands", "history"] (spCheckHistory K)) (F2 : KnI P w K mg base C 2 "Ways" ["self", "thing", "hands"] (spWInit P w K C)) (F3 : KnM P w K mg base C 7 "goes" (spWGoes P w K C)) :
    Kn P w K mg base 10 "order_of" ["thing", "hands", "history"] (spOrderOf K) := by
  refine D.kn scOrderOf (fun vs H Q E h => ?_) (fun f cdv A outer s H vs Q E hr h => ?_)
  · obtain ⟨Z, v, u, row, x, rfl, _⟩ := h
    rfl
  · obtain ⟨Z, v, u, row, x, rfl, hv, hZ, hu, hc, h9, hl, q⟩ := h
    have hh := hist_hs hc h9 hl
    refine ⟨_, pss_cons (ps_expr (pe_kn F1 hr (pa_cons (pv 0) (pa_cons (pv 1) (pa_cons (pv 2) pa_nil)))))
      (pss_cons (ps_set (i := 3) scOrderOf.nd rfl (Or.inl rfl) (pe_ki F2 (hr.mono (by decide)) (pa_cons (pv 0) (pa_cons (pv 1) pa_nil))))
      (pss_cons (ps_for PassesOwn.never rfl (pi_enumT (by rfl) T.enumerate (pa_cons (pv 2) pa_nil)) (pg_tup rfl (pgs_cons (pg_name (i := 4) scOrderOf.nd rfl (Or.inl rfl)) (pgs_cons (pg_name (i := 5) scOrderOf.nd rfl (Or.inl rfl)) pgs_nil)))
        (pss_one (ps_expr (pe_km (pv 3) W.c F3 (hr.mono (by decide)) (pa_cons (pv 4) (pa_cons (pv 5) pa_nil))))))
      (pss_one (ps_ret (pe_ifExp (pt_cmpR (op_eqE hr.units) (SlX.pe_sl (pv 3)) pe_ndNew (nomark _)) pe_non
        (pe_callB (min_vals hr.units rfl) (by rfl) T.min (by decide +kernel) (pa_cons (pe_vals (SlX.pe_sl (pv 3))) pa_nil))))))), ?_⟩
    obtain ⟨pF, tF⟩ := W.fo
    refine ⟨v, rfl, .int 1, rfl, u, rfl, Z, v, u, _, rfl, hv, hZ, hu, hh, fun H1 s1 => ?_⟩
    refine ⟨v, rfl, .int 1, rfl, fun xw dx nx ndx ne => ?_⟩
    have sM : Same H1 (upd (upd H1 dx (.own xw)) xw (.ins C dx [])) := fun b o e => by
      rw [upd_ne (ne_of_none e nx), upd_ne (ne_of_none e ndx)]
      exact e
    refine ⟨H1, Z, xw, dx, v, rfl, sM, nx, ndx, ne, upd_same, (upd_ne ne).trans upd_same, hv.same s1, fun H2 wa => ⟨rfl, ?_⟩⟩
    have hu1 := hu.same s1
    have hu2 := hu1.same wa.1
    obtain ⟨a, xs, rfl, hs1, ha1⟩ := hu1.tup_inv
    have lx : xs.length = (hist row x).length := by rw [ha1.length, List.length_map]
    have hlen := hist_len row x
    have hxl : x.toList.length ≤ 1 := by cases x <;> simp
    have crow := calls_of_row hc
    refine ⟨.ref a, rfl, a, xs, rfl, Ext.of_same wa.1 _ _ hs1, ?_⟩
    refine for_it (walk_enumT (xs := xs)) (fun i σ H' => ∃ p4 p5, σ = [some v, some (.int 1), some (.ref a), some (.ref xw), p4, p5] ∧ ∃ bg ls, WA P w K C H1 H' xw Z bg (wys (mom (row.take (i / 2))) (2 * (i / 2)) ls) ∧ ls.Nodup ∧ (∀ b, b ∈ ls ↔ b ∈ lotR Z ((hist row x).take i)) ∧ (i % 2 = 1 → bg = .int ((2 * (i / 2) : Nat) : Int))) ?_ ?_ ?_ ?_
    · exact ⟨none, none, rfl, .non, [(0, .idle)], wa, by simp, fun b => by simp [lotR], fun h => absurd h (by decide)⟩
    · rintro i σ H' _ ⟨_, _, _, _, _, wa', _⟩
      exact Ext.of_same wa'.1 _ _ hs1
    · rintro i z σ H' _ hi ⟨p4, p5, rfl, bg, ls, wa', nd, mem, hbg⟩ ⟨Tp, z1, z2, rfl, nT, rfl, e1, e2⟩
      obtain rfl : V.int (i : Nat) = z1 := Option.some.inj e1
      have sT : Same H' (upd H' Tp (.tup [.int (i : Nat), z2])) := same_upd nT
      have hT : SqT K (upd H' Tp (.tup [.int (i : Nat), z2])) Tp [.int (i : Nat), z2] := SqT.of upd_same
      have wa2 := wa'.same sT
      generalize upd H' Tp (.tup [.int (i : Nat), z2]) = H3 at *
      obtain ⟨e, he, hze⟩ := ats_ev ha1 e2
      have hev := hh.ev e (List.mem_of_getElem? he)
      have hsub : ∀ d ∈ (hist row x).take i, EvT Z d := fun d hd => hh.ev d (List.mem_of_mem_take hd)
      have bt : ∀ b ∈ ls, BT Z b := fun b hb => lotR_bt hZ _ hsub b ((mem b).mp hb)
      have lls : ls.length ≤ 56 := lot_len hZ nd bt
      have lm : (mom (row.take (i / 2))).length ≤ 99 := by
        rw [mom_len, List.length_take]
        omega
      obtain ⟨_, _, dx', _, _, sv, _, _, _, _, _, _, hsl, _⟩ := id wa2
      refine ⟨Tp, _, rfl, hT, rfl, _, _, rfl, _, _, rfl, rfl, ?_⟩
      refine ⟨.ref xw, rfl, xw, dx', sv, rfl, hsl, .int (i : Nat), rfl, z2, rfl, H1, Z, xw, mom (row.take (i / 2)), 2 * (i / 2), i, ls, e, z2, bg, rfl, wa2, hZ, lm, nd, bt, hze, hev, ?_⟩
      have memN : ∀ b, b ∈ behind Z ls e ↔ b ∈ lotR Z ((hist row x).take (i + 1)) := fun b => by
        rw [lotR_take he, lotOf_mem]
        exact behind_same mem e b
      rcases (show (∃ j, i = 2 * j) ∨ ∃ j, i = 2 * j + 1 by
        rcases Nat.mod_two_eq_zero_or_one i with h | h
        · exact .inl ⟨i / 2, by omega⟩
        · exact .inr ⟨i / 2, by omega⟩) with ⟨j, rfl⟩ | ⟨j, rfl⟩
      · have hcj := hist_call row x j
        rw [he] at hcj
        obtain ⟨c, hcc, ec⟩ := Option.map_eq_some_iff.mp hcj.symm
        have lj : j ≤ row.length := by omega
        have ej : 2 * j / 2 = j := by omega
        have ej2 : (2 * j + 1) / 2 = j := by omega
        rw [ej] at *
        have hidle : ∀ b ∈ ls, b.2 = .idle := fun b hb => by
          have h1 := (mem b).mp hb
          rw [take_even row x j lj] at h1
          obtain ⟨s, _, rfl⟩ := (lotR_hist hZ _ (row.take j) rfl (fun p hp => crow p (List.mem_of_mem_take hp)) b).mp h1
          rfl
        subst ec
        refine .inl ⟨c, rfl, hidle, ?_, fun H4 ls' wa4 nd4 mem4 => ?_⟩
        · have h1 := cl_len hZ (asking_bt hZ hev bt)
          have h2 := asking_len (c := c) ls
          omega
        · refine ⟨_, _, rfl, .int ((2 * j : Nat) : Int), ls', ?_, nd4, fun b => (mem4 b).trans (memN b), fun _ => by rw [ej2]⟩
          rw [ej2]
          exact wa4
      · have hbj := hist_back row x j
        rw [he] at hbj
        obtain ⟨p, hp, ep⟩ := Option.map_eq_some_iff.mp hbj.symm
        have lj : j < row.length := (List.getElem?_eq_some_iff.mp hp).1
        have ej : (2 * j + 1) / 2 = j := by omega
        have ej2 : (2 * j + 1 + 1) / 2 = j + 1 := by omega
        rw [ej] at *
        subst ep
        refine .inr ⟨p.2, rfl, fun H4 ls' wa4 nd4 mem4 => ?_⟩
        have hidle : ∀ b ∈ ls', b.2 = .idle := fun b hb => by
          obtain ⟨s, _, rfl⟩ := behind_back_mem.mp ((mem4 b).mp hb)
          rfl
        refine ⟨_, _, rfl, bg, ls', ?_, nd4, fun b => (mem4 b).trans (memN b), fun h => absurd h (by omega)⟩
        rw [ej2, row_take_snoc hp, mom_snoc, List.length_take, Nat.min_eq_left (Nat.le_of_lt lj), wys_idle (k := 0) hidle]
        exact wa4
    · rintro σ H' ⟨p4, p5, rfl, bg, ls, wa', nd, mem, hbg⟩
      rw [lx, List.take_length] at mem
      have en : xs.length / 2 = row.length := by omega
      rw [en, List.take_length] at wa'
      obtain ⟨s0, x0, dx', d, g, sv, tv, kvs, dx0, d0, g0, dnx, hsl, eT, eF, eB', hvv, hD, hW, hg⟩ := wa'
      refine ⟨.ref xw, rfl, xw, C, dx', pF, sv, iFo, .ref d, rfl, hsl, W.c, tF, eF, fun d2 o2 nd2 h2 => ?_⟩
      have s2 : Same H' (upd H' d2 o2) := same_upd nd2
      refine ⟨d, d2, kvs, rfl, rfl, hD.same s2, h2, _, rfl, ?_⟩
      have sm : Same H (upd H' d2 o2) := (s1.trans s0).trans s2
      have hD3 := hD.same s2
      have hW3 := hW.ext (.of_same s2)
      have hsl3 := SlX_slt_same hsl s2
      generalize upd H' d2 o2 = H3 at *
      have lkv : kvs.length = ls.length := by
        have := Paired.length hW
        simpa [wys] using this
      have hnil := lotR_none (x := x) hZ crow
      have bt : ∀ b ∈ ls, BT Z b := fun b hb => lotR_bt hZ _ hh.ev b ((mem b).mp hb)
      have lls : ls.length ≤ 56 := lot_len hZ nd bt
      rw [Bool.false_xor]
      by_cases e0 : ls = []
      · have ek : kvs = [] := List.length_eq_zero_iff.mp (by rw [lkv, e0]; rfl)
        rw [decide_eq_true ek]
        refine iteT ?_
        refine (q H3 sm).1 (hnil.mp (List.eq_nil_iff_forall_not_mem.mpr fun b hb => ?_))
        have := (mem b).mpr hb
        rw [e0] at this
        cases this
      · have ek : ¬ kvs = [] := fun z => e0 (List.length_eq_zero_iff.mp (by rw [← lkv, z]; rfl))
        rw [decide_eq_false ek]
        refine iteF ?_
        have hne : rowS Z row ≠ [] := fun z => by
          have := hnil.mpr z
          obtain ⟨b, hb⟩ := List.exists_mem_of_ne_nil _ e0
          have h2 := (mem b).mp hb
          rw [this] at h2
          cases h2
        obtain ⟨od, hDO⟩ := id hD3
        refine ⟨.ref xw, rfl, xw, C, dx', pF, sv, iFo, .ref d, rfl, hsl3, W.c, tF, eF, d, od, kvs, rfl, hDO, fun pv nv => ?_⟩
        have s4 : Same H3 (upd H3 pv (VwO pv d)) := same_upd nv
        have hmem : ∀ k ∈ ls.map (fun b => eWy (wayX (mom row) (2 * row.length) b)), k = eWy (mom row) ∨ ∃ r, k = eWy (mom row ++ [(2 * row.length, r)]) := fun k hk => by
          obtain ⟨b, _, rfl⟩ := List.mem_map.mp hk
          rcases way_two (mom row) (2 * row.length) b with h | ⟨r, h⟩
          · exact .inl (by rw [h])
          · exact .inr ⟨r, by rw [h]⟩
        refine ⟨pv, d, od, kvs, _, eWy (mom row), rfl, upd_same, hDO.same s4, by omega, dw_vals (hW3.ext (.of_same s4)), fun k hk => ?_, ?_, fun k hk l hl => ?_, fun k hk hn => ?_, fun k hk => ?_, fun z hz => (q _ (sm.trans s4)).2 hne z hz⟩
        · rcases hmem k hk with rfl | ⟨r, rfl⟩
          · exact way_deep _
          · exact way_deep _
        · obtain ⟨s, hs⟩ := List.exists_mem_of_ne_nil _ hne
          have hidl := (lotR_hist hZ _ row rfl crow (s, .idle)).mpr ⟨s, hs, rfl⟩
          cases x with
          | none => exact List.mem_map.mpr ⟨(s, .idle), (mem _).mpr hidl, rfl⟩
          | some c =>
            refine List.mem_map.mpr ⟨(s, .asks c), (mem _).mpr ?_, rfl⟩
            rw [hist_end, show ((some c).toList.map Ev.call) = [Ev.call c] from rfl, lotR_snoc]
            exact lotOf_mem.mpr (behind_call_mem.mpr ⟨s, hidl, .inl rfl⟩)
        · rcases hmem k hk with rfl | ⟨r, rfl⟩
          · rcases hmem l hl with rfl | ⟨r', rfl⟩
            · exact ⟨_, lt_refl_wy _⟩
            · exact ⟨_, lt_more _ _⟩
          · rcases hmem l hl with rfl | ⟨r', rfl⟩
            · exact ⟨_, lt_less _ _⟩
            · exact lt_two _ _ _
        · rcases hmem k hk with rfl | ⟨r, rfl⟩
          · exact absurd rfl hn
          · exact lt_more _ _
        · rcases hmem k hk with rfl | ⟨r, rfl⟩
          · exact lt_refl_wy _
          · exact lt_less _ _
end
end M

/-! set(a list), whatever its items are: the loop is the only thing asked -/
namespace M
open PySem PySem.Spec PyProof.Rows L2
abbrev setNew (w : World) : Obj := { cls := .type "set", dict := none, data := .set #[] 0 (.fresh 0 0 (!w.params.followText "set-order")) }
abbrev litNew (l : Addr) : Obj := { cls := .type "list_iterator", data := .fields #[.ref l, .int 0 0] }
/-- all stands as it stood, and Rd of the heap -/
def After (s : Shared) (Rd : Heap → Prop) (t : Shared) : Prop := ∃ g k, t = { s with heap := g, toks := k } ∧ Rd g ∧ ∀ b o, s.heap.get? b = some o → g.get? b = some o
section
variable {P : Program} {w : World} {A : Around} {E : Value → Shared → Prop} {s : Shared}
set_option maxHeartbeats 6400000 in
theorem set_of_list {l : Addr} {items : Array Value} {Rd : Heap → Prop} {Q : Value → Shared → Prop} (hl : s.heap.IsList l items)
    (loop : ∀ R : Result → Shared → Prop, (∀ t, After s Rd t → R (.ok (.ret .none)) t) →
      codeAny (model P w) A.in1.in1 (.builtin "set.update.loop" ⟨[.ref s.heap.objs.size, .ref (s.heap.push (setNew w)).objs.size], []⟩) R { s with heap := (s.heap.push (setNew w)).push (litNew l) })
    (q : ∀ t, After s Rd t → Q (.ref s.heap.objs.size) t) : wpAny (model P w) A (call (.type "set") [.ref l]) Q E s := by
  obtain ⟨r0, rs, mro⟩ := F.called_set.mro
  have made := F.called_set.made; have sub := F.called_set.sub
  have c1 := F.called_set.notType; have c2 := F.called_set.canCreate; have c3 := F.typeCall_set_1 (.ref l)
  refine wpAny_call (codeAny_of_tree ?_); show wpAny _ _ (callAny (.type "set") _) _ _ _
  refine wpAny_pure (And.intro (Code.quiet_builtin _ (by decide +kernel)) (codeAny_builtin F.entry_type_call ?_))
  rw [Around.under_plain (weight_type_call_type "set" [Value.ref l] []) rfl]
  repeat (any_goals (first | assumption | wp_step))
  refine codeAny_mono (code_set_led1 (.ref l) (E := E) (Q₁ := fun v t => v = .ref s.heap.objs.size ∧ t = { s with heap := s.heap.push (setNew w) }) ⟨rfl, rfl⟩) fun r t hr => ?_
  cases r with
  | error e => exact hr
  | ok fl =>
    cases fl with
    | next => exact hr.elim
    | brk => exact hr.elim
    | cont => exact hr.elim
    | ret v =>
      obtain ⟨rfl, rfl⟩ := hr
      have at0 : (s.heap.push (setNew w)).get? s.heap.objs.size = some (setNew w) := Heap.get?_push_size _ rfl
      have ty0 : Shared.TypeIs { s with heap := s.heap.push (setNew w) } (.ref s.heap.objs.size) "set" := ⟨_, at0, rfl⟩
      have i1 := F.called_set.init.lookup; have i2 := F.called_set.init.bind (.ref s.heap.objs.size)
      repeat (any_goals (first | assumption | wp_step))
      refine codeAny_mono (codeAny_call_builtin (R := wants (fun v t => v = .none ∧ After s Rd t) E) F.called_set.init.plain F.entry_set_init (check_set_init_1 ty0 ?_)) fun r2 t2 hr2 => ?_
      · obtain ⟨⟨oc, od, oda, osl⟩, ho, hc, nl, hd⟩ := hl
        simp only at hc hd
        subst hc hd
        have ho1 : (s.heap.push (setNew w)).get? l = some { cls := .type "list", dict := od, data := .seq items nl, slots := osl } := Heap.get?_push_of_some _ ho
        have b1 := F.sub_list_set; have b2 := F.sub_list_frozenset
        have b3 : (Value.type "list" == Value.type "dict") = false := by decide
        have isl : (s.heap.push (setNew w)).IsList l items := ⟨_, ho1, rfl, nl, rfl⟩
        unfold Builtin.«set.__init__» noKeywords Builtin.Frozenset.updateFrom
        generalize hPI : pyIter = PI
        wp_walk
        subst hPI
        refine wpAny_pyIter_list isl (wpAny_bind (wpAny_runValue (loop _ fun t ht => ?_)))
        show wpAny _ _ _ _ _ _
        refine wpAny_pure ?_
        show wpAny _ _ (ret Value.none) _ _ _
        exact wpAny_pure ⟨rfl, ht⟩
      · cases r2 with
        | error e => exact hr2
        | ok fl2 =>
          cases fl2 with
          | next => exact hr2.elim
          | brk => exact hr2.elim
          | cont => exact hr2.elim
          | ret v =>
            obtain ⟨rfl, ht⟩ := hr2
            repeat (any_goals (first | assumption | wp_step))
            exact q _ ht
end
end M

/-! sets of whole numbers from a list -/
namespace M
open PySem PySem.Spec PyProof.Rows L2
theorem after_of {w : World} {l : Addr} {s t : Shared} {Rd : Heap → Prop} (m : Moved [s.heap.objs.size, (s.heap.push (setNew w)).objs.size] (fun a b => b = a) { s with heap := (s.heap.push (setNew w)).push (litNew l) } t) (r : Rd t.heap) : After s Rd t := by
  obtain ⟨h', g', d', k', o'⟩ := t
  obtain rfl : g' = s.gens := m.gens
  obtain rfl : d' = s.drawn := m.drawn
  obtain rfl : o' = s.os := m.os
  refine ⟨h', k', rfl, r, fun b o e => m.heap b o (fun hb => ?_) (Heap.get?_push_of_some _ (Heap.get?_push_of_some _ e))⟩
  have lt := Heap.lt_size e
  rcases List.mem_cons.mp hb with rfl | hb
  · exact Nat.lt_irrefl _ lt
  · rw [List.mem_singleton.mp hb, Heap.size_push] at lt
    exact Nat.lt_irrefl _ (Nat.lt_of_succ_lt lt)
section
variable {X : Cx}
def rSetOfI (K : PySem.W.Frag) (w : World) : List V → Hp → VK → Prop := fun xs H Q => ∃ (l : Addr) (ns : List Int), xs = [.ref l] ∧ SqL K H l (ns.map V.int) ∧ ns.length ≤ 1000 ∧
  ∀ a S n, H a = none → (∀ k, S k = decide (k ∈ ns)) → n ≤ ns.length → Q (.ref a) (upd H a (SetO w a S n))
/-- set(xs), xs a list of whole numbers -/
theorem set_ints (hc : X.calm = true) : CallR X (.type "set") (rSetOfI X.K X.w) := fun pins s σ H xs us Q I r h => by
  obtain ⟨l, ns, rfl, hl, hf, q⟩ := h
  rw [Vals.ref1 r]
  obtain ⟨its, rv, pl, hz⟩ := I.list hl
  have isl : s.heap.IsList l its.toArray := pl.isList
  have lt : l < s.heap.objs.size := by
    obtain ⟨_, e, _⟩ := isl
    exact Heap.lt_size e
  have hn : H s.heap.objs.size = none := I.hok.fresh (Nat.le_refl _)
  have lits : its.length = ns.length := by
    have := rv.length
    simpa using this.symm
  have neI : l ≠ (s.heap.push (setNew X.w)).objs.size := by
    rw [Heap.size_push]
    exact Nat.ne_of_lt (Nat.lt_succ_of_lt lt)
  have apart : s.heap.objs.size ∉ [(s.heap.push (setNew X.w)).objs.size, l] := by
    rw [Heap.size_push]
    intro z
    rcases List.mem_cons.mp z with z | z
    · exact absurd z (Nat.ne_of_lt (Nat.lt_succ_self _))
    · exact absurd (List.mem_singleton.mp z) (Nat.ne_of_gt lt)
  refine set_of_list (Rd := fun g => ∃ c, c ≤ ns.length ∧ SetR X.w g s.heap.objs.size (fun j => decide (j ∈ ns)) c) isl (fun R hR => ?_) fun t ht => ?_
  · refine set_update_ints ((Walks.list (show X.A.in1.in1.in1.handled = none from I.ok.hd hc) _ l neI its.toArray).toS) s.heap.objs.size apart ns (by simpa using lits) (by unfold scanBound; omega) (fun i v hv => ?_) (its.toArray.size - 0) 0 _ (by omega) (Nat.zero_le _)
      ⟨⟨_, Heap.get?_push_size _ rfl, rfl, rfl⟩, (isl.push _).push _⟩ ⟨0, Nat.le_refl 0, setR_new_at (Heap.get?_push_of_some _ (Heap.get?_push_size _ rfl))⟩ fun t c m hc' hS => hR t (after_of (l := l) m ⟨c, by simp [lits] at hc'; omega, hS⟩)
    have hi : i < ns.length := by
      have := (Array.getElem?_eq_some_iff.mp hv).1
      simp [lits] at this
      exact this
    have ai : IntsAre its ns := intsAre_of rv
    obtain ⟨tk, e⟩ := PyProof.Rows.IntsAre.int_at ai i v (by simpa using hv)
    exact ⟨ns[i], tk, List.getElem?_eq_getElem hi, by rw [e, List.getD_eq_getElem?_getD, List.getElem?_eq_getElem hi]; rfl⟩
  · obtain ⟨g, tk, rfl, ⟨c, hc', hS⟩, k⟩ := ht
    exact ⟨.ref s.heap.objs.size, _, I.laid (t' := tk) k (Nat.le_refl _) (setO_new hS), rfl, q _ _ c hn (fun _ => rfl) hc'⟩
end
end M

/-! sets of flat tuples: numbers and texts -/
namespace M
open PySem PySem.Spec PyProof.Rows L2
open PySem.W (KatLex)
/-- a tuple of numbers and texts -/
def Leaf (k : NK) : Prop := (∃ i, k = .num i) ∨ ∃ x, k = .text x
def Flat (k : NK) : Prop := ∃ ks, k = .tup ks ∧ ∀ x ∈ ks, Leaf x
structure FK (h : Heap) (k : NK) (b : Addr) : Prop where
  kis : KIs h k (.ref b)
  flat : Flat k
theorem leaf_depth : ∀ {ks : List NK}, (∀ x ∈ ks, Leaf x) → NestedKey.depthAll ks = 0
  | [], _ => rfl
  | k :: ks, h => by
    have h1 := leaf_depth fun x hx => h x (List.mem_cons_of_mem _ hx)
    rcases h k List.mem_cons_self with ⟨i, rfl⟩ | ⟨x, rfl⟩
    · simp only [NestedKey.depthAll, NestedKey.depth, h1]
      rfl
    · simp only [NestedKey.depthAll, NestedKey.depth, h1]
      rfl
theorem Flat.deep {k : NK} (h : Flat k) : k.depth ≤ 1 := by
  obtain ⟨ks, rfl, hk⟩ := h
  simp only [NestedKey.depth, leaf_depth hk]
  omega
section
variable {P : Program} {w : World} {A : Around} {E : Value → Shared → Prop} {s : Shared} {h h' : Heap} {k : NK} {b : Addr}
theorem FK.is (x : FK h k b) : (nestedKind P w).is h k b := ⟨KIs.nested _ _ x.kis, Nat.le_trans x.flat.deep (by decide)⟩
theorem FK.keep (x : FK h k b) (e : ∀ c o, h.get? c = some o → h'.get? c = some o) : FK h' k b := ⟨KIs.keeps (fun c o _ _ z _ _ => e c o z) _ _ x.kis, x.flat⟩
theorem FK.obj (x : FK h k b) : ∃ o its n ks, h.get? b = some o ∧ o.cls = .type "tuple" ∧ o.data = .seq its n ∧ k = .tup ks ∧ KAll h ks its.toList ∧ ∀ y ∈ ks, Leaf y := by
  obtain ⟨ks, rfl, hk⟩ := x.flat
  cases x.kis with
  | tup a1 a2 a3 a4 => exact ⟨_, _, _, _, a1, a2, a3, rfl, a4, hk⟩
theorem kall_leaf : ∀ {ks : List NK} {vs : List Value}, KAll h ks vs → (∀ y ∈ ks, Leaf y) → ∀ v ∈ vs, (∃ i t, v = .int i t) ∨ ∃ x t, v = .str x t
  | [], _, x, _, v, hv => by
    cases x
    cases hv
  | k :: ks, _, x, hl, v, hv => by
    cases x with
    | cons c d =>
      rcases List.mem_cons.mp hv with rfl | hv
      · rcases hl k List.mem_cons_self with ⟨i, rfl⟩ | ⟨y, rfl⟩
        · cases c
          exact .inl ⟨_, _, rfl⟩
        · cases c
          exact .inr ⟨_, _, rfl⟩
      · exact kall_leaf d (fun y hy => hl y (List.mem_cons_of_mem _ hy)) v hv
theorem FK.ty (x : FK s.heap k b) : s.TypeIs (.ref b) "tuple" := by
  obtain ⟨o, its, n, ks, e, c, _⟩ := x.obj
  exact ⟨o, e, c⟩
theorem stm_leaf (n : Nat) {v : Value} (h : (∃ i t, v = .int i t) ∨ ∃ x t, v = .str x t) : ofAClassStatement n v = pure false := by
  rcases h with ⟨i, t, rfl⟩ | ⟨x, t, rfl⟩ <;> cases n <;> rfl
/-- a flat tuple is of no class statement -/
theorem stm_flat {Q : Bool → Shared → Prop} (x : FK s.heap k b) (q : Q false s) : wpAny (model P w) A (ofAClassStatement 8 (.ref b)) Q E s := by
  have ty := x.ty
  obtain ⟨o, its, n, ks, e, _, d, rfl, all, lf⟩ := x.obj
  unfold ofAClassStatement
  refine wpAny_bind (wpAny_typeOf ty ?_)
  dsimp only
  have tt : (("tuple" : String) == "tuple") = true := by decide
  simp only [tt, if_true, Bool.not_true, Bool.false_eq_true, if_false]
  try refine wpAny_bind (wpAny_pure ?_)
  try simp only [Bool.not_true, Bool.false_eq_true, if_false]
  show wpAny _ _ (seqItems? (.ref b) >>= _) _ _ s
  refine wpAny_bind (wpAny_seqItems e d ?_)
  dsimp only
  refine wpAny_bind ?_
  show wpAny _ _ (forIn its _ _) _ _ s
  rw [← Array.forIn_toList]
  refine wpAny_forIn_list _ (fun rest r t => r.1 = none ∧ t = s ∧ ∀ v ∈ rest, (∃ i u, v = Value.int i u) ∨ ∃ y u, v = Value.str y u) _ ?_ ?_ _ _ ⟨rfl, rfl, kall_leaf all lf⟩
  · rintro v rest r t ⟨hr, rfl, hv⟩
    rw [stm_leaf 7 (hv v List.mem_cons_self)]
    refine wpAny_bind (wpAny_pure ?_)
    simp only [Bool.false_eq_true, if_false]
    exact wpAny_pure ⟨rfl, rfl, fun u hu => hv u (List.mem_cons_of_mem _ hu)⟩
  · rintro ⟨r1, r2⟩ t ⟨hr, rfl, _⟩
    obtain rfl : r1 = none := hr
    exact wpAny_pure q
theorem hbv_leaf (n : Nat) {v : Value} (h : (∃ i t, v = .int i t) ∨ ∃ x t, v = .str x t) : ∃ c, hashByValue n v = pure c := by
  rcases h with ⟨i, t, rfl⟩ | ⟨x, t, rfl⟩
  · exact ⟨true, by cases n <;> rfl⟩
  · exact ⟨false, by cases n <;> rfl⟩
/-- whether its hash hangs on values alone: some answer -/
theorem hbv_flat {Q : Bool → Shared → Prop} (x : FK s.heap k b) (q : ∀ c, Q c s) : wpAny (model P w) A (hashByValue 8 (.ref b)) Q E s := by
  have ty := x.ty
  obtain ⟨o, its, n, ks, e, _, d, rfl, all, lf⟩ := x.obj
  unfold hashByValue
  refine wpAny_bind (wpAny_specialOf ty F.slot_tuple_hash.lookup ?_)
  show wpAny _ _ (seqItems? (.ref b) >>= _) _ _ s
  refine wpAny_bind (wpAny_seqItems e d ?_)
  refine wpAny_bind ?_
  show wpAny _ _ (forIn its _ _) _ _ s
  rw [← Array.forIn_toList]
  refine wpAny_forIn_list _ (fun rest r t => t = s ∧ ∀ v ∈ rest, (∃ i u, v = Value.int i u) ∨ ∃ y u, v = Value.str y u) _ ?_ ?_ _ _ ⟨rfl, kall_leaf all lf⟩
  · rintro v rest r t ⟨rfl, hv⟩
    obtain ⟨c, hc⟩ := hbv_leaf 7 (hv v List.mem_cons_self)
    rw [hc]
    refine wpAny_bind (wpAny_pure ?_)
    cases c with
    | true =>
      simp only [Bool.not_true, Bool.false_eq_true, if_false]
      exact wpAny_pure ⟨rfl, fun u hu => hv u (List.mem_cons_of_mem _ hu)⟩
    | false =>
      simp only [Bool.not_false, if_true]
      exact wpAny_pure (wpAny_pure (q _))
  · rintro ⟨r1, r2⟩ t ⟨rfl, _⟩
    cases r1 with
    | none => exact wpAny_pure (q _)
    | some c => exact wpAny_pure (q _)
/-- a search among flat tuples shows nothing -/
theorem seen_flat {Q : Bool → Shared → Prop} (x : FK s.heap k b) {ys : List Value} (hy : ∀ y ∈ ys, ∃ l c, y = Value.ref c ∧ FK s.heap l c) (q : Q false s) : wpAny (model P w) A (searchCouldBeSeen (.ref b) ys) Q E s := by
  unfold searchCouldBeSeen
  refine wpAny_bind (wpAny_forIn_list _ (fun rest r t => r.1 = none ∧ t = s ∧ ∀ y ∈ rest, ∃ l c, y = Value.ref c ∧ FK s.heap l c) _ ?_ ?_ _ _ ⟨rfl, rfl, hy⟩)
  · rintro v rest r t ⟨hr, rfl, hv⟩
    obtain ⟨l, c, rfl, hc⟩ := hv v List.mem_cons_self
    have more : ∀ y ∈ rest, ∃ l c, y = Value.ref c ∧ FK t.heap l c := fun u hu => hv u (List.mem_cons_of_mem _ hu)
    dsimp only
    by_cases z : (b == c || (carriedByValue (.ref b) && carriedByValue (.ref c))) = true
    · exact wp_if_pos z (wpAny_pure ⟨rfl, rfl, more⟩)
    · refine wp_if_neg z (wpAny_bind ((nestedKind P w).quiet x.is ?_))
      simp only [Bool.not_true, Bool.false_eq_true, if_false]
      refine wpAny_bind ((nestedKind P w).quiet hc.is ?_)
      simp only [Bool.not_true, Bool.false_eq_true, if_false]
      refine wpAny_bind (stm_flat x ?_)
      simp only [Bool.false_eq_true, if_false]
      refine wpAny_bind (stm_flat hc ?_)
      simp only [Bool.false_eq_true, if_false]
      exact wpAny_pure ⟨rfl, rfl, more⟩
  · rintro ⟨r1, r2⟩ t ⟨hr, rfl, _⟩
    obtain rfl : r1 = none := hr
    exact wpAny_pure q
end
end M

/-! sets of flat tuples: found, put, laid anew -/
namespace M
open PySem PySem.Spec PyProof.Rows L2
abbrev FL := List (Addr × NK)
def fhash (w : World) (p : Addr × NK) : Int := p.2.hash w
def frow (w : World) (p : Addr × NK) : Int × Value := (fhash w p, .ref p.1)
structure FS (w : World) (h : Heap) (a : Addr) (L : FL) (es : Array (Int × Value)) (ep : Nat) (t : SetTable) : Prop where
  ob : ∃ o, h.get? a = some o ∧ o.ExactSet ∧ o.data = .set es ep t
  rows : es.toList = L.map (frow w)
  tab : TabOk t (L.map (fhash w))
  nd : (L.map (·.2)).Nodup
  tup : ∀ p ∈ L, FK h p.2 p.1
  led : w.params.followText "set-order" = true ∨ t.led = true
  room : L.length * 5 < t.mask * 3
  few : L.length < 64
section
variable {w : World} {h h' : Heap} {a : Addr} {L : FL} {es : Array (Int × Value)} {ep : Nat} {t : SetTable}
theorem FS.size (R : FS w h a L es ep t) : es.size = L.length := by
  rw [← Array.length_toList, R.rows, List.length_map]
theorem FS.place (R : FS w h a L es ep t) : t.place.size = L.length := by
  rw [R.tab.sz, List.length_map]
theorem fits_of (e1 : t.place.size = es.size) (e2 : t.dummies = #[]) (e3 : es.size ≤ t.mask) : t.fits es.size = true := by
  unfold SetTable.fits SetTable.fill
  rw [e2, e1]
  simpa using e3
theorem FS.fits (R : FS w h a L es ep t) : t.fits es.size = true := by
  have := R.room
  have := R.size
  exact fits_of (R.place.trans R.size.symm) R.tab.dm (by omega)
theorem FS.at_ (R : FS w h a L es ep t) {i : Nat} {p : Addr × NK} (e : L[i]? = some p) : es[i]? = some (frow w p) := by
  rw [← Array.getElem?_toList, R.rows, List.getElem?_map, e]
  rfl
theorem FS.keep (R : FS w h a L es ep t) (e : ∀ o, h.get? a = some o → h'.get? a = some o) (k : ∀ p ∈ L, FK h' p.2 p.1) : FS w h' a L es ep t := by
  obtain ⟨o, ho, r⟩ := R.ob
  exact ⟨⟨o, e o ho, r⟩, R.rows, R.tab, R.nd, k, R.led, R.room, R.few⟩
end
/-- the c-th step of the way of a hash -/
def pr (t : SetTable) (z : Int) (c : Nat) : SetTable.Probe := nth t.mask (runAt t.mask (SetTable.bits z % (t.mask + 1)) (SetTable.bits z)) c
theorem pr_go (t : SetTable) (z : Int) (c q : Nat) : nth t.mask (pr t z c) q = pr t z (c + q) := (nth_add t.mask c _ q).symm
theorem nth_clean (m : Nat) : ∀ (n : Nat) (p : SetTable.Probe), p.dummy = none → (nth m p n).dummy = none
  | 0, _, e => e
  | n + 1, p, e => nth_clean m n (adv m p) (by
      unfold adv
      split <;> exact e)
theorem pr_clean (t : SetTable) (z : Int) (c : Nat) : (pr t z c).dummy = none := nth_clean _ c _ rfl
section
variable {P : Program} {w : World} {A : Around} {E : Value → Shared → Prop} {s : Shared} {a x : Addr} {L : FL} {es : Array (Int × Value)} {ep : Nat} {t : SetTable} {k : NK}
/-- the search, from the c-th step of the way on -/
theorem fs_find (R : FS w s.heap a L es ep t) (hx : FK s.heap k x) (hu : A.units + 8 < cLine) {N : Nat} (hN : N < 10 * SetTable.turns t.mask) (free : way t.mask (k.hash w) N ∉ t.place.toList) (full : ∀ c, c < N → way t.mask (k.hash w) c ∈ t.place.toList)
    {Q : SetFound → Shared → Prop} (yes : k ∈ L.map (·.2) → Q (.there none) s) (no : k ∉ L.map (·.2) → Q (.free (way t.mask (k.hash w) N) false) s) :
    ∀ (f c : Nat) (st : Option SetTable.Probe), st.getD (t.probeStart (k.hash w)) = pr t (k.hash w) c → c ≤ N → N - c < f → (∀ (i : Nat) p, L[i]? = some p → p.2 = k → ∃ d, c ≤ d ∧ d < N ∧ t.place.toList[i]? = some (way t.mask (k.hash w) d)) →
      wpAny (model P w) A (setSearchFrom a (.ref x) (k.hash w) true f st) Q E s := by
  intro f
  induction f with
  | zero => exact fun c st _ _ h => absurd h (Nat.not_lt_zero _)
  | succ f ih =>
    intro c st hst hc hf back
    obtain ⟨o, ho, _, hd⟩ := R.ob
    rw [setSearchFrom_succ]
    refine wpAny_bind (wpAny_setState_of ho hd R.fits ?_)
    dsimp only
    refine wp_if_neg (show ¬ t.gaveWay = true by unfold SetTable.gaveWay; rw [mask_odd R.tab.mok]; decide) ?_
    try refine wpAny_bind (wpAny_pure ?_)
    have jj : ∀ q, (nth t.mask (pr t (k.hash w) c) q).j = way t.mask (k.hash w) (c + q) := fun q => congrArg SetTable.Probe.j (pr_go t (k.hash w) c q)
    have hash_at : ∀ (i : Nat) p, L[i]? = some p → (es[i]?.map (·.1)).getD 0 = fhash w p := fun i p e => by
      rw [R.at_ e]
      rfl
    have sp := go_spec t R.tab.ris R.tab.dm (fun i => (es[i]?.map (·.1)).getD 0) (k.hash w) (10 * SetTable.turns t.mask) (N - c) (pr t (k.hash w) c) (pr_clean _ _ _) (by omega) (fun q hq => by
      rw [jj]
      exact full (c + q) (by omega)) (by
      rw [jj, show c + (N - c) = N by omega]
      exact free)
    rcases sp with ⟨q, i, hq, hi, _, hno, hpr⟩ | ⟨hno, hpr⟩
    · have met : t.probe (fun i => (es[i]?.map (·.1)).getD 0) (k.hash w) (st.getD (t.probeStart (k.hash w))) = some (.candidate (way t.mask (k.hash w) (c + q)) i (pr t (k.hash w) (c + (q + 1)))) := by
        rw [hst, ← jj, ← pr_go]
        exact hpr
      rw [met]
      dsimp only
      rw [jj] at hi
      have il : i < L.length := by
        have := (List.getElem?_eq_some_iff.mp hi).1
        rwa [Array.length_toList, R.place] at this
      obtain ⟨p, hp⟩ : ∃ p, L[i]? = some p := ⟨L[i], List.getElem?_eq_getElem il⟩
      have pm := List.mem_of_getElem? hp
      have live := slot_live R.tab.ris hi
      have tail : wpAny (model P w) A (searchRest a (.ref x) (k.hash w) true f es t (way t.mask (k.hash w) (c + q)) i (pr t (k.hash w) (c + (q + 1)))) Q E s := by
        unfold searchRest
        rw [R.at_ hp]
        dsimp only [frow]
        refine wpAny_bind (wpAny_holding ((nestedKind P w).eqBool hu (R.tup p pm).is hx.is ?_))
        refine wpAny_bind (wpAny_setState_of ho hd R.fits ?_)
        dsimp only
        by_cases e : p.2 = k
        · refine wp_if_pos (by simp [e]) (wpAny_pure (yes ?_))
          exact List.mem_map.mpr ⟨p, pm, e⟩
        · refine wp_if_neg (by simp [e]) ?_
          try refine wpAny_bind (wpAny_pure ?_)
          rw [sameMem]
          dsimp only
          simp only [if_true, live, R.at_ hp, frow]
          refine wpAny_bind (wpAny_isSame_ref_self (wpAny_bind (wpAny_pure ?_)))
          simp only [if_true]
          refine wp_if_neg (by simp [e]) (ih (c + (q + 1)) _ rfl (by omega) (by omega) fun i0 p0 h0 k0 => ?_)
          obtain ⟨d, d1, d2, d3⟩ := back i0 p0 h0 k0
          refine ⟨d, Nat.not_lt.mp fun z => ?_, d2, d3⟩
          rcases Nat.lt_or_ge d (c + q) with y | y
          · refine hno (d - c) i0 (by omega) (by
              rw [jj, show c + (d - c) = d by omega]
              exact d3) ?_
            exact (hash_at i0 p0 h0).trans (by unfold fhash; rw [k0])
          · obtain rfl : d = c + q := by omega
            have l0 := slot_live R.tab.ris d3
            rw [live] at l0
            injection l0 with l0
            rw [← l0, hp] at h0
            rw [← Option.some.inj h0] at k0
            exact e k0
      by_cases hl : t.led = true
      · refine wp_if_neg (by simp [hl]) ?_
        try refine wpAny_bind (wpAny_pure ?_)
        exact tail
      · refine wp_if_pos (by simp [hl]) (wpAny_bind (seen_flat hx (fun y hy => ?_) ?_))
        · obtain ⟨e, he, ee⟩ := List.mem_map.mp hy
          have e1 : e ∈ es.toList := by
            have : e ∈ es ∧ e.1 = k.hash w := by simpa using he
            simpa using this.1
          rw [R.rows] at e1
          obtain ⟨p2, hp2, e2⟩ := List.mem_map.mp e1
          exact ⟨p2.2, p2.1, by rw [← ee, ← e2]; rfl, R.tup p2 hp2⟩
        · refine wp_if_neg (by decide) ?_
          try refine wpAny_bind (wpAny_pure ?_)
          exact tail
    · have met : t.probe (fun i => (es[i]?.map (·.1)).getD 0) (k.hash w) (st.getD (t.probeStart (k.hash w))) = some (.empty (way t.mask (k.hash w) N) none) := by
        have e2 : way t.mask (k.hash w) N = (nth t.mask (pr t (k.hash w) c) (N - c)).j := by
          rw [jj, show c + (N - c) = N by omega]
        rw [hst, e2]
        exact hpr
      rw [met]
      dsimp only
      refine wpAny_pure (no fun hm => ?_)
      obtain ⟨p0, h0, k0⟩ := List.mem_map.mp hm
      obtain ⟨i0, e0⟩ := List.mem_iff_getElem?.mp h0
      obtain ⟨d, d1, d2, d3⟩ := back i0 p0 e0 k0
      refine hno (d - c) i0 (by omega) (by
        rw [jj, show c + (d - c) = d by omega]
        exact d3) ?_
      exact (hash_at i0 p0 e0).trans (by unfold fhash; rw [k0])
/-- .. as adding asks for it -/
theorem fs_search (R : FS w s.heap a L es ep t) (hx : FK s.heap k x) (hu : A.units + 8 < cLine) {Q : SetFound → Shared → Prop} (yes : k ∈ L.map (·.2) → Q (.there none) s)
    (no : ∀ N, k ∉ L.map (·.2) → way t.mask (k.hash w) N ∉ t.place.toList → (∀ c, c < N → way t.mask (k.hash w) c ∈ t.place.toList) → Q (.free (way t.mask (k.hash w) N) false) s) :
    wpAny (model P w) A (setSearch a (.ref x) (k.hash w) true) Q E s := by
  have room := R.room
  obtain ⟨N, hN, free, full⟩ := R.tab.first (by rw [List.length_map]; omega) (k.hash w)
  have few : 10 * SetTable.turns t.mask ≤ 1420 := by
    unfold SetTable.turns
    rcases R.tab.mok with e | e | e <;> omega
  unfold setSearch
  refine fs_find R hx hu hN free full yes (fun hn => no N hn free full) 100000 0 none rfl (Nat.zero_le _) (by omega) fun i p hp e => ?_
  have hi : (L.map (fhash w))[i]? = some (k.hash w) := by
    rw [List.getElem?_map, hp, ← e]
    rfl
  have il : i < t.place.toList.length := by
    rw [Array.length_toList, R.place]
    exact (List.getElem?_eq_some_iff.mp hp).1
  obtain ⟨c, h1, h2⟩ := R.tab.before free hi (List.getElem?_eq_getElem il)
  exact ⟨c, Nat.zero_le _, h1, by rw [List.getElem?_eq_getElem il, h2]⟩
end
end M

/-! sets of flat tuples: adding -/
namespace M
open PySem PySem.Spec PyProof.Rows L2
theorem filt_range {α : Type} (L : List α) : (List.range L.length).filterMap (fun i => L[i]?) = L := by
  suffices ∀ n, n ≤ L.length → (List.range n).filterMap (fun i => L[i]?) = L.take n by
    have := this L.length (Nat.le_refl _)
    rwa [List.take_length] at this
  intro n
  induction n with
  | zero => exact fun _ => rfl
  | succ n ih =>
    intro hn
    rw [List.range_succ, List.filterMap_append, ih (Nat.le_of_succ_le hn), List.take_add_one, List.getElem?_eq_getElem hn]
    rw [List.filterMap_cons_some (List.getElem?_eq_getElem hn)]
    rfl
section
variable {P : Program} {w : World} {A : Around} {E : Value → Shared → Prop} {s : Shared} {h h' : Heap} {a b x : Addr} {L : FL} {es : Array (Int × Value)} {ep : Nat} {t : SetTable} {k : NK}
/-- a flat tuple is not the set -/
theorem FK.but {o : Obj} (y : FK h k b) (ho : h.get? a = some o) (hd : o.data = .set es ep t) (sb : Heap.SameBut a h h') : FK h' k b := by
  refine ⟨KIs.keeps (fun c u vs n e _ d => ?_) _ _ y.kis, y.flat⟩
  refine (sb.2 c fun z => ?_).trans e
  subst z
  rw [e] at ho
  rw [Option.some.inj ho, hd] at d
  cases d
theorem order_fl (es : Array (Int × Value)) (L : FL) (order : List Nat) (hr : es.toList = L.map (frow w)) (hp : order.Perm (List.range L.length)) :
    ∃ L2 : FL, order.filterMap (fun i => es[i]?) = L2.map (frow w) ∧ L2.Perm L ∧ L2.map (fhash w) = order.map fun i => (es.map (·.1)).getD i 0 := by
  have ent : ∀ i, es[i]? = (L[i]?).map (frow w) := fun i => by rw [← Array.getElem?_toList, hr, List.getElem?_map]
  have in_ : ∀ i ∈ order, i < L.length := fun i hi => List.mem_range.mp (hp.mem_iff.mp hi)
  refine ⟨order.filterMap fun i => L[i]?, ?_, ?_, ?_⟩
  · clear hp
    induction order with
    | nil => rfl
    | cons i l ih =>
      have hi := in_ i List.mem_cons_self
      rw [List.filterMap_cons_some (b := frow w L[i]) (by rw [ent, List.getElem?_eq_getElem hi]; rfl), List.filterMap_cons_some (List.getElem?_eq_getElem hi), List.map_cons, ih fun j hj => in_ j (List.mem_cons_of_mem _ hj)]
  · have := hp.filterMap fun i => L[i]?
    rwa [filt_range] at this
  · clear hp
    induction order with
    | nil => rfl
    | cons i l ih =>
      have hi := in_ i List.mem_cons_self
      rw [List.filterMap_cons_some (List.getElem?_eq_getElem hi), List.map_cons, List.map_cons, ih fun j hj => in_ j (List.mem_cons_of_mem _ hj)]
      have e5 : (es.map (·.1))[i]? = some (fhash w L[i]) := by
        rw [Array.getElem?_map, ent, List.getElem?_eq_getElem hi]
        rfl
      rw [Array.getD_eq_getD_getElem?, e5]
      rfl
/-- laid anew, larger -/
theorem fs_relay {o : Obj} (ho : s.heap.get? a = some o) (hex : o.ExactSet) (hd : o.data = .set es ep t) (hr : es.toList = L.map (frow w)) (pl : t.place.size = es.size) (dm : t.dummies = #[]) (le : es.size ≤ t.mask) (nd : (L.map (·.2)).Nodup) (tup : ∀ p ∈ L, FK s.heap p.2 p.1)
    (led : w.params.followText "set-order" = true ∨ t.led = true) (few : L.length < 64) {wanted N : Nat} (e1 : SetTable.sizeAbove wanted - 1 = N) (e2 : MaskOk N) (e3 : SetTable.sizeAbove wanted ≤ 128) (e4 : L.length * 5 < N * 3) {Q : Unit → Shared → Prop}
    (q : ∀ g L' es' ep' t', Heap.SameBut a s.heap g → FS w g a L' es' ep' t' → L'.Perm L → Q () { s with heap := g }) : wpAny (model P w) A (setRelay a wanted) Q E s := by
  have sz : es.size = L.length := by rw [← Array.length_toList, hr, List.length_map]
  obtain ⟨t2, order, r1, r2, r3, r4, r5, r6, r7⟩ := relaid_ok t (hs := es.map (·.1)) (wanted := wanted) e1 e2 (by rw [Array.size_map, sz]; omega)
  rw [Array.size_map, sz] at r2
  obtain ⟨L2, o1, o2, o3⟩ := order_fl es L order.toList hr r2
  rw [← o3] at r3
  have s2 : (order.filterMap (es[·]?)).toList = L2.map (frow w) := by
    rw [← o1]
    simp
  have s3 : (order.filterMap (es[·]?)).size = es.size := by
    rw [← Array.length_toList, s2, List.length_map, o2.length_eq, sz]
  rw [setRelay_eq]
  refine wpAny_bind (wpAny_setState_of ho hd (fits_of pl dm le) ?_)
  dsimp only
  refine wp_if_neg (by rw [sizeLine_eq]; omega) ?_
  try refine wpAny_bind (wpAny_pure ?_)
  rw [r1]
  dsimp only
  refine wpAny_bind ?_
  refine wp_if_neg (by rw [s3]; simp) ?_
  try refine wpAny_bind (wpAny_pure ?_)
  refine wpAny_pure ?_
  dsimp only
  refine wpAny_storeSet_of ho hd ?_ (by rw [s3, sz, sizeLine_eq]; omega)
  have sb : Heap.SameBut a s.heap (s.heap.update a (Obj.putSet (order.filterMap (es[·]?)) t2)) := Heap.SameBut.update ..
  exact q _ L2 _ (ep + 1) t2 sb ⟨⟨_, store_at ho hd, ⟨hex.1, hex.2.1, hex.2.2⟩, rfl⟩, s2, r3, (o2.map (·.2)).nodup_iff.mpr nd, fun p hp => (tup p (o2.mem_iff.mp hp)).but ho hd sb, by rw [r5]; exact led, by rw [o2.length_eq, r4]; exact e4, by rw [o2.length_eq]; exact few⟩ o2
/-- stored at its place, and laid anew where it is too full -/
theorem fs_store {t1 : SetTable} {n : Nat} (R : FS w s.heap a L es ep t) (hx : FK s.heap k x) (hm : k ∉ L.map (·.2)) (few : L.length + 1 < 64) (T1 : TabOk t1 ((L.map (fhash w)).take n ++ k.hash w :: (L.map (fhash w)).drop n)) (m1 : t1.mask = t.mask) (l1 : t1.led = t.led) (f1 : t1.fill = L.length + 1)
    {Q : Bool → Shared → Prop} (q : ∀ g L' es' ep' t', Heap.SameBut a s.heap g → FS w g a L' es' ep' t' → L'.Perm ((x, k) :: L) → Q true { s with heap := g }) :
    wpAny (model P w) A (do
      storeSet a (SetTable.insertAt es n (k.hash w, Value.ref x)) t1
      if !false && t1.tooFull then setRelay a (SetTable.grown (es.size + 1))
      return true) Q E s := by
  obtain ⟨o, ho, hex, hd⟩ := R.ob
  have sz := R.size
  have room := R.room
  have rows1 : (SetTable.insertAt es n (k.hash w, Value.ref x)).toList = (L.take n ++ (x, k) :: L.drop n).map (frow w) := by
    rw [SetTable.toList_insertAt, R.rows, List.map_append, List.map_cons, List.map_take, List.map_drop]
    rfl
  have pm : (L.take n ++ (x, k) :: L.drop n).Perm ((x, k) :: L) := put_perm L n (x, k)
  have T2 : TabOk t1 ((L.take n ++ (x, k) :: L.drop n).map (fhash w)) := by
    rw [List.map_append, List.map_cons, List.map_take, List.map_drop]
    exact T1
  generalize L.take n ++ (x, k) :: L.drop n = L1 at *
  have len1 : L1.length = L.length + 1 := pm.length_eq
  have nd1 : (L1.map (·.2)).Nodup := (pm.map (·.2)).nodup_iff.mpr (List.nodup_cons.mpr ⟨hm, R.nd⟩)
  have sz1 : (SetTable.insertAt es n (k.hash w, Value.ref x)).size = L.length + 1 := by rw [← Array.length_toList, rows1, List.length_map, len1]
  generalize SetTable.insertAt es n (k.hash w, Value.ref x) = es1 at *
  refine wpAny_bind (wpAny_storeSet_of ho hd ?_ (by rw [sz1, sizeLine_eq]; omega))
  have sb : Heap.SameBut a s.heap (s.heap.update a (Obj.putSet es1 t1)) := Heap.SameBut.update ..
  have ho1 := store_at (es' := es1) (t' := t1) ho hd
  generalize s.heap.update a (Obj.putSet es1 t1) = g at *
  have tup1 : ∀ p ∈ L1, FK g p.2 p.1 := fun p hp => by
    rcases List.mem_cons.mp (pm.mem_iff.mp hp) with e | hp
    · rw [e]
      exact hx.but ho hd sb
    · exact (R.tup p hp).but ho hd sb
  have led1 : w.params.followText "set-order" = true ∨ t1.led = true := by
    rw [l1]
    exact R.led
  have pl1 : t1.place.size = es1.size := by rw [T2.sz, List.length_map, len1, sz1]
  by_cases hf : t1.tooFull = true
  · have big : (L.length + 1) * 5 ≥ t1.mask * 3 := by
      have := hf
      unfold SetTable.tooFull at this
      rwa [decide_eq_true_eq, f1] at this
    rw [m1] at big
    have two : (t.mask = 7 ∧ L.length = 4) ∨ (t.mask = 31 ∧ L.length = 18) := by
      rcases R.tab.mok with e | e | e
      · rw [e] at big room
        exact .inl ⟨e, by omega⟩
      · rw [e] at big room
        exact .inr ⟨e, by omega⟩
      · rw [e] at big
        omega
    have go : ∀ N, SetTable.sizeAbove (SetTable.grown (L.length + 1)) - 1 = N → MaskOk N → SetTable.sizeAbove (SetTable.grown (L.length + 1)) ≤ 128 → (L.length + 1) * 5 < N * 3 →
        wpAny (model P w) A (setRelay a (SetTable.grown (L.length + 1))) (fun _ s' => wpAny (model P w) A (pure true) Q E s') E { s with heap := g } := fun N h1 h2 h3 h4 =>
      fs_relay (s := { s with heap := g }) ho1 ⟨hex.1, hex.2.1, hex.2.2⟩ rfl rows1 pl1 T2.dm (by rw [sz1, m1]; rcases two with ⟨e, e2⟩ | ⟨e, e2⟩ <;> omega) nd1 tup1 led1 (by omega) h1 h2 h3 (by omega) fun g2 L2 es2 ep2 t2 sb2 R2 pm2 => wpAny_pure (q g2 L2 es2 ep2 t2 (sb.trans sb2) R2 (pm2.trans pm))
    have fin : wpAny (model P w) A (setRelay a (SetTable.grown (L.length + 1))) (fun _ s' => wpAny (model P w) A (pure true) Q E s') E { s with heap := g } := by
      rcases two with ⟨_, e2⟩ | ⟨_, e2⟩
      · exact go 31 (by rw [e2, size_20]) (.inr (.inl rfl)) (by rw [e2, size_20]; decide) (by omega)
      · exact go 127 (by rw [e2, size_76]) (.inr (.inr rfl)) (by rw [e2, size_76]; decide) (by omega)
    rw [sz]
    first
      | (refine wpAny_bind (wp_if_pos (by simp [hf]) ?_)
         exact fin)
      | (refine wp_if_pos (by simp [hf]) ?_
         exact wpAny_bind fin)
  · have fin : Q true { s with heap := g } := by
      refine q g L1 es1 (ep + 1) t1 sb ⟨⟨_, ho1, ⟨hex.1, hex.2.1, hex.2.2⟩, rfl⟩, rows1, T2, nd1, tup1, led1, ?_, by omega⟩ pm
      have := hf
      unfold SetTable.tooFull at this
      rw [decide_eq_true_eq, f1] at this
      omega
    first
      | exact wp_if_neg (by simp [hf]) (wpAny_pure fin)
      | exact wpAny_bind (wp_if_neg (by simp [hf]) (wpAny_pure (wpAny_pure fin)))
theorem tab_unplain {hs : List Int} (T : TabOk t hs) : TabOk { t with plain := false } hs := ⟨T.ris, T.dm, T.sz, T.mok, T.bd, T.reach⟩
/-- adding -/
theorem fs_add (R : FS w s.heap a L es ep t) (hx : FK s.heap k x) (hu : A.units + 8 < cLine) (few : L.length + 1 < 64) {Q : Bool → Shared → Prop}
    (q : ∀ c g L' es' ep' t', Heap.SameBut a s.heap g → FS w g a L' es' ep' t' → (k ∈ L.map (·.2) → L' = L) → (k ∉ L.map (·.2) → L'.Perm ((x, k) :: L)) → Q c { s with heap := g }) :
    wpAny (model P w) A (setAddHashed a (.ref x) (k.hash w)) Q E s := by
  obtain ⟨o, ho, hex, hd⟩ := R.ob
  unfold setAddHashed
  refine wpAny_holding ?_
  rw [show (100000 : Nat) = 99999 + 1 from rfl, setAddHashedIn_succ]
  refine wpAny_bind (wpAny_setState_of ho hd R.fits ?_)
  dsimp only
  refine wp_if_neg (by simp [byScan, Value.scannable]) ?_
  try refine wpAny_bind (wpAny_pure ?_)
  refine wpAny_bind (fs_search R hx hu (fun hm => ?_) fun N hm free full => ?_)
  · dsimp only
    exact wpAny_pure (q false s.heap L es ep t (Heap.SameBut.refl a s.heap) R (fun _ => rfl) fun z => absurd hm z)
  · dsimp only
    refine wpAny_bind (wpAny_setState_of ho hd R.fits ?_)
    dsimp only
    obtain ⟨q1, q2, q3, q4, q5, q6, q7, q8, q9⟩ := R.tab.put free full
    rw [List.length_map] at q9
    generalize t.put (way t.mask (k.hash w) N) = pt at *
    obtain ⟨t1, n⟩ := pt
    dsimp only at q1 q3 q4 q5 q6 q7 q8 q9 ⊢
    subst q1
    have fin := fun (t2 : SetTable) T2 m2 l2 f2 => fs_store (P := P) (A := A) (E := E) (Q := Q) (t1 := t2) (n := SetTable.below t.place (way t.mask (k.hash w) N)) R hx hm few T2 m2 l2 f2 fun g L' es' ep' t' sb R' pm => q true g L' es' ep' t' sb R' (fun z => absurd z hm) fun _ => pm
    have both : ∀ c : Bool, wpAny (model P w) A (do
        storeSet a (SetTable.insertAt es (SetTable.below t.place (way t.mask (k.hash w) N)) (k.hash w, Value.ref x)) (if c = true then t1 else { t1 with plain := false })
        if !false && (if c = true then t1 else { t1 with plain := false }).tooFull then setRelay a (SetTable.grown (es.size + 1))
        return true) Q E s := fun c => by
      cases c with
      | true => exact fin t1 q3 q4 q5 q9
      | false => exact fin { t1 with plain := false } (tab_unplain q3) q4 q5 q9
    cases hp : t1.plain with
    | true =>
      first
        | (refine wpAny_bind (wp_if_pos rfl (hbv_flat hx fun c => ?_))
           exact both c)
        | (refine wp_if_pos rfl (wpAny_bind (hbv_flat hx fun c => ?_))
           exact both c)
    | false =>
      first
        | (refine wpAny_bind (wp_if_neg Bool.false_ne_true (wpAny_pure ?_))
           exact both true)
        | (refine wp_if_neg Bool.false_ne_true ?_
           exact both true)
end
end M

/-! sets of flat tuples: set(xs), sorted(set) -/
namespace M
open PySem PySem.Spec PyProof.Rows L2
open PySem.W (SortsAt sortVals EachIs)
/-- what a set has got of the first i items -/
structure FG (ks : FL) (i : Nat) (L : FL) : Prop where
  sub : ∀ p ∈ L, p ∈ ks.take i
  all : ∀ p ∈ ks.take i, p.2 ∈ L.map (·.2)
  len : L.length ≤ i
theorem FG.step {ks L L' : FL} {i : Nat} {p : Addr × NK} (g : FG ks i L) (e : ks[i]? = some p) (h1 : p.2 ∈ L.map (·.2) → L' = L) (h2 : p.2 ∉ L.map (·.2) → L'.Perm (p :: L)) : FG ks (i + 1) L' := by
  have tk : ks.take (i + 1) = ks.take i ++ [p] := by
    rw [List.take_add_one, e]
    rfl
  have or_ : ∀ q, q ∈ ks.take (i + 1) ↔ q ∈ ks.take i ∨ q = p := fun q => by rw [tk, List.mem_append, List.mem_singleton]
  by_cases c : p.2 ∈ L.map (·.2)
  · rw [h1 c]
    refine ⟨fun q hq => (or_ q).mpr (.inl (g.sub q hq)), fun q hq => ?_, Nat.le_succ_of_le g.len⟩
    rcases (or_ q).mp hq with z | rfl
    · exact g.all q z
    · exact c
  · have pm := h2 c
    refine ⟨fun q hq => (or_ q).mpr ?_, fun q hq => ?_, by rw [pm.length_eq, List.length_cons]; exact Nat.succ_le_succ g.len⟩
    · rcases List.mem_cons.mp (pm.mem_iff.mp hq) with z | z
      · exact .inr z
      · exact .inl (g.sub q z)
    · rw [(pm.map (·.2)).mem_iff, List.map_cons]
      rcases (or_ q).mp hq with z | rfl
      · exact List.mem_cons_of_mem _ (g.all q z)
      · exact List.mem_cons_self
theorem fs_new {w : World} {h : Heap} {a : Addr} (e : h.get? a = some (setNew w)) : FS w h a [] #[] 0 (.fresh 0 0 (!w.params.followText "set-order")) where
  ob := ⟨_, e, ⟨rfl, rfl, rfl⟩, rfl⟩
  rows := rfl
  tab := ⟨.nil, rfl, rfl, .inl rfl, fun x hx => (by cases hx), fun i h j hi => (by simp at hi)⟩
  nd := .nil
  tup := fun p hp => by cases hp
  led := by
    show _ ∨ (!w.params.followText "set-order") = true
    by_cases c : w.params.followText "set-order" = true
    · exact .inl c
    · exact .inr (by simp [c])
  room := by show 0 * 5 < 7 * 3; omega
  few := by show 0 < 64; omega
section
variable {P : Program} {w : World} {A : Around} {E : Value → Shared → Prop} {s : Shared}
theorem fs_loop {I S : Addr} {fp wr : List Addr} {G : Array GenState → Array GenState → Prop} {n : Nat} {Pv : Nat → Value → Prop} {St : Nat → Shared → Prop} {R : Result → Shared → Prop} (W : WalksS P w A.in1 I fp wr G n Pv St) (nS : S ∉ fp) (ks : FL) (hn : n = ks.length) (few : ks.length < 64)
    (val : ∀ i v, Pv i v → ∃ p, ks[i]? = some p ∧ v = .ref p.1) (h0 : Heap) (hk : ∀ p ∈ ks, FK h0 p.2 p.1) (S0 : h0.get? S = none) (w0 : ∀ b ∈ wr, h0.get? b = none) (hu : A.in1.units + 8 < cLine) :
    ∀ (m i : Nat) (s : Shared), n - i = m → i ≤ n → St i s → (∀ b o, h0.get? b = some o → s.heap.get? b = some o) → (∃ L es ep t, FS w s.heap S L es ep t ∧ FG ks i L) →
      (∀ s' L es ep t, Moved (S :: wr) G s s' → FS w s'.heap S L es ep t → FG ks n L → R (.ok (.ret .none)) s') → codeAny (model P w) A (.builtin "set.update.loop" ⟨[.ref S, .ref I], []⟩) R s := by
  have nw : S ∉ wr := fun z => nS (W.sub _ z)
  have more : ∀ b ∈ wr, b ∈ S :: wr := fun b hb => List.mem_cons_of_mem _ hb
  intro m
  induction m with
  | zero =>
    intro i s hm hi st kp ⟨L, es, ep, t, R0, g⟩ fin
    obtain rfl : i = n := by omega
    refine codeAny_builtin F.entry_set_update_loop ?_; rw [Around.under_plainId F.plain_set_update_loop _]
    show wpAny _ A.in1 (pyNext (.ref I) >>= fun _ => _) _ _ s
    refine wpAny_bind (W.done s _ _ st fun t' mv => ?_)
    refine wpAny_pure (fin t' L es ep t (mv.mono more) (R0.keep (fun o e => mv.heap S o nw e) fun p hp => ?_) g)
    exact (hk p (List.mem_of_mem_take (g.sub p hp))).keep fun b o e => mv.heap b o (fun z => by rw [w0 b z] at e; cases e) (kp b o e)
  | succ m ih =>
    intro i s hm hi st kp ⟨L, es, ep, t, R0, g⟩ fin
    have lt : i < n := by omega
    refine codeAny_builtin F.entry_set_update_loop ?_; rw [Around.under_plainId F.plain_set_update_loop _]
    show wpAny _ A.in1 (pyNext (.ref I) >>= fun _ => _) _ _ s
    refine wpAny_bind (W.item i s _ _ lt st fun v s1 hP st1 mv => ?_)
    obtain ⟨p, hp, rfl⟩ := val i v hP
    have kp1 : ∀ b o, h0.get? b = some o → s1.heap.get? b = some o := fun b o e => mv.heap b o (fun z => by rw [w0 b z] at e; cases e) (kp b o e)
    have F1 : FS w s1.heap S L es ep t := R0.keep (fun o e => mv.heap S o nw e) fun q hq => (hk q (List.mem_of_mem_take (g.sub q hq))).keep kp1
    have x1 : FK s1.heap p.2 p.1 := (hk p (List.mem_of_getElem? hp)).keep kp1
    show wpAny _ A.in1 (holding [Value.ref p.1] (setAdd S (.ref p.1)) >>= fun _ => _) _ _ s1
    refine wpAny_bind (wpAny_holding ?_)
    unfold setAdd
    refine wpAny_holding (wpAny_bind ((nestedKind P w).pyHash hu x1.is ?_))
    refine fs_add (s := { s1 with toks := s1.toks + (nestedKind P w).draws p.2 }) F1 x1 hu (by have := g.len; omega) fun c h2 L2 es2 ep2 t2 sb F2 c1 c2 => ?_
    have kp2 : ∀ b o, h0.get? b = some o → h2.get? b = some o := fun b o e => (sb.2 b fun z => by rw [z, S0] at e; cases e).trans (kp1 b o e)
    refine wpAny_pure ⟨plainId_quiet F.plain_set_update_loop _, ih (i + 1) _ (by omega) lt (W.frame _ s1 _ _ st1 (Nat.le_add_right _ _) fun b hb o e => ?_) kp2 ⟨L2, es2, ep2, t2, F2, g.step hp c1 c2⟩ fun s3 L3 es3 ep3 t3 mv3 F3 g3 => ?_⟩
    · exact (sb.2 b fun z => nS (z ▸ hb)).trans e
    · refine fin s3 L3 es3 ep3 t3 (Moved.trans W.gtrans ((mv.mono more).then_heap (Nat.le_add_right _ _) fun b o hb e => ?_) mv3) F3 g3
      exact (sb.2 b fun z => hb (by rw [z]; exact List.mem_cons_self)).trans e
end
/-- the set at a, whatever stands in it -/
def FS0 (w : World) (h : Heap) (a : Addr) (L : FL) : Prop := ∃ es ep t, (∃ o, h.get? a = some o ∧ o.ExactSet ∧ o.data = .set es ep t) ∧ es.toList = L.map (frow w) ∧ TabOk t (L.map (fhash w)) ∧ (L.map (·.2)).Nodup ∧ (w.params.followText "set-order" = true ∨ t.led = true) ∧ L.length * 5 < t.mask * 3 ∧ L.length < 64
def FSO (w : World) (a : Addr) (L : FL) : HO := .ext fun h => FS0 w h a L
theorem fso_new {P : Program} {w : World} {H : Hp} {h : Heap} {a : Addr} {L : FL} (R : FS0 w h a L) : ObjOk P w H h a (FSO w a L) := by
  obtain ⟨es, ep, t, ⟨o, ho, r⟩, q⟩ := id R
  exact ⟨R, ⟨o, ho⟩, fun h1 h2 ⟨es, ep, t, ⟨o, ho, r⟩, q⟩ st => ⟨es, ep, t, ⟨o, st o ho, r⟩, q⟩⟩
section
variable {X : Cx} {pins : List (Addr × Obj)} {σ : L2.St} {H : Hp} {s : Shared}
theorem fk_of (I : Inv X pins σ H s) {a : Addr} {k : NK} (h : At X.K H (.ref a) k) (f : Flat k) : FK s.heap k a := ⟨At.kis I _ _ _ h rfl, f⟩
def rSetOfF (K : PySem.W.Frag) (w : World) : List V → Hp → VK → Prop := fun xs H Q => ∃ (l : Addr) (ks : FL), xs = [.ref l] ∧ SqL K H l (ks.map fun p => V.ref p.1) ∧ (∀ p ∈ ks, At K H (.ref p.1) p.2 ∧ Flat p.2) ∧ ks.length < 64 ∧
  ∀ a L, H a = none → (∀ p ∈ L, p ∈ ks) → (∀ p ∈ ks, p.2 ∈ L.map (·.2)) → Q (.ref a) (upd H a (FSO w a L))
theorem refs_fl : ∀ {ks : FL} {us : List Value}, Vals (ks.map fun p => V.ref p.1) us → us = ks.map fun p => Value.ref p.1
  | [], _, .nil => rfl
  | p :: ks, _, .cons r t => by
    cases r
    rw [refs_fl t]
    rfl
/-- set(xs), xs a list of flat tuples -/
theorem set_flat (hc : X.calm = true) (hu : X.A.units + 64 < cLine) : CallR X (.type "set") (rSetOfF X.K X.w) := fun pins s σ H xs us Q I r h => by
  obtain ⟨l, ks, rfl, hl, hk, few, q⟩ := h
  rw [Vals.ref1 r]
  obtain ⟨its, rv, pl, hz⟩ := I.list hl
  have eits := refs_fl rv
  have isl : s.heap.IsList l its.toArray := pl.isList
  have lt : l < s.heap.objs.size := by
    obtain ⟨_, e, _⟩ := isl
    exact Heap.lt_size e
  have hn : H s.heap.objs.size = none := I.hok.fresh (Nat.le_refl _)
  have lits : its.length = ks.length := by rw [eits, List.length_map]
  have neI : l ≠ (s.heap.push (setNew X.w)).objs.size := by
    rw [Heap.size_push]
    exact Nat.ne_of_lt (Nat.lt_succ_of_lt lt)
  have apart : s.heap.objs.size ∉ [(s.heap.push (setNew X.w)).objs.size, l] := by
    rw [Heap.size_push]
    intro z
    rcases List.mem_cons.mp z with z | z
    · exact absurd z (Nat.ne_of_lt (Nat.lt_succ_self _))
    · exact absurd (List.mem_singleton.mp z) (Nat.ne_of_gt lt)
  have fresh : ∀ b, s.heap.objs.size ≤ b → s.heap.get? b = none := fun b hb => by
    cases e : s.heap.get? b with
    | none => rfl
    | some o => exact absurd (Nat.lt_of_lt_of_le (Heap.lt_size e) hb) (Nat.lt_irrefl _)
  refine set_of_list (Rd := fun g => ∃ L es ep t, FS X.w g s.heap.objs.size L es ep t ∧ FG ks ks.length L) isl (fun R hR => ?_) fun t ht => ?_
  · refine fs_loop ((Walks.list (show X.A.in1.in1.in1.handled = none from I.ok.hd hc) _ l neI its.toArray).toS) apart ks (by simpa using lits) few (fun i v hv => ?_) s.heap (fun p hp => fk_of I (hk p hp).1 (hk p hp).2) (fresh _ (Nat.le_refl _)) (fun b hb => fresh b (by
        rw [List.mem_singleton.mp hb, Heap.size_push]
        exact Nat.le_succ _)) (by show X.A.units + 1 + 1 + 1 + 8 < cLine; omega) (its.toArray.size - 0) 0 _ (by omega) (Nat.zero_le _)
      ⟨⟨_, Heap.get?_push_size _ rfl, rfl, rfl⟩, (isl.push _).push _⟩ (fun b o e => Heap.get?_push_of_some _ (Heap.get?_push_of_some _ e)) ⟨[], #[], 0, _, fs_new (Heap.get?_push_of_some _ (Heap.get?_push_size _ rfl)), ⟨fun p hp => (by cases hp), fun p hp => (by simp at hp), Nat.le_refl _⟩⟩
      fun t L es ep tb m F g => hR t (after_of (l := l) m ⟨L, es, ep, tb, F, by simpa [lits] using g⟩)
    have e1 : its[i]? = some v := by simpa using hv
    rw [eits, List.getElem?_map] at e1
    obtain ⟨p, hp, e2⟩ := Option.map_eq_some_iff.mp e1
    exact ⟨p, hp, e2.symm⟩
  · obtain ⟨g, tk, rfl, ⟨L, es, ep, tb, F, fg⟩, k⟩ := ht
    refine ⟨.ref s.heap.objs.size, _, I.laid (t' := tk) (o := FSO X.w s.heap.objs.size L) k (Nat.le_refl _) (fso_new ⟨es, ep, tb, F.ob, F.rows, F.tab, F.nd, F.led, F.room, F.few⟩), rfl, q _ L hn (fun p hp => List.mem_of_mem_take (fg.sub p hp)) fun p hp => fg.all p ?_⟩
    rw [List.take_length]
    exact hp
theorem perm_unmap {α β : Type} {f : α → β} {vs us : List β} (h : vs.Perm us) : ∀ {L : List α}, us = L.map f → ∃ L1 : List α, L1.Perm L ∧ vs = L1.map f := by
  induction h with
  | nil => exact fun {L} e => ⟨[], by
      have : L = [] := List.map_eq_nil_iff.mp e.symm
      rw [this], rfl⟩
  | cons x _ ih =>
    intro L e
    cases L with
    | nil => cases e
    | cons a L =>
      rw [List.map_cons] at e
      obtain ⟨e1, e2⟩ := List.cons.inj e
      obtain ⟨L1, p, e3⟩ := ih e2
      exact ⟨a :: L1, p.cons a, by rw [List.map_cons, e3, e1]⟩
  | swap x y l =>
    intro L e
    match L, e with
    | a :: b :: L, e =>
      simp only [List.map_cons] at e
      obtain ⟨e1, e⟩ := List.cons.inj e
      obtain ⟨e2, e3⟩ := List.cons.inj e
      exact ⟨b :: a :: L, .swap a b L, by simp only [List.map_cons, e1, e2, e3]⟩
  | trans _ _ ih1 ih2 =>
    intro L e
    obtain ⟨L1, p1, e1⟩ := ih2 e
    obtain ⟨L2, p2, e2⟩ := ih1 e1
    exact ⟨L2, p2.trans p1, e2⟩
def rSortedF (K : PySem.W.Frag) (w : World) (rk : NK → Nat) : List V → Hp → VK → Prop := fun vs H Q => ∃ (a : Addr) (L : FL), vs = [.ref a] ∧ H a = some (FSO w a L) ∧ (∀ p ∈ L, At K H (.ref p.1) p.2 ∧ Flat p.2) ∧ Ranked (L.map (·.2)) rk ∧
  ∀ p ys ks, H p = none → ks.Perm (L.map (·.2)) → ks.length < 64 → Ats K H ys ks → Q (.ref p) (upd H p (.lst ys))
theorem ats_refs {K : PySem.W.Frag} {H : Hp} : ∀ {L : FL}, (∀ p ∈ L, At K H (.ref p.1) p.2) → Ats K H (L.map fun p => V.ref p.1) (L.map (·.2))
  | [], _ => .nil
  | p :: L, h => .cons (h p List.mem_cons_self) (ats_refs fun q hq => h q (List.mem_cons_of_mem _ hq))
theorem vals_refs_fl : ∀ (L : FL), Vals (L.map fun p => V.ref p.1) (L.map fun p => Value.ref p.1)
  | [] => .nil
  | p :: L => .cons rfl (vals_refs_fl L)
/-- sorted(set) -/
theorem sorted_flat (hc : X.calm = true) (hu : X.A.units + 64 < cLine) (rk : NK → Nat) : CallR X (.builtin "sorted") (rSortedF X.K X.w rk) := fun pins s σ H vs us Q I r h => by
  obtain ⟨a, L, rfl, ha, hk, hr, q⟩ := h
  rw [Vals.ref1 r]
  obtain ⟨es, ep, t, ⟨o, ho, hex, hd⟩, rows, tab, nd, led, room, few⟩ := (I.hok a _ ha).1
  have sz : es.size = L.length := by rw [← Array.length_toList, rows, List.length_map]
  refine Calls.call_function_entry kind_sorted plain_sorted entry_sorted (args_sorted1 _) ?_
  unfold Builtin.«sorted»
  refine wpAny_bind (m := checkCount "sorted" 1 1 _) (wpAny_pure (wpAny_bind (collect_set (A := X.A.in1) (I.ok.hd hc) ⟨o, ho, hex.1, hd⟩ (fits_of (by rw [tab.sz, List.length_map, sz]) tab.dm (by omega)) (by unfold scanBound; omega) tab.ris led fun s1 vs k1 z1 g1 o1 pm => ?_)))
  rw [rows, List.map_map] at pm
  obtain ⟨L1, p1, e1⟩ := perm_unmap (f := fun p : Addr × NK => Value.ref p.1) (L := L) pm rfl
  have lvs : vs.length = L.length := by rw [e1, List.length_map, p1.length_eq]
  have hk1 : ∀ p ∈ L1, At X.K H (.ref p.1) p.2 := fun p hp => (hk p (p1.mem_iff.mp hp)).1
  have hats := ats_refs hk1
  have hvals : Vals (L1.map fun p => V.ref p.1) vs := by
    rw [e1]
    exact vals_refs_fl L1
  have mem1 : ∀ k ∈ L1.map (·.2), k ∈ L.map (·.2) := fun k hkk => (p1.map (·.2)).mem_iff.mp hkk
  have R1 : Ranked (L1.map (·.2)) rk := ⟨fun k hkk l hl => hr.lt k (mem1 k hkk) l (mem1 l hl), by
    rcases hr.form with f | f
    · exact .inl fun k hkk => f k (mem1 k hkk)
    · exact .inr fun k hkk => f k (mem1 k hkk), fun k hkk => hr.deep k (mem1 k hkk)⟩
  refine wpAny_bind (wpAny_newList ?_ (by rw [sizeLine_eq]; omega))
  have hoL : (s1.heap.push (seqObj "list" vs.toArray 0)).get? s1.heap.objs.size = some (seqObj "list" vs.toArray 0) := Heap.get?_push_size _ rfl
  have grow : ∀ b u, s.heap.get? b = some u → (PySem.W.sortingHeap (s1.heap.push (seqObj "list" vs.toArray 0)) s1.heap.objs.size vs).get? b = some u := fun b u e => PySem.W.sortingHeap_old (Nat.ne_of_lt (Heap.lt_size (k1 b u e))) (Heap.get?_push_of_some _ (k1 b u e))
  have e0 := each_of I hats hvals
  have e2 := e0.mono fun v k z => KIs.keeps (fun b o _ _ e _ _ => grow b o e) k v z
  have hS : SortsAt X.prog X.w X.A.in1.in1 { s1 with heap := PySem.W.sortingHeap (s1.heap.push (seqObj "list" vs.toArray 0)) s1.heap.objs.size vs } (rkKind (PySem.W.sortingHeap (s1.heap.push (seqObj "list" vs.toArray 0)) s1.heap.objs.size vs) (L1.map (·.2)) rk) vs :=
    sorts_ranked (s := { s1 with heap := PySem.W.sortingHeap (s1.heap.push (seqObj "list" vs.toArray 0)) s1.heap.objs.size vs }) e2 R1 (by show X.A.units + 1 + 1 + 16 < cLine; omega)
  refine wpAny_bind (wpAny_holding (wpAny_call_entry slot_list_sort ⟨_, hoL, rfl⟩ entry_list_sort ?_ (args_list_sort _)))
  refine PySem.W.list_sort_vals (s := { s1 with heap := s1.heap.push (seqObj "list" vs.toArray 0) }) hoL hS (by rw [sizeLine_eq]; omega) ⟨_, rfl, ?_⟩
  have hsd := sorted_each (R := fun v k => ∃ x, RelV x v ∧ At X.K H x k) (h := PySem.W.sortingHeap (s1.heap.push (seqObj "list" vs.toArray 0)) s1.heap.objs.size vs) (ks := L1.map (·.2)) (rk := rk) (bs := L1.map (·.2)) id (each_at hats hvals) (show EachIs (fun v k => KIs (PySem.W.sortingHeap (s1.heap.push (seqObj "list" vs.toArray 0)) s1.heap.objs.size vs) (id k) v) vs (L1.map (·.2)) from e2) fun b hb => hb
  obtain ⟨ys, ry, ay⟩ := at_each (X := X) (H := H) hsd
  generalize sortVals (rkKind (PySem.W.sortingHeap (s1.heap.push (seqObj "list" vs.toArray 0)) s1.heap.objs.size vs) (L1.map (·.2)) rk) false vs vs = outs at *
  obtain ⟨ep2, he⟩ := sortedHeap_at (out := outs.toArray) hoL
  have pk : (byRk (fun b => rk (id b)) (L1.map (·.2))).Perm (L.map (·.2)) := (List.mergeSort_perm _ _).trans (p1.map _)
  have hlen : ys.length ≤ sizeLine := by
    rw [ay.length, pk.length_eq, List.length_map, sizeLine_eq]
    omega
  have hn : H s1.heap.objs.size = none := I.hok.fresh z1
  have keep : ∀ b u, s.heap.get? b = some u → (sortedHeap (s1.heap.push (seqObj "list" vs.toArray 0)) s1.heap.objs.size vs outs.toArray).get? b = some u := fun b u e => by
    have lt := Heap.lt_size (k1 b u e)
    rw [sortedHeap_old (Nat.ne_of_lt lt) (by rw [size_push']; exact Nat.lt_succ_of_lt lt)]
    exact Heap.get?_push_of_some _ (k1 b u e)
  have J : Inv X pins σ (upd H s1.heap.objs.size (.lst ys)) { s with heap := sortedHeap (s1.heap.push (seqObj "list" vs.toArray 0)) s1.heap.objs.size vs outs.toArray, gens := s1.gens, drawn := s1.drawn, toks := s1.toks } :=
    I.call (ch := []) (Un.laid keep z1 hn) (I.hok.laid keep z1 ⟨hlen, outs, ep2, ry, he⟩) (by rw [g1]; exact I.bare) (fun _ z => nomatch z)
  have es : ({ s1 with heap := sortedHeap (s1.heap.push (seqObj "list" vs.toArray 0)) s1.heap.objs.size vs outs.toArray } : Shared) = { s with heap := sortedHeap (s1.heap.push (seqObj "list" vs.toArray 0)) s1.heap.objs.size vs outs.toArray, gens := s1.gens, drawn := s1.drawn, toks := s1.toks } := by
    cases s1
    cases s
    cases o1
    rfl
  show wpAny _ _ _ _ _ { s1 with heap := _ }
  rw [es]
  exact wpAny_pure ⟨_, rfl, ⟨.ref s1.heap.objs.size, _, J, rfl, q _ ys _ hn pk (by rw [pk.length_eq, List.length_map]; exact few) ay⟩⟩
end
end M

/-! the law's own states behind a row -/
namespace M
open PySem PySem.Spec PyProof.Rows L2
/-- for x in a list or a tuple -/
def iSeq (K : PySem.W.Frag) (tl : TE) : TI := fun σ H R => tl σ H fun x H1 => ∃ a xs, x = .ref a ∧ ((SqL K H1 a xs ∧ R (Itl K a) H1) ∨ (SqT K H1 a xs ∧ R (Itt K a) H1))
theorem pi_seq {X : Cx} {tg l : Expr} {tl : TE} (hl : PE X l tl) : PI X tg l (iSeq X.K tl) := ⟨fun pins s σ H R I h => thn (hl.run pins s σ H _ I h) fun v s1 ⟨x, H1, I1, r1, a, xs, e, q⟩ => by
  subst e
  cases r1
  have fp : ∀ b ∈ [s1.heap.objs.size], FpOk X pins H1 b := fun b hb => by
    rw [List.mem_singleton.mp hb]
    exact I1.fpOk (Nat.le_refl _) (I1.hok.fresh (Nat.le_refl _))
  rcases q with ⟨hq, q⟩ | ⟨hq, q⟩
  · obtain ⟨its, rv, p, hz⟩ := I1.list hq
    exact wpAny_pyIter_list p.isList ⟨s1.heap.objs.size, [s1.heap.objs.size], _, _, H1, rfl, I1.kept (t' := s1.toks) fun b o z => Heap.get?_push_of_some _ z, turn_list a _, ⟨_, Heap.get?_push_size _ rfl, rfl, rfl⟩, fp, q⟩
  · obtain ⟨its, rv, p, hz⟩ := I1.tuple hq
    exact wpAny_pyIter_tuple (show s1.heap.IsTuple a its.toArray from p) ⟨s1.heap.objs.size, [s1.heap.objs.size], _, _, H1, rfl, I1.kept (t' := s1.toks) fun b o z => Heap.get?_push_of_some _ z, turn_tuple a _, ⟨_, Heap.get?_push_size _ rfl, rfl, rfl⟩, fp, q⟩⟩
/-- its turns -/
theorem for_seq {K : PySem.W.Frag} {a : Addr} {xs : List V} {g : TG} {tb : TS} {D : L2.Ends} {σ : L2.St} {H : Hp} (hq : SqL K H a xs ∨ SqT K H a xs) (Pv : Nat → L2.St → Hp → Prop) (h0 : Pv 0 σ H) (hG : ∀ i σ H', i ≤ xs.length → Pv i σ H' → Same H H')
    (hs : ∀ i x σ H H', i < xs.length → Pv i σ H → YAt xs i H x H' → g x σ H' fun σ2 H2 => tb { D with nx := Pv (i + 1), ct := Pv (i + 1), bk := D.nx } σ2 H2) (hd : ∀ σ H, Pv xs.length σ H → D.nx σ H) :
    (SqL K H a xs ∧ ∃ W : Nat → Nat → L2.St → Hp → Prop, (∃ m, W 0 m σ H) ∧ ∀ i m σ H, W i m σ H →
      ((Itl K a).stop i H ∧ D.nx σ H) ∨ ((Itl K a).go i H ∧ ∃ N : L2.St → Hp → Prop, (∀ σ' H', N σ' H' → ∃ m', m' < m ∧ W (i + 1) m' σ' H') ∧ ∀ x H', (Itl K a).yld i H x H' → g x σ H' fun σ2 H2 => tb { D with nx := N, ct := N, bk := D.nx } σ2 H2)) ∨
    (SqT K H a xs ∧ ∃ W : Nat → Nat → L2.St → Hp → Prop, (∃ m, W 0 m σ H) ∧ ∀ i m σ H, W i m σ H →
      ((Itt K a).stop i H ∧ D.nx σ H) ∨ ((Itt K a).go i H ∧ ∃ N : L2.St → Hp → Prop, (∀ σ' H', N σ' H' → ∃ m', m' < m ∧ W (i + 1) m' σ' H') ∧ ∀ x H', (Itt K a).yld i H x H' → g x σ H' fun σ2 H2 => tb { D with nx := N, ct := N, bk := D.nx } σ2 H2)) := by
  rcases hq with hq | hq
  · exact .inl ⟨hq, for_it (walk_list (xs := xs)) Pv h0 (fun i σ H' hi p => (hG i σ H' hi p).seq hq) hs hd⟩
  · exact .inr ⟨hq, for_it (walk_tup (xs := xs)) Pv h0 (fun i σ H' hi p => Ext.of_same (hG i σ H' hi p) _ _ hq) hs hd⟩
/-- numbers, as ints -/
abbrev nI (S : List Nat) : List V := S.map fun n : Nat => V.int (n : Int)
theorem map_nI (S : List Nat) : (S.map fun n : Nat => (n : Int)).map V.int = nI S := by
  rw [List.map_map]
  rfl
theorem int_asc : ∀ {ns : List Int} {S : List Nat}, ns.Pairwise (· < ·) → Asc S → (∀ k : Int, k ∈ ns ↔ ∃ s ∈ S, k = (s : Int)) → ns = S.map fun n : Nat => (n : Int)
  | ns, S, h1, h2, h => by
    have pos : ∀ k ∈ ns, 0 ≤ k := fun k hk => by
      obtain ⟨s, _, rfl⟩ := (h k).mp hk
      omega
    refine strict_ext (rk := Int.toNat) ?_ ?_ fun b => ?_
    · refine List.Pairwise.imp_of_mem (fun {a b} ha hb hab => ?_) h1
      have := pos a ha
      have := pos b hb
      omega
    · rw [List.pairwise_map]
      exact List.Pairwise.imp (fun {a b} z => by simpa using z) h2
    · rw [h b, List.mem_map]
      constructor
      · rintro ⟨s, hs, rfl⟩
        exact ⟨s, hs, rfl⟩
      · rintro ⟨s, hs, rfl⟩
        exact ⟨s, hs, rfl⟩
section
variable {P : Program} {w : World} {K : PySem.W.Frag} {mg : Str → Option Value} {base : Heap}
theorem scLStates : FnScope ["thing", "row", "states", "call", "result", "later", "state", "its", "to"] ["thing", "row"] (defScope sLStatesBehind) := ⟨rfl, rfl, rfl, by decide +kernel, rfl, by decide +kernel, by decide +kernel⟩
/-- the results of a call told r lead here -/
def outsTo (T : Th) (s : Nat) (c : Call) (r : Nat) : List Nat := ((T.out s c).filter fun o => decide (o.1 = r)).map (·.2)
theorem outsTo_mem {T : Th} {s : Nat} {c : Call} {r t : Nat} : t ∈ outsTo T s c r ↔ (r, t) ∈ T.out s c := by
  unfold outsTo
  rw [List.mem_map]
  constructor
  · rintro ⟨⟨a, b⟩, h, rfl⟩
    obtain ⟨h1, h2⟩ := List.mem_filter.mp h
    have h2 : a = r := of_decide_eq_true h2
    rw [← h2]
    exact h1
  · exact fun h => ⟨(r, t), List.mem_filter.mpr ⟨h, decide_eq_true rfl⟩, rfl⟩
def spLStates (K : PySem.W.Frag) : Sp := fun vs H Q _ => ∃ (T : Th) (v u : V) (row : Row), vs = [v, u] ∧ Tg K H v T ∧ TOk T ∧ Seq K H u (row.map eR) ∧ RowOk T row ∧ ∀ a H', H a = none → Same H H' → H' a = some (.lst (nI (rowS T row))) → Q (.ref a) H'
theorem k_law_states (T : Tx K mg) (D : Df K mg "_law_states_behind" sLStatesBehind ["thing", "row"]) (F1 : Kn P w K mg base 1 "_law_outcomes" ["thing", "state", "call"] (spOutcomesOf K)) :
    Kn P w K mg base 2 "_law_states_behind" ["thing", "row"] (spLStates K) := by
  refine D.kn scLStates (fun vs H Q E h => ?_) (fun f cdv A outer s H vs Q E hr h => ?_)
  · obtain ⟨Z, v, u, row, rfl, _⟩ := h
    rfl
  · obtain ⟨Z, v, u, row, rfl, hv, hZ, ⟨a, xs, rfl, hsq, ha⟩, hrow, q⟩ := h
    refine ⟨_, pss_cons (ps_set (i := 2) scLStates.nd rfl (Or.inl rfl) (pe_lst (pa_cons pe_int pa_nil)))
      (pss_cons (ps_for PassesOwn.never rfl (pi_seq (pv 1)) (pg_tup rfl (pgs_cons (pg_name (i := 3) scLStates.nd rfl (Or.inl rfl)) (pgs_cons (pg_name (i := 4) scLStates.nd rfl (Or.inr rfl)) pgs_nil)))
        (pss_cons (ps_set (i := 5) scLStates.nd rfl (Or.inl rfl) (pe_lst pa_nil))
        (pss_cons (ps_for PassesOwn.never rfl (pi_list (pv 2)) (pg_name (i := 6) scLStates.nd rfl (Or.inl rfl))
          (pss_one (ps_expr (pe_bm F.plainAttrs_list F.slot_list_extend F.type_list_extend mt_extend (pv 5) (pa_cons
            (pe_lc (own := [("its", 7), ("to", 8)]) rfl scLStates.nd (pi_tup (pe_kn F1 hr (pa_cons (pv 0) (pa_cons (pv 6) (pa_cons (pv 3) pa_nil))))) (blkOk_by (N := ["thing", "row", "states", "call", "result", "later", "state", "its", "to"]) (sc := defScope sLStatesBehind) (by decide +kernel))
              (fun _ _ _ _ _ => pg_tupK (K := K) (n := 2) rfl rfl (pgs_cons (pg_name (i := 7) scLStates.nd rfl (Or.inl rfl)) (pgs_cons (pg_name (i := 8) scLStates.nd rfl (Or.inl rfl)) pgs_nil))) (fun _ _ _ _ _ => pts_one (pt_cmpR op_eq (pv 7) (pv 4) (nomark _)))
              (fun _ _ _ _ _ => pv 8)) pa_nil)))))
        (pss_one (ps_set (i := 2) scLStates.nd rfl (Or.inl rfl) (pe_callB (cr_sortedSet rfl) (by rfl) T.sorted boot_sorted (pa_cons (pe_callTy (set_ints rfl) (by rfl) T.set PyProof.Rows.boot_set (pa_cons (pv 5) pa_nil)) pa_nil)))))))
      (pss_one (ps_ret (pv 2)))), ?_⟩
    have lx : xs.length = row.length := by rw [ha.length, List.length_map]
    refine ⟨by decide, fun S0 nS0 => ?_⟩
    have s0 : Same H (upd H S0 (.lst [.int 0])) := same_upd nS0
    have hS0 : upd H S0 (.lst [.int 0]) S0 = some (.lst [.int 0]) := upd_same
    generalize upd H S0 (.lst [.int 0]) = H0 at *
    have hsq0 : SqL K H0 a xs ∨ SqT K H0 a xs := hsq.imp (fun h => s0.seq h) fun h => Ext.of_same s0 _ _ h
    have ha0 := ha.same s0
    refine ⟨.ref a, rfl, a, xs, rfl, for_seq hsq0 (fun i σ H' => ∃ z p3 p4 p5 p6, σ = [some v, some (.ref a), some (.ref z), p3, p4, p5, p6, none, none] ∧ Same H0 H' ∧ H z = none ∧ H' z = some (.lst (nI (rowS Z (row.take i))))) ?_ ?_ ?_ ?_⟩
    · exact ⟨S0, none, none, none, none, rfl, Same.refl _, nS0, hS0⟩
    · rintro i σ H' _ ⟨_, _, _, _, _, _, sm, _⟩
      exact sm
    · rintro i x σ _ H1 hi ⟨z, p3, p4, p5, p6, rfl, sm1, nz, hz⟩ ⟨rfl, hx⟩
      obtain ⟨⟨c, r⟩, hp, hxp⟩ := ats_map (ha0.same sm1) hx
      obtain ⟨hcm, hr9⟩ := hrow.1 (c, r) (List.mem_of_getElem? hp)
      obtain ⟨b, y1, y2, rfl, hs2, g1, g2⟩ := two_inv hxp
      obtain rfl := g2.num_inv
      refine ⟨b, _, rfl, hs2, rfl, y1, _, rfl, .int r, _, rfl, rfl, ?_⟩
      refine ⟨by decide, fun L nL => ?_⟩
      have sL : Same H1 (upd H1 L (.lst [])) := same_upd nL
      have hL : upd H1 L (.lst []) L = some (.lst []) := upd_same
      have hz2 := sL _ _ hz
      have g12 := g1.same sL
      have sm2 := (s0.trans sm1).trans sL
      have nL0 : H L = none := (s0.trans sm1).free nL
      have nL00 : H0 L = none := sm1.free nL
      have smL := sm1.trans sL
      generalize upd H1 L (.lst []) = H2 at *
      obtain ⟨okS, lenS⟩ := rowS_ok hZ (row.take i)
      have lnI : (nI (rowS Z (row.take i))).length = (rowS Z (row.take i)).length := by simp
      refine ⟨.ref z, rfl, z, rfl, ⟨_, SqL.of hz2⟩, ?_⟩
      refine for_it (walk_list (xs := nI (rowS Z (row.take i)))) (fun j σ H' => ∃ p6, σ = [some v, some (.ref a), some (.ref z), some y1, some (.int r), some (.ref L), p6, none, none] ∧ (∀ b o, b ≠ L → H2 b = some o → H' b = some o) ∧ Ext K H2 H' ∧
        ∃ ls : List Nat, H' L = some (.lst (nI ls)) ∧ ls.length ≤ 12 * j ∧ (∀ t ∈ ls, t < Z.n) ∧ ∀ t, t ∈ ls ↔ ∃ s ∈ (rowS Z (row.take i)).take j, (r, t) ∈ Z.out s c) ?_ ?_ ?_ ?_
      · exact ⟨_, rfl, fun b o _ e => e, Ext.refl _, [], hL, Nat.le_refl _, fun t ht => (by cases ht), fun t => (by simp)⟩
      · rintro j σ H3 _ ⟨_, _, sb, _⟩
        exact SqL.of (sb _ _ (ne_of_none (o := .lst (nI (rowS Z (row.take i)))) hz (by
          cases e : H1 L with
          | none => rfl
          | some o => rw [nL] at e; cases e)) hz2)
      · rintro j y σ _ H3 hj ⟨p6, rfl, sb, ex3, ls, hL3, len3, ok3, mem3⟩ ⟨rfl, hy⟩
        rw [List.getElem?_map] at hy
        obtain ⟨sn, hsn, rfl⟩ := Option.map_eq_some_iff.mp hy
        have hsT := okS sn (List.mem_of_getElem? hsn)
        have sm3 : Same H H3 := fun b o e => sb _ _ (ne_of_none e nL0) (sm2 _ _ e)
        refine ⟨.ref L, rfl, .inl ⟨rfl, _, SqL.of hL3⟩, ?_⟩
        refine ⟨v, rfl, .int sn, rfl, y1, rfl, Z, v, y1, sn, c, rfl, hv.same sm3, hZ, hsT, g12.ext ex3, hcm, fun zo H4 s4 hzo => ?_⟩
        obtain ⟨ao, os, rfl, hos, hat⟩ := hzo.tup_inv
        have lo : os.length = (Z.out sn c).length := by rw [hat.length, List.length_map]
        have l12 : (Z.out sn c).length ≤ 12 := Th.out_len hZ hsT hcm
        refine ⟨ao, rfl, ⟨_, hos⟩, fun D nD => ?_⟩
        refine lc_acc (K := K) (walk_tup (xs := os)) nD (by omega) (fun H5 s5 => Ext.of_same s5 _ _ hos) (fun m acc _ => ∃ ts : List Nat, acc = nI ts ∧ ts = (((Z.out sn c).take m).filter fun o => decide (o.1 = r)).map (·.2)) (fun _ _ _ _ _ h => h) ⟨[], rfl, by simp⟩ (fun m x H5 H6 acc k k0 hm sm5 eD hr2 hx5 hk h0 => ?_) fun H5 acc sm5 eD hr2 => ?_
        · obtain ⟨rfl, hx5⟩ := hx5
          obtain ⟨ts, rfl, ets⟩ := hr2
          obtain ⟨⟨g, t⟩, ho, hxo⟩ := ats_map (hat.same sm5) hx5
          obtain ⟨b5, w1, w2, rfl, hs5, i1, i2⟩ := two_inv hxo
          obtain rfl := i1.num_inv
          obtain rfl := i2.num_inv
          have tk : (Z.out sn c).take (m + 1) = (Z.out sn c).take m ++ [(g, t)] := by
            rw [List.take_add_one, ho]
            rfl
          refine ⟨b5, _, rfl, hs5, rfl, _, _, rfl, _, _, rfl, rfl, rfl, ?_⟩
          refine ⟨.int g, rfl, .int r, rfl, rfl, _, rfl, ?_⟩
          by_cases c0 : g = r
          · have e0 : decide (V.int (g : Int) = V.int (r : Int)) = true := decide_eq_true (by rw [c0])
            rw [e0]
            refine iteT ⟨_, rfl, hk _ _ (Same.refl _) ⟨ts ++ [t], by simp, ?_⟩⟩
            rw [ets, tk, List.filter_append, List.map_append]
            simp [c0]
          · have e0 : decide (V.int (g : Int) = V.int (r : Int)) = false := decide_eq_false fun z => c0 (by injection z with z; omega)
            rw [e0]
            refine iteF (h0 _ (Same.refl _) ⟨ts, rfl, ?_⟩)
            rw [ets, tk, List.filter_append, List.map_append]
            simp [c0]
        · obtain ⟨ts, rfl, ets⟩ := hr2
          rw [lo, List.take_length] at ets
          have ets : ts = outsTo Z sn c r := ets
          have s35 := s4.trans sm5
          have hL5 := s35 _ _ hL3
          have neD : L ≠ D := ne_of_none (s4 _ _ hL3) nD
          have lts : ts.length ≤ 12 := by
            rw [ets]
            unfold outsTo
            rw [List.length_map]
            exact Nat.le_trans (List.length_filter_le _ _) l12
          refine ⟨L, D, nI ls, nI ts, rfl, rfl, hL5, eD, by simp only [List.length_map]; rw [sizeLine_eq]; omega, ?_⟩
          refine ⟨_, rfl, fun b o nb e => ?_, (ex3.trans (.of_same s35)).trans (Ext.mut hL5 trivial), ls ++ ts, ?_, by simp only [List.length_append]; omega, fun t ht => ?_, fun t => ?_⟩
          · rw [upd_ne nb]
            exact s35 _ _ (sb b o nb e)
          · rw [upd_same, show nI (ls ++ ts) = nI ls ++ nI ts from List.map_append]
          · rcases List.mem_append.mp ht with h | h
            · exact ok3 t h
            · rw [ets] at h
              exact (Th.out_ok hZ hsT hcm _ (outsTo_mem.mp h)).2
          · have tk : (rowS Z (row.take i)).take (j + 1) = (rowS Z (row.take i)).take j ++ [sn] := by
              rw [List.take_add_one, hsn]
              rfl
            rw [List.mem_append, mem3, ets, outsTo_mem, tk]
            constructor
            · rintro (⟨s, h1, h2⟩ | h)
              · exact ⟨s, List.mem_append_left _ h1, h2⟩
              · exact ⟨sn, List.mem_append_right _ (List.mem_singleton.mpr rfl), h⟩
            · rintro ⟨s, h1, h2⟩
              rcases List.mem_append.mp h1 with h1 | h1
              · exact .inl ⟨s, h1, h2⟩
              · rw [List.mem_singleton.mp h1] at h2
                exact .inr h2
      · rintro σ H3 ⟨p6, rfl, sb, ex3, ls, hL3, len3, ok3, mem3⟩
        rw [lnI] at len3 mem3
        rw [List.take_length] at mem3
        have sm3 : Same H0 H3 := fun b o e => sb _ _ (ne_of_none e nL00) (smL _ _ e)
        refine ⟨.ref L, rfl, L, ls.map fun n : Nat => (n : Int), rfl, by rw [map_nI]; exact SqL.of hL3, by rw [List.length_map]; omega, fun T1 S1 n1 nT hS1 hn1 => ?_⟩
        have sT := same_upd (o := SetO w T1 S1 n1) nT
        have nT2 : upd H3 T1 (SetO w T1 S1 n1) T1 = some (SetO w T1 S1 n1) := upd_same
        rw [List.length_map] at hn1
        refine ⟨T1, S1, n1, rfl, nT2, by omega, fun ns p asc mem len np => ?_⟩
        have sp := same_upd (o := .lst (ns.map V.int)) np
        have sTp := sT.trans sp
        have e1 : ns = (stp Z (rowS Z (row.take i)) c r).map fun n : Nat => (n : Int) := by
          refine int_asc asc (stp_asc _ _ _ _) fun k => ?_
          rw [mem, hS1, decide_eq_true_iff, List.mem_map]
          constructor
          · rintro ⟨t, ht, rfl⟩
            exact ⟨t, stp_mem.mpr ⟨ok3 t ht, (mem3 t).mp ht⟩, rfl⟩
          · rintro ⟨t, ht, rfl⟩
            exact ⟨t, (mem3 t).mpr (stp_mem.mp ht).2, rfl⟩
        refine ⟨p, _, _, _, _, rfl, sm3.trans sTp, ?_, ?_⟩
        · exact s0.free (sm3.free (sT.free np))
        · rw [upd_same, e1, map_nI, rowS_take hp]
    · rintro σ H1 ⟨z, p3, p4, p5, p6, rfl, sm1, nz, hz⟩
      rw [lx, List.take_length] at hz
      exact ⟨_, rfl, q z H1 nz (s0.trans sm1) hz⟩
end
end M

/-! dict(a list of pairs), the keys nested -/
namespace M
open PySem PySem.Spec PyProof.Rows L2
/-- one after another -/
def putAll (kvs : List (NK × V)) (ps : List (NK × V)) : List (NK × V) := ps.foldl (fun kvs p => putK kvs p.1 p.2) kvs
theorem putAll_keys : ∀ (ps kvs : List (NK × V)), (kvs.map (·.1)).Nodup → ((putAll kvs ps).map (·.1)).Nodup ∧ (∀ k, k ∈ (putAll kvs ps).map (·.1) ↔ k ∈ kvs.map (·.1) ∨ k ∈ ps.map (·.1)) ∧ (putAll kvs ps).length ≤ kvs.length + ps.length
  | [], kvs, h => ⟨h, fun k => by simp [putAll], by simp [putAll]⟩
  | p :: ps, kvs, h => by
    obtain ⟨h1, h2, h3⟩ := putAll_keys ps (putK kvs p.1 p.2) (keys_put p.1 p.2 h)
    refine ⟨h1, fun k => ?_, ?_⟩
    · refine (h2 k).trans ?_
      rw [keys_put_map, List.map_cons, List.mem_cons]
      by_cases c : p.1 ∈ kvs.map (·.1)
      · rw [if_pos c]
        constructor
        · rintro (z | z)
          · exact .inl z
          · exact .inr (.inr z)
        · rintro (z | rfl | z)
          · exact .inl z
          · exact .inl c
          · exact .inr z
      · rw [if_neg c, List.mem_append, List.mem_singleton]
        constructor
        · rintro ((z | z) | z)
          · exact .inl z
          · exact .inr (.inl z)
          · exact .inr (.inr z)
        · rintro (z | z | z)
          · exact .inl (.inl z)
          · exact .inl (.inr z)
          · exact .inr z
    · have := length_putK kvs p.1 p.2
      have h3 : (putAll kvs (p :: ps)).length ≤ (putK kvs p.1 p.2).length + ps.length := h3
      simp only [List.length_cons]
      omega
section
variable {X : Cx} {pins : List (Addr × Obj)} {σ : L2.St} {H : Hp} {s : Shared}
abbrev PL := List (Addr × NK × V)
def PrOk (K : PySem.W.Frag) (H : Hp) (p : Addr × NK × V) : Prop := ∃ b, SqT K H p.1 [.ref b, p.2.2] ∧ At K H (.ref b) p.2.1 ∧ p.2.1.depth ≤ 8
def PrX (K : PySem.W.Frag) (H : Hp) (h : Heap) (p : Addr × NK × V) (x : Nent) : Prop := NdR K H p.2 x ∧ h.IsTuple p.1 #[.ref x.2.1, x.2.2]
theorem pr_all (I : Inv X pins σ H s) : ∀ {ps : PL}, (∀ p ∈ ps, PrOk X.K H p) → ∃ xs, Paired (PrX X.K H s.heap) ps xs
  | [], _ => ⟨[], .nil⟩
  | p :: ps, h => by
    obtain ⟨xs, hx⟩ := pr_all I fun q hq => h q (List.mem_cons_of_mem _ hq)
    obtain ⟨b, h1, h2, h3⟩ := h p List.mem_cons_self
    obtain ⟨its, rv, ⟨o, ho, hc, n, hd⟩, _⟩ := I.tuple h1
    obtain ⟨u1, u2, rfl, r1, r2⟩ := vals_two rv
    cases r1
    exact ⟨(p.2.1, b, u2) :: xs, .cons ⟨⟨rfl, h2, h3, r2⟩, ⟨o, ho, hc, n, hd⟩⟩ hx⟩
theorem stored_all {K : PySem.W.Frag} {H : Hp} {h : Heap} {ps : PL} {xs : List Nent} (hp : Paired (PrX K H h) ps xs) : ∀ {kvs : List (NK × V)} {ys : List Nent}, Paired (NdR K H) kvs ys → Paired (NdR K H) (putAll kvs (ps.map (·.2))) (storedAllH ys xs) := by
  induction hp with
  | nil => exact fun g => g
  | @cons p x ps xs r t ih =>
    intro kvs ys g
    obtain ⟨⟨e, h2, h3, h4⟩, _⟩ := r
    show Paired (NdR K H) (putAll (putK kvs p.2.1 p.2.2) (ps.map (·.2))) (storedAllH (storedH ys x.1 x.2.1 x.2.2) xs)
    refine ih ?_
    rw [← e]
    exact ndr_put g h2 h3 h4
def rDictN (P : Program) (w : World) (K : PySem.W.Frag) : List V → Hp → VK → Prop := fun xs H Q => ∃ (l : Addr) (ps : PL), xs = [.ref l] ∧ H l = some (.lst (ps.map fun p => V.ref p.1)) ∧ (∀ p ∈ ps, PrOk K H p) ∧ ps.length ≤ 1000000 ∧
  ∀ d ob, H d = none → DK P w K (upd H d ob) d (putAll [] (ps.map (·.2))) → Q (.ref d) (upd H d ob)
theorem dict_n (hc : X.calm = true) (hu : X.A.units + 64 < cLine) : CallR X (.type "dict") (rDictN X.prog X.w X.K) := fun pins s σ H xs us Q I r h => by
  obtain ⟨l, ps, rfl, hl, hp, hz, q⟩ := h
  rw [Vals.ref1 r]
  obtain ⟨its, rv, pl, _⟩ := I.list (SqL.of hl)
  obtain ⟨o, n, ho, hcl, hd, hdat⟩ := pl
  obtain ⟨ys, hy⟩ := pr_all I hp
  have lys := Paired.length hy
  have lits : its.length = ps.length := by
    have := rv.length
    simpa using this.symm
  have item : ∀ (j : Nat) (p : Addr × NK × V), ps[j]? = some p → its[j]? = some (Value.ref p.1) := fun j p e => by
    obtain ⟨u, hu1, ru⟩ := rv.get (show (ps.map fun p : Addr × NK × V => V.ref p.1)[j]? = some (V.ref p.1) by rw [List.getElem?_map, e]; rfl)
    rw [hu1, ru]
  have vps : (ys.map fun x => ((Value.ref x.2.1, x.2.2) : Value × Value)).length = ps.length := by rw [List.length_map, lys]
  refine call_dict_pairsH (knd := nestedKind X.prog X.w) (ps := ys) (PairArg.list l its.toArray (fun j => ((ps[j]?).map (·.1)).getD 0) (ys.map fun x => (Value.ref x.2.1, x.2.2))) (I.ok.hd hc) (show X.A.units + 1 + 1 + 8 < cLine by omega)
    ⟨⟨o, n, ho, hcl, hd, hdat⟩, ⟨by rw [vps]; simpa using lits, fun j k v e => ?_⟩⟩ ⟨by simp, fun i k v e => ?_⟩ (fun h' hk x hx => ?_) (by rw [vps, sizeLine_eq]; omega) fun h' tk dd hk => ?_
  · rw [List.getElem?_map] at e
    obtain ⟨x, hx, e⟩ := Option.map_eq_some_iff.mp e
    obtain ⟨p, hpj⟩ : ∃ p, ps[j]? = some p := by
      have := (List.getElem?_eq_some_iff.mp hx).1
      exact ⟨_, List.getElem?_eq_getElem (by rw [lys]; exact this)⟩
    obtain ⟨x2, hx2, _, rt⟩ := paired_nth hy hpj
    rw [hx] at hx2
    obtain rfl := Option.some.inj hx2
    injection e with e1 e2
    subst e1 e2
    have e0 : ((ps[j]?).map (·.1)).getD 0 = p.1 := by
      rw [hpj]
      rfl
    refine ⟨?_, .inl ?_⟩
    · dsimp only
      rw [e0]
      simpa using item j p hpj
    · dsimp only
      rw [e0]
      exact rt
  · have e : (ys.map fun x => ((Value.ref x.2.1, x.2.2) : Value × Value))[i]? = some (k, v) := e
    rw [List.getElem?_map] at e
    obtain ⟨⟨k1, b, u⟩, hx, e⟩ := Option.map_eq_some_iff.mp e
    injection e with e1 e2
    subst e1 e2
    exact ⟨k1, b, hx, rfl⟩
  · obtain ⟨i, hi⟩ := List.mem_iff_getElem?.mp hx
    have li := (List.getElem?_eq_some_iff.mp hi).1
    obtain ⟨x2, hx2, ⟨e1, e2, e3, _⟩, _⟩ := paired_nth hy (List.getElem?_eq_getElem (show i < ps.length by rw [lys]; exact li))
    rw [hi] at hx2
    obtain rfl := Option.some.inj hx2
    refine nestedKind_stays.stays (fun b u vs n e _ => hk b u (Nat.ne_of_lt (Heap.lt_size e)) (fun z => nomatch z) e) ?_
    rw [← e1]
    exact nd_is I e2 e3
  · obtain ⟨ob, es, ep, g1, g2, g3, g4, g5, g6⟩ := id dd
    have hn : H s.heap.objs.size = none := I.hok.fresh (Nat.le_refl _)
    have I' : Inv X pins σ (upd H s.heap.objs.size (NdO s.heap.objs.size ob)) { s with heap := h', toks := tk } :=
      I.laid (a := s.heap.objs.size) (o := NdO s.heap.objs.size ob) (t' := tk) (fun b u e => hk b u (fun z => nomatch z) e) (Nat.le_refl _) ⟨g1, ⟨ob, g1⟩, fun h1 h2 p st => st _ p⟩
    refine ⟨.ref s.heap.objs.size, _, I', rfl, q _ _ hn ⟨ob, upd_same, storedAllH [] ys, ⟨es, ep, g2, g3, g4⟩, ?_⟩⟩
    have base : DKe X.K H s.heap.objs.size (putAll [] (ps.map (·.2))) (storedAllH [] ys) := ⟨beq_eq_false_iff_ne.mpr (Nat.ne_of_gt I.big), (putAll_keys _ [] (by simp)).1, stored_all hy .nil⟩
    exact base.ext (Ext.new hn)
end
end M

/-! the law's own closing -/
namespace M
open PySem PySem.Spec PyProof.Rows L2
theorem bels_keys {bs : List Bel} : ∀ {ks : List NK}, ks.Nodup → (∀ k, k ∈ ks ↔ k ∈ bs.map eB) → ∃ ls : List Bel, ks = ls.map eB ∧ ls.Nodup ∧ ∀ b, b ∈ ls ↔ b ∈ bs := by
  intro ks hn hm
  have pick : ∀ l : List NK, (∀ k ∈ l, k ∈ bs.map eB) → ∃ ls : List Bel, l = ls.map eB := by
    intro l
    induction l with
    | nil => exact fun _ => ⟨[], rfl⟩
    | cons k l ih =>
      intro h
      obtain ⟨ls, e⟩ := ih fun q hq => h q (List.mem_cons_of_mem _ hq)
      obtain ⟨b, _, eb⟩ := List.mem_map.mp (h k List.mem_cons_self)
      exact ⟨b :: ls, by rw [List.map_cons, ← e, eb]⟩
  obtain ⟨ls, rfl⟩ := pick ks fun k hk => (hm k).mp hk
  refine ⟨ls, rfl, List.Pairwise.of_map eB (fun a b ne e => ne (congrArg eB e)) hn, fun b => ?_⟩
  have := hm (eB b)
  rwa [mem_eB, mem_eB] at this
section
variable {P : Program} {w : World} {K : PySem.W.Frag} {mg : Str → Option Value} {base : Heap}
theorem PrOk.ext {H H' : Hp} {p : Addr × NK × V} (h : PrOk K H p) (x : Ext K H H') : PrOk K H' p := by
  obtain ⟨b, h1, h2, h3⟩ := h
  exact ⟨b, x _ _ h1, h2.ext x, h3⟩
theorem scLClosed : FnScope ["thing", "beliefs", "found", "line", "state", "hands", "k", "what", "result", "to", "more", "one"] ["thing", "beliefs"] (defScope sLClosed) := ⟨rfl, rfl, rfl, by decide +kernel, rfl, by decide +kernel, by decide +kernel⟩
def spLClosed (P : Program) (w : World) (K : PySem.W.Frag) : Sp := fun vs H Q _ => ∃ (T : Th) (v : V) (a : Addr) (xs : List V) (bs : List Bel), vs = [v, .ref a] ∧ Tg K H v T ∧ TOk T ∧ H a = some (.lst xs) ∧ Ats K H xs (bs.map eB) ∧ (∀ b ∈ bs, BT T b) ∧ bs.Nodup ∧
  ∀ d kvs (ls : List Bel) H', H d = none → Same H H' → DK P w K H' d kvs → kvs.map (·.1) = ls.map eB → ls.Nodup → (∀ b, b ∈ ls ↔ b ∈ cl T bs) → Q (.ref d) H'
theorem k_law_closed (T : Tx K mg) (D : Df K mg "_law_closed" sLClosed ["thing", "beliefs"]) (F1 : Kn P w K mg base 1 "_law_outcomes" ["thing", "state", "call"] (spOutcomesOf K)) :
    Kn P w K mg base 2 "_law_closed" ["thing", "beliefs"] (spLClosed P w K) := by
  refine D.kn scLClosed (fun vs H Q E h => ?_) (fun f cdv A outer s H vs Q E hr h => ?_)
  · obtain ⟨Z, v, a, xs, bs, rfl, _⟩ := h
    rfl
  · obtain ⟨Z, v, a, xs, bs, rfl, hv, hZ, hs, ha, hb, nd, q⟩ := h
    refine ⟨_, pss_cons (ps_par (i := 2) (j := 3) rfl scLClosed.nd rfl rfl (by decide) rfl rfl (pa_cons
        (pe_callTy (dict_n rfl hr.units) (by rfl) T.dict boot_dict (pa_cons (pe_lc (own := [("one", 11)]) (g := gName 11) (tt := tYes) rfl scLClosed.nd (pi_list (pv 1)) (blkOk_by (N := ["thing", "beliefs", "found", "line", "state", "hands", "k", "what", "result", "to", "more", "one"]) (sc := defScope sLClosed) (by decide +kernel))
          (fun _ _ _ _ _ => pg_name (i := 11) scLClosed.nd rfl (Or.inl rfl)) (fun _ _ _ _ _ => pts_nil) (fun _ _ _ _ _ => pe_tup (pa_cons (pv 11) (pa_cons pe_bl pa_nil)))) pa_nil))
        (pa_cons (pe_callTy call_list_of (by rfl) T.list boot_list (pa_cons (pv 1) pa_nil)) pa_nil)) rfl)
      (pss_cons (ps_while PassesOwn.never (pt_cmpR (op_neL hr.units) (pv 3) (pe_lst pa_nil) (nomark _))
        (pss_cons (ps_asg (pe_bm0 F.plainAttrs_list F.slot_list_pop F.type_list_pop mt_pop (pv 3)) (pg_tup rfl (pgs_cons (pg_name (i := 4) scLClosed.nd rfl (Or.inl rfl)) (pgs_cons (pg_name (i := 5) scLClosed.nd rfl (Or.inl rfl)) pgs_nil))))
        (pss_one (ps_for PassesOwn.never rfl (pi_enumT (by rfl) T.enumerate (pa_cons (pv 5) pa_nil)) (pg_tup rfl (pgs_cons (pg_name (i := 6) scLClosed.nd rfl (Or.inl rfl)) (pgs_cons (pg_name (i := 7) scLClosed.nd rfl (Or.inl rfl)) pgs_nil)))
          (pss_one (ps_if (PW.pt (pw_and (pt_cmp (pc_notN (pv 7))) (pw_and1 (pt_cmpR (op_eqN hr.units) (pe_ix ix_n (pv 7) pe_int (fun _ _ => rfl)) pe_str (nomark _)))))
            (pss_one (ps_for PassesOwn.never rfl (pi_tup (pe_kn F1 hr (pa_cons (pv 0) (pa_cons (pv 4) (pa_cons (pe_slice sl_n (pv 7) (po_some pe_int) po_none) pa_nil))))) (pg_tup rfl (pgs_cons (pg_name (i := 8) scLClosed.nd rfl (Or.inl rfl)) (pgs_cons (pg_name (i := 9) scLClosed.nd rfl (Or.inl rfl)) pgs_nil)))
              (pss_cons (ps_set (i := 10) scLClosed.nd rfl (Or.inl rfl) (pe_tupN (pa_cons (pv 9) (pa_cons (pe_op op_catN (pe_op op_catN (pe_slice sl_n (pv 5) po_none (po_some (pv 6))) (pe_tupN (pa_cons (pe_tupN (pa_cons pe_str (pa_cons (pv 8) pa_nil))) pa_nil))) (pe_slice sl_n (pv 5) (po_some (pe_op op_add (pv 6) pe_int)) po_none)) pa_nil))))
              (pss_one (ps_if (pt_cmpR (op_notInD hr.units) (pv 10) (pv 2) (by rfl))
                (pss_cons (ps_ndPut hr.units (pv 2) (pv 10) pe_bl) (pss_one (ps_expr (pe_bm F.plainAttrs_list F.slot_list_append F.type_list_append mt_append (pv 3) (pa_cons (pv 10) pa_nil))))) pss_nil))))) pss_nil))))))
      (pss_one (ps_ret (pv 2)))), ?_⟩
    have ka : PyData.strOk "asks" = true := by decide +kernel
    have kh : PyData.strOk "has" = true := by decide +kernel
    have lx : xs.length = bs.length := by rw [ha.length, List.length_map]
    have lbs : bs.length ≤ 56 := lot_len hZ nd hb
    refine ⟨.ref a, rfl, a, rfl, ⟨_, SqL.of hs⟩, fun P0 nP0 => ?_⟩
    refine lc_acc (K := K) (walk_list (xs := xs)) nP0 (by omega) (fun H1 s1 => SqL.of (s1 _ _ hs)) (fun i acc H1 => ∃ ps : PL, acc = ps.map (fun p => V.ref p.1) ∧ (∀ p ∈ ps, PrOk K H1 p) ∧ ps.map (·.2) = (bs.take i).map fun b => (eB b, V.bl true)) (fun i acc H1 H2 x ⟨ps, e1, e2, e3⟩ => ⟨ps, e1, fun p hp => (e2 p hp).ext x, e3⟩)
      ⟨[], rfl, fun p hp => (by cases hp), rfl⟩ (fun i z H1 H2 acc k k0 hi sm eD hr2 hz hk h0 => ?_) fun H1 acc sm eD hr2 => ?_
    · obtain ⟨rfl, hz⟩ := hz
      obtain ⟨ps, rfl, hok, hps⟩ := hr2
      obtain ⟨b, hbi, hzb⟩ := ats_bel (ha.same sm) hz
      refine ⟨rfl, lc_yes ?_⟩
      obtain ⟨az, zs, rfl, _, _⟩ := id hzb.tup_inv
      refine ⟨.ref az, rfl, by show 2 ≤ sizeLine; decide, fun t nt => ?_⟩
      have st := same_upd (o := .tup [.ref az, .bl true]) nt
      refine hk _ _ st ⟨ps ++ [(t, eB b, .bl true)], by simp, fun p hp => ?_, ?_⟩
      · rcases List.mem_append.mp hp with hp | hp
        · exact (hok p hp).ext (.of_same st)
        · rw [List.mem_singleton.mp hp]
          exact ⟨az, SqT.of upd_same, hzb.same st, (b_deep b).1⟩
      · have tk : bs.take (i + 1) = bs.take i ++ [b] := by
          rw [List.take_add_one, hbi]
          rfl
        rw [tk, List.map_append, List.map_append, hps]
        rfl
    · obtain ⟨ps, rfl, hok, hps⟩ := hr2
      rw [lx, List.take_length] at hps
      have lps : ps.length = bs.length := by
        have := congrArg List.length hps
        simpa using this
      refine ⟨P0, ps, rfl, eD, hok, by omega, fun D0 ob nD0 hD0 => ?_⟩
      have nD : H D0 = none := sm.free nD0
      rw [hps] at hD0
      have smD : Same H (upd H1 D0 ob) := sm.trans (same_upd nD0)
      generalize upd H1 D0 ob = H2 at *
      obtain ⟨kn, km, _⟩ := putAll_keys (bs.map fun b => (eB b, V.bl true)) [] (by simp)
      obtain ⟨ls0, ek0, nd0, mem0⟩ := bels_keys (bs := bs) kn fun k => (km k).trans (by simp)
      have len0 : ls0.length = bs.length := (List.perm_ext_iff_of_nodup nd0 nd |>.mpr mem0).length_eq
      generalize putAll [] (bs.map fun b => (eB b, V.bl true)) = kvs0 at *
      refine ⟨.ref a, rfl, a, xs, rfl, .inl (SqL.of (smD _ _ hs)), fun L nL2 => ?_⟩
      have sL : Same H2 (upd H2 L (.lst xs)) := same_upd nL2
      have nL0 : H L = none := smD.free nL2
      have smL := smD.trans sL
      have hLL : upd H2 L (.lst xs) L = some (.lst xs) := upd_same
      have hDL := hD0.same sL
      refine ⟨.ref D0, .ref L, rfl, ?_⟩
      generalize upd H2 L (.lst xs) = H3 at *
      -- the while
      refine ⟨fun m σ H' => ∃ p4 p5 p6 p7 p8 p9 p10, σ = [some v, some (.ref a), some (.ref D0), some (.ref L), p4, p5, p6, p7, p8, p9, p10, none] ∧ Same H H' ∧ ∃ kvs ls ys lb, DK P w K H' D0 kvs ∧ kvs.map (·.1) = ls.map eB ∧ H' L = some (.lst ys) ∧ Ats K H' ys (lb.map eB) ∧ CInv Z bs ls lb (fun _ => False) ∧ m = 2 * ((cl Z bs).length - ls.length) + lb.length, ⟨2 * ((cl Z bs).length - ls0.length) + bs.length, ?_⟩, ?_⟩
      · exact ⟨none, none, none, none, none, none, none, rfl, smL, kvs0, ls0, xs, bs, hDL, ek0, hLL, ha.same smL, ⟨nd0, fun b hb' => List.mem_append_left _ ((mem0 b).mp hb'), fun b hb' => (mem0 b).mpr hb', fun b hb' => (mem0 b).mpr hb', by omega, fun b hb' => .inl ((mem0 b).mp hb')⟩, rfl⟩
      · rintro m _ H4 ⟨p4, p5, p6, p7, p8, p9, p10, rfl, sm4, kvs, ls, ys, lb, hD4, e4, hL4, hy4, ci, rfl⟩
        have okU := cl_bt hZ hb
        refine ⟨.ref L, rfl, ?_⟩
        refine ⟨by decide, fun p np => ?_⟩
        have sp : Same H4 (upd H4 p (.lst [])) := same_upd np
        refine ⟨L, p, ys, lb.map eB, rfl, rfl, SqL.of (sp _ _ hL4), hy4.same sp, SqL.of upd_same, _, rfl, ?_⟩
        have sm5 := sm4.trans sp
        have hD5 := hD4.same sp
        have hL5 := sp _ _ hL4
        have hy5 := hy4.same sp
        generalize upd H4 p (.lst []) = H5 at *
        clear hD4 hL4 hy4 sm4 sp np
        have neD : D0 ≠ L := nd_not_lst hD5 hL5
        rcases List.eq_nil_or_concat lb with rfl | ⟨lc, b, rfl⟩
        · refine iteF ?_
          exact ⟨.ref D0, rfl, q D0 kvs ls H5 nD sm5 hD5 e4 ci.nd fun b => ci.fin b⟩
        · rw [List.concat_eq_append] at *
          rw [decide_eq_false (show ¬ ((lc ++ [b]).map eB = []) by simp)]
          refine iteT ⟨fun σ H' => ∃ m', m' < 2 * ((cl Z bs).length - ls.length) + (lc ++ [b]).length ∧ ∃ p4 p5 p6 p7 p8 p9 p10, σ = [some v, some (.ref a), some (.ref D0), some (.ref L), p4, p5, p6, p7, p8, p9, p10, none] ∧ Same H H' ∧ ∃ kvs ls ys lb, DK P w K H' D0 kvs ∧ kvs.map (·.1) = ls.map eB ∧ H' L = some (.lst ys) ∧ Ats K H' ys (lb.map eB) ∧ CInv Z bs ls lb (fun _ => False) ∧ m' = 2 * ((cl Z bs).length - ls.length) + lb.length, fun σ' H' z => z, ?_⟩
          have hyl : ys.length = lc.length + 1 := by
            have := hy5.length
            simpa using this
          obtain ⟨y, hyy, hyb⟩ := hy5.get (i := lc.length) (k := eB b) (by simp)
          refine ⟨.ref L, rfl, .inl ⟨rfl, ys, SqL.of hL5⟩, L, ys, y, rfl, rfl, hL5, by rw [show ys.length - 1 = lc.length by omega]; exact hyy, ?_⟩
          have hD6 : DK P w K (upd H5 L (.lst ys.dropLast)) D0 kvs := hD5.other hL5 trivial neD
          have exL : Ext K H5 (upd H5 L (.lst ys.dropLast)) := Ext.mut hL5 trivial
          have sm6 : Same H (upd H5 L (.lst ys.dropLast)) := fun b o z => by
            rw [upd_ne (ne_of_none z nL0)]
            exact sm5 _ _ z
          have hy6 : Ats K (upd H5 L (.lst ys.dropLast)) ys.dropLast (lc.map eB) := by
            have := (hy5.take lc.length).ext exL
            rw [List.map_append, List.take_left' (by simp)] at this
            have e0 : ys.take lc.length = ys.dropLast := by rw [List.dropLast_eq_take, show ys.length - 1 = lc.length by omega]
            rw [e0] at this
            exact this
          have hL6 : upd H5 L (.lst ys.dropLast) L = some (.lst ys.dropLast) := upd_same
          have hyb6 := hyb.ext exL
          generalize ys.dropLast = ys6 at *
          generalize upd H5 L (.lst ys6) = H6 at *
          have hbT := okU b (ci.sub b (ci.open_ b (by simp)))
          have bcl := ci.sub b (ci.open_ b (by simp))
          have ci := ci.pop
          obtain ⟨sn, xw⟩ := b
          obtain ⟨ay, y1, y2, rfl, hsy, g1, g2⟩ := two_inv hyb6
          obtain rfl := g1.num_inv
          refine ⟨ay, _, rfl, hsy, rfl, _, _, rfl, y2, _, rfl, rfl, ?_⟩
          obtain ⟨ah, hs2, rfl, hsh, hah⟩ := id g2.tup_inv
          have hl1 : hs2.length = 1 := hah.length
          refine ⟨.ref ah, rfl, ah, hs2, rfl, hsh, ?_⟩
          refine for_it (walk_enumT (xs := hs2)) (fun i σ H' => ∃ p6 p7 p8 p9 p10, σ = [some v, some (.ref a), some (.ref D0), some (.ref L), some (.int sn), some (.ref ah), p6, p7, p8, p9, p10, none] ∧ Same H H' ∧ Ext K H6 H' ∧ ∃ kvs ls' ys lb, DK P w K H' D0 kvs ∧ kvs.map (·.1) = ls'.map eB ∧ H' L = some (.lst ys) ∧ Ats K H' ys (lb.map eB) ∧
            CInv Z bs ls' lb (· = (sn, xw)) ∧ (∀ d ∈ (if i = 0 then [] else tak Z (sn, xw)), d ∈ ls') ∧ 2 * ((cl Z bs).length - ls'.length) + lb.length ≤ 2 * ((cl Z bs).length - ls.length) + lc.length) ?_ ?_ ?_ ?_
          · exact ⟨p6, p7, p8, p9, p10, rfl, sm6, Ext.refl _, kvs, ls, ys6, lc, hD6, e4, hL6, hy6, ci, fun d hd => by simp at hd, Nat.le_refl _⟩
          · rintro i σ H7 _ ⟨_, _, _, _, _, _, _, ex7, _⟩
            exact ex7 _ _ hsh
          · rintro i z σ H7 _ hi ⟨p6, p7, p8, p9, p10, rfl, sm7, ex7, kv7, ls7, ys7, lb7, hD7, e7, hL7, hy7, ci7, in7, m7⟩ ⟨Tp, z1, z2, rfl, nT, rfl, e1, e2⟩
            have i0 : i = 0 := by omega
            subst i0
            obtain rfl : V.int 0 = z1 := Option.some.inj e1
            obtain ⟨k1, ek, hk⟩ := (hah.ext ex7).back e2
            obtain rfl : eW xw = k1 := Option.some.inj ek
            have sT : Same H7 (upd H7 Tp (.tup [.int (0 : Nat), z2])) := same_upd nT
            have hk := hk.same sT
            have hT : SqT K (upd H7 Tp (.tup [.int (0 : Nat), z2])) Tp [.int 0, z2] := SqT.of upd_same
            have sm8 := sm7.trans sT
            have ex8 := ex7.trans (.of_same sT)
            have hD8 := hD7.same sT
            have hL8 := sT _ _ hL7
            have hy8 := hy7.same sT
            generalize upd H7 Tp (.tup [.int (0 : Nat), z2]) = H8 at *
            refine ⟨Tp, [.int 0, z2], rfl, hT, rfl, _, _, rfl, _, _, rfl, rfl, ?_⟩
            cases xw with
            | idle =>
              obtain rfl := hk.none_inv
              refine ⟨.non, rfl, false, rfl, iteF (iteF ?_)⟩
              exact ⟨_, _, _, _, _, rfl, sm8, ex8, kv7, ls7, ys7, lb7, hD8, e7, hL8, hy8, ci7, fun e he => by simp [tak] at he, m7⟩
            | has r =>
              obtain ⟨a2, zs, rfl, _, _⟩ := id hk.tup_inv
              refine ⟨.ref a2, rfl, true, rfl, iteT ?_⟩
              have nh : decide ((NestedKey.text "has") = .text "asks") = false := by decide +kernel
              refine ⟨.ref a2, rfl, _, 0, _, hk, rfl, rfl, fun y9 hy9 => ⟨.text "has", .text "asks", hy9, .str _ ka, by decide, _, rfl, ?_⟩⟩
              rw [nh]
              exact iteF ⟨_, _, _, _, _, rfl, sm8, ex8, kv7, ls7, ys7, lb7, hD8, e7, hL8, hy8, ci7, fun e he => by simp [tak] at he, m7⟩
            | asks c =>
              obtain ⟨a2, zs, rfl, _, _⟩ := id hk.tup_inv
              refine ⟨.ref a2, rfl, true, rfl, iteT ?_⟩
              refine ⟨.ref a2, rfl, _, 0, _, hk, rfl, rfl, fun y9 hy9 => ⟨.text "asks", .text "asks", hy9, .str _ ka, by decide, _, rfl, iteT ?_⟩⟩
              refine ⟨v, rfl, .int sn, rfl, .ref a2, rfl, 1, rfl, _, some 1, none, hk, rfl, rfl, fun y3 H9 s9 hy3 => ?_⟩
              refine ⟨Z, v, y3, sn, c, rfl, (hv.same sm8).same s9, hZ, hbT.1, hy3, hbT.2.2 c rfl, fun zo HA sA hzo => ?_⟩
              obtain ⟨ao, os, rfl, hos, hat⟩ := hzo.tup_inv
              have s9A := s9.trans sA
              have smA := sm8.trans s9A
              have exA := ex8.trans (.of_same s9A)
              have hl2 : os.length = (Z.out sn c).length := by rw [hat.length, List.length_map]
              have hl3 : (Z.out sn c).length ≤ 12 := Th.out_len hZ hbT.1 (hbT.2.2 c rfl)
              have ett : tak Z (sn, .asks c) = (Z.out sn c).map fun o => ((o.2, .has o.1) : Bel) := rfl
              refine ⟨ao, rfl, ⟨_, hos⟩, ?_⟩
              refine for_it (walk_tup (xs := os)) (fun j σ H' => ∃ p8 p9 p10, σ = [some v, some (.ref a), some (.ref D0), some (.ref L), some (.int sn), some (.ref ah), some (.int 0), some (.ref a2), p8, p9, p10, none] ∧ Same H H' ∧ Ext K HA H' ∧ ∃ kvs ls' ys lb, DK P w K H' D0 kvs ∧ kvs.map (·.1) = ls'.map eB ∧ H' L = some (.lst ys) ∧ Ats K H' ys (lb.map eB) ∧
                CInv Z bs ls' lb (· = (sn, .asks c)) ∧ (∀ d ∈ (tak Z (sn, .asks c)).take j, d ∈ ls') ∧ 2 * ((cl Z bs).length - ls'.length) + lb.length ≤ 2 * ((cl Z bs).length - ls.length) + lc.length) ?_ ?_ ?_ ?_
              · exact ⟨_, _, _, rfl, smA, Ext.refl _, kv7, ls7, ys7, lb7, hD8.same s9A, e7, s9A _ _ hL8, hy8.same s9A, ci7, fun e he => by simp at he, m7⟩
              · rintro j σ HB _ ⟨_, _, _, _, _, exB, _⟩
                exact exB _ _ hos
              · rintro j z σ _ HB hj ⟨p8, p9, p10, rfl, smB, exB, kvB, lsB, ysB, lbB, hDB, eB', hLB, hyB, ciB, inB, mB⟩ ⟨rfl, ez⟩
                obtain ⟨⟨r, t⟩, ho, hz⟩ := ats_map (hat.ext exB) ez
                obtain ⟨a3, z3, z4, rfl, hs3, g1, g2⟩ := two_inv hz
                obtain rfl := g1.num_inv
                obtain rfl := g2.num_inv
                have hhB : At K HB (.ref ah) (.tup [eW (.asks c)]) := (.tup ((exA.trans exB) _ _ hsh) (hah.ext (exA.trans exB)))
                refine ⟨a3, _, rfl, hs3, rfl, _, _, rfl, _, _, rfl, rfl, ?_⟩
                refine ⟨.int t, rfl, ?_⟩
                refine ⟨.ref ah, rfl, .int 0, rfl, 0, rfl, [eW (.asks c)], none, some 0, hhB, rfl, rfl, fun w1 HC sC hw1 => ?_⟩
                refine ⟨.int r, rfl, [.text "has", .num r], .two (.str _ kh) (.int r), by simp, fun w2 HD sD hw2 => ⟨[.tup [.text "has", .num r]], .one hw2, by simp, fun w3 HE sE hw3 => ?_⟩⟩
                refine ⟨_, _, (hw1.same sD).same sE, hw3, by simp [cutK], fun w4 HF sF hw4 => ?_⟩
                have sCF := ((sC.trans sD).trans sE).trans sF
                refine ⟨.ref ah, rfl, .int 0, rfl, 0, 1, rfl, rfl, _, rfl, [eW (.asks c)], some 1, none, hhB.same sCF, rfl, rfl, fun w5 HG sG hw5 => ?_⟩
                refine ⟨_, _, hw4.same sG, hw5, by simp [cutK], fun w6 HI sI hw6 => ?_⟩
                refine ⟨[.num t, .tup [eW (.has r)]], .two (.int t) hw6, by simp, fun w7 HJ sJ hw7 => ?_⟩
                have sAll := ((sCF.trans sG).trans sI).trans sJ
                have hw7 : At K HJ w7 (eB (t, .has r)) := hw7
                have smJ := smB.trans sAll
                have exJ := exB.trans (.of_same sAll)
                have hDJ := hDB.same sAll
                have hLJ := sAll _ _ hLB
                have hyJ := hyB.same sAll
                have dcl : ((t, .has r) : Bel) ∈ cl Z bs := cl_step bcl (by rw [ett]; exact List.mem_map.mpr ⟨(r, t), List.mem_of_getElem? ho, rfl⟩)
                have tk : (tak Z (sn, .asks c)).take (j + 1) = (tak Z (sn, .asks c)).take j ++ [((t, .has r) : Bel)] := by
                  rw [List.take_add_one, ett, List.getElem?_map, ho]
                  rfl
                have e8 : decide (eB (t, .has r) ∈ kvB.map (·.1)) = decide (((t, .has r) : Bel) ∈ lsB) := by
                  rw [eB']
                  by_cases cc : ((t, .has r) : Bel) ∈ lsB
                  · rw [decide_eq_true cc, decide_eq_true (mem_eB.mpr cc)]
                  · rw [decide_eq_false cc, decide_eq_false fun q => cc (mem_eB.mp q)]
                have lkB : kvB.length = lsB.length := by
                  have := congrArg List.length eB'
                  simpa using this
                have llB := ciB.len
                have lcl := cl_len hZ hb
                refine ⟨w7, rfl, .ref D0, rfl, eB (t, .has r), D0, kvB, hw7, rfl, hDJ, (b_deep _).1, ⟨_, rfl⟩, _, rfl, ?_⟩
                rw [e8]
                by_cases cc : ((t, .has r) : Bel) ∈ lsB
                · rw [decide_eq_true cc]
                  refine iteF ⟨_, _, _, rfl, smJ, exJ, kvB, lsB, ysB, lbB, hDJ, eB', hLJ, hyJ, ciB, fun e he => ?_, mB⟩
                  rw [tk] at he
                  rcases List.mem_append.mp he with q | q
                  · exact inB e q
                  · rw [List.mem_singleton.mp q]
                    exact cc
                · rw [decide_eq_false cc]
                  refine iteT ?_
                  refine ⟨.ref D0, rfl, w7, rfl, D0, kvB, eB (t, .has r), rfl, hDJ, by omega, hw7, (b_deep _).1, ⟨_, rfl⟩, fun ob hob => ?_⟩
                  obtain ⟨u, hu, mu⟩ := hDJ.mut
                  have exK : Ext K HJ (upd HJ D0 ob) := Ext.mut hu mu
                  have hLK : upd HJ D0 ob L = some (.lst ysB) := by
                    rw [upd_ne (Ne.symm neD)]
                    exact hLJ
                  have h1 := hyB.length
                  have h3 := ciB.le
                  rw [List.length_map] at h1
                  refine ⟨.ref L, rfl, .inl ⟨rfl, ysB, SqL.of hLK⟩, w7, rfl, L, ysB, w7, rfl, rfl, hLK, by rw [sizeLine_eq]; omega, ?_⟩
                  have exM : Ext K (upd HJ D0 ob) (upd (upd HJ D0 ob) L (.lst (ysB ++ [w7]))) := Ext.mut hLK trivial
                  have ciC := ciB.add dcl cc
                  refine ⟨_, _, _, rfl, fun b o q => ?_, (exJ.trans exK).trans exM, putK kvB (eB (t, .has r)) (.bl true), lsB ++ [(t, .has r)], ysB ++ [w7], lbB ++ [(t, .has r)], hob.other hLK trivial neD, ?_, upd_same, ?_, ciC, fun e he => ?_, ?_⟩
                  · rw [upd_ne (ne_of_none q nL0), upd_ne (ne_of_none q nD)]
                    exact smJ _ _ q
                  · rw [keys_put_map, eB', if_neg fun q => cc (mem_eB.mp q)]
                    simp
                  · rw [List.map_append]
                    exact (hyJ.append (.one hw7)).ext (exK.trans exM)
                  · rw [tk] at he
                    rcases List.mem_append.mp he with q | q
                    · exact List.mem_append_left _ (inB e q)
                    · exact List.mem_append_right _ q
                  · have := ciC.len
                    simp only [List.length_append, List.length_singleton] at this ⊢
                    omega
              · rintro σ HB ⟨p8, p9, p10, rfl, smB, exB, kvB, lsB, ysB, lbB, hDB, eB', hLB, hyB, ciB, inB, mB⟩
                have e9 : (tak Z (sn, .asks c)).take os.length = tak Z (sn, .asks c) := by
                  rw [hl2, ett, ← List.length_map (f := fun o : Nat × Nat => ((o.2, .has o.1) : Bel)), List.take_length]
                rw [e9] at inB
                exact ⟨_, _, _, _, _, rfl, smB, exA.trans exB, kvB, lsB, ysB, lbB, hDB, eB', hLB, hyB, ciB, fun e he => inB e (by simpa using he), mB⟩
          · rintro σ H7 ⟨p6, p7, p8, p9, p10, rfl, sm7, ex7, kv7, ls7, ys7, lb7, hD7, e7, hL7, hy7, ci7, in7, m7⟩
            rw [hl1] at in7
            exact ⟨_, by simp only [List.length_append, List.length_singleton]; omega, _, _, _, _, _, _, _, rfl, sm7, kv7, ls7, ys7, lb7, hD7, e7, hL7, hy7, ci7.shut fun e he => in7 e (by simpa using he), rfl⟩
end
end M

/-! the law's own step behind an event -/
namespace M
open PySem PySem.Spec PyProof.Rows L2
section
variable {P : Program} {w : World} {K : PySem.W.Frag} {mg : Str → Option Value} {base : Heap}
theorem scLBehind : FnScope ["thing", "beliefs", "event", "k", "state", "hands"] ["thing", "beliefs", "event"] (defScope sLBehind) := ⟨rfl, rfl, rfl, by decide +kernel, rfl, by decide +kernel, by decide +kernel⟩
def spLBehind (P : Program) (w : World) (K : PySem.W.Frag) : Sp := fun vs H Q _ => ∃ (T : Th) (v e : V) (a : Addr) (xs : List V) (bs : List Bel) (ev : Ev), vs = [v, .ref a, e] ∧ Tg K H v T ∧ TOk T ∧ H a = some (.lst xs) ∧ Ats K H xs (bs.map eB) ∧ (∀ b ∈ bs, BT T b) ∧ bs.Nodup ∧
  At K H e (eE ev) ∧ EvT T ev ∧ (∀ c, ev = .call c → ∀ b ∈ bs, b.2 = .idle) ∧
  ∀ d kvs (ls : List Bel) H', H d = none → Same H H' → DK P w K H' d kvs → kvs.map (·.1) = ls.map eB → ls.Nodup → (∀ b, b ∈ ls ↔ b ∈ behind T bs ev) → Q (.ref d) H'
theorem asking_all {c : Call} {bs : List Bel} (h : ∀ b ∈ bs, b.2 = .idle) : asking c bs = bs.map fun b => ((b.1, .asks c) : Bel) := by
  unfold asking
  rw [List.filter_eq_self.mpr fun b hb => decide_eq_true (h b hb)]
theorem k_law_behind (T : Tx K mg) (D : Df K mg "_law_behind" sLBehind ["thing", "beliefs", "event"]) (F1 : Kn P w K mg base 2 "_law_closed" ["thing", "beliefs"] (spLClosed P w K)) :
    Kn P w K mg base 3 "_law_behind" ["thing", "beliefs", "event"] (spLBehind P w K) := by
  refine D.kn scLBehind (fun vs H Q E h => ?_) (fun f cdv A outer s H vs Q E hr h => ?_)
  · obtain ⟨Z, v, e, a, xs, bs, ev, rfl, _⟩ := h
    rfl
  · obtain ⟨Z, v, e, a, xs, bs, ev, rfl, hv, hZ, hs, ha, hb, nd, he, hev, hid, q⟩ := h
    have kc : PyData.strOk "call" = true := by decide +kernel
    have ka : PyData.strOk "asks" = true := by decide +kernel
    have kh : PyData.strOk "has" = true := by decide +kernel
    refine ⟨_, pss_cons (ps_set (i := 3) scLBehind.nd rfl (Or.inr rfl) (pe_ix ix_n (pv 2) pe_int (fun _ _ => rfl)))
      (pss_cons (ps_if (pt_cmpR (op_eqN hr.units) (pe_ix ix_n (pv 2) pe_int (fun _ _ => rfl)) pe_str (nomark _))
        (pss_one (ps_ret (pe_kn F1 hr (pa_cons (pv 0) (pa_cons
          (pe_lc (own := [("state", 4), ("hands", 5)]) (tt := tYes) rfl scLBehind.nd (pi_list (pv 1)) (blkOk_by (N := ["thing", "beliefs", "event", "k", "state", "hands"]) (sc := defScope sLBehind) (by decide +kernel))
            (fun _ _ _ _ _ => pg_tupK (K := K) (n := 2) rfl rfl (pgs_cons (pg_name (i := 4) scLBehind.nd rfl (Or.inl rfl)) (pgs_cons (pg_name (i := 5) scLBehind.nd rfl (Or.inl rfl)) pgs_nil)))
            (fun _ _ _ _ _ => pts_nil)
            (fun _ _ _ _ _ => pe_tupK (K := K) rfl (pa_cons (pv 4) (pa_cons (pe_op (op_catNK (K := K) rfl) (pe_op (op_catNK (K := K) rfl) (pe_slice (sl_nK (K := K) rfl) (pv 5) po_none (po_some (pv 3))) (pe_tupK (K := K) rfl (pa_cons (pe_op (op_catNK (K := K) rfl) (pe_tupK (K := K) rfl (pa_cons pe_str pa_nil)) (pe_slice (sl_nK (K := K) rfl) (pv 2) (po_some pe_int) po_none)) pa_nil))) (pe_slice (sl_nK (K := K) rfl) (pv 5) (po_some (pe_op op_add (pv 3) pe_int)) po_none)) pa_nil)))) pa_nil)))))
        pss_nil)
      (pss_one (ps_ret (pe_callTy (dict_n rfl hr.units) (by rfl) T.dict boot_dict (pa_cons
          (pe_lc (own := [("state", 4), ("hands", 5)]) rfl scLBehind.nd (pi_list (pv 1)) (blkOk_by (N := ["thing", "beliefs", "event", "k", "state", "hands"]) (sc := defScope sLBehind) (by decide +kernel))
            (fun _ _ _ _ _ => pg_tupK (K := K) (n := 2) rfl rfl (pgs_cons (pg_name (i := 4) scLBehind.nd rfl (Or.inl rfl)) (pgs_cons (pg_name (i := 5) scLBehind.nd rfl (Or.inl rfl)) pgs_nil)))
            (fun _ _ _ _ _ => pts_one (pt_cmpR (op_eqNK (K := K) rfl hr.units) (pe_ix (ix_nK (K := K) rfl) (pv 5) (pv 3) (fun _ _ => rfl)) (pe_tupK (K := K) rfl (pa_cons pe_str (pa_cons (pe_ix (ix_nK (K := K) rfl) (pv 2) pe_int (fun _ _ => rfl)) pa_nil))) (nomark _)))
            (fun _ _ _ _ _ => pe_tup (pa_cons (pe_tupK (K := K) rfl (pa_cons (pv 4) (pa_cons (pe_op (op_catNK (K := K) rfl) (pe_op (op_catNK (K := K) rfl) (pe_slice (sl_nK (K := K) rfl) (pv 5) po_none (po_some (pv 3))) (pe_tupK (K := K) rfl (pa_cons pe_non pa_nil))) (pe_slice (sl_nK (K := K) rfl) (pv 5) (po_some (pe_op op_add (pv 3) pe_int)) po_none)) pa_nil))) (pa_cons pe_bl pa_nil)))) pa_nil))))), ?_⟩
    have lx : xs.length = bs.length := by rw [ha.length, List.length_map]
    have lbs : bs.length ≤ 56 := lot_len hZ nd hb
    cases ev with
    | call c =>
      have hc : c ∈ Z.calls := hev
      have cok := hZ.cok c hc
      have idl := hid c rfl
      refine ⟨e, rfl, _, 1, .num 0, he, rfl, rfl, fun y hy => ?_⟩
      obtain rfl := hy.num_inv
      refine ⟨e, rfl, _, 0, .text "call", he, rfl, rfl, fun y hy => ⟨.text "call", .text "call", hy, .str _ kc, by decide, _, rfl, iteT ?_⟩⟩
      refine ⟨v, rfl, .ref a, rfl, a, rfl, ⟨_, SqL.of hs⟩, fun D0 nD => ?_⟩
      refine lc_acc (K := K) (walk_list (xs := xs)) nD (by omega) (fun H1 s1 => SqL.of (s1 _ _ hs)) (fun i acc H1 => Ats K H1 acc ((bs.take i).map fun b : Bel => eB (b.1, .asks c))) (fun i acc H1 H2 e h => h.ext e) .nil (fun i z H1 H2 acc k k0 hi sm eD hr2 hz hk h0 => ?_) fun H1 acc sm eD hr2 => ?_
      · obtain ⟨rfl, hz⟩ := hz
        obtain ⟨⟨sn, x⟩, hb1, hzb⟩ := ats_bel (ha.same sm) hz
        obtain ⟨a3, z3, z4, rfl, hs3, g1, g2⟩ := two_inv hzb
        obtain rfl := g1.num_inv
        refine ⟨a3, _, rfl, hs3, rfl, _, _, rfl, _, _, rfl, rfl, ⟨rfl, lc_yes ?_⟩⟩
        refine ⟨.int sn, rfl, ?_⟩
        refine ⟨z4, rfl, .int 0, rfl, 0, rfl, [eW x], none, some 0, g2, rfl, rfl, fun w1 HC sC hw1 => ?_⟩
        refine ⟨[.text "asks"], .one (.str _ ka), by simp, fun w2 HD sD hw2 => ?_⟩
        refine ⟨e, rfl, 2, rfl, [.text "call", .num 0, .text c.1, .num c.2], some 2, none, ((he.same sm).same sC).same sD, rfl, rfl, fun w3 HE sE hw3 => ?_⟩
        refine ⟨_, _, hw2.same sE, hw3, by simp [cutK], fun w4 HF sF hw4 => ?_⟩
        refine ⟨[.tup ([.text "asks"] ++ cutK [.text "call", .num 0, .text c.1, .num c.2] (some 2) none)], .one hw4, by simp, fun w5 HG sG hw5 => ?_⟩
        have sCG := (((sC.trans sD).trans sE).trans sF).trans sG
        refine ⟨_, _, hw1.same (((sD.trans sE).trans sF).trans sG), hw5, by simp [cutK], fun w6 HI sI hw6 => ?_⟩
        refine ⟨z4, rfl, .int 0, rfl, 0, 1, rfl, rfl, _, rfl, [eW x], some 1, none, (g2.same sCG).same sI, rfl, rfl, fun w7 HJ sJ hw7 => ?_⟩
        refine ⟨_, _, hw6.same sJ, hw7, by simp [cutK], fun w8 HK sK hw8 => ?_⟩
        refine ⟨[.num sn, .tup [eW (.asks c)]], .two (.int sn) hw8, by simp, fun w9 HL sL hw9 => ?_⟩
        have hw9 : At K HL w9 (eB (sn, .asks c)) := hw9
        have sAll := ((((sCG.trans sI).trans sJ).trans sK).trans sL)
        have tk : bs.take (i + 1) = bs.take i ++ [(sn, x)] := by
          rw [List.take_add_one, hb1]
          rfl
        refine hk w9 HL sAll ?_
        rw [tk, List.map_append]
        exact (hr2.same sAll).append (.one hw9)
      · rw [lx, List.take_length] at hr2
        have ea := asking_all (c := c) idl
        have hr2 : Ats K H1 acc ((asking c bs).map eB) := by
          rw [ea, List.map_map]
          exact hr2
        have nda : (asking c bs).Nodup := by
          rw [ea]
          refine List.Pairwise.map _ (fun a b h => h) ?_
          refine List.Pairwise.imp_of_mem (fun {p r} hp hr' ne e => ?_) nd
          obtain ⟨s1, x1⟩ := p
          obtain ⟨s2, x2⟩ := r
          have h1 : x1 = .idle := idl _ hp
          have h2 : x2 = .idle := idl _ hr'
          have h3 : s1 = s2 := (Prod.mk.inj e).1
          exact ne (by rw [h1, h2, h3])
        refine ⟨Z, v, D0, acc, asking c bs, rfl, hv.same sm, hZ, eD, hr2, asking_bt hZ hc hb, nda, fun d kvs ls H2 nd2 s2 hD e1 n1 m1 => q d kvs ls H2 (sm.free nd2) (sm.trans s2) hD e1 n1 m1⟩
    | back r =>
      have nb : decide ((NestedKey.text "back") = .text "call") = false := by decide +kernel
      refine ⟨e, rfl, _, 1, .num 0, he, rfl, rfl, fun y hy => ?_⟩
      obtain rfl := hy.num_inv
      refine ⟨e, rfl, _, 0, .text "back", he, rfl, rfl, fun y hy => ⟨.text "back", .text "call", hy, .str _ kc, by decide, _, rfl, ?_⟩⟩
      rw [nb]
      refine iteF ?_
      refine ⟨.ref a, rfl, a, rfl, ⟨_, SqL.of hs⟩, fun D0 nD => ?_⟩
      refine lc_acc (K := K) (walk_list (xs := xs)) nD (by omega) (fun H1 s1 => SqL.of (s1 _ _ hs)) (fun i acc H1 => ∃ ps : PL, acc = ps.map (fun p => V.ref p.1) ∧ (∀ p ∈ ps, PrOk K H1 p) ∧ ps.map (·.2) = (backing r (bs.take i)).map fun b => (eB b, V.bl true)) (fun i acc H1 H2 x ⟨ps, e1, e2, e3⟩ => ⟨ps, e1, fun p hp => (e2 p hp).ext x, e3⟩)
        ⟨[], rfl, fun p hp => (by cases hp), rfl⟩ (fun i z H1 H2 acc k k0 hi sm eD hr2 hz hk h0 => ?_) fun H1 acc sm eD hr2 => ?_
      · obtain ⟨rfl, hz⟩ := hz
        obtain ⟨ps, rfl, hok, hps⟩ := hr2
        obtain ⟨⟨sn, x⟩, hb1, hzb⟩ := ats_bel (ha.same sm) hz
        have ft := filter_take (fun b : Bel => decide (b.2 = .has r)) (fun b => ((b.1, .idle) : Bel)) bs i _ hb1
        obtain ⟨a3, z3, z4, rfl, hs3, g1, g2⟩ := two_inv hzb
        obtain rfl := g1.num_inv
        refine ⟨a3, _, rfl, hs3, rfl, _, _, rfl, _, _, rfl, rfl, ⟨rfl, ?_⟩⟩
        refine ⟨z4, rfl, .int 0, rfl, _, 0, eW x, g2, rfl, rfl, fun y2 hy2 => ?_⟩
        refine ⟨e, rfl, _, 2, .num r, he.same sm, rfl, rfl, fun y3 hy3 => ?_⟩
        refine ⟨[.text "has", .num r], .two (.str _ kh) hy3, by simp, fun p H3 s3 hp => ?_⟩
        refine ⟨eW x, eW (.has r), hy2.same s3, hp, by cases x <;> simp [eW, NestedKey.depth, NestedKey.depthAll], _, rfl, ?_⟩
        have e1 : decide (eW x = eW (.has r)) = decide (x = .has r) := by
          by_cases c : x = .has r
          · rw [decide_eq_true c, c, decide_eq_true rfl]
          · rw [decide_eq_false c, decide_eq_false fun z => c (eW_inj z)]
        rw [e1]
        by_cases cx : x = .has r
        · rw [decide_eq_true cx]
          refine iteT ?_
          refine ⟨.int sn, rfl, z4, rfl, .int 0, rfl, 0, rfl, [eW x], none, some 0, g2.same s3, rfl, rfl, fun w1 HC sC hw1 => ?_⟩
          refine ⟨[.none], .one .non, by simp, fun w2 HD sD hw2 => ?_⟩
          refine ⟨_, _, hw1.same sD, hw2, by simp [cutK], fun w3 HE sE hw3 => ?_⟩
          have s3E := ((s3.trans sC).trans sD).trans sE
          refine ⟨z4, rfl, .int 0, rfl, 0, 1, rfl, rfl, _, rfl, [eW x], some 1, none, g2.same s3E, rfl, rfl, fun w4 HF sF hw4 => ?_⟩
          refine ⟨_, _, hw3.same sF, hw4, by simp [cutK], fun w5 HG sG hw5 => ?_⟩
          refine ⟨[.num sn, .tup [eW .idle]], .two (.int sn) hw5, by simp, fun w6 HI sI hw6 => ?_⟩
          have hw6 : At K HI w6 (eB (sn, .idle)) := hw6
          have s3I := ((s3E.trans sF).trans sG).trans sI
          obtain ⟨az, zs, rfl, _, _⟩ := id hw6.tup_inv
          refine ⟨by show 2 ≤ sizeLine; decide, fun t nt => ?_⟩
          have st := same_upd (o := .tup [.ref az, .bl true]) nt
          refine hk _ _ (s3I.trans st) ⟨ps ++ [(t, eB (sn, .idle), .bl true)], by simp, fun p hp => ?_, ?_⟩
          · rcases List.mem_append.mp hp with hp | hp
            · exact (hok p hp).ext (.of_same (s3I.trans st))
            · rw [List.mem_singleton.mp hp]
              exact ⟨az, SqT.of upd_same, hw6.same st, (b_deep _).1⟩
          · unfold backing
            rw [ft, if_pos (decide_eq_true cx), List.map_append, List.map_append, hps]
            rfl
        · rw [decide_eq_false cx]
          refine iteF (h0 _ s3 ⟨ps, rfl, fun p hp => (hok p hp).ext (.of_same s3), ?_⟩)
          unfold backing
          rw [ft, if_neg (by simpa using cx)]
          exact hps
      · obtain ⟨ps, rfl, hok, hps⟩ := hr2
        rw [lx, List.take_length] at hps
        have lb2 : (backing r bs).length ≤ bs.length := by
          unfold backing
          rw [List.length_map]
          exact List.length_filter_le _ _
        have lps : ps.length = (backing r bs).length := by
          have := congrArg List.length hps
          simpa using this
        refine ⟨D0, ps, rfl, eD, hok, by omega, fun D1 ob nD1 hD1 => ?_⟩
        have nD1' : H D1 = none := sm.free nD1
        rw [hps] at hD1
        have smD : Same H (upd H1 D1 ob) := sm.trans (same_upd nD1)
        obtain ⟨kn, km, _⟩ := putAll_keys ((backing r bs).map fun b => (eB b, V.bl true)) [] (by simp)
        obtain ⟨ls0, ek0, nd0, mem0⟩ := bels_keys (bs := backing r bs) kn fun k => (km k).trans (by simp)
        exact q D1 _ ls0 _ nD1' smD hD1 ek0 nd0 mem0
end
end M

/-! a lambda of one parameter that captures nothing, as a key -/
namespace M
open PySem PySem.Spec PyProof.Rows L2
open PySem.SeqAt (RcLt)
open PySem.W (SortsAt sortVals EachIs KeepsBut keyH_end sorted_vals)
open PyProof.Rows (ksk_tree ksk_rest ksk_end ksk_fold)
open LamX (CodeO TabS TabB ExtN)
section
variable {X : Cx} {pins : List (Addr × Obj)} {σ : L2.St} {H : Hp} {s : Shared}
/-- a function that gives the key of a datum and changes nothing, where G holds -/
structure KeyFnG (X : Cx) (f : Addr) (G : Hp → Prop) (pre : NK → Prop) (key : NK → NK) : Prop where
  run : ∀ (pins : List (Addr × Obj)) (σ : L2.St) (H : Hp) (s : Shared) (x : V) (u : Value) (b : NK) (Q : VK), Inv X pins σ H s → G H → RelV x u → At X.K H x b → pre b → (∀ v H', Same H H' → At X.K H' v (key b) → Q v H') →
    wpAny (model X.prog X.w) X.A.in1.in1 (call (.ref f) [u]) (EP X pins σ Q) (fun _ _ => False) s
/-- the body of xs.sort(key=f), f asking G of the heap -/
theorem sort_coreG {G : Hp → Prop} {L f : Addr} {us : List Value} {xs : List V} {bs : List NK} {n : Nat} {pre : NK → Prop} {key : NK → NK} {rk : NK → Nat} {R : PySem.Fin → Shared → Prop} {E : Value → Shared → Prop} (hu : X.A.units + 64 < cLine) (F : KeyFnG X f G pre key) (hG : ∀ H', (∀ b o, b ≠ L → H b = some o → H' b = some o) → G H')
    (I : Inv X pins σ H s) (hL : H L = some (NdO L (seqObj "list" us.toArray n))) (ha : Ats X.K H xs bs) (rv : Vals xs us) (hp : ∀ b ∈ bs, pre b) (hR : Ranked (bs.map key) rk) (hz : bs.length ≤ 1000000)
    (h : ∀ H' s' ys, (∀ b o, b ≠ L → H b = some o → H' b = some o) → H' L = some (.lst ys) → Ats X.K H' ys (byRk (fun b => rk (key b)) bs) → Inv X pins σ H' s' → R (.done (.ret .none)) s') :
    wpAny (model X.prog X.w) X.A.in1.in1 (ksk_tree L (.ref f) false) R E s := by
  have g0 : s.heap.get? L = some (seqObj "list" us.toArray n) := nd_get I.hok hL
  have len : us.length = bs.length := by rw [← rv.length, ha.length]
  have hsz : us.length ≤ sizeLine := by
    rw [len, sizeLine_eq]
    omega
  have up := Heap.SameBut.update s.heap L (Obj.mapSeq fun _ => (#[] : Array Value))
  obtain ⟨e1, g1⟩ : ∃ e1, (s.heap.update L (Obj.mapSeq fun _ => (#[] : Array Value))).get? L = some (seqObj "list" #[] e1) := ⟨_, get?_update_seq g0 fun _ => #[]⟩
  obtain ⟨H1, eH1⟩ : ∃ H1, H1 = upd H L (NdO L (seqObj "list" #[] e1)) := ⟨_, rfl⟩
  have I1 : Inv X pins σ H1 { s with heap := s.heap.update L (Obj.mapSeq fun _ => (#[] : Array Value)) } := by
    rw [eH1]
    exact I.write (x := L) (e := L) (t' := s.toks) (by rw [hL]; trivial) (.inl rfl) (fun b o nb z => (up.2 b nb).trans z) ⟨_, g1⟩ ⟨g1, ⟨_, g1⟩, fun h1 h2 p st => st _ p⟩
  have hL1 : H1 L = some (NdO L (seqObj "list" #[] e1)) := by
    rw [eH1]
    exact upd_same
  have ha1 : Ats X.K H1 xs bs := by
    rw [eH1]
    exact ha.ext (Ext.mut hL trivial)
  unfold ksk_tree
  refine wpAny_bind (listItems_at g0 rfl (wpAny_bind (listUpdate_at g0 rfl ?_ (by rw [List.size_toArray]; exact hsz) (Nat.zero_le _))))
  refine wpAny_bind (seqEpoch_at g1 rfl (wpAny_bind (wpAny_newTuple ?_ (by show us.length ≤ _; exact hsz))))
  refine wpAny_bind (wpAny_newList (wpAny_holding ?_) (Nat.zero_le _))
  -- the keys' list
  obtain ⟨s2, es2⟩ : ∃ s2 : Shared, s2 = { s with heap := (s.heap.update L (Obj.mapSeq fun _ => (#[] : Array Value))).push (seqObj "tuple" us.toArray 0) } := ⟨_, rfl⟩
  have I2 : Inv X pins σ H1 s2 := by
    rw [es2]
    exact I1.kept (t' := s.toks) fun b o z => Heap.get?_push_of_some _ z
  obtain ⟨kS, ekS⟩ : ∃ kS, kS = s2.heap.objs.size := ⟨_, rfl⟩
  have I3 : Inv X pins σ H1 { s2 with heap := s2.heap.push (seqObj "list" #[] 0) } := I2.kept (t' := s2.toks) fun b o z => Heap.get?_push_of_some _ z
  have nk : (s2.heap.push (seqObj "list" #[] 0)).get? kS = some (seqObj "list" #[] 0) := by
    rw [ekS]
    exact Heap.get?_push_size _ rfl
  have fk : FpOk X pins H1 kS := I2.fpOk (Nat.le_of_eq ekS.symm) (I2.hok.fresh (Nat.le_of_eq ekS.symm))
  have c3 : X.s_0.heap.objs.size ≤ kS := by
    rw [ekS]
    exact I2.sz
  have c4 : ∀ p ∈ X.pn ++ pins, p.1 ≠ kS := fk.2.2.2.2.2
  have pinK : ∀ {H' : Hp} {s' : Shared} {o : Obj}, Inv X pins σ H' s' → FpOk X pins H' kS → s'.heap.get? kS = some o → (∀ v, o.data ≠ .cell v) → Inv X (pins ++ [(kS, o)]) σ H' s' := fun {H' s' o} I' f g hc =>
    I'.pins_of fun p hp => (List.mem_append.mp hp).elim (fun z => I'.pin p (List.mem_append_right _ z)) fun z => by
      obtain rfl := List.mem_singleton.mp z
      exact ⟨g, f.1, f.2.1, f.2.2.1, hc⟩
  have I4 := pinK I3 fk nk (fun v z => by cases z)
  have eq2 : ({ s with heap := ((s.heap.update L (Obj.mapSeq fun _ => (#[] : Array Value))).push (seqObj "tuple" us.toArray 0)).push (seqObj "list" #[] 0) } : Shared) = { s2 with heap := s2.heap.push (seqObj "list" #[] 0) } := by rw [es2]
  have esz : ((s.heap.update L (Obj.mapSeq fun _ => (#[] : Array Value))).push (seqObj "tuple" us.toArray 0)).objs.size = kS := by
    rw [ekS, es2]
  show wpAny _ _ (ksk_rest L (.ref f) false us.toArray e1 (.ref ((s.heap.update L (Obj.mapSeq fun _ => (#[] : Array Value))).push (seqObj "tuple" us.toArray 0)).objs.size)) R E { s with heap := ((s.heap.update L (Obj.mapSeq fun _ => (#[] : Array Value))).push (seqObj "tuple" us.toArray 0)).push (seqObj "list" #[] 0) }
  rw [eq2, esz]
  unfold ksk_rest
  refine wpAny_bind (wpAny_rule ?_)
  first
    | rw [List.forIn_toArray]
    | (rw [← Array.forIn_toList]; simp only [List.toList_toArray])
    | rw [← Array.forIn_toList]
  refine wpAny_bind (ksk_fold (fun i s' => ∃ H' kA e zs, Inv X (pins ++ [(kS, seqObj "list" kA e)]) σ H' s' ∧ Same H1 H' ∧ Vals zs kA.toList ∧ Ats X.K H' zs ((bs.take i).map key)) us 0 { s2 with heap := s2.heap.push (seqObj "list" #[] 0) } ⟨H1, #[], 0, [], I4, fun _ _ z => z, .nil, .nil⟩ ?turn ?done)
  case turn =>
    rintro j u s' hj ⟨H', kA, e, zs, I', sm, rz, az⟩
    simp only [Nat.zero_add] at az ⊢
    obtain ⟨x, hx, rx⟩ : ∃ x, xs[j]? = some x ∧ RelV x u := by
      have : ∀ {xs : List V} {us : List Value}, Vals xs us → ∀ {j : Nat} {u : Value}, us[j]? = some u → ∃ x, xs[j]? = some x ∧ RelV x u := by
        intro xs us r
        induction r with
        | nil => exact fun z => by simp at z
        | cons a t ih =>
          intro j u z
          cases j with
          | zero => exact ⟨_, rfl, by have := Option.some.inj z; subst this; exact a⟩
          | succ j => exact ih (by simpa using z)
      exact this rv hj
    obtain ⟨b, hb, ab⟩ := ha1.back hx
    have ab' : At X.K H' x b := ab.same sm
    refine wpAny_bind (wpAny_attempt (wpAny_mono (F.run _ σ H' s' x u b (fun v H2 => Same H' H2 ∧ At X.K H2 v (key b)) I' (hG H' fun b o nb e => sm _ _ (by rw [eH1, upd_ne nb]; exact e)) rx ab' (hp b (List.mem_of_getElem? hb)) fun v H2 s2 a2 => ⟨s2, a2⟩) (fun v s5 q => ?_) fun _ _ z => z.elim))
    obtain ⟨y, H2, I5, ry, sm2, ay⟩ := q
    dsimp only
    obtain ⟨gk, _⟩ := I5.pin (kS, seqObj "list" kA e) (List.mem_append_right _ (List.mem_append_right _ List.mem_cons_self))
    have gk : s5.heap.get? kS = some (seqObj "list" kA e) := gk
    have fk5 := fp_of I5 c3 c4
    have lk : kA.size ≤ bs.length := by
      have h1 : zs.length = kA.toList.length := rz.length
      have h2 := az.length
      have h3 : kA.toList.length = kA.size := Array.length_toList
      rw [List.length_map, List.length_take] at h2
      omega
    have up5 := Heap.SameBut.update s5.heap kS (Obj.mapSeq (·.push v))
    obtain ⟨c5, g5⟩ : ∃ c, (s5.heap.update kS (Obj.mapSeq (·.push v))).get? kS = some (seqObj "list" (kA.push v) c) := ⟨_, get?_update_seq gk (·.push v)⟩
    refine wpAny_bind (listUpdate_at gk rfl ?_ (by rw [sizeLine_eq]; omega) (by rw [Array.size_push, sizeLine_eq]; omega))
    have I6 : Inv X pins σ H2 { s5 with heap := s5.heap.update kS (Obj.mapSeq (·.push v)) } := (I5.unpinned).turned (t' := s5.toks) (fun b o nb z => (up5.2 b nb).trans z) fk5.1 fk5.2.1 fk5.2.2.2.1 fk5.2.2.2.2.1 fk5.2.2.2.2.2
    have tk : bs.take (j + 1) = bs.take j ++ [b] := by
      rw [List.take_add_one, hb]
      rfl
    refine wpAny_pure ⟨rfl, H2, kA.push v, c5, zs ++ [y], pinK I6 fk5 g5 (fun v z => by cases z), sm.trans sm2, ?_, ?_⟩
    · rw [Array.toList_push]
      exact rz.append (.cons ry .nil)
    · rw [tk, List.map_append]
      exact (az.same sm2).append (.one ay)
  case done =>
    rintro s' ⟨H', kA, e, zs, I', sm, rz, az⟩
    have tk : bs.take (0 + us.length) = bs := List.take_of_length_le (by omega)
    rw [tk] at az
    obtain ⟨gk, _⟩ := I'.pin (kS, seqObj "list" kA e) (List.mem_append_right _ (List.mem_append_right _ List.mem_cons_self))
    have gk : s'.heap.get? kS = some (seqObj "list" kA e) := gk
    have fk5 := fp_of I' c3 c4
    have hL' : H' L = some (NdO L (seqObj "list" #[] e1)) := sm _ _ hL1
    have gL := nd_get I'.hok hL'
    have ne : kS ≠ L := fun z => by
      have := fk5.1
      rw [z, hL'] at this
      cases this
    obtain ⟨G, G1, G2⟩ := restrict s'.heap fun b => decide (b ≠ kS)
    have gG : ∀ b o, b ≠ kS → s'.heap.get? b = some o → G.get? b = some o := fun b o nb z => by
      rw [G1 b (decide_eq_true nb)]
      exact z
    have Gg : ∀ b o, G.get? b = some o → s'.heap.get? b = some o := fun b o z => by
      by_cases nb : b = kS
      · rw [nb, G2 kS (by simp)] at z
        cases z
      · rw [G1 b (decide_eq_true nb)] at z
        exact z
    have IG : Inv X pins σ H' { s' with heap := G } := (I'.unpinned).turned (t' := s'.toks) gG fk5.1 fk5.2.1 fk5.2.2.2.1 fk5.2.2.2.2.1 fk5.2.2.2.2.2
    have lk : kA.size = us.length := by
      have h1 : zs.length = kA.toList.length := rz.length
      have h2 := az.length
      have h3 : kA.toList.length = kA.size := Array.length_toList
      rw [List.length_map] at h2
      omega
    refine wpAny_bind (listItems_at gk rfl ?_)
    have ek := each_of I' az rz
    refine keyH_end (vs := us) (keys := kA) (κ := rkKind s'.heap (bs.map key) rk) (h₁ := G) (fun b o _ z => Gg b o z) (G2 kS (by simp)) gk gL ne (sorts_ranked ek hR (by show X.A.units + 1 + 1 + 16 < cLine; omega)) lk hsz fun h' tk c kp gn => ?_
    have hk : EachIs (fun v b => KIs s'.heap (key b) v) kA.toList bs := by
      have : ∀ {ks : List Value} {bs : List NK}, EachIs (fun v k => KIs s'.heap k v) ks (bs.map key) → EachIs (fun v b => KIs s'.heap (key b) v) ks bs := by
        intro ks bs
        induction bs generalizing ks with
        | nil => intro z; cases z; exact .nil
        | cons b bs ih =>
          intro z
          cases z with
          | cons z1 z2 => exact .cons z1 (ih z2)
      exact this ek
    have ho := sorted_each (R := fun v k => ∃ x, RelV x v ∧ At X.K H' x k) (h := s'.heap) (ks := bs.map key) (rk := rk) (bs := bs) key (each_at (ha1.same sm) rv) hk fun b hb => List.mem_map_of_mem hb
    obtain ⟨ys, ry, ay⟩ := at_each (X := X) (H := H') ho
    have hlen : ys.length ≤ sizeLine := by
      rw [ay.length, byRk_length, sizeLine_eq]
      omega
    refine h (upd H' L (.lst ys)) _ ys (fun b o nb z => ?_) upd_same (ay.ext (Ext.mut hL' trivial)) (IG.write (x := L) (e := L) (t' := tk) (by rw [hL']; trivial) (.inl rfl) (fun b o nb z => kp b o nb z) ⟨_, gn⟩ ⟨hlen, _, c, ry, gn⟩)
    rw [upd_ne nb]
    refine sm b o ?_
    rw [eH1, upd_ne nb]
    exact z
/-- sorted(d, key=f) -/
def rSortKG (X : Cx) (key : NK → NK) (rk : NK → Nat) : List V → List V → Hp → VK → Prop := fun vs zs H Q => ∃ (d f : Addr) (kvs : List (NK × V)) (pre : NK → Prop) (G : Hp → Prop), vs = [.ref d] ∧ zs = [.ref f] ∧ DK X.prog X.w X.K H d kvs ∧ KeyFnG X f G pre key ∧ (∀ H', Same H H' → G H') ∧ (∀ b ∈ kvs.map (·.1), pre b) ∧
  Ranked ((kvs.map (·.1)).map key) rk ∧ kvs.length ≤ 1000000 ∧ ∀ p ys H', H p = none → Same H H' → H' p = some (.lst ys) → Ats X.K H' ys (byRk (fun b => rk (key b)) (kvs.map (·.1))) → Q (.ref p) H'
theorem sorted_keyG (hu : X.A.units + 64 < cLine) (hc : X.calm = true) (key : NK → NK) (rk : NK → Nat) : CallRK X (.builtin "sorted") [Str.ofString "key"] (rSortKG X key rk) := fun pins s σ H vs zs us ws Q I r1 r2 h => by
  obtain ⟨d, f, kvs, pre, G, rfl, rfl, ⟨o, hd, xs, ⟨es, ep, hx, hdt, he⟩, rr⟩, F, hG, hp, hR, hl, q⟩ := h
  obtain ⟨u, rfl, ru⟩ := Vals.one r1
  obtain ⟨w', rfl, rw'⟩ := Vals.one r2
  cases ru
  cases rw'
  have l1 := size_of_entries he
  have l2 := Paired.length rr.rel
  have hsz : es.size ≤ sizeLine := by
    rw [sizeLine_eq]
    omega
  show wpAny _ _ (call (.builtin "sorted") [.ref d] [(Str.ofString "key", .ref f)]) _ _ s
  refine PyProof.Rows.call_function_entry_kw PyProof.Rows.kind_sorted PyProof.Rows.plain_sorted PyProof.Rows.entry_sorted (PyProof.Rows.ksk_s1 _ _) ?_
  unfold Builtin.«sorted»
  refine wpAny_bind (m := checkCount "sorted" 1 1 _) (wpAny_pure ?_)
  refine wpAny_bind (PySem.W.kdu_collect (A := X.A.in1) (kdl_raw rr.low hx hdt) (I.ok.hd hc) (nd_get I.hok hd) hsz fun h' tk acc hk it => ?_)
  have ea : acc.toList = (xs.map fun x => x.2.1).map Value.ref := by
    refine List.ext_getElem? fun j => ?_
    cases hj : acc.toList[j]? with
    | none =>
      have := List.getElem?_eq_none_iff.mp hj
      rw [Array.length_toList, it.1] at this
      rw [List.getElem?_eq_none]
      rw [List.length_map, List.length_map]
      omega
    | some v =>
      obtain ⟨en, hen, hv⟩ := it.2 j v (by rw [← Array.getElem?_toList]; exact hj)
      have qe := entry_at he j
      rw [hen] at qe
      obtain ⟨b, hb, eb⟩ := Option.map_eq_some_iff.mp qe.symm
      rw [List.getElem?_map, List.getElem?_map, hb, hv, ← eb]
      rfl
  rw [ea]
  have rv : Vals (xs.map fun x => V.ref x.2.1) ((xs.map fun x => x.2.1).map Value.ref) := by
    have := vals_refs (xs.map fun x => x.2.1)
    rwa [List.map_map] at this
  obtain ⟨us, eus⟩ : ∃ us, us = (xs.map fun x => x.2.1).map Value.ref := ⟨_, rfl⟩
  rw [← eus] at rv ⊢
  have hlen : us.length ≤ sizeLine := by
    rw [eus, List.length_map, List.length_map]
    omega
  refine wpAny_bind (wpAny_newList ?_ hlen)
  have gL : (h'.push (seqObj "list" us.toArray 0)).get? h'.objs.size = some (seqObj "list" us.toArray 0) := Heap.get?_push_size _ rfl
  have I1 : Inv X pins σ H { s with heap := h', toks := tk } := I.kept hk
  have nL : H h'.objs.size = none := I1.hok.fresh (Nat.le_refl _)
  have I2 : Inv X pins σ (upd H h'.objs.size (NdO h'.objs.size (seqObj "list" us.toArray 0))) { s with heap := h'.push (seqObj "list" us.toArray 0), toks := tk } :=
    I1.laid (t' := tk) (fun b o e => Heap.get?_push_of_some _ e) (Nat.le_refl _) ⟨gL, ⟨_, gL⟩, fun h1 h2 p st => st _ p⟩
  show wpAny _ _ _ _ _ { s with heap := h'.push (seqObj "list" us.toArray 0), toks := tk }
  refine wpAny_bind (wpAny_holding (wpAny_call_entry_kw PyProof.Rows.slot_list_sort ⟨_, gL, rfl⟩ PyProof.Rows.entry_list_sort ?_ (PyProof.Rows.ksk_l1 _ _)))
  show wpAny (model X.prog X.w) X.A.in1.in1 (Builtin.«list.sort» ⟨[.ref h'.objs.size], [(Str.ofString "key", .ref f)]⟩) _ _ _
  rw [PyProof.Rows.ksk_t1]
  refine sort_coreG (xs := xs.map fun x => V.ref x.2.1) (bs := kvs.map (·.1)) hu F (fun H' k => hG H' fun b o e => k b o (ne_of_none e nL) (by rw [upd_ne (ne_of_none e nL)]; exact e)) I2 upd_same ((ats_vals rr.rel).ext (Ext.new nL)) rv hp hR (by rw [List.length_map]; exact hl) fun H' s' ys hkeep hL' ay I' => ?_
  refine ⟨.none, rfl, wpAny_pure ⟨_, rfl, .ref h'.objs.size, H', I', rfl, q _ ys H' nL (fun b o e => ?_) hL' ay⟩⟩
  have nb := ne_of_none e nL
  refine hkeep b o nb ?_
  rw [upd_ne nb]
  exact e

abbrev LamO (q : Str) (params : Arguments) (body : Expr) (scope : Scope) (pm : Value) (c' : Addr) (ctv : Value) : Obj := PySem.W.kla_obj "<lambda>" q params body scope [] pm c' ctv
/-- the lambda is made and known -/
theorem lam_put {c P : Addr} {params : Arguments} {body : Expr} {scope : Scope} {pos : Pos} {E : Value → Shared → Prop} {Q : Value → Shared → Prop} (I : Inv X pins σ H s) (TB : TabB X.base X.mg c P) (hcode : X.env.code = .ref c) (hT : TabS H P (X.env.qual ++ "<lambda>"))
    (hdef : defaultsOf params X.env = ([], [])) (hfree : ∀ y ∈ scope.names, y.2 ≠ .free)
    (h : ∀ (f c' : Addr) (pm ctv : Value) (H1 : Hp) (s' : Shared), Inv X pins σ H1 s' → ExtN H H1 → TabS H1 P (X.env.qual ++ "<lambda>") → H f = none → H1 f = some (NdO f (LamO (X.env.qual ++ "<lambda>") params body scope pm c' ctv)) →
      H1 c' = some (CodeO c' (X.env.qual ++ "<lambda>")) → Q (.ref f) s') :
    wpAny (model X.prog X.w) X.A (eval (.Lambda params body scope pos) X.env) Q E s := by
  obtain ⟨ps, hP, ht, ha⟩ := hT
  have hcl : closureFor scope X.env = pure [] := by
    have e := closure_ok (scope := scope) (env := X.env) fun y hy z => absurd z (hfree y hy)
    rw [e]
    congr 1
    have : ∀ (cells : List (Str × Addr)) (ns : List (Str × NameKind)), (∀ y ∈ ns, y.2 ≠ .free) → cloFrom cells ns [] = [] := by
      intro cells ns
      induction ns with
      | nil => exact fun _ => rfl
      | cons n ns ih =>
        intro hn
        obtain ⟨x, k⟩ := n
        have hk : k ≠ .free := hn _ List.mem_cons_self
        have hk2 : (k == NameKind.free) = false := by
          cases k <;> first | rfl | exact absurd rfl hk
        simp only [cloFrom, hk2, Bool.false_eq_true, if_false]
        exact ih fun y hy => hn y (List.mem_cons_of_mem _ hy)
    exact this _ _ hfree
  refine PySem.W.kla_eval hdef ?_
  have bP : s.heap.BuiltinsAt X.mg P := TB.bm.keeps I.bk
  have hP' : s.heap.get? P = some { cls := .none, data := .fields ps } := I.hok P _ hP
  cases hc : codeAmong pos ps.toList with
  | none =>
    refine PySem.W.kla_makeFunction (mg := X.mg) (c := c) (P := P) (ps := ps) hcl I.ok.glob (I.mod.glob.keeps I.bk) hcode (TB.code.keeps I.bk) hP' ht hc TB.gP bP fun c' ctv h' tk hx hge hlt hrec htb => ?_
    obtain ⟨c2, oc, vs, t, e2, hoc, hd, hv⟩ := hrec
    cases e2
    have nC : H c' = none := I.hok.fresh hge
    have I1 := LamX.inv_table (t' := tk) (more := #[rawInt pos.line, rawInt pos.col, .ref c']) (h' := h') I hP (fun b o hb e => hx b o hb e) htb hge ⟨oc, vs, t, hoc, hd, hv⟩
    have hE : ExtN H (upd (upd H P (.tbl (ps ++ #[rawInt pos.line, rawInt pos.col, .ref c']))) c' (CodeO c' (X.env.qual ++ "<lambda>"))) := fun b o e n => by
      rw [upd_ne (ne_of_none e nC), upd_ne (fun z => n ps (Option.some.inj (e.symm.trans (by rw [z]; exact hP))))]
      exact e
    have eL : (ps ++ #[rawInt pos.line, rawInt pos.col, .ref c']).toList = ps.toList ++ [rawInt pos.line, rawInt pos.col, .ref c'] := by simp
    have T1 : TabS (upd (upd H P (.tbl (ps ++ #[rawInt pos.line, rawInt pos.col, .ref c']))) c' (CodeO c' (X.env.qual ++ "<lambda>"))) P (X.env.qual ++ "<lambda>") := by
      refine ⟨_, (upd_ne (ne_of_none hP nC)).trans upd_same, by rw [eL]; exact PySem.TriplesOk_snoc _ _ _ _ ht, fun p' cv hcv => ?_⟩
      rw [eL] at hcv
      rcases LamX.among_app _ ht hcv with z | z
      · obtain ⟨c0, e1, e2⟩ := ha p' cv z
        exact ⟨c0, e1, hE _ _ e2 LamX.codeO_ne⟩
      · exact ⟨c', z, upd_same⟩
    have hC1 : upd (upd H P (.tbl (ps ++ #[rawInt pos.line, rawInt pos.col, .ref c']))) c' (CodeO c' (X.env.qual ++ "<lambda>")) c' = some (CodeO c' (X.env.qual ++ "<lambda>")) := upd_same
    generalize upd (upd H P (.tbl (ps ++ #[rawInt pos.line, rawInt pos.col, .ref c']))) c' (CodeO c' (X.env.qual ++ "<lambda>")) = H1 at *
    have hsz : s.heap.objs.size ≤ h'.objs.size := Nat.le_trans hge (Nat.le_of_lt hlt)
    have gN : (h'.push (LamO (X.env.qual ++ "<lambda>") params body scope ((X.mg "__name__").getD .none) c' ctv)).get? h'.objs.size = some (LamO (X.env.qual ++ "<lambda>") params body scope ((X.mg "__name__").getD .none) c' ctv) := Heap.get?_push_size _ rfl
    have nF : H1 h'.objs.size = none := I1.hok.fresh (Nat.le_refl _)
    have sm := same_upd (o := NdO h'.objs.size (LamO (X.env.qual ++ "<lambda>") params body scope ((X.mg "__name__").getD .none) c' ctv)) nF
    have I2 := I1.laid (t' := tk) (a := h'.objs.size) (o := NdO h'.objs.size (LamO (X.env.qual ++ "<lambda>") params body scope ((X.mg "__name__").getD .none) c' ctv)) (fun b o e => Heap.get?_push_of_some _ e) (Nat.le_refl _) ⟨gN, ⟨_, gN⟩, fun h1 h2 p st => st _ p⟩
    exact h _ c' _ ctv _ _ I2 (hE.trans (.of fun b o e => sm b o e)) (T1.ext fun b o e => sm b o e) (I.hok.fresh hsz) upd_same (sm _ _ hC1)
  | some cv =>
    obtain ⟨c', e, hco⟩ := ha pos cv hc
    subst e
    refine PySem.W.kla_makeFunctionHit (mg := X.mg) (c := c) (P := P) (ps := ps) hcl I.ok.glob (I.mod.glob.keeps I.bk) hcode (TB.code.keeps I.bk) hP' ht hc bP fun ctv h' tk hx hsz => ?_
    have I1 : Inv X pins σ H { s with heap := h', toks := tk } := I.kept (t' := tk) hx
    have gN : (h'.push (LamO (X.env.qual ++ "<lambda>") params body scope ((X.mg "__name__").getD .none) c' ctv)).get? h'.objs.size = some (LamO (X.env.qual ++ "<lambda>") params body scope ((X.mg "__name__").getD .none) c' ctv) := Heap.get?_push_size _ rfl
    have nF : H h'.objs.size = none := I1.hok.fresh (Nat.le_refl _)
    have sm := same_upd (o := NdO h'.objs.size (LamO (X.env.qual ++ "<lambda>") params body scope ((X.mg "__name__").getD .none) c' ctv)) nF
    have I2 := I1.laid (t' := tk) (a := h'.objs.size) (o := NdO h'.objs.size (LamO (X.env.qual ++ "<lambda>") params body scope ((X.mg "__name__").getD .none) c' ctv)) (fun b o e => Heap.get?_push_of_some _ e) (Nat.le_refl _) ⟨gN, ⟨_, gN⟩, fun h1 h2 p st => st _ p⟩
    exact h _ c' _ ctv _ _ I2 (.of fun b o e => sm b o e) (LamX.TabS.ext (⟨ps, hP, ht, ha⟩ : TabS H P (X.env.qual ++ "<lambda>")) fun b o e => sm b o e) nF upd_same (sm _ _ hco)
/-- the lambda's reading -/
def tLamK (P : Addr) (q : Str) (params : Arguments) (body : Expr) (scope : Scope) : TE := fun σ H Q => TabS H P q ∧ ∀ (f c' : Addr) (pm ctv : Value) (H1 : Hp), ExtN H H1 → TabS H1 P q → H f = none → H1 f = some (NdO f (LamO q params body scope pm c' ctv)) → H1 c' = some (CodeO c' q) → Q (.ref f) H1
theorem pe_lamK {c P : Addr} {params : Arguments} {body : Expr} {scope : Scope} {pos : Pos} (TB : TabB X.base X.mg c P) (hcode : X.env.code = .ref c) (hdef : defaultsOf params X.env = ([], [])) (hfree : ∀ y ∈ scope.names, y.2 ≠ .free) :
    PE X (.Lambda params body scope pos) (tLamK P (X.env.qual ++ "<lambda>") params body scope) := ⟨fun pins s σ H Q I h => lam_put I TB hcode h.1 hdef hfree fun f c' pm ctv H1 s' I1 e1 t1 nf f1 f2 => ⟨.ref f, H1, I1, rfl, h.2 f c' pm ctv H1 e1 t1 nf f1 f2⟩⟩
/-- such a lambda as a key -/
theorem lam_key {f c' : Addr} {q : Str} {params : Arguments} {body : Expr} {scope : Scope} {pm ctv : Value} {N : List Str} {pn : Str} {k : Nat} {pre : NK → Prop} {key : NK → NK} (S : FnScope N [pn] scope) (hr : Room (k + 3) X.A)
    (hbind : ∀ u : Value, bindArgs (PySem.W.kla_fn "<lambda>" q params body scope [] pm (.ref c') ctv) ⟨[u], []⟩ = pure [(pn, u)])
    (hbody : ∀ (A : Around) (outer : List Env) (s : Shared) (H : Hp) (v : V) (b : NK) (Q : VK), Room k (A.deeper (envOfC q scope s.heap.objs.size f (.ref c'))) → At X.K H v b → pre b → (∀ v H', Same H H' → At X.K H' v (key b) → Q v H') →
      ∃ t, PE (cxOf CX0 X.prog X.w X.K X.mg X.base N q scope f (.ref c') A outer s H E0).nox body t ∧ t (start N [v]) H Q) :
    KeyFnG X f (fun H => H f = some (NdO f (LamO q params body scope pm c' ctv)) ∧ H c' = some (CodeO c' q)) pre key := ⟨fun pins σ H s x u b Q I ⟨g1, g2⟩ ru ha hp hq => by
  have e0 : Env0 X.prog X.w X.K X.mg X.base X.A.in1.in1 X.stack s H := I.env0.in1.in1
  have hr2 : Room (k + 1) X.A.in1.in1 := hr.in1.in1
  have of1 := nd_get I.hok g1
  obtain ⟨⟨oc, vs, t, hoc, hdc, hvc⟩, _, _⟩ := I.hok c' _ g2
  refine wpAny_call (codeAny_mono (R := CR CX0 X.stack X.prog X.w H s Q E0) (PySem.W.kla_callFunE hr2.depth of1 rfl S.co S.gen rfl ⟨c', oc, vs, t, rfl, hoc, hdc, hvc⟩ ?_) fun r s' hq => ?_)
  · rw [hbind]
    refine wpAny_pure (wpAny_newFunctionEnv_cells S.kind (fun y hy => ?_) fun env he s1 x1 => ?_)
    · rw [List.mem_singleton.mp hy]
      rcases S.par pn List.mem_cons_self with z | z
      · exact .inl z
      · exact .inr ⟨z, PySem.W.cellsFrom_some _ _ _ (.inl z)⟩
    · subst he
      have lim : s.heap.NoLimit := e0.mod.nolimit.keeps fun b o e => (e0.bs b o e).1
      refine ⟨lim.keeps x1.toInCall.keep, ?_⟩
      obtain ⟨t, ht, hq'⟩ := hbody X.A.in1.in1 X.stack s H x b Q (hr2.deeper _) ha hp hq
      have J : Inv (cxOf CX0 X.prog X.w X.K X.mg X.base N q scope f (.ref c') X.A.in1.in1 X.stack s H E0) [] (L2.start N [x]) H s1 := inv_start S hr2.hd e0 rfl (.cons ru .nil) x1
      refine PySem.W.kla_codeExpr (wpAny_mono (ht.nox.run [] s1 _ H Q J hq') (fun v s' hz => ?_) fun e s' hz => hz)
      obtain ⟨w', H', J', rv, q'⟩ := hz
      exact ⟨w', H', J'.os, J'.bare, J'.base, J'.hok, rv, q'⟩
  · cases r with
    | error e => exact hq.elim
    | ok fl =>
      cases fl with
      | ret u => exact I.after hq
      | next => exact hq.elim
      | brk => exact hq.elim
      | cont => exact hq.elim⟩
/-- data stay when all but tables stay -/
theorem ext_of_n {K : PySem.W.Frag} {H H' : Hp} (e : ExtN H H') : Ext K H H' := fun a xs h => by
  rcases h with (h | ⟨o, h⟩) | h
  · exact .inl (.inl (e _ _ h fun _ z => nomatch z))
  · exact .inl (.inr ⟨o, e _ _ h fun _ z => nomatch z⟩)
  · exact .inr h
theorem DK.extN {P : Program} {w : World} {K : PySem.W.Frag} {H H' : Hp} {d : Addr} {kvs : List (NK × V)} (h : DK P w K H d kvs) (e : ExtN H H') : DK P w K H' d kvs := h.mono (ext_of_n e) fun o ho => e _ _ ho (by
  obtain ⟨u, hu, _⟩ := h
  rw [hu] at ho
  cases ho
  exact fun _ z => nomatch z)
/-- where a def of the top stands, its code object told -/
structure DfC (K : PySem.W.Frag) (mg : Str → Option Value) (x : Str) (st : Stmt) (ps : List Str) (c : Addr) : Prop where
  ex : ∃ f fd, Fun K x x st f fd ∧ fd.code = .ref c ∧ mg x = some (.ref f) ∧ Binds K fd ps []
theorem DfC.kn {P : Program} {w : World} {K : PySem.W.Frag} {mg : Str → Option Value} {base : Heap} {x : Str} {k : Nat} {ps : List Str} {sp : Sp} {c : Addr} {st : Stmt} {N : List Str} (D : DfC K mg x st ps c) (S : FnScope N ps (defScope st)) (len : ∀ vs H Q E, sp vs H Q E → vs.length = ps.length)
    (hbody : ∀ (f : Addr) (A : Around) (outer : List Env) (s : Shared) (H : Hp) (vs : List V) (Q : VK) (E : XK), Room k (A.deeper (envOfC x (defScope st) s.heap.objs.size f (.ref c))) → sp vs H Q E →
      ∃ t, PSs (cxOf CX0 P w K mg base N x (defScope st) f (.ref c) A outer s H E).nox (defBody st) t ∧ t { nx := fun _ H' => Q .non H', rt := Q } (start N vs) H) : Kn P w K mg base (k + 1) x ps sp := by
  obtain ⟨f, fd, F, hcode, hm, hb⟩ := D.ex
  refine ⟨⟨f, fd, ?_, hm, F.kp, hb⟩⟩
  obtain ⟨oc, od, kV, doc, pm, an, cdv, ct, osl, rfl, lk, hcd⟩ := F.ex
  have hcode : cdv = .ref c := hcode
  subst hcode
  refine fn_of lk hcd S len fun A outer s H vs Q E hr hsp => ?_
  obtain ⟨t, h, q⟩ := hbody f A outer s H vs Q E hr hsp
  exact ⟨t, h.nox, q⟩
end
end M

/-! the law's own lot -/
namespace M
open PySem PySem.Spec PyProof.Rows L2
open LamX (CodeO TabS TabB ExtN)
abbrev qLot : Str := Str.ofString "_law_lot" ++ ".<locals>." ++ "<lambda>"
section
variable {P : Program} {w : World} {K : PySem.W.Frag} {mg : Str → Option Value} {base : Heap}
theorem lam_keyH {X : Cx} {H : Hp} {f c' : Addr} {q : Str} {params : Arguments} {body : Expr} {scope : Scope} {pm ctv : Value} (N : List Str) {pn : Str} {k : Nat} {pre : NK → Prop} {key : NK → NK} (g1 : H f = some (NdO f (LamO q params body scope pm c' ctv))) (g2 : H c' = some (CodeO c' q)) (S : FnScope N [pn] scope) (hr : Room (k + 3) X.A)
    (hbind : ∀ u : Value, bindArgs (PySem.W.kla_fn "<lambda>" q params body scope [] pm (.ref c') ctv) ⟨[u], []⟩ = pure [(pn, u)])
    (hbody : ∀ (A : Around) (outer : List Env) (s : Shared) (H : Hp) (v : V) (b : NK) (Q : VK), Room k (A.deeper (envOfC q scope s.heap.objs.size f (.ref c'))) → At X.K H v b → pre b → (∀ v H', Same H H' → At X.K H' v (key b) → Q v H') →
      ∃ t, PE (cxOf CX0 X.prog X.w X.K X.mg X.base N q scope f (.ref c') A outer s H E0).nox body t ∧ t (start N [v]) H Q) :
    ∃ G : Hp → Prop, KeyFnG X f G pre key ∧ ∀ H', Same H H' → G H' := ⟨_, lam_key S hr hbind hbody, fun H' s => ⟨s _ _ g1, s _ _ g2⟩⟩
def scOne : Scope := { kind := .function, names := [("one", .local), ("tuple", .globalImplicit)], isGenerator := false, isCoroutine := false, more := [("fast", .str "one"), ("fast", .str "what")] }
theorem scLLot : FnScope ["beliefs"] ["beliefs"] (defScope sLLot) := ⟨rfl, rfl, rfl, by decide +kernel, rfl, by decide +kernel, by decide +kernel⟩
def spLLot (P : Program) (w : World) (K : PySem.W.Frag) (Pt : Addr) : Sp := fun vs H Q _ => ∃ (d : Addr) (kvs : List (NK × V)) (bs : List Bel), vs = [.ref d] ∧ DK P w K H d kvs ∧ kvs.map (·.1) = bs.map eB ∧ bs.Nodup ∧ (∀ b ∈ bs, BOk b) ∧ bs.length ≤ 10000 ∧ TabS H Pt qLot ∧
  ∀ z ls H', ExtN H H' → TabS H' Pt qLot → Lot ls → (∀ b, b ∈ ls ↔ b ∈ bs) → At K H' z (.tup (ls.map eB)) → Q z H'
theorem k_law_lot {c Pt : Addr} (T : Tx K mg) (TB : TabB base mg c Pt) (D : DfC K mg "_law_lot" sLLot ["beliefs"] c) (F : Kn P w K mg base 1 "_law_hand_key" ["what"] (spHandKey K)) : Kn P w K mg base 5 "_law_lot" ["beliefs"] (spLLot P w K Pt) := by
  refine D.kn scLLot (fun vs H Q E h => ?_) (fun f A outer s H vs Q E hr h => ?_)
  · obtain ⟨d, kvs, bs, rfl, _⟩ := h
    rfl
  · obtain ⟨d, kvs, bs, rfl, hD, e, nd, hb, hl, hT, q⟩ := h
    refine ⟨_, pss_one (ps_ret (pe_callTy tuple_n (by rfl) T.tuple boot_tuple (pa_cons (pe_callBK (sorted_keyG hr.units rfl belK rkN) (by rfl) T.sorted boot_sorted (pa_cons (pv 0) pa_nil)
      (pk_cons (pe_lamK (c := c) (P := Pt) TB rfl rfl (by decide +kernel)) pk_nil)) pa_nil))), ?_⟩
    refine ⟨.ref d, rfl, hT, fun fl c' pm ctv H1 e1 t1 nf g1 g2 => ?_⟩
    obtain ⟨G, KF, hG⟩ := lam_keyH (X := (cxOf CX0 P w K mg base ["beliefs"] "_law_lot" (defScope sLLot) f (.ref c) A outer s H E).nox) (k := 1) ["one", "what"] (pre := fun k => ∃ b, k = eB b ∧ BOk b) (key := belK) (pn := "one") g1 g2 ⟨rfl, rfl, rfl, by decide +kernel, rfl, by decide +kernel, by decide +kernel⟩ hr (fun u => rfl) (fun A2 outer2 s2 H2 v b Q2 hr2 ha ⟨b1, eb, hb1⟩ q2 => by
      obtain ⟨sn, x⟩ := b1
      rw [eb, belK_e] at q2
      rw [eb] at ha
      have nds : (["one", "what"] : List Str).Nodup := by decide +kernel
      refine ⟨_, pe_tupN (pa_cons (pe_ix ix_n (pv 0) pe_int (fun _ _ => rfl)) (pa_cons (pe_callTy tuple_n (by rfl) T.tuple (by decide +kernel) (pa_cons
        (pe_lc (own := [("what", 1)]) (g := gName 1) (tt := tYes) rfl nds (pi_tup (pe_ix ix_n (pv 0) pe_int (fun _ _ => rfl))) (blkOk_by (N := ["one", "what"]) (sc := scOne) (by decide +kernel)) (fun _ _ _ _ _ => pg_name (i := 1) nds rfl (Or.inl rfl)) (fun _ _ _ _ _ => pts_nil)
          (fun _ _ _ _ _ => pe_kn F hr2 (pa_cons (pv 1) pa_nil))) pa_nil)) pa_nil)), ?_⟩
      refine ⟨v, rfl, _, 0, _, ha, rfl, rfl, fun y hy => ?_⟩
      refine ⟨v, rfl, _, 1, _, ha, rfl, rfl, fun y2 hy2 => ?_⟩
      obtain ⟨a, xs, rfl, hs, hxs⟩ := hy2.tup_inv
      refine ⟨a, rfl, ⟨_, hs⟩, fun D nD => ?_⟩
      have hl := hxs.length
      have hl1 : xs.length = 1 := hl
      have e2 : whatK (eW x) = kW x := by
        have nh : ¬ (("has" : Str) = "asks") := by decide +kernel
        cases x <;> simp [whatK, eW, kW, nh]
      refine lc_acc (K := K) (walk_tup (xs := xs)) nD (by omega) (fun H1 s1 => Ext.of_same s1 _ _ hs) (fun i acc H1 => Ats K H1 acc (([eW x].take i).map whatK)) (fun i acc H1 H2 e h => h.ext e) .nil (fun i z H1 H2 acc k k0 hi sm eD hr2 hz hk _ => ?_) fun H1 acc sm eD hr2 => ?_
      · obtain ⟨rfl, hz⟩ := hz
        obtain ⟨k1, e1, hzk⟩ := hxs.back hz
        have i0 : i = 0 := by omega
        subst i0
        obtain rfl : eW x = k1 := Option.some.inj e1
        refine ⟨rfl, lc_yes ?_⟩
        refine ⟨z, rfl, z, x, rfl, hzk.same sm, hb1.2, fun u H3 s3 hu => hk u H3 s3 ?_⟩
        show Ats K H3 ([] ++ acc ++ [u]) _
        rw [List.take_of_length_le (by simp), List.map_singleton, e2]
        cases hr2
        exact .one hu
      · rw [hl1, List.take_of_length_le (by simp), List.map_singleton, e2] at hr2
        refine ⟨.ref D, _, rfl, Seq.lst (SqL.of eD) hr2, by simp, fun u H2 s2 hu => ?_⟩
        refine ⟨[.num sn, .tup [kW x]], .two ((hy.same sm).same s2) hu, by simp, fun z H3 s3 hz => q2 z H3 ((sm.trans s2).trans s3) hz⟩)
    have okl : ∀ b ∈ bs, BOk b := hb
    have hkl : kvs.length = bs.length := by
      have := congrArg List.length e
      simpa using this
    refine ⟨d, fl, kvs, _, G, rfl, rfl, hD.extN e1, KF, hG, fun k hk => ?_, ?_, by omega, fun p ys H3 np s3 hp ay => ?_⟩
    · rw [e] at hk
      obtain ⟨b, hb', rfl⟩ := List.mem_map.mp hk
      exact ⟨b, rfl, okl b hb'⟩
    · rw [e]
      exact b_ranked okl
    · rw [e, byRk_map] at ay
      have er : (fun b : Bel => rkN (belK (eB b))) = rB := by
        funext b
        rw [belK_e, rkN_k]
      rw [er] at ay
      refine ⟨.ref p, _, rfl, Seq.lst (SqL.of hp) ay, by rw [List.length_map, byRk_length]; omega, fun u H4 s4 hu => ?_⟩
      have s34 := s3.trans s4
      exact q u (byRk rB bs) H4 (e1.trans (.of fun b o z => s34 b o z)) (t1.ext fun b o z => s34 b o z) (byRk_strict nd fun a ha b hb' => rB_inj (okl a ha) (okl b hb')) (fun b => byRk_mem) hu
end
end M

/-! tables of code objects beside what is written; lots in a line -/
namespace M
open PySem PySem.Spec PyProof.Rows L2
open LamX (CodeO TabS TabB ExtN)
theorem heap_with (S : Addr) (o : Obj) (h : o.isFreed = false) : ∃ g : Heap, g.get? S = some o := by
  refine ⟨⟨Array.replicate (S + 1) o, {}⟩, ?_⟩
  unfold Heap.get?
  have e : (Array.replicate (S + 1) o)[S]? = some o := by simp
  rw [e]
  obtain ⟨c, d, dt, sl⟩ := o
  cases dt <;> first | rfl | (exact absurd h (by simp [Obj.isFreed]))
theorem nd_ne_code {S : Addr} {o : Obj} {q : Str} {es : Array DictEntry} {ep : Nat} (hd : o.data = .dict es ep) : NdO S o ≠ CodeO S q := fun z => by
  unfold NdO CodeO at z
  injection z with z
  obtain ⟨g, hg⟩ := heap_with S o (by
    obtain ⟨c, d, dt, sl⟩ := o
    have hd : dt = .dict es ep := hd
    subst hd
    rfl)
  have e := congrFun z g
  rw [hg] at e
  obtain ⟨oc, vs, t, e1, e2, _⟩ := (iff_of_eq e).mp rfl
  obtain rfl := Option.some.inj e1
  rw [hd] at e2
  cases e2
section
variable {P : Program} {w : World} {K : PySem.W.Frag} {H H' : Hp} {Pt S L : Addr} {q : Str} {kvs : List (NK × V)} {o : HO}
theorem TabS.put {u : HO} (t : TabS H Pt q) (h : H S = some u) (n1 : ∀ ps, u ≠ .tbl ps) (n2 : u ≠ CodeO S q) : TabS (upd H S o) Pt q := by
  obtain ⟨ps, h1, h2, h3⟩ := t
  refine ⟨ps, (upd_ne fun z => ?_).trans h1, h2, fun pos cv hc => ?_⟩
  · rw [z, h] at h1
    exact n1 ps (Option.some.inj h1)
  · obtain ⟨c, e1, e2⟩ := h3 pos cv hc
    refine ⟨c, e1, (upd_ne fun z => ?_).trans e2⟩
    subst z
    rw [h] at e2
    exact n2 (Option.some.inj e2)
theorem TabS.dk (t : TabS H Pt q) (h : DK P w K H S kvs) : TabS (upd H S o) Pt q := by
  obtain ⟨ob, h1, xs, ⟨es, ep, _, h3, _⟩, _⟩ := h
  exact TabS.put t h1 (fun ps z => nomatch z) (nd_ne_code h3)
theorem TabS.lst {xs : List V} (t : TabS H Pt q) (h : H L = some (.lst xs)) : TabS (upd H L o) Pt q := TabS.put t h (fun ps z => nomatch z) fun z => by
  unfold CodeO at z
  cases z
theorem TabS.same (t : TabS H Pt q) (s : Same H H') : TabS H' Pt q := t.ext fun b o e => s b o e
theorem extn_put {H0 : Hp} (e : ExtN H0 H) (n : H0 S = none) : ExtN H0 (upd H S o) := fun b u h k => by
  rw [upd_ne (ne_of_none h n)]
  exact e b u h k
theorem extn_same (s : Same H H') : ExtN H H' := .of fun b o e => s b o e
theorem Bare.extN {v : V} {ks : List NK} (h : Bare K H v ks) (e : ExtN H H') : Bare K H' v ks := by
  obtain ⟨a, xs, e0, ⟨o, h1, h2⟩, h3⟩ := h
  exact ⟨a, xs, e0, ⟨o, e _ _ h1 (fun _ z => nomatch z), h2⟩, h3.ext (ext_of_n e)⟩
theorem Tg.extN {v : V} {T : Th} (h : Tg K H v T) (e : ExtN H H') : Tg K H' v T := by
  obtain ⟨a, vc, vs, e0, q, b, r⟩ := h
  exact ⟨a, vc, vs, e0, ext_of_n e _ _ q, b.extN e, r.ext (ext_of_n e)⟩
/-- a lot of beliefs, as a dict that is not S -/
def LotD (P : Program) (w : World) (K : PySem.W.Frag) (Z : Th) (H : Hp) (S : Addr) (x : V) : Prop := ∃ (d : Addr) (kvs : List (NK × V)) (ls : List Bel), x = .ref d ∧ DK P w K H d kvs ∧ kvs.map (·.1) = ls.map eB ∧ ls.Nodup ∧ (∀ b ∈ ls, BT Z b) ∧ d ≠ S
theorem LotD.extN {Z : Th} {x : V} (h : LotD P w K Z H S x) (e : ExtN H H') : LotD P w K Z H' S x := by
  obtain ⟨d, kvs, ls, e1, h1, r⟩ := h
  exact ⟨d, kvs, ls, e1, h1.extN e, r⟩
theorem LotD.dk {Z : Th} {x : V} {kv : List (NK × V)} (h : LotD P w K Z H S x) (hS : DK P w K H S kv) : LotD P w K Z (upd H S o) S x := by
  obtain ⟨d, kvs, ls, e1, h1, e2, e3, e4, ne⟩ := h
  obtain ⟨u, hu, mu⟩ := hS.mut
  exact ⟨d, kvs, ls, e1, h1.other hu mu ne, e2, e3, e4, ne⟩
theorem LotD.lst {Z : Th} {x : V} {xs : List V} (h : LotD P w K Z H S x) (hL : H L = some (.lst xs)) : LotD P w K Z (upd H L o) S x := by
  obtain ⟨d, kvs, ls, e1, h1, e2, e3, e4, ne⟩ := h
  exact ⟨d, kvs, ls, e1, h1.other hL trivial (nd_not_lst h1 hL), e2, e3, e4, ne⟩
/-- the line of lots, and those that were seen -/
structure MB (P : Program) (w : World) (K : PySem.W.Frag) (Z : Th) (H : Hp) (L S : Addr) (n : Nat) (ds : List V) : Prop where
  l : H L = some (.lst ds)
  d : ∀ x ∈ ds, LotD P w K Z H S x
  s : ∃ kvs, DK P w K H S kvs ∧ kvs.length ≤ ds.length
  n : ds.length ≤ n
theorem MB.extN {Z : Th} {n : Nat} {ds : List V} (h : MB P w K Z H L S n ds) (e : ExtN H H') : MB P w K Z H' L S n ds :=
  ⟨e _ _ h.l (fun _ z => nomatch z), fun x hx => (h.d x hx).extN e, let ⟨kvs, h1, h2⟩ := h.s; ⟨kvs, h1.extN e, h2⟩, h.n⟩
theorem MB.same {Z : Th} {n : Nat} {ds : List V} (h : MB P w K Z H L S n ds) (s : Same H H') : MB P w K Z H' L S n ds := h.extN (extn_same s)
/-- another list written -/
theorem MB.lst {Z : Th} {n : Nat} {ds xs : List V} {E : Addr} (h : MB P w K Z H L S n ds) (hE : H E = some (.lst xs)) (ne : L ≠ E) : MB P w K Z (upd H E o) L S n ds :=
  ⟨(upd_ne ne).trans h.l, fun x hx => (h.d x hx).lst hE, let ⟨kvs, h1, h2⟩ := h.s; ⟨kvs, h1.other hE trivial (nd_not_lst h1 hE), h2⟩, h.n⟩
/-- all but a list stays -/
theorem Bare.but {v : V} {ks : List NK} {E : Addr} {xs : List V} (h : Bare K H v ks) (hE : H E = some (.lst xs)) (sb : ∀ b o, b ≠ E → H b = some o → H' b = some o) (ex : Ext K H H') : Bare K H' v ks := by
  obtain ⟨a, zs, e0, ⟨o, h1, h2⟩, h3⟩ := h
  exact ⟨a, zs, e0, ⟨o, sb _ _ (fun z => by rw [z, hE] at h1; cases h1) h1, h2⟩, h3.ext ex⟩
theorem Tg.but {v : V} {T : Th} {E : Addr} {xs : List V} (h : Tg K H v T) (hE : H E = some (.lst xs)) (sb : ∀ b o, b ≠ E → H b = some o → H' b = some o) (ex : Ext K H H') : Tg K H' v T := by
  obtain ⟨a, vc, vs, e0, q, b, r⟩ := h
  exact ⟨a, vc, vs, e0, ex _ _ q, b.but hE sb ex, r.ext ex⟩
theorem TabS.but {E : Addr} {xs : List V} (t : TabS H Pt q) (hE : H E = some (.lst xs)) (sb : ∀ b o, b ≠ E → H b = some o → H' b = some o) : TabS H' Pt q := by
  obtain ⟨ps, h1, h2, h3⟩ := t
  refine ⟨ps, sb _ _ (fun z => by rw [z, hE] at h1; cases h1) h1, h2, fun pos cv hc => ?_⟩
  obtain ⟨c, e1, e2⟩ := h3 pos cv hc
  exact ⟨c, e1, sb _ _ (fun z => by rw [z, hE] at e2; unfold CodeO at e2; cases e2) e2⟩
theorem DK.but {d E : Addr} {xs : List V} (h : DK P w K H d kvs) (hE : H E = some (.lst xs)) (sb : ∀ b o, b ≠ E → H b = some o → H' b = some o) (ex : Ext K H H') : DK P w K H' d kvs := h.mono ex fun o e => sb _ _ (nd_not_lst h hE) e
theorem LotD.but {Z : Th} {x : V} {E : Addr} {xs : List V} (h : LotD P w K Z H S x) (hE : H E = some (.lst xs)) (sb : ∀ b o, b ≠ E → H b = some o → H' b = some o) (ex : Ext K H H') : LotD P w K Z H' S x := by
  obtain ⟨d, kvs, ls, e1, h1, r⟩ := h
  exact ⟨d, kvs, ls, e1, h1.but hE sb ex, r⟩
theorem MB.but {Z : Th} {n : Nat} {ds xs : List V} {E : Addr} (h : MB P w K Z H L S n ds) (hE : H E = some (.lst xs)) (ne : L ≠ E) (sb : ∀ b o, b ≠ E → H b = some o → H' b = some o) (ex : Ext K H H') : MB P w K Z H' L S n ds :=
  ⟨sb _ _ ne h.l, fun x hx => (h.d x hx).but hE sb ex, let ⟨kvs, h1, h2⟩ := h.s; ⟨kvs, h1.but hE sb ex, h2⟩, h.n⟩
/-- what the law's step asks of the beliefs -/
def selE : Ev → Bel → Bool
  | .call _, b => decide (b.2 = .idle)
  | .back _, _ => true
/-- tuples as addresses -/
theorem ats_fl : ∀ {ys : List V} {ks : List NK}, Ats K H ys ks → (∀ k ∈ ks, ∃ l, k = .tup l) → ∃ L : FL, ys = L.map (fun p => V.ref p.1) ∧ L.map (·.2) = ks ∧ ∀ p ∈ L, At K H (.ref p.1) p.2
  | _, [], h, _ => by
    cases h
    exact ⟨[], rfl, rfl, fun p hp => by cases hp⟩
  | _, k :: ks, h, ht => by
    cases h with
    | @cons y _ ys _ a b =>
      obtain ⟨L, e1, e2, e3⟩ := ats_fl b fun l hl => ht l (List.mem_cons_of_mem _ hl)
      obtain ⟨l, rfl⟩ := ht k List.mem_cons_self
      obtain ⟨c, zs, rfl, _, _⟩ := id a.tup_inv
      refine ⟨(c, .tup l) :: L, by rw [e1]; rfl, by rw [← e2]; rfl, fun p hp => ?_⟩
      rcases List.mem_cons.mp hp with rfl | hp
      · exact a
      · exact e3 p hp
theorem eE_flat (e : Ev) : Flat (eE e) := by
  cases e with
  | call c => exact ⟨_, rfl, fun x hx => by
      simp only [List.mem_cons, List.not_mem_nil, or_false] at hx
      rcases hx with rfl | rfl | rfl | rfl
      · exact .inr ⟨_, rfl⟩
      · exact .inl ⟨_, rfl⟩
      · exact .inr ⟨_, rfl⟩
      · exact .inl ⟨_, rfl⟩⟩
  | back r => exact ⟨_, rfl, fun x hx => by
      simp only [List.mem_cons, List.not_mem_nil, or_false] at hx
      rcases hx with rfl | rfl | rfl
      · exact .inr ⟨_, rfl⟩
      · exact .inl ⟨_, rfl⟩
      · exact .inl ⟨_, rfl⟩⟩
/-- a list of event keys is one of events -/
theorem evs_of {ks : List NK} {es : List Ev} (h : ∀ k ∈ ks, k ∈ es.map eE) : ∃ fs : List Ev, ks = fs.map eE ∧ ∀ f ∈ fs, f ∈ es := by
  induction ks with
  | nil => exact ⟨[], rfl, fun f hf => by cases hf⟩
  | cons k ks ih =>
    obtain ⟨fs, e1, e2⟩ := ih fun x hx => h x (List.mem_cons_of_mem _ hx)
    obtain ⟨e, he, rfl⟩ := List.mem_map.mp (h k List.mem_cons_self)
    refine ⟨e :: fs, by rw [e1]; rfl, fun f hf => ?_⟩
    rcases List.mem_cons.mp hf with rfl | hf
    · exact he
    · exact e2 f hf
theorem lot_deep (ls : List Bel) : (NestedKey.tup (ls.map eB)).depth ≤ 8 := by
  have b4 : ∀ b : Bel, (eB b).depth ≤ 4 := fun b => by
    obtain ⟨s, x⟩ := b
    cases x <;> simp [eB, eW, NestedKey.depth, NestedKey.depthAll]
  have : ∀ l : List Bel, NestedKey.depthAll (l.map eB) ≤ 4 := by
    intro l
    induction l with
    | nil => simp [NestedKey.depthAll]
    | cons b l ih =>
      have := b4 b
      simp only [List.map_cons, NestedKey.depthAll]
      omega
  have := this ls
  simp only [NestedKey.depth]
  omega
end
end M

/-! how many lots there are, the law's way: it ends with a number or a text -/
namespace M
open PySem PySem.Spec PyProof.Rows L2
open LamX (CodeO TabS TabB ExtN)
section
variable {P : Program} {w : World} {K : PySem.W.Frag} {mg : Str → Option Value} {base : Heap}
abbrev nMany : List Str := ["thing", "hands", "most", "first", "line", "seen", "at", "beliefs", "events", "hand", "has", "event", "lot", "what", "one", "word", "number"]
theorem scLMany : FnScope nMany ["thing", "hands", "most"] (defScope sLManyLots) := ⟨rfl, rfl, rfl, by decide +kernel, rfl, by decide +kernel, by decide +kernel⟩
def spLMany (P : Program) (w : World) (K : PySem.W.Frag) (Pt : Addr) : Sp := fun vs H Q _ => ∃ (T : Th) (v : V), vs = [v, .int 1, .int 200] ∧ Tg K H v T ∧ TOk T ∧ TabS H Pt qLot ∧
  ∀ z H', ExtN H H' → TabS H' Pt qLot → ((∃ n : Int, z = .int n) ∨ z = .str "many") → Q z H'
theorem k_law_many {Pt : Addr} (T : Tx K mg) (D : Df K mg "_law_many_lots" sLManyLots ["thing", "hands", "most"]) (F1 : Kn P w K mg base 3 "_law_behind" ["thing", "beliefs", "event"] (spLBehind P w K)) (F2 : Kn P w K mg base 5 "_law_lot" ["beliefs"] (spLLot P w K Pt)) :
    Kn P w K mg base 6 "_law_many_lots" ["thing", "hands", "most"] (spLMany P w K Pt) := by
  refine D.kn scLMany (fun vs H Q E h => ?_) (fun f cdv A outer s H vs Q E hr h => ?_)
  · obtain ⟨Z, v, rfl, _⟩ := h
    rfl
  · obtain ⟨Z, v, rfl, hv, hZ, hT, q⟩ := h
    refine ⟨_, pss_cons (ps_set (i := 3) scLMany.nd rfl (Or.inl rfl) (pe_nd1 hr.units (pe_tupN (pa_cons pe_int (pa_cons (pe_op op_mul1 (pe_tupN (pa_cons pe_non pa_nil)) (pv 1)) pa_nil))) pe_bl))
      (pss_cons (ps_par3 (i := 4) (j := 5) (l := 6) rfl scLMany.nd rfl rfl rfl (by decide) (by decide) (by decide) rfl rfl rfl (pa_cons (pe_lst (pa_cons (pv 3) pa_nil)) (pa_cons (pe_nd1 hr.units (pe_kn F2 hr (pa_cons (pv 3) pa_nil)) pe_bl) (pa_cons pe_int pa_nil))) rfl)
      (pss_cons (ps_while PassesOwn.never (pt_cmpR op_lt (pv 6) (pe_callB call_len_seq (by rfl) T.len PySem.boot_len (pa_cons (pv 4) pa_nil)) (nomark _))
        (pss_cons (ps_set (i := 7) scLMany.nd rfl (Or.inl rfl) (pe_ix ix_list (pv 4) (pv 6) (fun _ _ => rfl)))
        (pss_cons (ps_set (i := 8) scLMany.nd rfl (Or.inl rfl) (pe_lst pa_nil))
        (pss_cons (ps_for PassesOwn.never rfl (pi_range1 (by rfl) T.range (pa_cons (pv 1) pa_nil)) (pg_name (i := 9) scLMany.nd rfl (Or.inr rfl))
          (pss_cons (ps_set (i := 10) scLMany.nd rfl (Or.inr rfl) (pe_lc (own := [("what", 13)]) (g := gName 13) (tt := tYes) rfl scLMany.nd
              (pi_list (pe_lc (own := [("one", 14)]) (g := gName 14) (tt := tYes) rfl scLMany.nd (pi_n (pv 7)) (blkOk_by (N := nMany) (sc := defScope sLManyLots) (by decide +kernel)) (fun _ _ _ _ _ => pg_name (i := 14) scLMany.nd rfl (Or.inl rfl)) (fun _ _ _ _ _ => pts_nil)
                (fun _ _ _ _ _ => pe_ix (ix_nK (K := K) rfl) (pe_ix (ix_nK (K := K) rfl) (pv 14) pe_int (fun _ _ => rfl)) (pv 9) (fun _ _ => rfl))))
              (blkOk_by (N := nMany) (sc := defScope sLManyLots) (by decide +kernel)) (fun _ _ _ _ _ => pg_name (i := 13) scLMany.nd rfl (Or.inl rfl)) (fun _ _ _ _ _ => pts_nil) (fun _ _ _ _ _ => pv 13)))
          (pss_cons (ps_expr (pe_bm F.plainAttrs_list F.slot_list_extend F.type_list_extend mt_extend (pv 8) (pa_cons
            (pe_lc (own := [("word", 15), ("number", 16)]) rfl scLMany.nd (pi_tup (pe_ix ix_t0 (pv 0) pe_int (fun _ _ => rfl))) (blkOk_by (N := nMany) (sc := defScope sLManyLots) (by decide +kernel))
              (fun _ _ _ _ _ => pg_tupK (K := K) (n := 2) rfl rfl (pgs_cons (pg_name (i := 15) scLMany.nd rfl (Or.inl rfl)) (pgs_cons (pg_name (i := 16) scLMany.nd rfl (Or.inl rfl)) pgs_nil)))
              (fun _ _ _ _ _ => pts_one (pt_cmpR (op_inNK (K := K) rfl hr.units) pe_non (pv 10) (by rfl)))
              (fun _ _ _ _ _ => pe_tupK (K := K) rfl (pa_cons pe_str (pa_cons (pv 9) (pa_cons (pv 15) (pa_cons (pv 16) pa_nil)))))) pa_nil)))
          (pss_one (ps_expr (pe_bm F.plainAttrs_list F.slot_list_extend F.type_list_extend mt_extend (pv 8) (pa_cons
            (pe_lc (own := [("what", 13)]) (g := gName 13) rfl scLMany.nd (pi_list (pv 10)) (blkOk_by (N := nMany) (sc := defScope sLManyLots) (by decide +kernel))
              (fun _ _ _ _ _ => pg_name (i := 13) scLMany.nd rfl (Or.inl rfl))
              (fun _ _ _ _ _ => pts_one (PW.pt (pw_and (pt_cmp (pc_notN (pv 13))) (pw_and1 (pt_cmpR (op_eqNK (K := K) rfl hr.units) (pe_ix (ix_nK (K := K) rfl) (pv 13) pe_int (fun _ _ => rfl)) pe_str (nomark _))))))
              (fun _ _ _ _ _ => pe_tupK (K := K) rfl (pa_cons pe_str (pa_cons (pv 9) (pa_cons (pe_ix (ix_nK (K := K) rfl) (pv 13) pe_int (fun _ _ => rfl)) pa_nil))))) pa_nil)))))))
        (pss_cons (ps_for PassesOwn.never rfl (pi_list (pe_callB (sorted_flat rfl hr.units rkE) (by rfl) T.sorted boot_sorted (pa_cons (pe_callTy (set_flat rfl hr.units) (by rfl) T.set PyProof.Rows.boot_set (pa_cons (pv 8) pa_nil)) pa_nil))) (pg_name (i := 11) scLMany.nd rfl (Or.inr rfl))
          (pss_cons (ps_set (i := 12) scLMany.nd rfl (Or.inl rfl) (pe_kn F1 (hr.mono (by decide)) (pa_cons (pv 0) (pa_cons
              (pe_lc (own := [("one", 14)]) (g := gName 14) rfl scLMany.nd (pi_n (pv 7)) (blkOk_by (N := nMany) (sc := defScope sLManyLots) (by decide +kernel))
                (fun _ _ _ _ _ => pg_name (i := 14) scLMany.nd rfl (Or.inl rfl))
                (fun _ _ _ _ _ => pts_one (PW.pt (pw_or (pt_cmpR (op_eqNK (K := K) rfl hr.units) (pe_ix (ix_nK (K := K) rfl) (pv 11) pe_int (fun _ _ => rfl)) pe_str (nomark _)) (pw_or1 (pt_cmp (pc_isN (pe_ix (ix_nK (K := K) rfl) (pe_ix (ix_nK (K := K) rfl) (pv 14) pe_int (fun _ _ => rfl)) (pe_ix (ix_nK (K := K) rfl) (pv 11) pe_int (fun _ _ => rfl)) (fun _ _ => rfl))))))))
                (fun _ _ _ _ _ => pv 14)) (pa_cons (pv 11) pa_nil)))))
          (pss_one (ps_if (PW.pt (pw_and (pt_cmpR (op_neE hr.units) (pv 12) pe_ndNew (nomark _)) (pw_and1 (pt_cmpR (op_notInD hr.units) (pe_kn F2 hr (pa_cons (pv 12) pa_nil)) (pv 5) (by rfl)))))
            (pss_cons (ps_ndPut hr.units (pv 5) (pe_kn F2 hr (pa_cons (pv 12) pa_nil)) pe_bl)
            (pss_one (ps_expr (pe_bm F.plainAttrs_list F.slot_list_append F.type_list_append mt_append (pv 4) (pa_cons (pv 12) pa_nil)))))
            pss_nil))))
        (pss_cons (ps_if (pt_cmpR op_gt (pe_callB call_len_seq (by rfl) T.len PySem.boot_len (pa_cons (pv 4) pa_nil)) (pv 2) (nomark _)) (pss_one (ps_ret pe_str)) pss_nil)
        (pss_one (ps_aug (i := 6) scLMany.nd rfl (Or.inl rfl) pe_int ip_add))))))))
      (pss_one (ps_ret (pe_callB call_len_seq (by rfl) T.len PySem.boot_len (pa_cons (pv 4) pa_nil)))))), ?_⟩
    -- WALK
    have kc : PyData.strOk "call" = true := by decide +kernel
    have kb : PyData.strOk "back" = true := by decide +kernel
    have kh : PyData.strOk "has" = true := by decide +kernel
    refine fun D0 o0 nD h00 => ?_
    have sD : Same H (upd H D0 o0) := same_upd nD
    refine ⟨[.none], .one .non, by decide, fun p H3 s3 hp => ⟨.int 1, rfl, _, hp, rfl, ?_⟩⟩
    refine ⟨[.num 0, .tup [.none]], .two (.int 0) hp, by decide, fun z H2 s4 hz => ?_⟩
    have hz : At K H2 z (eB (0, .idle)) := hz
    refine ⟨_, hz, (b_deep _).1, ⟨_, rfl⟩, h00.same (s3.trans s4), fun ob hob => ?_⟩
    have sm5 : Same H (upd H2 D0 ob) := fun b o e => by
      rw [upd_ne (ne_of_none e nD)]
      exact (sD.trans (s3.trans s4)) _ _ e
    generalize upd H2 D0 ob = H5 at *
    -- the line, what was seen
    refine ⟨.ref D0, rfl, by show 1 ≤ sizeLine; decide, fun L nL => ?_⟩
    have sL : Same H5 (upd H5 L (.lst [.ref D0])) := same_upd nL
    have hL : upd H5 L (.lst [.ref D0]) L = some (.lst [.ref D0]) := upd_same
    have nL0 : H L = none := sm5.free nL
    generalize upd H5 L (.lst [.ref D0]) = H6 at *
    refine fun S0 oS nS hS0 => ?_
    have sS : Same H6 (upd H6 S0 oS) := same_upd nS
    have nS0 : H S0 = none := (sm5.trans sL).free nS
    have sm7 := (sm5.trans sL).trans sS
    have hD7 := hob.same (sL.trans sS)
    have hL7 := sS _ _ hL
    have neD0 : D0 ≠ S0 := fun e => by
      obtain ⟨o, hO, _⟩ := hob.same sL
      rw [e, nS] at hO
      cases hO
    generalize upd H6 S0 oS = H7 at *
    have n0 : 0 < Z.n := hZ.one
    have ok0 : ∀ b ∈ [((0, .idle) : Bel)], BT Z b := fun b hb => by
      rw [List.mem_singleton.mp hb]
      exact ⟨n0, trivial, fun c e => by cases e⟩
    refine ⟨.ref D0, rfl, D0, _, [(0, .idle)], rfl, hD7, rfl, by simp, fun b hb => (ok0 b hb).ok hZ, by simp, TabS.same hT sm7, fun zl ls H8 e8 t8 lot mem hzl => ?_⟩
    refine ⟨_, hzl, lot_deep ls, ⟨_, rfl⟩, hS0.extN e8, fun oT hT2 => ?_⟩
    refine ⟨_, _, _, rfl, ?_⟩
    have e80 : ExtN H H8 := (extn_same sm7).trans e8
    have eS : ExtN H (upd H8 S0 oT) := extn_put e80 nS0
    have tS : TabS (upd H8 S0 oT) Pt qLot := TabS.dk t8 (hS0.extN e8)
    have l8 : LotD P w K Z H8 S0 (.ref D0) := ⟨D0, _, [(0, .idle)], rfl, hD7.extN e8, rfl, by simp, ok0, neD0⟩
    have mb0 : MB P w K Z (upd H8 S0 oT) L S0 1 [.ref D0] := ⟨(upd_ne (Ne.symm (nd_not_lst (hS0.extN e8) (e8 _ _ hL7 fun _ z => nomatch z)))).trans (e8 _ _ hL7 fun _ z => nomatch z), fun x hx => by
      rw [List.mem_singleton.mp hx]
      exact l8.dk (hS0.extN e8), ⟨_, hT2, by simp⟩, Nat.le_refl _⟩
    generalize upd H8 S0 oT = H9 at *
    clear hS0 l8 hD7 hL7 sS nS hL sL nL hob sm5 sD s3 s4 hzl mem lot hT2 e8 t8
    refine ⟨fun m σ H' => ∃ (t n : Nat) (ds : List V) (p7 p8 p9 p10 p11 p12 : Option V), σ = [some v, some (.int 1), some (.int 200), some (.ref D0), some (.ref L), some (.ref S0), some (.int t), p7, p8, p9, p10, p11, p12, none, none, none, none] ∧ ExtN H H' ∧ TabS H' Pt qLot ∧ MB P w K Z H' L S0 n ds ∧ n ≤ 200 ∧ m = 200 - t, ⟨200, ?_⟩, ?_⟩
    · exact ⟨0, 1, _, none, none, none, none, none, none, rfl, eS, tS, mb0, by decide, rfl⟩
    · rintro m _ H1 ⟨t, n, ds, p7, p8, p9, p10, p11, p12, rfl, e1, t1, mb, hn, rfl⟩
      clear eS tS mb0
      have ln := mb.n
      refine ⟨.int t, rfl, .ref L, rfl, L, ds, rfl, .inl (SqL.of mb.l), _, _, rfl, rfl, _, rfl, ?_⟩
      by_cases lt : t < ds.length
      · rw [decide_eq_true (show ((t : Nat) : Int) < ((ds.length : Nat) : Int) by omega)]
        refine iteT ⟨fun σ H' => ∃ m', m' < 200 - t ∧ ∃ (t n : Nat) (ds : List V) (p7 p8 p9 p10 p11 p12 : Option V), σ = [some v, some (.int 1), some (.int 200), some (.ref D0), some (.ref L), some (.ref S0), some (.int t), p7, p8, p9, p10, p11, p12, none, none, none, none] ∧ ExtN H H' ∧ TabS H' Pt qLot ∧ MB P w K Z H' L S0 n ds ∧ n ≤ 200 ∧ m' = 200 - t, fun σ' H' z => z, ?_⟩
        refine ⟨.ref L, rfl, .int t, rfl, L, ds, t, ds[t], rfl, rfl, SqL.of mb.l, atI_nat (List.getElem?_eq_getElem lt), ?_⟩
        have lD := mb.d ds[t] (List.getElem_mem lt)
        generalize ds[t] = xb at *
        obtain ⟨d, kvs, ls, rfl, hD, ek, nd, hbt, neS⟩ := id lD
        have lls : ls.length ≤ 56 := lot_len hZ nd hbt
        have lkv : kvs.length = ls.length := by
          have := congrArg List.length ek
          simpa using this
        refine ⟨by decide, fun E0 nE => ?_⟩
        have sE : Same H1 (upd H1 E0 (.lst [])) := same_upd nE
        have hE : upd H1 E0 (.lst []) E0 = some (.lst []) := upd_same
        have neL : L ≠ E0 := ne_of_none mb.l nE
        have e2 : ExtN H (upd H1 E0 (.lst [])) := e1.trans (extn_same sE)
        have t2 := TabS.same t1 sE
        have mb2 := mb.same sE
        have hD2 := hD.same sE
        have lD2 := lD.extN (extn_same sE)
        have hv2 := hv.extN e2
        generalize upd H1 E0 (.lst []) = H2 at *
        -- for hand in range(1)
        refine ⟨.int 1, rfl, 1, rfl, by decide, by decide, ?_⟩
        refine for_it (walk_range (lo := 0) (n := (1 : Int).toNat)) (fun i σ H' => ∃ (p9 p10 p11 p12 : Option V), σ = [some v, some (.int 1), some (.int 200), some (.ref D0), some (.ref L), some (.ref S0), some (.int t), some (.ref d), some (.ref E0), p9, p10, p11, p12, none, none, none, none] ∧ (∀ b o, b ≠ E0 → H2 b = some o → H' b = some o) ∧ Ext K H2 H' ∧
          ∃ ys es, H' E0 = some (.lst ys) ∧ Ats K H' ys (es.map eE) ∧ (∀ e ∈ es, EvT Z e) ∧ (i = 0 → es = []) ∧ es.length ≤ 3 + ls.length) ?_ ?_ ?_ ?_
        · exact ⟨_, _, _, _, rfl, fun b o _ h => h, Ext.refl _, [], [], hE, .nil, (fun e he => by cases he), fun _ => rfl, Nat.zero_le _⟩
        · exact fun _ _ _ _ _ => trivial
        · rintro i z σ H3' H3 hi ⟨p9, p10, p11, p12, rfl, sb, ex, ys, es, hE3, hy, hev, he0, hlen⟩ ⟨rfl, rfl⟩
          have i0 : i = 0 := by
            have : i < 1 := hi
            omega
          subst i0
          obtain rfl := he0 rfl
          obtain rfl : ys = [] := by
            cases hy
            rfl
          have hD3 : DK P w K H3 d kvs := hD2.mono ex fun o ho => sb _ _ (nd_not_lst hD2 hE) ho
          have hv3 : Tg K H3 v Z := hv2.but hE sb ex
          obtain ⟨oD, hO3⟩ := id hD3
          refine ⟨.ref d, rfl, d, oD, kvs, rfl, hO3, fun D1 nD1 => ?_⟩
          refine lc_acc (K := K) (walkN (kvs := kvs)) nD1 (by omega) (fun H4 s4 => hO3.same s4) (fun i acc H4 => Ats K H4 acc ((ls.take i).map fun b : Bel => eW b.2)) (fun i acc H1 H2 e h => h.ext e) .nil (fun i z H4 H5 acc k k0 hi sm eD hr2 hz hk h0 => ?_) fun H4 acc1 sm4 eD1 hr1 => ?_
          · obtain ⟨eqH, kz, vz, hkz, hxz⟩ := hz
            subst eqH
            obtain ⟨b, hb1, ebk⟩ : ∃ b, ls[i]? = some b ∧ kz = eB b := by
              have : (kvs.map (·.1))[i]? = some kz := by rw [List.getElem?_map, hkz]; rfl
              rw [ek, List.getElem?_map] at this
              obtain ⟨b, h1, h2⟩ := Option.map_eq_some_iff.mp this
              exact ⟨b, h1, h2.symm⟩
            subst ebk
            have tk : ls.take (i + 1) = ls.take i ++ [b] := by
              rw [List.take_add_one, hb1]
              rfl
            refine ⟨rfl, lc_yes ?_⟩
            refine ⟨z, rfl, _, 1, .tup [eW b.2], hxz, rfl, rfl, fun y hy => ⟨.int 0, rfl, _, 0, eW b.2, hy, rfl, rfl, fun y2 hy2 => ?_⟩⟩
            refine hk y2 _ (Same.refl _) ?_
            rw [tk, List.map_append]
            exact hr2.append (.one hy2)
          · rw [lkv, List.take_length] at hr1
            refine ⟨D1, rfl, ⟨_, SqL.of eD1⟩, fun D2 nD2 => ?_⟩
            have la1 : acc1.length = ls.length := by rw [hr1.length, List.length_map]
            refine lc_acc (K := K) (walk_list (xs := acc1)) nD2 (by omega) (fun H5 s5 => SqL.of (s5 _ _ eD1)) (fun i acc H5 => Ats K H5 acc ((ls.map fun b : Bel => eW b.2).take i)) (fun i acc H1 H2 e h => h.ext e) .nil (fun i z H5 H6 acc k k0 hi sm eD hr2 hz hk h0 => ?_) fun H5 acc2 sm5 eD2 hr2 => ?_
            · obtain ⟨rfl, hz⟩ := hz
              obtain ⟨kz, hkz, hxz⟩ := (hr1.same sm).back hz
              refine ⟨rfl, lc_yes ⟨z, rfl, hk z _ (Same.refl _) ?_⟩⟩
              rw [List.take_add_one, hkz]
              exact hr2.append (.one hxz)
            · have la2 : (ls.map fun b : Bel => eW b.2).length = acc1.length := by rw [List.length_map, la1]
              rw [← la2, List.take_length] at hr2
              have s35 := sm4.trans sm5
              have hE5 := s35 _ _ hE3
              have hv5 := hv3.same s35
              have neE2 : E0 ≠ D2 := ne_of_none (sm4 _ _ hE3) nD2
              -- the calls
              refine ⟨.ref E0, rfl, .inl ⟨rfl, [], SqL.of hE5⟩, ?_⟩
              refine ⟨v, rfl, Z, hv5, rfl, fun yc hyc => ?_⟩
              obtain ⟨ac, xc, rfl, hsc, hac⟩ := hyc.at.tup_inv
              have lc : xc.length = Z.calls.length := by rw [hac.length, List.length_map]
              have few := hZ.few
              refine ⟨ac, rfl, ⟨_, hsc⟩, fun D3 nD3 => ?_⟩
              refine lc_acc (K := K) (walk_tup (xs := xc)) nD3 (by omega) (fun H6 s6 => Ext.of_same s6 _ _ hsc) (fun i acc H6 => ∃ es : List Ev, Ats K H6 acc (es.map eE) ∧ (∀ e ∈ es, EvT Z e) ∧ es.length ≤ i) (fun i acc H1 H2 e ⟨es, h1, h2⟩ => ⟨es, h1.ext e, h2⟩) ⟨[], .nil, (fun e he => by cases he), Nat.le_refl _⟩ (fun i x H6 H7 acc k k0 hi sm6 eD hr3 hx hkk hk0 => ?_) fun H6 acc3 sm6 eD3 hr3 => ?_
              · obtain ⟨rfl, hx⟩ := hx
                obtain ⟨c, hc, hxc⟩ := ats_map (hac.same sm6) hx
                obtain ⟨es, h1, h2, h3⟩ := hr3
                have cok := hZ.cok c (List.mem_of_getElem? hc)
                obtain ⟨a2, y1, y2, rfl, hs2, g1, g2⟩ := two_inv hxc
                obtain rfl := g1.text_inv
                obtain rfl := g2.num_inv
                refine ⟨a2, _, rfl, hs2, rfl, _, _, rfl, _, _, rfl, rfl, rfl, ?_⟩
                refine ⟨.ref D2, rfl, .none, _, .non, Seq.lst (SqL.of (sm6 _ _ eD2)) (hr2.same sm6), by simp [NestedKey.depth], _, rfl, ?_⟩
                cases hdec : (xor false (decide ((NestedKey.none : NK) ∈ ls.map fun b : Bel => eW b.2))) with
                | false => exact iteF (hk0 _ (Same.refl _) ⟨es, h1, h2, by omega⟩)
                | true =>
                  refine iteT ⟨.int 0, rfl, _, rfl, _, rfl, [.text "call", .num 0, .text c.1, .num c.2], .cons (.str _ kc) (.cons (.int 0) (.two g1 g2)), by simp, fun p H8 s8 hp => hkk p H8 s8 ⟨es ++ [.call c], ?_, fun e he => ?_, by simp; omega⟩⟩
                  · rw [List.map_append]
                    exact (h1.same s8).append (.one hp)
                  · rcases List.mem_append.mp he with he | he
                    · exact h2 e he
                    · rw [List.mem_singleton.mp he]
                      exact List.mem_of_getElem? hc
              · obtain ⟨es3, h31, h32, h33⟩ := hr3
                have hE6 := sm6 _ _ hE5
                have la3 := h31.length
                rw [List.length_map] at la3
                refine ⟨E0, D3, [], acc3, rfl, rfl, hE6, eD3, by rw [sizeLine_eq]; simp; omega, ?_⟩
                have exE : Ext K H6 (upd H6 E0 (.lst ([] ++ acc3))) := Ext.mut hE6 trivial
                have hE7 : upd H6 E0 (.lst ([] ++ acc3)) E0 = some (.lst ([] ++ acc3)) := upd_same
                have hD27 : upd H6 E0 (.lst ([] ++ acc3)) D2 = some (.lst acc2) := (upd_ne (Ne.symm neE2)).trans (sm6 _ _ eD2)
                have hr27 := (hr2.same sm6).ext exE
                have h317 := h31.ext exE
                have sb7 : ∀ b o, b ≠ E0 → H3 b = some o → upd H6 E0 (.lst ([] ++ acc3)) b = some o := fun b o ne h => (upd_ne ne).trans (sm6 _ _ (s35 _ _ h))
                have ex37 : Ext K H3 (upd H6 E0 (.lst ([] ++ acc3))) := (Ext.of_same (s35.trans sm6)).trans exE
                generalize upd H6 E0 (.lst ([] ++ acc3)) = H7 at *
                -- the backs
                refine ⟨.ref E0, rfl, .inl ⟨rfl, _, SqL.of hE7⟩, ?_⟩
                refine ⟨.ref D2, rfl, D2, rfl, ⟨_, SqL.of hD27⟩, fun D4 nD4 => ?_⟩
                have la4 : acc2.length = ls.length := by rw [hr27.length, List.length_map]
                refine lc_acc (K := K) (walk_list (xs := acc2)) nD4 (by omega) (fun H8 s8 => SqL.of (s8 _ _ hD27)) (fun i acc H8 => ∃ es : List Ev, Ats K H8 acc (es.map eE) ∧ (∀ e ∈ es, EvT Z e) ∧ es.length ≤ i) (fun i acc H1 H2 e ⟨es, h1, h2⟩ => ⟨es, h1.ext e, h2⟩) ⟨[], .nil, (fun e he => by cases he), Nat.le_refl _⟩ (fun i x H8 H9' acc k k0 hi sm8 eD hr3 hx hkk hk0 => ?_) fun H8 acc4 sm8 eD4 hr4 => ?_
                · obtain ⟨rfl, hx⟩ := hx
                  obtain ⟨kx, hkx, hxx⟩ := (hr27.same sm8).back hx
                  rw [List.getElem?_map] at hkx
                  obtain ⟨b, hb1, rfl⟩ := Option.map_eq_some_iff.mp hkx
                  obtain ⟨es, h1, h2, h3⟩ := hr3
                  have hbT := hbt b (List.mem_of_getElem? hb1)
                  obtain ⟨sn, wx⟩ := b
                  refine ⟨rfl, ?_⟩
                  cases wx with
                  | idle =>
                    obtain rfl := hxx.none_inv
                    exact ⟨.non, rfl, false, rfl, iteF (iteF (hk0 _ (Same.refl _) ⟨es, h1, h2, by omega⟩))⟩
                  | asks c =>
                    obtain ⟨a2, zs, rfl, _, _⟩ := id hxx.tup_inv
                    have nh : decide ((NestedKey.text "asks") = .text "has") = false := by decide +kernel
                    refine ⟨.ref a2, rfl, true, rfl, iteT ?_⟩
                    refine ⟨.ref a2, rfl, _, 0, .text "asks", hxx, rfl, rfl, fun y hy => ⟨.text "asks", .text "has", hy, .str _ kh, by decide, _, rfl, ?_⟩⟩
                    rw [nh]
                    exact iteF (hk0 _ (Same.refl _) ⟨es, h1, h2, by omega⟩)
                  | has r =>
                    obtain ⟨a2, zs, rfl, _, _⟩ := id hxx.tup_inv
                    have r9 : r ≤ 9 := hbT.2.1
                    refine ⟨.ref a2, rfl, true, rfl, iteT ?_⟩
                    refine ⟨.ref a2, rfl, _, 0, .text "has", hxx, rfl, rfl, fun y hy => ⟨.text "has", .text "has", hy, .str _ kh, by decide, _, rfl, ?_⟩⟩
                    rw [decide_eq_true rfl]
                    refine iteT ⟨.int 0, rfl, .ref a2, rfl, _, 1, .num r, hxx, rfl, rfl, fun y3 hy3 => ?_⟩
                    obtain rfl := hy3.num_inv
                    refine ⟨[.text "back", .num 0, .num r], .cons (.str _ kb) (.two (.int 0) (.int r)), by simp, fun p HA sA hp => hkk p HA sA ⟨es ++ [.back r], ?_, fun e he => ?_, by simp; omega⟩⟩
                    · rw [List.map_append]
                      exact (h1.same sA).append (.one hp)
                    · rcases List.mem_append.mp he with he | he
                      · exact h2 e he
                      · rw [List.mem_singleton.mp he]
                        exact r9
                · obtain ⟨es4, h41, h42, h43⟩ := hr4
                  have hE8 := sm8 _ _ hE7
                  have la5 := h41.length
                  rw [List.length_map] at la5
                  refine ⟨E0, D4, [] ++ acc3, acc4, rfl, rfl, hE8, eD4, by rw [sizeLine_eq]; simp; omega, ?_⟩
                  have exE8 : Ext K H8 (upd H8 E0 (.lst ([] ++ acc3 ++ acc4))) := Ext.mut hE8 trivial
                  refine ⟨_, _, _, _, rfl, fun b o ne h => (upd_ne ne).trans (sm8 _ _ (sb7 b o ne (sb b o ne h))), (ex.trans ex37).trans ((Ext.of_same sm8).trans exE8), _, es3 ++ es4, upd_same, ?_, fun e he => ?_, fun h => absurd h (by decide), ?_⟩
                  · rw [List.map_append]
                    exact ((h317.same sm8).append h41).ext exE8
                  · rcases List.mem_append.mp he with he | he
                    · exact h32 e he
                    · exact h42 e he
                  · rw [List.length_append]
                    omega
        · rintro σ H3 ⟨p9, p10, p11, p12, rfl, sb, ex, ys, es, hE3, hy, hev, _, hlen⟩
          have e3 : ExtN H H3 := fun b u h n => sb b u (ne_of_none (e1 b u h n) nE) (e2 b u h n)
          have t3 := TabS.but t2 hE sb
          have mb3 := mb2.but hE neL sb ex
          have lD3 := lD2.but hE sb ex
          obtain ⟨fl, rfl, ef, haf⟩ := ats_fl hy fun k hk => by
            obtain ⟨e, _, rfl⟩ := List.mem_map.mp hk
            exact (eE_flat e).imp fun _ z => z.1
          have flat : ∀ p ∈ fl, Flat p.2 := fun p hp => by
            have : p.2 ∈ fl.map (·.2) := List.mem_map_of_mem hp
            rw [ef] at this
            obtain ⟨e, _, e2⟩ := List.mem_map.mp this
            rw [← e2]
            exact eE_flat e
          have lfl : fl.length = es.length := by
            have := congrArg List.length ef
            simpa using this
          refine ⟨.ref E0, rfl, E0, fl, rfl, SqL.of hE3, fun p hp => ⟨haf p hp, flat p hp⟩, by omega, fun aS LS nS sub sup => ?_⟩
          have sS := same_upd (o := FSO w aS LS) nS
          have hS4 : upd H3 aS (FSO w aS LS) aS = some (FSO w aS LS) := upd_same
          have kLS : ∀ k ∈ LS.map (·.2), k ∈ es.map eE := fun k hk => by
            obtain ⟨p, hp, rfl⟩ := List.mem_map.mp hk
            rw [← ef]
            exact List.mem_map_of_mem (sub p hp)
          obtain ⟨fs, efs, hfs⟩ := evs_of kLS
          have e4 := e3.trans (extn_same sS)
          have t4 := TabS.same t3 sS
          have mb4 := mb3.same sS
          have lD4 := lD3.extN (extn_same sS)
          have haL : ∀ p ∈ LS, At K (upd H3 aS (FSO w aS LS)) (.ref p.1) p.2 := fun p hp => (haf p (sub p hp)).same sS
          refine ⟨aS, LS, rfl, hS4, fun p hp => ⟨haL p hp, flat p (sub p hp)⟩, by rw [efs]; exact e_ranked fun e he => (hev e (hfs e he)).ok hZ, fun pS ys2 ks2 nP perm len2 hy2 => ?_⟩
          obtain ⟨gs, rfl, hgs⟩ := evs_of (es := es) fun k hk => kLS k (perm.mem_iff.mp hk)
          have hgT : ∀ e ∈ gs, EvT Z e := fun e he => hev e (hgs e he)
          have lgs : gs.length < 64 := by simpa using len2
          have nP : upd H3 aS (FSO w aS LS) pS = none := nP
          have sP := same_upd (o := .lst ys2) nP
          have hP5 : upd (upd H3 aS (FSO w aS LS)) pS (.lst ys2) pS = some (.lst ys2) := upd_same
          have neLP : L ≠ pS := ne_of_none mb4.l nP
          have neSP : S0 ≠ pS := by
            obtain ⟨kvS, hS, _⟩ := mb4.s
            obtain ⟨u, hu, _⟩ := hS.mut
            exact ne_of_none hu nP
          have e5 := e4.trans (extn_same sP)
          have t5 := TabS.same t4 sP
          have mb5 := mb4.same sP
          have lD5 := lD4.extN (extn_same sP)
          have hy5 := hy2.same sP
          have lgy : ys2.length = gs.length := by rw [hy5.length, List.length_map]
          refine ⟨pS, rfl, ⟨_, SqL.of hP5⟩, ?_⟩
          refine for_it (walk_list (xs := ys2)) (fun i σ H' => ∃ (n' : Nat) (ds' : List V) (p11 p12 : Option V), σ = [some v, some (.int 1), some (.int 200), some (.ref D0), some (.ref L), some (.ref S0), some (.int t), some (.ref d), some (.ref E0), p9, p10, p11, p12, none, none, none, none] ∧ ExtN H H' ∧ TabS H' Pt qLot ∧ MB P w K Z H' L S0 n' ds' ∧ n' ≤ 200 + i ∧ LotD P w K Z H' S0 (.ref d) ∧ H' pS = some (.lst ys2) ∧ Ats K H' ys2 (gs.map eE)) ?_ ?_ ?_ ?_
          · exact ⟨n, ds, _, _, rfl, e5, t5, mb5, by omega, lD5, hP5, hy5⟩
          · rintro i σ H6 _ ⟨_, _, _, _, _, _, _, _, _, _, h1, _⟩
            exact SqL.of h1
          · rintro i x σ H6' H6 hi ⟨n', ds', p11, p12, rfl, e6, t6, mb6, hn6, lD6, hP6, hy6⟩ ⟨rfl, hx⟩
            obtain ⟨ev, hev6, hxe⟩ := ats_map hy6 hx
            have hT6 := hgT ev (List.mem_of_getElem? hev6)
            obtain ⟨d', kv6, ls6, ed, hD6, ek6, nd6, hbt6, ne6⟩ := id lD6
            cases ed
            have hv6 := hv.extN e6
            have ll6 : ls6.length ≤ 56 := lot_len hZ nd6 hbt6
            have lk6 : kv6.length = ls6.length := by
              have := congrArg List.length ek6
              simpa using this
            obtain ⟨oD, hO6⟩ := id hD6
            refine ⟨v, rfl, .ref d, rfl, d, oD, kv6, rfl, hO6, fun D5 nD5 => ?_⟩
            refine lc_acc (K := K) (walkN (kvs := kv6)) nD5 (by omega) (fun H7 s7 => hO6.same s7) (fun i acc H7 => Ats K H7 acc (((ls6.take i).filter (selE ev)).map eB)) (fun i acc H1 H2 e h => h.ext e) .nil (fun i z H7 H8 acc k k0 hi sm eD hr2 hz hk h0 => ?_) fun H7 acc7 sm7 eD7 hr7 => ?_
            · obtain ⟨eqH, kz, vz, hkz, hxz⟩ := hz
              subst eqH
              obtain ⟨b, hb1, ebk⟩ : ∃ b, ls6[i]? = some b ∧ kz = eB b := by
                have : (kv6.map (·.1))[i]? = some kz := by rw [List.getElem?_map, hkz]; rfl
                rw [ek6, List.getElem?_map] at this
                obtain ⟨b, h1, h2⟩ := Option.map_eq_some_iff.mp this
                exact ⟨b, h1, h2.symm⟩
              subst ebk
              have ft := filter_take (selE ev) eB ls6 i b hb1
              have hxv := hxe.same sm
              refine ⟨rfl, ?_⟩
              cases ev with
              | back r =>
                refine ⟨x, rfl, _, 0, .text "back", hxv, rfl, rfl, fun y hy => ⟨.text "back", .text "back", hy, .str _ kb, by decide, _, rfl, ?_⟩⟩
                rw [decide_eq_true rfl]
                refine iteT (iteT ⟨z, rfl, hk z _ (Same.refl _) ?_⟩)
                rw [ft, if_pos (show selE (.back r) b = true from rfl)]
                exact hr2.append (.one hxz)
              | call c =>
                have nb : decide ((NestedKey.text "call") = .text "back") = false := by decide +kernel
                refine ⟨x, rfl, _, 0, .text "call", hxv, rfl, rfl, fun y hy => ⟨.text "call", .text "back", hy, .str _ kb, by decide, _, rfl, ?_⟩⟩
                rw [nb]
                refine iteF ⟨z, rfl, _, 1, .tup [eW b.2], hxz, rfl, rfl, fun y2 hy2 => ⟨x, rfl, _, 1, .num 0, hxv, rfl, rfl, fun y3 hy3 => ?_⟩⟩
                obtain rfl := hy3.num_inv
                refine ⟨_, 0, eW b.2, hy2, rfl, rfl, fun y4 hy4 => ?_⟩
                have e1 : decide (y4 = V.non) = decide (b.2 = .idle) := by
                  obtain ⟨sn, wx⟩ := b
                  cases wx with
                  | idle =>
                    rw [hy4.none_inv]
                    rfl
                  | asks c =>
                    obtain ⟨p, _, rfl, _⟩ := hy4.tup_inv
                    rfl
                  | has r =>
                    obtain ⟨p, _, rfl, _⟩ := hy4.tup_inv
                    rfl
                refine ⟨_, rfl, ?_⟩
                rw [e1]
                by_cases cx : b.2 = .idle
                · rw [decide_eq_true cx]
                  refine iteT ⟨z, rfl, hk z _ (Same.refl _) ?_⟩
                  rw [ft, if_pos (show selE (.call c) b = true from decide_eq_true cx)]
                  exact hr2.append (.one hxz)
                · rw [decide_eq_false cx]
                  refine iteF (h0 _ (Same.refl _) ?_)
                  rw [ft, if_neg (show ¬ selE (.call c) b = true from fun z => cx (of_decide_eq_true z))]
                  exact hr2
            · rw [lk6, List.take_length] at hr7
              have e7 := e6.trans (extn_same sm7)
              have t7 := TabS.same t6 sm7
              have mb7 := mb6.same sm7
              have lD7 := lD6.extN (extn_same sm7)
              have hbf : ∀ b ∈ ls6.filter (selE ev), BT Z b := fun b hb => hbt6 b (List.mem_filter.mp hb).1
              refine ⟨x, rfl, Z, v, x, D5, acc7, ls6.filter (selE ev), ev, rfl, hv6.same sm7, hZ, eD7, hr7, hbf, nd6.filter _, hxe.same sm7, hT6, fun c ec b hb => by
                subst ec
                exact of_decide_eq_true (List.mem_filter.mp hb).2, fun d2 kvs2 ls2 H8 nd2 s8 hD8 ek8 ndl8 mem8 => ?_⟩
              have bt8 : ∀ b ∈ ls2, BT Z b := fun b hb => behind_bt hZ hbf hT6 b ((mem8 b).mp hb)
              have ne8 : d2 ≠ S0 := by
                obtain ⟨kvS, hS, _⟩ := mb7.s
                obtain ⟨u, hu, _⟩ := hS.mut
                exact Ne.symm (ne_of_none hu nd2)
              have l8 : LotD P w K Z H8 S0 (.ref d2) := ⟨d2, kvs2, ls2, rfl, hD8, ek8, ndl8, bt8, ne8⟩
              have s68 := sm7.trans s8
              have e8 := e7.trans (extn_same s8)
              have t8 := TabS.same t7 s8
              have mb8 := mb7.same s8
              have lD8 := lD7.extN (extn_same s8)
              have hP8 := s68 _ _ hP6
              have hy8 := hy6.same s68
              refine ⟨.ref d2, rfl, fun d3 o3 n3 h3 => ⟨d2, d3, kvs2, rfl, rfl, hD8.same (same_upd n3), h3, _, rfl, ?_⟩⟩
              have s9 := same_upd (o := o3) n3
              have hD9 := hD8.same s9
              have l9 := l8.extN (extn_same s9)
              have e9 := e8.trans (extn_same s9)
              have t9 := TabS.same t8 s9
              have mb9 := mb8.same s9
              have lD9 := lD8.extN (extn_same s9)
              have hP9 := s9 _ _ hP8
              have hy9 := hy8.same s9
              clear h3
              generalize upd H8 d3 o3 = H9 at *
              clear s9 n3 hy8 hP8 lD8 mb8 t8 e8 s68 l8 hD8 s8 nd2 lD7 mb7 t7 e7 hr7 eD7 sm7 nD5 hO6 hv6 hxe hy6 hP6 hx
              by_cases hk2 : kvs2 = []
              · rw [decide_eq_true hk2]
                exact iteF (iteF ⟨n', ds', _, _, rfl, e9, t9, mb9, by omega, lD9, hP9, hy9⟩)
              · rw [decide_eq_false hk2]
                refine iteT ?_
                have ll8 : ls2.length ≤ 56 := lot_len hZ ndl8 bt8
                refine ⟨.ref d2, rfl, d2, kvs2, ls2, rfl, hD9, ek8, ndl8, fun b hb => (bt8 b hb).ok hZ, by omega, t9, fun zl lsz HA eA tA lot mem hzl => ?_⟩
                have mbA := mb9.extN eA
                obtain ⟨kvS, hSA, hkS⟩ := id mbA.s
                have lnA := mbA.n
                have eHA := e9.trans eA
                have lDA := lD9.extN eA
                have hPA := eA _ _ hP9 fun _ z => nomatch z
                have hyA := hy9.ext (ext_of_n eA)
                have hDA := hD9.extN eA
                have lA := l9.extN eA
                refine ⟨.ref S0, rfl, .tup (lsz.map eB), S0, kvS, hzl, rfl, hSA, lot_deep lsz, ⟨_, rfl⟩, _, rfl, ?_⟩
                by_cases inS : NestedKey.tup (lsz.map eB) ∈ kvS.map (·.1)
                · rw [decide_eq_true inS]
                  exact iteF ⟨n', ds', _, _, rfl, eHA, tA, mbA, by omega, lDA, hPA, hyA⟩
                · rw [decide_eq_false inS]
                  refine iteT ?_
                  refine ⟨.ref S0, rfl, .ref d2, rfl, d2, kvs2, ls2, rfl, hDA, ek8, ndl8, fun b hb => (bt8 b hb).ok hZ, by omega, tA, fun zl2 lsy HB eB' tB lot2 mem2 hzl2 => ?_⟩
                  have mbB := mbA.extN eB'
                  have hSB := hSA.extN eB'
                  have eHB := eHA.trans eB'
                  have lDB := lDA.extN eB'
                  have hPB := eB' _ _ hPA fun _ z => nomatch z
                  have hyB := hyA.ext (ext_of_n eB')
                  have lB := lA.extN eB'
                  refine ⟨S0, kvS, .tup (lsy.map eB), rfl, hSB, by omega, hzl2, lot_deep lsy, ⟨_, rfl⟩, fun ob hob => ?_⟩
                  obtain ⟨uS, huS, muS⟩ := hSB.mut
                  have exS : Ext K HB (upd HB S0 ob) := Ext.mut huS muS
                  have neSL : S0 ≠ L := nd_not_lst hSB mbB.l
                  have hLC : upd HB S0 ob L = some (.lst ds') := (upd_ne (Ne.symm neSL)).trans mbB.l
                  have tC := TabS.dk (o := ob) tB hSB
                  have lDC := lDB.dk (o := ob) hSB
                  have lC := lB.dk (o := ob) hSB
                  have dsC : ∀ x ∈ ds', LotD P w K Z (upd HB S0 ob) S0 x := fun x hx => (mbB.d x hx).dk hSB
                  have eHC := extn_put (o := ob) eHB nS0
                  have hPC : upd HB S0 ob pS = some (.lst ys2) := (upd_ne (Ne.symm neSP)).trans hPB
                  have hyC := hyB.ext exS
                  generalize upd HB S0 ob = HC at *
                  refine ⟨.ref L, rfl, .inl ⟨rfl, ds', SqL.of hLC⟩, .ref d2, rfl, L, ds', .ref d2, rfl, rfl, hLC, by rw [sizeLine_eq]; omega, ?_⟩
                  refine ⟨n' + 1, ds' ++ [.ref d2], _, _, rfl, extn_put eHC nL0, TabS.lst tC hLC, ⟨upd_same, fun x hx => ?_, ⟨_, hob.other hLC trivial neSL, ?_⟩, by simp; omega⟩, by omega, lDC.lst hLC, (upd_ne (Ne.symm neLP)).trans hPC, hyC.ext (Ext.mut hLC trivial)⟩
                  · rcases List.mem_append.mp hx with hx | hx
                    · exact (dsC x hx).lst hLC
                    · rw [List.mem_singleton.mp hx]
                      exact lC.lst hLC
                  · have := length_putK kvS (.tup (lsy.map eB)) (.bl true)
                    rw [List.length_append, List.length_singleton]
                    omega
          · rintro σ H6 ⟨n', ds', p11, p12, rfl, e6, t6, mb6, hn6, lD6, hP6, hy6⟩
            have ln6 := mb6.n
            by_cases big : 200 < ds'.length
            · exact ⟨.ref L, rfl, L, ds', rfl, .inl (SqL.of mb6.l), .int 200, rfl, _, _, rfl, rfl, true, congrArg V.bl (decide_eq_true (by omega)), iteT (q _ H6 e6 t6 (.inr rfl))⟩
            · refine ⟨.ref L, rfl, L, ds', rfl, .inl (SqL.of mb6.l), .int 200, rfl, _, _, rfl, rfl, false, congrArg V.bl (decide_eq_false (by omega)), iteF ?_⟩
              refine ⟨.int t, rfl, t, 1, rfl, rfl, ?_⟩
              refine ⟨200 - (t + 1), by omega, t + 1, ds'.length, ds', _, _, _, _, _, _, rfl, e6, t6, ⟨mb6.l, mb6.d, mb6.s, Nat.le_refl _⟩, by omega, rfl⟩
      · rw [decide_eq_false (show ¬ ((t : Nat) : Int) < ((ds.length : Nat) : Int) by omega)]
        refine iteF ?_
        exact ⟨.ref L, rfl, L, ds, rfl, .inl (SqL.of mb.l), q _ H1 e1 t1 (.inl ⟨_, rfl⟩)⟩
end
end M

/-! the law's drawn thing -/
namespace M
open PySem PySem.Spec PyProof.Rows L2
def rkO : NK → Nat
  | .tup [.num a, .num b] => a.toNat * 100 + b.toNat
  | _ => 0
theorem rkO_e (o : Nat × Nat) : rkO (eO o) = o.1 * 100 + o.2 := by simp [rkO, eO]
theorem o_order {a b : Nat × Nat} (ha : a.2 < 100) (hb : b.2 < 100) : ltN (eO a) (eO b) = some (decide (a.1 * 100 + a.2 < b.1 * 100 + b.2)) := by
  obtain ⟨s, v⟩ := a
  obtain ⟨t, w⟩ := b
  have ha : v < 100 := ha
  have hb : w < 100 := hb
  simp only [eO, ltN]
  rw [ltNs]
  by_cases e : s = t
  · subst e
    rw [if_pos (by simp [NestedKey.beq]), ltNs]
    by_cases q : v = w
    · subst q
      rw [if_pos (by simp [NestedKey.beq]), ltNs]
      exact congrArg some (decide_eq_false (by omega)).symm
    · have q' : ¬ (v : Int) = w := by omega
      rw [if_neg (by simp [NestedKey.beq, q']), ltN]
      refine congrArg some ?_
      by_cases z : v < w
      · rw [decide_eq_true (show (v : Int) < w by omega)]
        exact (decide_eq_true (by omega)).symm
      · rw [decide_eq_false (show ¬ (v : Int) < w by omega)]
        exact (decide_eq_false (by omega)).symm
  · have e' : ¬ (s : Int) = t := by omega
    rw [if_neg (by simp [NestedKey.beq, e']), ltN]
    refine congrArg some ?_
    by_cases z : s < t
    · rw [decide_eq_true (show (s : Int) < t by omega)]
      exact (decide_eq_true (by omega)).symm
    · rw [decide_eq_false (show ¬ (s : Int) < t by omega)]
      exact (decide_eq_false (by omega)).symm
theorem o_ranked {os : List (Nat × Nat)} (h : ∀ o ∈ os, o.2 < 100) : Ranked (os.map eO) rkO := by
  refine ⟨fun k hk l hl => ?_, .inl fun k hk => ?_, fun k hk => ?_⟩
  · obtain ⟨a, ha, rfl⟩ := List.mem_map.mp hk
    obtain ⟨b, hb, rfl⟩ := List.mem_map.mp hl
    rw [rkO_e, rkO_e]
    exact o_order (h a ha) (h b hb)
  · obtain ⟨a, ha, rfl⟩ := List.mem_map.mp hk
    exact ⟨_, _, rfl⟩
  · obtain ⟨a, ha, rfl⟩ := List.mem_map.mp hk
    simp [eO, NestedKey.depth, NestedKey.depthAll]
/-- the calls of a drawn thing -/
structure ClsOk (cs : List Call) : Prop where
  ne : cs ≠ []
  few : cs.length ≤ 3
  nd : cs.Nodup
  cok : ∀ c ∈ cs, COk c
/-- the outcomes of a call -/
def LtOk (n : Nat) (lot : List (Nat × Nat)) : Prop := lot ≠ [] ∧ (∀ o ∈ lot, o.1 ≤ 9 ∧ o.2 < n) ∧ lot.length ≤ 12
def StOk (n k : Nat) (st : List (List (Nat × Nat))) : Prop := st.length = k ∧ ∀ lot ∈ st, LtOk n lot
theorem tok_of {cs : List Call} {sts : List (List (List (Nat × Nat)))} (hc : ClsOk cs) (h1 : 1 ≤ sts.length) (h4 : sts.length ≤ 4) (h : ∀ st ∈ sts, StOk sts.length cs.length st) : TOk ⟨cs, sts⟩ :=
  ⟨hc.ne, hc.few, hc.nd, hc.cok, h1, h4, fun st hs => (h st hs).1, fun st hs lot hl => ((h st hs).2 lot hl).1, fun st hs lot hl => ((h st hs).2 lot hl).2.1, fun st hs lot hl => ((h st hs).2 lot hl).2.2⟩
theorem Bag.other {H : Hp} {B C S : Addr} {cs : List Int} {a b c : Int} {o : HO} (h : Bag H B C cs a b c) (n1 : B ≠ S) (n2 : C ≠ S) : Bag (L2.upd H S o) B C cs a b c := ⟨(upd_ne n1).trans h.bag, (upd_ne n2).trans h.cells, h.ne, h.few⟩
theorem SameB.put {B S : Addr} {H H' : Hp} {o : HO} (h : SameB B H H') (n : H S = none) : SameB B H (L2.upd H' S o) := fun b u nb e => by
  rw [upd_ne (ne_of_none e n)]
  exact h b u nb e
theorem free_b {H H' : Hp} {B S : Addr} (s : SameB B H H') (n : H' S = none) (ne : S ≠ B) : H S = none := by
  cases e : H S with
  | none => rfl
  | some o =>
    rw [s _ _ ne e] at n
    cases n
section
variable {P : Program} {w : World} {K : PySem.W.Frag} {mg : Str → Option Value} {base : Heap}
abbrev nThing : List Str := ["bag", "many", "most", "calls", "states", "number", "state", "lots", "call", "lot", "k", "one"]
theorem scLThing : FnScope nThing ["bag", "many", "most"] (defScope sLThing) := ⟨rfl, rfl, rfl, by decide +kernel, rfl, by decide +kernel, by decide +kernel⟩
def spLThing (K : PySem.W.Frag) : Sp := fun vs H Q _ => ∃ (B C : Addr) (cs : List Int) (a b c : Int) (mo : Nat), vs = [.ref B, .int 4, .int mo] ∧ Bag H B C cs a b c ∧ 1 ≤ mo ∧ mo ≤ 12 ∧
  ∀ (v : V) (T : Th) (a' b' c' : Int) H', SameB B H H' → Ext K H H' → Bag H' B C cs a' b' c' → Tg K H' v T → TOk T → Q v H'
theorem k_law_thing (T : Tx K mg) (D : Df K mg "_law_thing" sLThing ["bag", "many", "most"]) (F1 : Kn P w K mg base 1 "_law_take" ["bag", "many"] (spLTake K)) (F2 : Kn P w K mg base 2 "_law_some" ["bag", "things"] (spLSome K)) :
    Kn P w K mg base 3 "_law_thing" ["bag", "many", "most"] (spLThing K) := by
  refine D.kn scLThing (fun vs H Q E h => ?_) (fun f cdv A outer s H vs Q E hr h => ?_)
  · obtain ⟨B, C, cs, a, b, c, mo, rfl, _⟩ := h
    rfl
  · obtain ⟨B, C, cs, a, b, c, mo, rfl, hB, m1, m2, q⟩ := h
    have ka : PyData.strOk "a" = true := by decide +kernel
    have kb : PyData.strOk "b" = true := by decide +kernel
    refine ⟨_, pss_cons (ps_set (i := 3) scLThing.nd rfl (Or.inl rfl) (pe_kn F2 hr (pa_cons (pv 0) (pa_cons (pe_lst (pa_cons
          (pe_tupB (pa_cons (pe_tupN (pa_cons pe_str (pa_cons pe_int pa_nil))) (pa_cons (pe_tupN (pa_cons pe_str (pa_cons pe_int pa_nil))) pa_nil))) (pa_cons
          (pe_tupB (pa_cons (pe_tupN (pa_cons pe_str (pa_cons pe_int pa_nil))) (pa_cons (pe_tupN (pa_cons pe_str (pa_cons pe_int pa_nil))) (pa_cons (pe_tupN (pa_cons pe_str (pa_cons pe_int pa_nil))) pa_nil)))) (pa_cons
          (pe_tupB (pa_cons (pe_tupN (pa_cons pe_str (pa_cons pe_int pa_nil))) pa_nil)) pa_nil)))) pa_nil))))
      (pss_cons (ps_par (i := 4) (j := 5) rfl scLThing.nd rfl rfl (by decide) rfl rfl (pa_cons (pe_lst pa_nil) (pa_cons (pe_op op_add pe_int (pe_kn F1 (hr.mono (by decide)) (pa_cons (pv 0) (pa_cons (pv 1) pa_nil)))) pa_nil)) rfl)
      (pss_cons (ps_for PassesOwn.never rfl (pi_range1 (by rfl) T.range (pa_cons (pv 5) pa_nil)) (pg_name (i := 6) scLThing.nd rfl (Or.inl rfl))
        (pss_cons (ps_set (i := 7) scLThing.nd rfl (Or.inl rfl) (pe_lst pa_nil))
        (pss_cons (ps_for PassesOwn.never rfl (pi_tup (pv 3)) (pg_name (i := 8) scLThing.nd rfl (Or.inl rfl))
          (pss_cons (ps_set (i := 9) scLThing.nd rfl (Or.inl rfl) (pe_lst pa_nil))
          (pss_cons (ps_for PassesOwn.never rfl (pi_range1 (by rfl) T.range (pa_cons (pe_op op_add pe_int (pe_kn F1 (hr.mono (by decide)) (pa_cons (pv 0) (pa_cons (pv 2) pa_nil)))) pa_nil)) (pg_name (i := 10) scLThing.nd rfl (Or.inl rfl))
            (pss_cons (ps_set (i := 11) scLThing.nd rfl (Or.inl rfl) (pe_tupN (pa_cons (pe_kn F1 (hr.mono (by decide)) (pa_cons (pv 0) (pa_cons pe_int pa_nil))) (pa_cons (pe_kn F1 (hr.mono (by decide)) (pa_cons (pv 0) (pa_cons (pv 5) pa_nil))) pa_nil))))
            (pss_one (ps_set (i := 9) scLThing.nd rfl (Or.inl rfl) (pe_ifExp (pt_cmpR (op_notInN hr.units) (pv 11) (pv 9) (by rfl)) (pe_op op_cat (pv 9) (pe_lst (pa_cons (pv 11) pa_nil))) (pv 9))))))
          (pss_one (ps_expr (pe_bm F.plainAttrs_list F.slot_list_append F.type_list_append mt_append (pv 7) (pa_cons (pe_callTy tuple_n (by rfl) T.tuple boot_tuple (pa_cons (pe_callB (sorted_n hr.units rkO) (by rfl) T.sorted boot_sorted (pa_cons (pv 9) pa_nil)) pa_nil)) pa_nil)))))))
        (pss_one (ps_expr (pe_bm F.plainAttrs_list F.slot_list_append F.type_list_append mt_append (pv 4) (pa_cons (pe_callTy tuple_n (by rfl) T.tuple boot_tuple (pa_cons (pv 7) pa_nil)) pa_nil)))))))
      (pss_one (ps_ret (pe_tup (pa_cons (pv 3) (pa_cons (pe_callTy tuple_n (by rfl) T.tuple boot_tuple (pa_cons (pv 4) pa_nil)) pa_nil))))))), ?_⟩
    -- WALK
    refine ⟨.ref B, rfl, ?_⟩
    refine ⟨[.text "a", .num 0], .two (.str _ ka) (.int 0), by simp, fun x1 H1 s1 h1 => ?_⟩
    refine ⟨[.text "b", .num 0], .two (.str _ kb) (.int 0), by simp, fun x2 H2 s2 h2 => ?_⟩
    refine ⟨[eC ("a", 0), eC ("b", 0)], .two (h1.same s2) h2, by simp, fun v1 H3 s3 b1 => ?_⟩
    refine ⟨[.text "a", .num 0], .two (.str _ ka) (.int 0), by simp, fun x3 H4 s4 h3 => ?_⟩
    refine ⟨[.text "b", .num 0], .two (.str _ kb) (.int 0), by simp, fun x4 H5 s5 h4 => ?_⟩
    refine ⟨[.text "b", .num 1], .two (.str _ kb) (.int 1), by simp, fun x5 H6 s6 h5 => ?_⟩
    refine ⟨[eC ("a", 0), eC ("b", 0), eC ("b", 1)], .cons ((h3.same s5).same s6) (.two (h4.same s6) h5), by simp, fun v2 H7 s7 b2 => ?_⟩
    refine ⟨[.text "a", .num 0], .two (.str _ ka) (.int 0), by simp, fun x6 H8 s8 h6 => ?_⟩
    refine ⟨[eC ("a", 0)], .one h6, by simp, fun v3 H9 s9 b3 => ?_⟩
    have s37 := ((s4.trans s5).trans s6).trans s7
    have s79 := s8.trans s9
    have sA : Same H H9 := (((s1.trans s2).trans s3).trans s37).trans s79
    have b1 := (b1.same s37).same s79
    have b2 := b2.same s79
    have hB9 := hB.same sA
    refine ⟨by show 3 ≤ sizeLine; decide, fun L nL => ?_⟩
    have sL := same_upd (o := .lst [v1, v2, v3]) nL
    have b1 := b1.same sL
    have b2 := b2.same sL
    have b3 := b3.same sL
    have hB10 := hB9.same sL
    have hL : upd H9 L (.lst [v1, v2, v3]) L = some (.lst [v1, v2, v3]) := upd_same
    have neLB : L ≠ B := fun e => by
      rw [e, hB9.bag] at nL
      cases nL
    have sA := sA.trans sL
    generalize upd H9 L (.lst [v1, v2, v3]) = H10 at *
    clear nL sL hB9 s37 s79 s1 s2 s3 s4 s5 s6 s7 s8 s9 h1 h2 h3 h4 h5 h6
    refine ⟨B, C, L, cs, a, b, c, [v1, v2, v3], rfl, hB10, hL, neLB, by simp, by simp, fun k vc a1 b1' c1 H11 hk sm11 ex11 hB11 => ?_⟩
    have bO := (SameB.of (B := B) sA).trans sm11
    have xO : Ext K H H11 := (Ext.of_same sA).trans ex11
    obtain ⟨cl, hcl, hbc⟩ : ∃ cl, ClsOk cl ∧ Bare K H11 vc (cl.map eC) := by
      have okC : ∀ c ∈ [(("a", 0) : Call), ("b", 0), ("b", 1)], COk c := fun c hc => by
        simp only [List.mem_cons, List.not_mem_nil, or_false] at hc
        rcases hc with rfl | rfl | rfl
        · exact ⟨.inl rfl, by decide⟩
        · exact ⟨.inr rfl, by decide⟩
        · exact ⟨.inr rfl, by decide⟩
      match k, hk with
      | 0, e =>
        obtain rfl := Option.some.inj e
        exact ⟨[("a", 0), ("b", 0)], ⟨by simp, by decide, by decide +kernel, fun c hc => okC c (by simp only [List.mem_cons, List.not_mem_nil, or_false] at hc ⊢; rcases hc with h | h <;> simp [h])⟩, b1.but hB10.bag sm11 ex11⟩
      | 1, e =>
        obtain rfl := Option.some.inj e
        exact ⟨[("a", 0), ("b", 0), ("b", 1)], ⟨by simp, by decide, by decide +kernel, okC⟩, b2.but hB10.bag sm11 ex11⟩
      | 2, e =>
        obtain rfl := Option.some.inj e
        exact ⟨[("a", 0)], ⟨by simp, by decide, by decide +kernel, fun c hc => okC c (by simp only [List.mem_cons, List.not_mem_nil, or_false] at hc ⊢; simp [hc])⟩, b3.but hB10.bag sm11 ex11⟩
      | k + 3, e => exact absurd e (by simp)
    clear b1 b2 b3 hL hB10 sm11 ex11 sA hk neLB
    obtain ⟨ac, xc, rfl, hsc, hac⟩ := id hbc.at.tup_inv
    have lxc : xc.length = cl.length := by rw [hac.length, List.length_map]
    -- states, number
    refine ⟨by decide, fun S nS => ?_⟩
    have sS := same_upd (o := .lst []) nS
    have neBS : B ≠ S := ne_of_none hB11.bag nS
    have neCS : C ≠ S := ne_of_none hB11.cells nS
    have hS0 : upd H11 S (.lst []) S = some (.lst []) := upd_same
    have hB12 := hB11.same sS
    refine ⟨.ref B, rfl, .int 4, rfl, B, C, cs, a1, b1', c1, 4, rfl, hB12, by decide, by decide, fun t a2 b2 c2 H13 ht sm13 ex13 hB13 => ⟨1, t, rfl, rfl, ?_⟩⟩
    have en : (1 : Int) + (t : Int) = ((1 + t : Nat) : Int) := by omega
    obtain ⟨n, hn⟩ : ∃ n, n = 1 + t := ⟨_, rfl⟩
    rw [← hn] at en
    have n1 : 1 ≤ n := by omega
    have n4 : n ≤ 4 := by omega
    refine ⟨.ref S, .int n, (congrArg (fun k : Int => [V.ref S, V.int k]) en : [V.ref S, V.int ((1 : Int) + (t : Int))] = [V.ref S, V.int (n : Int)]), ?_⟩
    have bS := (SameB.of (B := B) sS).trans sm13
    have xS : Ext K H11 H13 := (Ext.of_same sS).trans ex13
    have hS13 := sm13 _ _ (Ne.symm neBS) hS0
    refine ⟨.int n, rfl, n, rfl, Int.le_trans (by decide) (Int.natCast_nonneg n), Int.lt_of_le_of_lt (show (n : Int) ≤ 4 by omega) (by decide), ?_⟩
    refine for_it (walk_range (lo := 0) (n := (n : Int).toNat)) (fun i σ H' => ∃ (p6 p7 p8 p9 p10 p11 : Option V), σ = [some (.ref B), some (.int 4), some (.int mo), some (.ref ac), some (.ref S), some (.int n), p6, p7, p8, p9, p10, p11] ∧ SameB B H11 H' ∧ Ext K H11 H' ∧ (∃ a b c, Bag H' B C cs a b c) ∧
      ∃ (ys : List V) (sts : List (List (List (Nat × Nat)))), H' S = some (.lst ys) ∧ Ats K H' ys (sts.map eSt) ∧ sts.length = i ∧ ∀ st ∈ sts, StOk n cl.length st) ?_ ?_ ?_ ?_
    · exact ⟨none, none, none, none, none, none, rfl, bS, xS, ⟨_, _, _, hB13⟩, [], [], hS13, .nil, rfl, fun st hst => by cases hst⟩
    · exact fun _ _ _ _ _ => trivial
    · rintro i z σ H1' H1 hi ⟨p6, p7, p8, p9, p10, p11, rfl, sm1, ex1, ⟨a3, b3, c3, hB1⟩, ys, sts, hS1, hy1, ln1, ok1⟩ ⟨rfl, rfl⟩
      have hi : i < n := by omega
      refine ⟨by decide, fun Lo nLo => ?_⟩
      have sLo := same_upd (o := .lst []) nLo
      have hLo : upd H1 Lo (.lst []) Lo = some (.lst []) := upd_same
      have neLB : B ≠ Lo := ne_of_none hB1.bag nLo
      have neLC : C ≠ Lo := ne_of_none hB1.cells nLo
      have neLS : S ≠ Lo := ne_of_none hS1 nLo
      have nLo0 := free_b sm1 nLo (Ne.symm neLB)
      have sm2 := sm1.trans (SameB.of (B := B) sLo)
      have ex2 := ex1.trans (Ext.of_same (K := K) sLo)
      have hB2 := hB1.same sLo
      have hS2 := sLo _ _ hS1
      have hy2 := hy1.same sLo
      generalize upd H1 Lo (.lst []) = H2 at *
      refine ⟨.ref ac, rfl, ac, rfl, ⟨_, ex2 _ _ hsc⟩, ?_⟩
      refine for_it (walk_tup (xs := xc)) (fun j σ H' => ∃ (p8 p9 p10 p11 : Option V), σ = [some (.ref B), some (.int 4), some (.int mo), some (.ref ac), some (.ref S), some (.int n), some (.int (0 + (i : Nat))), some (.ref Lo), p8, p9, p10, p11] ∧ SameB B H11 H' ∧ Ext K H11 H' ∧ (∃ a b c, Bag H' B C cs a b c) ∧
        H' S = some (.lst ys) ∧ Ats K H' ys (sts.map eSt) ∧ ∃ (zs : List V) (lots : List (List (Nat × Nat))), H' Lo = some (.lst zs) ∧ Ats K H' zs (lots.map fun lot : List (Nat × Nat) => NestedKey.tup (lot.map eO)) ∧ lots.length = j ∧ ∀ lot ∈ lots, LtOk n lot) ?_ ?_ ?_ ?_
      · exact ⟨_, _, _, _, rfl, sm2, ex2, ⟨_, _, _, hB2⟩, hS2, hy2, [], [], hLo, .nil, rfl, fun lot hl => by cases hl⟩
      · rintro j σ H3 _ ⟨_, _, _, _, _, _, ex3, _⟩
        exact ex3 _ _ hsc
      · rintro j x σ H3' H3 hj ⟨p8, p9, p10, p11, rfl, sm3, ex3, ⟨a4, b4, c4, hB3⟩, hS3, hy3, zs, lots, hLo3, hz3, ln3, ok3⟩ ⟨rfl, hx⟩
        refine ⟨by decide, fun l0 nl0 => ?_⟩
        have sl0 := same_upd (o := .lst []) nl0
        have hl0 : upd H3 l0 (.lst []) l0 = some (.lst []) := upd_same
        have nel0 : l0 ≠ B := Ne.symm (ne_of_none hB3.bag nl0)
        have sm4 := sm3.trans (SameB.of (B := B) sl0)
        have ex4 := ex3.trans (Ext.of_same (K := K) sl0)
        have hB4 := hB3.same sl0
        have hS4 := sl0 _ _ hS3
        have hy4 := hy3.same sl0
        have hLo4 := sl0 _ _ hLo3
        have hz4 := hz3.same sl0
        generalize upd H3 l0 (.lst []) = H4 at *
        refine ⟨.ref B, rfl, .int mo, rfl, B, C, cs, a4, b4, c4, mo, rfl, hB4, m1, by omega, fun u a5 b5 c5 H5 hu sm5 ex5 hB5 => ⟨1, u, rfl, rfl, ?_⟩⟩
        refine ⟨(1 : Int) + (u : Int), rfl, Int.le_trans (by decide) (show (0 : Int) ≤ 1 + (u : Int) by omega), Int.lt_of_le_of_lt (show (1 : Int) + (u : Int) ≤ 13 by omega) (by decide), ?_⟩
        have sm5' := sm4.trans sm5
        have ex5' := ex4.trans ex5
        have hS5 := sm5 _ _ (Ne.symm neBS) hS4
        have hy5 := hy4.ext ex5
        have hLo5 := sm5 _ _ (Ne.symm neLB) hLo4
        have hz5 := hz4.ext ex5
        have hl5 := sm5 _ _ nel0 hl0
        clear sm4 ex4 hB4 hS4 hy4 hLo4 hz4 sm5 ex5 hl0 sm3 ex3 hB3 hS3 hy3 hLo3 hz3 sl0 nl0
        refine for_it (walk_range (lo := 0) (n := ((1 : Int) + (u : Int)).toNat)) (fun e σ H' => ∃ (p10 p11 : Option V) (l : Addr), σ = [some (.ref B), some (.int 4), some (.int mo), some (.ref ac), some (.ref S), some (.int n), some (.int (0 + (i : Nat))), some (.ref Lo), some x, some (.ref l), p10, p11] ∧ SameB B H11 H' ∧ Ext K H11 H' ∧ (∃ a b c, Bag H' B C cs a b c) ∧
          H' S = some (.lst ys) ∧ Ats K H' ys (sts.map eSt) ∧ H' Lo = some (.lst zs) ∧ Ats K H' zs (lots.map fun lot : List (Nat × Nat) => NestedKey.tup (lot.map eO)) ∧ l ≠ B ∧
          ∃ (os : List V) (lot : List (Nat × Nat)), H' l = some (.lst os) ∧ Ats K H' os (lot.map eO) ∧ (∀ o ∈ lot, o.1 ≤ 9 ∧ o.2 < n) ∧ lot.length ≤ e ∧ (1 ≤ e → lot ≠ [])) ?_ ?_ ?_ ?_
        · exact ⟨_, _, l0, rfl, sm5', ex5', ⟨_, _, _, hB5⟩, hS5, hy5, hLo5, hz5, nel0, [], [], hl5, .nil, (fun o ho => by cases ho), Nat.le_refl _, fun h => absurd h (by decide)⟩
        · exact fun _ _ _ _ _ => trivial
        · rintro e y σ H6' H6 he ⟨p10, p11, l, rfl, sm6, ex6, ⟨a6, b6, c6, hB6⟩, hS6, hy6, hLo6, hz6, nel, os, lot, hl6, ho6, okl, lel, nel1⟩ ⟨rfl, rfl⟩
          have he : e < 1 + u := by omega
          refine ⟨.ref B, rfl, B, C, cs, a6, b6, c6, 3, rfl, hB6, by decide, by decide, fun r a7 b7 c7 H7 hr7 sm7 ex7 hB7 => ?_⟩
          refine ⟨.ref B, rfl, .int n, rfl, B, C, cs, a7, b7, c7, n, rfl, hB7, n1, by omega, fun to a8 b8 c8 H8 ht8 sm8 ex8 hB8 => ?_⟩
          refine ⟨[.num r, .num to], .two (.int _) (.int _), by simp, fun one H9' s9 hone => ?_⟩
          have hone : At K H9' one (eO (r, to)) := hone
          have sm9 := (sm7.trans sm8).trans (SameB.of (B := B) s9)
          have ex9 := (ex7.trans ex8).trans (Ext.of_same (K := K) s9)
          have hl9 := sm9 _ _ nel hl6
          have ho9 := ho6.ext ex9
          have hB9 := hB8.same s9
          have hS9 := sm9 _ _ (Ne.symm neBS) hS6
          have hy9 := hy6.ext ex9
          have hLo9 := sm9 _ _ (Ne.symm neLB) hLo6
          have hz9 := hz6.ext ex9
          have sm10 := sm6.trans sm9
          have ex10 := ex6.trans ex9
          clear sm7 sm8 s9 ex7 ex8 sm9 ex9 hB8 hB7 hl6 ho6 hB6 hS6 hy6 hLo6 hz6 sm6 ex6
          refine ⟨one, rfl, .ref l, rfl, eO (r, to), _, hone, Seq.lst (SqL.of hl9) ho9, by simp [eO, NestedKey.depth, NestedKey.depthAll], _, rfl, ?_⟩
          by_cases c0 : eO (r, to) ∈ lot.map eO
          · rw [decide_eq_true c0]
            refine iteF ⟨.ref l, rfl, _, _, l, rfl, sm10, ex10, ⟨_, _, _, hB9⟩, hS9, hy9, hLo9, hz9, nel, os, lot, hl9, ho9, okl, by omega, fun _ z => ?_⟩
            rw [z] at c0
            cases c0
          · rw [decide_eq_false c0]
            have lo := ho9.length
            rw [List.length_map] at lo
            refine iteT ⟨.ref l, rfl, one, rfl, by show 1 ≤ sizeLine; decide, fun M nM => ?_⟩
            have sM := same_upd (o := .lst [one]) nM
            refine ⟨l, M, os, [one], rfl, rfl, sM _ _ hl9, upd_same, by rw [sizeLine_eq]; simp; omega, fun N nN => ?_⟩
            have sN := same_upd (o := .lst (os ++ [one])) nN
            have sMN := sM.trans sN
            refine ⟨_, _, N, rfl, sm10.trans (SameB.of (B := B) sMN), ex10.trans (Ext.of_same (K := K) sMN), ⟨_, _, _, hB9.same sMN⟩, sMN _ _ hS9, hy9.same sMN, sMN _ _ hLo9, hz9.same sMN, Ne.symm (ne_of_none (sM _ _ hB9.bag) nN), os ++ [one], lot ++ [(r, to)], upd_same, ?_, fun o ho => ?_, by simp; omega, fun _ z => by simp at z⟩
            · rw [List.map_append]
              exact (ho9.same sMN).append (.one (hone.same sMN))
            · rcases List.mem_append.mp ho with ho | ho
              · exact okl o ho
              · rw [List.mem_singleton.mp ho]
                exact ⟨by show r ≤ 9; omega, ht8⟩
        · rintro σ H6 ⟨p10, p11, l, rfl, sm6, ex6, ⟨a6, b6, c6, hB6⟩, hS6, hy6, hLo6, hz6, nel, os, lot, hl6, ho6, okl, lel, nel1⟩
          have lel : lot.length ≤ 12 := by omega
          have nel1 : lot ≠ [] := nel1 (by omega)
          have ln8 := hz6.length
          rw [List.length_map] at ln8
          have few := hcl.few
          refine ⟨.ref Lo, rfl, .inl ⟨rfl, zs, SqL.of hLo6⟩, ?_⟩
          refine ⟨.ref l, rfl, l, os, lot.map eO, rfl, SqL.of hl6, ho6, o_ranked fun o ho => by have := (okl o ho).2; omega, by rw [List.length_map]; omega, fun p ys2 np hys => ?_⟩
          rw [byRk_map] at hys
          obtain ⟨lot2, elot⟩ : ∃ lot2, lot2 = byRk (fun o => rkO (eO o)) lot := ⟨_, rfl⟩
          have mem2 : ∀ o, o ∈ lot2 ↔ o ∈ lot := fun o => by rw [elot]; exact byRk_mem
          have len2 : lot2.length = lot.length := by rw [elot]; exact byRk_length _ _
          rw [← elot] at hys
          have sp := same_upd (o := .lst ys2) np
          refine ⟨.ref p, _, rfl, Seq.lst (SqL.of upd_same) (hys.same sp), by rw [List.length_map]; omega, fun w2 H7 s7 hw2 => ?_⟩
          have s67 := sp.trans s7
          have hLo7 := s67 _ _ hLo6
          refine ⟨Lo, zs, w2, rfl, rfl, hLo7, by rw [sizeLine_eq]; omega, ?_⟩
          have exL : Ext K H7 (upd H7 Lo (.lst (zs ++ [w2]))) := Ext.mut hLo7 trivial
          refine ⟨_, _, _, _, rfl, (sm6.trans (SameB.of (B := B) s67)).put nLo0, (ex6.trans (Ext.of_same (K := K) s67)).trans exL, ⟨_, _, _, (hB6.same s67).other neLB neLC⟩, (upd_ne neLS).trans (s67 _ _ hS6), (hy6.same s67).ext exL, zs ++ [w2], lots ++ [lot2], upd_same, ?_, by simp; omega, fun lt hlt => ?_⟩
          · rw [List.map_append]
            exact ((hz6.same s67).append (.one hw2)).ext exL
          · rcases List.mem_append.mp hlt with h | h
            · exact ok3 lt h
            · rw [List.mem_singleton.mp h]
              refine ⟨fun z => nel1 ?_, fun o ho => okl o ((mem2 o).mp ho), by omega⟩
              rw [z] at len2
              exact List.length_eq_zero_iff.mp len2.symm
      · rintro σ H3 ⟨p8, p9, p10, p11, rfl, sm3, ex3, ⟨a4, b4, c4, hB3⟩, hS3, hy3, zs, lots, hLo3, hz3, ln3, ok3⟩
        have ln8 := hy3.length
        rw [List.length_map] at ln8
        refine ⟨.ref S, rfl, .inl ⟨rfl, ys, SqL.of hS3⟩, .ref Lo, rfl, .ref Lo, _, rfl, Seq.lst (SqL.of hLo3) hz3, by rw [List.length_map]; have := hcl.few; omega, fun w2 H7 s7 hw2 => ?_⟩
        have hS7 := s7 _ _ hS3
        refine ⟨S, ys, w2, rfl, rfl, hS7, by rw [sizeLine_eq]; omega, ?_⟩
        have exS : Ext K H7 (upd H7 S (.lst (ys ++ [w2]))) := Ext.mut hS7 trivial
        refine ⟨_, _, _, _, _, _, rfl, (sm3.trans (SameB.of (B := B) s7)).put nS, (ex3.trans (Ext.of_same (K := K) s7)).trans exS, ⟨_, _, _, (hB3.same s7).other neBS neCS⟩, ys ++ [w2], sts ++ [lots], upd_same, ?_, by simp; omega, fun st hst => ?_⟩
        · rw [List.map_append]
          exact ((hy3.same s7).append (.one hw2)).ext exS
        · rcases List.mem_append.mp hst with h | h
          · exact ok1 st h
          · rw [List.mem_singleton.mp h]
            exact ⟨by omega, ok3⟩
    · rintro σ H1 ⟨p6, p7, p8, p9, p10, p11, rfl, sm1, ex1, ⟨a3, b3, c3, hB1⟩, ys, sts, hS1, hy1, ln1, ok1⟩
      have ln1 : sts.length = n := by omega
      refine ⟨.ref ac, rfl, .ref S, rfl, .ref S, _, rfl, Seq.lst (SqL.of hS1) hy1, by rw [List.length_map]; omega, fun w2 H7 s7 hw2 => ?_⟩
      refine ⟨by show 2 ≤ sizeLine; decide, fun t nt => ?_⟩
      have st := same_upd (o := .tup [.ref ac, w2]) nt
      have s1t := s7.trans st
      refine q _ ⟨cl, sts⟩ a3 b3 c3 _ (bO.trans (sm1.trans (SameB.of (B := B) s1t))) (xO.trans (ex1.trans (Ext.of_same (K := K) s1t))) (hB1.same s1t) ⟨t, .ref ac, w2, rfl, SqT.of upd_same, (hbc.but hB11.bag sm1 ex1).same s1t, hw2.same st⟩ ?_
      refine tok_of hcl (by omega) (by omega) fun st hst => ?_
      rw [ln1]
      exact ok1 st hst
end
end M

/-! what the law knows while it runs -/
namespace M
open PySem PySem.Spec PyProof.Rows L2
open LamX (CodeO TabS TabB ExtN)
theorem op_eqLK {X : Cx} {K : PySem.W.Frag} (hK : X.K = K) (hu : X.A.units + 64 < cLine) : OpR X (compareOp .Eq) (rEqL K) := by
  subst hK
  exact op_eqL hu
/-- a value by what is known of it -/
def tWeak (t : TE) : TE := fun σ H Q => ∃ R : V → Hp → Prop, t σ H R ∧ ∀ x H', R x H' → Q x H'
theorem pe_weak {X : Cx} {e : Expr} {t : TE} (h : PE X e t) : PE X e (tWeak t) := ⟨fun pins s σ H Q I ⟨R, hR, q⟩ => thn (h.run pins s σ H R I hR) fun u s1 ⟨x, H1, I1, r1, q1⟩ => ⟨x, H1, I1, r1, q _ _ q1⟩⟩
/-- a test by what is known of it -/
def tWeakT (t : TT) : TT := fun σ H Q => ∃ R : Bool → Hp → Prop, t σ H R ∧ ∀ b H', R b H' → Q b H'
theorem pt_weak {X : Cx} {e : Expr} {t : TT} (h : PT X e t) : PT X e (tWeakT t) := ⟨fun pins s σ H Q I ⟨R, hR, q⟩ => thn (h.run pins s σ H R I hR) fun c s1 ⟨H1, I1, q1⟩ => ⟨H1, I1, q _ _ q1⟩⟩
/-- false, and nothing is changed -/
def IsF (H : Hp) : Bool → Hp → Prop := fun b H' => b = false ∧ Same H H'
theorem ne_nk {k l : NK} (h : k = l) : (!decide (k = l)) = false := by
  rw [decide_eq_true h]
  rfl
theorem deep_map {α : Type} {f : α → NK} {n : Nat} (h : ∀ a, (f a).depth ≤ n) (l : List α) : (NestedKey.tup (l.map f)).depth ≤ n + 1 := by
  have : ∀ l : List α, NestedKey.depthAll (l.map f) ≤ n := by
    intro l
    induction l with
    | nil => simp [NestedKey.depthAll]
    | cons b l ih =>
      have := h b
      simp only [List.map_cons, NestedKey.depthAll]
      omega
  have := this l
  simp only [NestedKey.depth]
  omega
theorem nums_deep (S : List Nat) : (nums S).depth ≤ 8 := Nat.le_trans (deep_map (n := 0) (fun a => by simp [NestedKey.depth]) S) (by decide)
theorem moms_deep (ms : List (Nat × Nat)) : (NestedKey.tup (ms.map eM)).depth ≤ 8 := Nat.le_trans (deep_map (n := 1) (fun a => by simp [eM, NestedKey.depth, NestedKey.depthAll]) ms) (by decide)
section
variable {K : PySem.W.Frag} {H H' : Hp}
theorem ats_nI (S : List Nat) : Ats K H (nI S) (S.map fun n : Nat => NestedKey.num n) := by
  rw [← map_nI]
  exact ats_ints S
theorem num_nil {S : List Nat} : decide ((S.map fun n : Nat => NestedKey.num n) = []) = decide (S = []) := by
  cases S <;> simp
theorem Seq.tup {v : V} {ks : List NK} (h : At K H v (.tup ks)) : Seq K H v ks := by
  obtain ⟨a, xs, rfl, hs, ha⟩ := h.tup_inv
  exact ⟨a, xs, rfl, .inr hs, ha⟩
theorem TabS.sameB {Pt B : Addr} {q : Str} {xs : List V} (t : TabS H Pt q) (hB : H B = some (.lst xs)) (s : SameB B H H') : TabS H' Pt q := TabS.but t hB s
theorem Bag.ext_n {B C : Addr} {cs : List Int} {a b c : Int} (h : Bag H B C cs a b c) (e : ExtN H H') : Bag H' B C cs a b c := ⟨e _ _ h.bag (fun _ z => nomatch z), e _ _ h.cells (fun _ z => nomatch z), h.ne, h.few⟩
/-- the bag, the table and the thing -/
structure LK (K : PySem.W.Frag) (H : Hp) (B C Pt : Addr) (cs : List Int) (v : V) (Z : Th) : Prop where
  bag : ∃ a b c, Bag H B C cs a b c
  tab : TabS H Pt qLot
  tg : Tg K H v Z
section
variable {B C Pt S : Addr} {cs : List Int} {v : V} {Z : Th}
theorem LK.same (h : LK K H B C Pt cs v Z) (s : Same H H') : LK K H' B C Pt cs v Z := ⟨let ⟨a, b, c, h⟩ := h.bag; ⟨a, b, c, h.same s⟩, TabS.same h.tab s, h.tg.same s⟩
theorem LK.drawn (h : LK K H B C Pt cs v Z) (s : SameB B H H') (x : Ext K H H') {a b c : Int} (hb : Bag H' B C cs a b c) : LK K H' B C Pt cs v Z := by
  obtain ⟨_, _, _, h0⟩ := h.bag
  exact ⟨⟨a, b, c, hb⟩, TabS.but h.tab h0.bag s, h.tg.but h0.bag s x⟩
theorem LK.lst {xs : List V} {o : HO} (h : LK K H B C Pt cs v Z) (hS : H S = some (.lst xs)) (n1 : B ≠ S) (n2 : C ≠ S) : LK K (L2.upd H S o) B C Pt cs v Z := by
  obtain ⟨a, b, c, h0⟩ := h.bag
  exact ⟨⟨a, b, c, h0.other n1 n2⟩, TabS.lst h.tab hS, h.tg.but hS (fun b o ne e => (upd_ne ne).trans e) (Ext.mut hS trivial)⟩
theorem LK.ext_n (h : LK K H B C Pt cs v Z) (e : ExtN H H') (t : TabS H' Pt qLot) : LK K H' B C Pt cs v Z := ⟨let ⟨a, b, c, h⟩ := h.bag; ⟨a, b, c, h.ext_n e⟩, t, h.tg.extN e⟩
theorem LK.free (h : LK K H B C Pt cs v Z) (n : H S = none) : B ≠ S ∧ C ≠ S := by
  obtain ⟨a, b, c, h0⟩ := h.bag
  exact ⟨ne_of_none h0.bag n, ne_of_none h0.cells n⟩
end
theorem Th.out_ne {T : Th} (h : TOk T) {s : Nat} {c : Call} (hs : s < T.n) (hc : c ∈ T.calls) : T.out s c ≠ [] := by
  obtain ⟨st, lot, h1, h2, h3⟩ := Th.out_at h hs hc
  rw [← h3]
  exact h.lne st (List.mem_of_getElem? h1) lot (List.mem_of_getElem? h2)
theorem ne_bl {a b : Bool} (h : a = b) : (!decide (V.bl a = V.bl b)) = false := by
  subst h
  simp
end
end M

/-! the law -/
namespace M
open PySem PySem.Spec PyProof.Rows L2
open LamX (CodeO TabS TabB ExtN)
section
variable {P : Program} {w : World} {K : PySem.W.Frag} {mg : Str → Option Value} {base : Heap}
abbrev nLaw : List Str := ["script", "bag", "turn", "thing", "row", "states", "lap", "call", "result", "to", "history", "due", "wrong", "lots", "more", "its", "order", "at", "state"]
theorem scLLaw : FnScope nLaw ["script"] (defScope sLLaw) := ⟨rfl, rfl, rfl, by decide +kernel, rfl, by decide +kernel, by decide +kernel⟩
/-- what the law calls -/
structure Fs (P : Program) (w : World) (K : PySem.W.Frag) (mg : Str → Option Value) (base : Heap) (Pt : Addr) : Prop where
  bag : Kn P w K mg base 1 "_law_bag" ["script"] (spLBag K)
  take : Kn P w K mg base 1 "_law_take" ["bag", "many"] (spLTake K)
  some_ : Kn P w K mg base 2 "_law_some" ["bag", "things"] (spLSome K)
  thing : Kn P w K mg base 3 "_law_thing" ["bag", "many", "most"] (spLThing K)
  outs : Kn P w K mg base 1 "_law_outcomes" ["thing", "state", "call"] (spOutcomesOf K)
  st : Kn P w K mg base 2 "_law_states_behind" ["thing", "row"] (spLStates K)
  many : Kn P w K mg base 6 "_law_many_lots" ["thing", "hands", "most"] (spLMany P w K Pt)
  lets : Kn P w K mg base 6 "lets" ["thing", "row"] (spLets K)
  sts : Kn P w K mg base 7 "states_behind_things" ["thing", "row"] (spStates K)
  ao : Kn P w K mg base 11 "is_at_once" ["thing", "hands", "history"] (spIsAtOnce K)
  io : Kn P w K mg base 11 "is_in_own_order" ["thing", "hands", "history"] (spIsInOwnOrder K)
  fw : Kn P w K mg base 10 "first_wrong" ["thing", "hands", "history"] (spFirstWrong K)
  oo : Kn P w K mg base 10 "order_of" ["thing", "hands", "history"] (spOrderOf K)
  is : Kn P w K mg base 10 "is_order" ["thing", "hands", "history", "value"] (spIsOrder K)
  wd : Kn P w K mg base 1 "watched" ["states", "history"] (spWatched K)
  wr : Kn P w K mg base 10 "watcher" ["thing", "hands"] (spWatcher K)
  bo : Kn P w K mg base 10 "beliefs_of" ["thing", "hands", "history"] (spBeliefsOf K)
  fb : Kn P w K mg base 1 "first_belief" ["hands"] (spFirstBelief K)
def spLaw (K : PySem.W.Frag) (Pt : Addr) : Sp := fun vs H Q _ => ∃ (S : Addr) (ns : List Int), vs = [.ref S] ∧ SqL K H S (ns.map V.int) ∧ TabS H Pt qLot ∧ ∀ H', Q (.bl true) H'
theorem ok_law {Pt f : Addr} {fd : FuncData} (T : Tx K mg) (F0 : Fun K "law" "law" sLLaw f fd) (G : Fs P w K mg base Pt) : FnOk P w K mg base CX0 12 f fd ["script"] (spLaw K Pt) := by
  refine F0.ok scLLaw (fun vs H Q E h => ?_) (fun cdv A outer s H vs Q E hr h => ?_)
  · obtain ⟨S, ns, rfl, _⟩ := h
    rfl
  · obtain ⟨S, ns, rfl, hS, hT, q⟩ := h
    refine ⟨_, pss_cons (ps_set (i := 1) scLLaw.nd rfl (Or.inl rfl) (pe_kn G.bag (hr.mono (by decide)) (pa_cons (pv 0) pa_nil)))
      (pss_cons (ps_for PassesOwn.never rfl (pi_range1 (by rfl) T.range (pa_cons pe_int pa_nil)) (pg_name (i := 2) scLLaw.nd rfl (Or.inl rfl))
        -- the thing, the row
        (pss_cons (ps_set (i := 3) scLLaw.nd rfl (Or.inr rfl) (pe_kn G.thing (hr.mono (by decide)) (pa_cons (pv 1) (pa_cons pe_int (pa_cons (pe_op op_add pe_int (pe_kn G.take (hr.mono (by decide)) (pa_cons (pv 1) (pa_cons pe_int pa_nil)))) pa_nil)))))
        (pss_cons (ps_asg (pe_tup (pa_cons (pe_lst pa_nil) (pa_cons (pe_lst (pa_cons pe_int pa_nil)) pa_nil))) (pg_tup rfl (pgs_cons (pg_name (i := 4) scLLaw.nd rfl (Or.inr rfl)) (pgs_cons (pg_name (i := 5) scLLaw.nd rfl (Or.inl rfl)) pgs_nil))))
        (pss_cons (ps_for PassesOwn.never rfl (pi_range1 (by rfl) T.range (pa_cons (pe_kn G.take (hr.mono (by decide)) (pa_cons (pv 1) (pa_cons pe_int pa_nil))) pa_nil)) (pg_name (i := 6) scLLaw.nd rfl (Or.inl rfl))
          (pss_cons (ps_set (i := 7) scLLaw.nd rfl (Or.inl rfl) (pe_kn G.some_ (hr.mono (by decide)) (pa_cons (pv 1) (pa_cons (pe_callTy call_list_of (by rfl) T.list boot_list (pa_cons (pe_ix ix_t0 (pv 3) pe_int (fun _ _ => rfl)) pa_nil)) pa_nil))))
          (pss_cons (ps_asg (pe_kn G.some_ (hr.mono (by decide)) (pa_cons (pv 1) (pa_cons (pe_callTy call_list_of (by rfl) T.list boot_list (pa_cons (pe_kn G.outs (hr.mono (by decide)) (pa_cons (pv 3) (pa_cons (pe_kn G.some_ (hr.mono (by decide)) (pa_cons (pv 1) (pa_cons (pv 5) pa_nil))) (pa_cons (pv 7) pa_nil)))) pa_nil)) pa_nil)))
            (pg_tup rfl (pgs_cons (pg_name (i := 8) scLLaw.nd rfl (Or.inl rfl)) (pgs_cons (pg_name (i := 9) scLLaw.nd rfl (Or.inl rfl)) pgs_nil))))
          (pss_cons (ps_set (i := 8) scLLaw.nd rfl (Or.inl rfl) (pe_weak (pe_ifExp (pt_cmpR op_eq (pe_kn G.take (hr.mono (by decide)) (pa_cons (pv 1) (pa_cons pe_int pa_nil))) pe_int (nomark _)) (pe_kn G.take (hr.mono (by decide)) (pa_cons (pv 1) (pa_cons pe_int pa_nil))) (pv 8))))
          (pss_cons (ps_expr (pe_bm F.plainAttrs_list F.slot_list_append F.type_list_append mt_append (pv 4) (pa_cons (pe_tupN (pa_cons (pv 7) (pa_cons (pv 8) pa_nil))) pa_nil)))
          (pss_one (ps_set (i := 5) scLLaw.nd rfl (Or.inl rfl) (pe_weak (pe_ifExp (pt_cmpR (op_neL hr.units) (pe_kn G.st (hr.mono (by decide)) (pa_cons (pv 3) (pa_cons (pv 4) pa_nil))) (pe_lst pa_nil) (nomark _)) (pe_kn G.st (hr.mono (by decide)) (pa_cons (pv 3) (pa_cons (pv 4) pa_nil))) (pe_lst (pa_cons pe_int pa_nil)))))))))))
        (pss_cons (ps_asg (pe_tup (pa_cons (pe_callTy tuple_n (by rfl) T.tuple boot_tuple (pa_cons (pv 4) pa_nil)) (pa_cons (pe_lst pa_nil) pa_nil))) (pg_tup rfl (pgs_cons (pg_name (i := 4) scLLaw.nd rfl (Or.inr rfl)) (pgs_cons (pg_name (i := 10) scLLaw.nd rfl (Or.inl rfl)) pgs_nil))))
        (pss_cons (ps_for PassesOwn.never rfl (pi_tup (pv 4)) (pg_tup rfl (pgs_cons (pg_name (i := 7) scLLaw.nd rfl (Or.inl rfl)) (pgs_cons (pg_name (i := 8) scLLaw.nd rfl (Or.inl rfl)) pgs_nil)))
          (pss_one (ps_expr (pe_bm F.plainAttrs_list F.slot_list_extend F.type_list_extend mt_extend (pv 10) (pa_cons (pe_lst (pa_cons (pe_op op_catN (pe_tupN (pa_cons pe_str (pa_cons pe_int pa_nil))) (pv 7)) (pa_cons (pe_tupN (pa_cons pe_str (pa_cons pe_int (pa_cons (pv 8) pa_nil)))) pa_nil))) pa_nil)))))
        (pss_cons (ps_set (i := 11) scLLaw.nd rfl (Or.inl rfl) (pe_kn G.st (hr.mono (by decide)) (pa_cons (pv 3) (pa_cons (pv 4) pa_nil))))
        (pss_cons (ps_setLc (i := 12) (own := [("at", 17)]) (g := gName 17) rfl scLLaw.nd rfl rfl (sw_true rfl rfl rfl rfl) (pi_range1 (by rfl) T.range (pa_cons (pe_callB len_n (by rfl) T.len PySem.boot_len (pa_cons (pv 4) pa_nil)) pa_nil)) (blkOk_by (N := nLaw) (sc := defScope sLLaw) (by decide +kernel))
            (fun _ _ _ _ _ => pg_name (i := 17) scLLaw.nd rfl (Or.inl rfl))
            (fun _ _ _ _ _ => pts_one (pt_cmpR (op_eqLK (K := K) rfl hr.units) (pe_kn G.st (hr.mono (by decide)) (pa_cons (pv 3) (pa_cons (pe_slice (sl_nK (K := K) rfl) (pv 4) po_none (po_some (pe_op op_add (pv 17) pe_int))) pa_nil))) (pe_lst pa_nil) (nomark _)))
            (fun _ _ _ _ _ => pv 17))
        -- lets, states behind
        (pss_cons (ps_if (pt_weak (PW.pt (pw_or (pt_cmpR op_ne (pe_kn G.lets (hr.mono (by decide)) (pa_cons (pv 3) (pa_cons (pv 4) pa_nil))) (pe_cmpR (op_neL hr.units) (pv 11) (pe_lst pa_nil) (nomark _)) (nomark _))
            (pw_or1 (pt_cmpR (op_neN hr.units) (pe_kn G.sts (hr.mono (by decide)) (pa_cons (pv 3) (pa_cons (pv 4) pa_nil))) (pe_callTy tuple_n (by rfl) T.tuple boot_tuple (pa_cons (pv 11) pa_nil)) (nomark _)))))) (pss_one ps_never) pss_nil)
        (pss_cons (ps_set (i := 13) scLLaw.nd rfl (Or.inl rfl) (pe_kn G.many (hr.mono (by decide)) (pa_cons (pv 3) (pa_cons pe_int (pa_cons pe_int pa_nil)))))
        (pss_cons (ps_for PassesOwn.never rfl (pi_tup (pe_tupN (pa_cons (pe_tupN pa_nil) (pa_cons (pe_tupN (pa_cons (pe_op op_catN (pe_tupN (pa_cons pe_str (pa_cons pe_int pa_nil))) (pe_kn G.some_ (hr.mono (by decide)) (pa_cons (pv 1) (pa_cons (pe_callTy call_list_of (by rfl) T.list boot_list (pa_cons (pe_ix ix_t0 (pv 3) pe_int (fun _ _ => rfl)) pa_nil)) pa_nil)))) pa_nil)) pa_nil)))) (pg_name (i := 14) scLLaw.nd rfl (Or.inl rfl))
          (pss_cons (ps_set (i := 15) scLLaw.nd rfl (Or.inl rfl) (pe_op op_catN (pe_callTy tuple_n (by rfl) T.tuple boot_tuple (pa_cons (pv 10) pa_nil)) (pv 14)))
          (pss_cons (ps_if (pt_weak (PW.pt (pw_or (pt_cmpR op_ne (pe_kn G.ao hr (pa_cons (pv 3) (pa_cons pe_int (pa_cons (pv 15) pa_nil)))) (pe_cmpR (op_neL hr.units) (pv 11) (pe_lst pa_nil) (nomark _)) (nomark _))
              (pw_or1 (pt_cmpR op_ne (pe_kn G.io hr (pa_cons (pv 3) (pa_cons pe_int (pa_cons (pv 15) pa_nil)))) (pe_cmpR (op_neL hr.units) (pv 11) (pe_lst pa_nil) (nomark _)) (nomark _)))))) (pss_one ps_never) pss_nil)
          (pss_cons (ps_if (pt_weak (pt_cmpR op_ne (pe_kn G.fw (hr.mono (by decide)) (pa_cons (pv 3) (pa_cons pe_int (pa_cons (pv 15) pa_nil)))) (pe_ifExp (pt_cmpR (op_neL hr.units) (pv 12) (pe_lst pa_nil) (nomark _)) (pe_op op_add (pe_op op_mul pe_int (pe_ix ix_list (pv 12) pe_int (fun _ _ => rfl))) pe_int) pe_non) (nomark _))) (pss_one ps_never) pss_nil)
          (pss_cons (ps_set (i := 16) scLLaw.nd rfl (Or.inl rfl) (pe_weak (pe_kn G.oo (hr.mono (by decide)) (pa_cons (pv 3) (pa_cons pe_int (pa_cons (pv 15) pa_nil))))))
          (pss_cons (ps_if (pt_weak (PW.pt (pw_or (pt_cmpR op_ne (pe_cmp (pc_isN (pv 16))) (pe_cmpR (op_eqL hr.units) (pv 11) (pe_lst pa_nil) (nomark _)) (nomark _))
              (pw_or1 (PW.pt (pw_and (pt_cmp (pc_notN (pv 16))) (pw_and1 (pt_cmpR op_notBl (pe_kn G.is (hr.mono (by decide)) (pa_cons (pv 3) (pa_cons pe_int (pa_cons (pv 15) (pa_cons (pv 16) pa_nil))))) pe_bl (nomark _))))))))) (pss_one ps_never) pss_nil)
          (pss_cons (ps_if (pt_weak (PW.pt (pw_and (pt_cmp (pc_notN (pv 16))) (pw_and1 (pt_cmpR (op_neN hr.units) (pe_slice sl_n (pv 16) po_none (po_some (pe_callB len_n (by rfl) T.len PySem.boot_len (pa_cons (pv 4) pa_nil))))
              (pe_callTy tuple_n (by rfl) T.tuple boot_tuple (pa_cons (pe_lc (own := [("at", 17), ("call", 7), ("result", 8)]) (tt := tYes) rfl scLLaw.nd (pi_enumT (by rfl) T.enumerate (pa_cons (pv 4) pa_nil)) (blkOk_by (N := nLaw) (sc := defScope sLLaw) (by decide +kernel))
                (fun _ _ _ _ _ => pg_tupK (K := K) (n := 2) rfl rfl (pgs_cons (pg_name (i := 17) scLLaw.nd rfl (Or.inl rfl)) (pgs_cons (pg_tupK (K := K) (n := 2) rfl rfl (pgs_cons (pg_name (i := 7) scLLaw.nd rfl (Or.inl rfl)) (pgs_cons (pg_name (i := 8) scLLaw.nd rfl (Or.inl rfl)) pgs_nil))) pgs_nil)))
                (fun _ _ _ _ _ => pts_nil)
                (fun _ _ _ _ _ => pe_tupK (K := K) rfl (pa_cons (pe_op op_mul pe_int (pv 17)) (pa_cons (pv 8) pa_nil)))) pa_nil)) (nomark _)))))) (pss_one ps_never) pss_nil)
          (pss_one (ps_if (pt_weak (PW.pt (pw_and (pt_cmpR op_ne (pv 13) pe_str (nomark _)) (pw_and1 (pt_cmpR op_ne (pe_cmp (pc_isN (pe_kn G.wd (hr.mono (by decide)) (pa_cons (pe_kn G.wr (hr.mono (by decide)) (pa_cons (pv 3) (pa_cons pe_int pa_nil))) (pa_cons (pv 15) pa_nil))))) (pe_cmpR (op_eqL hr.units) (pv 11) (pe_lst pa_nil) (nomark _)) (nomark _)))))) (pss_one ps_never) pss_nil)))))))))
        -- beliefs
        (pss_cons (ps_if (pt_weak (pt_cmpR (op_neN hr.units) (pe_kn G.bo (hr.mono (by decide)) (pa_cons (pv 3) (pa_cons pe_int (pa_cons (pe_callTy tuple_n (by rfl) T.tuple boot_tuple (pa_cons (pv 10) pa_nil)) pa_nil))))
            (pe_callTy tuple_n (by rfl) T.tuple boot_tuple (pa_cons (pe_lc (own := [("state", 18)]) (g := gName 18) (tt := tYes) rfl scLLaw.nd (pi_list (pv 11)) (blkOk_by (N := nLaw) (sc := defScope sLLaw) (by decide +kernel)) (fun _ _ _ _ _ => pg_name (i := 18) scLLaw.nd rfl (Or.inl rfl)) (fun _ _ _ _ _ => pts_nil)
              (fun _ _ _ _ _ => pe_tupK (K := K) rfl (pa_cons (pv 18) (pa_cons (pe_tupK (K := K) rfl (pa_cons pe_non pa_nil)) pa_nil)))) pa_nil)) (nomark _))) (pss_one ps_never) pss_nil)
        (pss_one (ps_if (pt_weak (PW.pt (pw_and (pt_cmpR (op_eqN hr.units) (pv 4) (pe_tupN pa_nil) (nomark _)) (pw_and1 (pt_cmpR (op_neN hr.units) (pe_kn G.bo (hr.mono (by decide)) (pa_cons (pv 3) (pa_cons pe_int (pa_cons (pe_tupN pa_nil) pa_nil)))) (pe_tupN (pa_cons (pe_kn G.fb (hr.mono (by decide)) (pa_cons pe_int pa_nil)) pa_nil)) (nomark _)))))) (pss_one ps_never) pss_nil))))))))))))))
      (pss_one (ps_ret pe_bl))), ?_⟩
    -- WALK
    have kc : PyData.strOk "call" = true := by decide +kernel
    have kb : PyData.strOk "back" = true := by decide +kernel
    refine ⟨.ref S, rfl, S, ns, rfl, hS, fun B C cs H1 nB nC s1 hB1 => ?_⟩
    have t1 := TabS.same hT s1
    refine ⟨3, rfl, by decide, by decide, ?_⟩
    refine for_it (walk_range (lo := 0) (n := (3 : Int).toNat)) (fun i σ H' => ∃ (p2 p3 p4 p5 p6 p7 p8 p9 p10 p11 p12 p13 p14 p15 p16 : Option V), σ = [some (.ref S), some (.ref B), p2, p3, p4, p5, p6, p7, p8, p9, p10, p11, p12, p13, p14, p15, p16, none, none] ∧ (∃ a b c, Bag H' B C cs a b c) ∧ TabS H' Pt qLot) ?_ ?_ ?_ ?_
    · exact ⟨none, none, none, none, none, none, none, none, none, none, none, none, none, none, none, rfl, ⟨_, _, _, hB1⟩, t1⟩
    · exact fun _ _ _ _ _ => trivial
    · rintro i z σ H2' H2 hi ⟨p2, p3, p4, p5, p6, p7, p8, p9, p10, p11, p12, p13, p14, p15, p16, rfl, ⟨a2, b2, c2, hB2⟩, t2⟩ ⟨rfl, rfl⟩
      -- the thing
      refine ⟨.ref B, rfl, .ref B, rfl, B, C, cs, a2, b2, c2, 3, rfl, hB2, by decide, by decide, fun mo a3 b3 c3 H3 hm sm3 ex3 hB3 => ⟨1, mo, rfl, rfl, ?_⟩⟩
      refine ⟨B, C, cs, a3, b3, c3, 1 + mo, (congrArg (fun k : Int => [V.ref B, V.int 4, V.int k]) (show (1 : Int) + (mo : Int) = ((1 + mo : Nat) : Int) by omega) : [V.ref B, V.int 4, V.int ((1 : Int) + (mo : Int))] = [V.ref B, V.int 4, V.int ((1 + mo : Nat) : Int)]), hB3, by omega, by omega, fun v Z a4 b4 c4 H4 sm4 ex4 hB4 hv4 hZ => ?_⟩
      have lk4 : LK K H4 B C Pt cs v Z := ⟨⟨_, _, _, hB4⟩, TabS.but t2 hB2.bag (sm3.trans sm4), hv4⟩
      clear hB4 hv4 sm4 ex4 sm3 ex3 hB3 t2 hB2
      -- row, states
      refine ⟨by decide, fun R nR => ⟨by show 1 ≤ sizeLine; decide, fun z0 nz => ⟨by show 2 ≤ sizeLine; decide, fun tp ntp => ?_⟩⟩⟩
      refine ⟨tp, _, rfl, SqT.of upd_same, rfl, _, _, rfl, _, _, rfl, rfl, ?_⟩
      have sR := same_upd (o := .lst []) nR
      have sz := same_upd (o := .lst [.int 0]) nz
      have st := same_upd (o := .tup [.ref R, .ref z0]) ntp
      have s45 := (sR.trans sz).trans st
      obtain ⟨neBR, neCR⟩ := lk4.free nR
      obtain ⟨neBz, neCz⟩ := (lk4.same sR).free nz
      have hR5 := st _ _ (sz _ _ (upd_same (H := H4) (a := R) (o := .lst [])))
      have hz5 := st _ _ (upd_same (H := upd H4 R (.lst [])) (a := z0) (o := .lst [.int 0]))
      have neRz : R ≠ z0 := ne_of_none (upd_same (H := H4) (a := R) (o := .lst [])) nz
      have lk5 := lk4.same s45
      generalize upd (upd (upd H4 R (.lst [])) z0 (.lst [.int 0])) tp (.tup [.ref R, .ref z0]) = H5 at *
      clear s45 st sz sR lk4 ntp nz nR
      -- the laps
      obtain ⟨a5, b5, c5, hB5⟩ := lk5.bag
      refine ⟨.ref B, rfl, B, C, cs, a5, b5, c5, 7, rfl, hB5, by decide, by decide, fun m a6 b6 c6 H6 hm6 sm6 ex6 hB6 => ?_⟩
      have lk6 := lk5.drawn sm6 ex6 hB6
      refine ⟨(m : Int), rfl, Int.le_trans (by decide) (Int.natCast_nonneg m), Int.lt_of_le_of_lt (show (m : Int) ≤ 6 by omega) (by decide), ?_⟩
      have n0 : 0 < Z.n := hZ.one
      refine for_it (walk_range (lo := 0) (n := (m : Int).toNat)) (fun j σ H' => ∃ (p6 p7 p8 p9 : Option V) (zS : Addr), σ = [some (.ref S), some (.ref B), some (.int (0 + (i : Nat))), some v, some (.ref R), some (.ref zS), p6, p7, p8, p9, p10, p11, p12, p13, p14, p15, p16, none, none] ∧ LK K H' B C Pt cs v Z ∧
        ∃ (rs : List V) (row : Row) (ss : List Nat), H' R = some (.lst rs) ∧ Ats K H' rs (row.map eR) ∧ row.length = j ∧ (∀ p ∈ row, p.1 ∈ Z.calls ∧ p.2 ≤ 9) ∧ B ≠ zS ∧ R ≠ zS ∧ H' zS = some (.lst (nI ss)) ∧ ss ≠ [] ∧ (∀ s ∈ ss, s < Z.n) ∧ ss.length ≤ 4) ?_ ?_ ?_ ?_
      · exact ⟨_, _, _, _, z0, rfl, lk6, [], [], [0], sm6 _ _ (Ne.symm neBR) hR5, .nil, rfl, (fun p hp => by cases hp), neBz, neRz, sm6 _ _ (Ne.symm neBz) hz5, by simp, (fun s hs => by rw [List.mem_singleton.mp hs]; exact n0), by decide⟩
      · exact fun _ _ _ _ _ => trivial
      · rintro j y σ H7' H7 hj ⟨q6, q7, q8, q9, zS, rfl, lk7, rs, row, ss, hR7, hr7, lrow, okr, neBS, neRS, hz7, ssn, ssok, ssl⟩ ⟨rfl, rfl⟩
        have hj : j < m := by omega
        -- call
        refine ⟨.ref B, rfl, v, rfl, Z, lk7.tg, rfl, fun yc hyc => ?_⟩
        obtain ⟨ac, xc, rfl, hsc, hac⟩ := hyc.at.tup_inv
        have lxc : xc.length = Z.calls.length := by rw [hac.length, List.length_map]
        have few := hZ.few
        have cne := hZ.ne
        refine ⟨ac, xc, rfl, .inr hsc, fun L nL => ?_⟩
        have sL := same_upd (o := .lst xc) nL
        have lk8 := lk7.same sL
        obtain ⟨a8, b8, c8, hB8⟩ := lk8.bag
        refine ⟨B, C, L, cs, a8, b8, c8, xc, rfl, hB8, upd_same, Ne.symm (lk7.free nL).1, by rw [lxc]; exact List.length_pos_iff.mpr cne, by omega, fun k vc a9 b9 c9 H9 hk sm9 ex9 hB9 => ?_⟩
        obtain ⟨c, hc, hvc⟩ := ats_map hac hk
        have hcm := List.mem_of_getElem? hc
        have ex79 := (Ext.of_same (K := K) sL).trans ex9
        have hvc9 := hvc.ext ex79
        have lk9 := lk8.drawn sm9 ex9 hB9
        have hR9 := sm9 _ _ (Ne.symm neBR) (sL _ _ hR7)
        have hr9 := hr7.ext ex79
        have hz9 := sm9 _ _ (Ne.symm neBS) (sL _ _ hz7)
        clear hB9 hvc ex79 sm9 ex9 hB8 lk8 sL nL hac hsc hyc hR7 hr7 hz7 lk7 hk
        -- result, to
        refine ⟨.ref B, rfl, v, rfl, .ref B, rfl, .ref zS, rfl, ?_⟩
        obtain ⟨aa, ba, ca, hBa⟩ := lk9.bag
        refine ⟨B, C, zS, cs, aa, ba, ca, nI ss, rfl, hBa, hz9, Ne.symm neBS, by rw [List.length_map]; exact List.length_pos_iff.mpr ssn, by rw [List.length_map]; omega, fun k2 sv ab bb cb Ha hk2 sma exa hBb => ?_⟩
        rw [List.getElem?_map] at hk2
        obtain ⟨sn, hsn, rfl⟩ := Option.map_eq_some_iff.mp hk2
        have hsT := ssok sn (List.mem_of_getElem? hsn)
        have lka := lk9.drawn sma exa hBb
        refine ⟨vc, rfl, Z, v, vc, sn, c, rfl, lka.tg, hZ, hsT, hvc9.ext exa, hcm, fun zo Hb sb hzo => ?_⟩
        obtain ⟨ao, os, rfl, hos, hat⟩ := hzo.tup_inv
        have los : os.length = (Z.out sn c).length := by rw [hat.length, List.length_map]
        have l12 := Th.out_len hZ hsT hcm
        have one := Th.out_ne hZ hsT hcm
        refine ⟨ao, os, rfl, .inr hos, fun M nM => ?_⟩
        have sM := same_upd (o := .lst os) nM
        have lkb := (lka.same sb).same sM
        obtain ⟨ac2, bc2, cc2, hBc⟩ := lkb.bag
        refine ⟨B, C, M, cs, ac2, bc2, cc2, os, rfl, hBc, upd_same, Ne.symm ((lka.same sb).free nM).1, by rw [los]; exact List.length_pos_iff.mpr one, by omega, fun k3 pv3 ad bd cd Hd hk3 smd exd hBd => ?_⟩
        obtain ⟨⟨r, t⟩, ho, hpv⟩ := ats_map hat hk3
        have hr0 := (Th.out_ok hZ hsT hcm _ (List.mem_of_getElem? ho)).1
        have hr0 : r ≤ 9 := hr0
        have exbd := (Ext.of_same (K := K) sM).trans exd
        have hpv := hpv.ext exbd
        have ex9d := (exa.trans (Ext.of_same (K := K) sb)).trans exbd
        have lkd := lkb.drawn smd exd hBd
        have hRd := smd _ _ (Ne.symm neBR) (sM _ _ (sb _ _ (sma _ _ (Ne.symm neBR) hR9)))
        have hrd := hr9.ext ex9d
        have hvcd := hvc9.ext ex9d
        obtain ⟨a3', z3, z4, rfl, hs3, g1, g2⟩ := two_inv hpv
        obtain rfl := g1.num_inv
        obtain rfl := g2.num_inv
        refine ⟨a3', _, rfl, hs3, rfl, _, _, rfl, _, _, rfl, rfl, ?_⟩
        clear hs3 g1 g2 hpv exbd ex9d hBd smd exd hk3 hat hos hzo sb lka hBb exa sma hBa hk2 sM nM hz9 hR9 hr9 hvc9 lk9 lkb hBc
        -- the result bent
        refine ⟨fun x H' => ∃ r' : Nat, x = .int r' ∧ r' ≤ 9 ∧ LK K H' B C Pt cs v Z ∧ H' R = some (.lst rs) ∧ Ats K H' rs (row.map eR) ∧ At K H' vc (eC c), ?_, ?_⟩
        · obtain ⟨ae, be, ce, hBe⟩ := lkd.bag
          refine ⟨.ref B, rfl, B, C, cs, ae, be, ce, 8, rfl, hBe, by decide, by decide, fun e af bf cf Hf he smf exf hBf => ⟨rfl, _, rfl, ?_⟩⟩
          have lkf := lkd.drawn smf exf hBf
          have hRf := smf _ _ (Ne.symm neBR) hRd
          have hrf := hrd.ext exf
          have hvf := hvcd.ext exf
          cases hd : decide (V.int (e : Int) = V.int 0) with
          | true =>
            obtain ⟨ag, bg, cg, hBg⟩ := lkf.bag
            exact iteT ⟨.ref B, rfl, B, C, cs, ag, bg, cg, 4, rfl, hBg, by decide, by decide, fun r2 ah bh ch Hh hr2 smh exh hBh => ⟨r2, rfl, by omega, lkf.drawn smh exh hBh, smh _ _ (Ne.symm neBR) hRf, hrf.ext exh, hvf.ext exh⟩⟩
          | false => exact iteF ⟨.int r, rfl, r, rfl, hr0, lkf, hRf, hrf, hvf⟩
        · rintro x He ⟨r', rfl, hr', lke, hRe, hre, hve⟩
          -- the row
          refine ⟨.ref R, rfl, .inl ⟨rfl, rs, SqL.of hRe⟩, vc, rfl, .int r', rfl, [eC c, .num r'], .two hve (.int _), by simp, fun pr Hf sf hpr => ?_⟩
          have lrs := hre.length
          rw [List.length_map] at lrs
          have hRf := sf _ _ hRe
          refine ⟨R, rs, pr, rfl, rfl, hRf, by rw [sizeLine_eq]; omega, ?_⟩
          have hpr : At K Hf pr (eR (c, r')) := hpr
          have lkf := lke.same sf
          have exR : Ext K Hf (upd Hf R (.lst (rs ++ [pr]))) := Ext.mut hRf trivial
          have lkg := lkf.lst (o := .lst (rs ++ [pr])) hRf neBR neCR
          have hRg : upd Hf R (.lst (rs ++ [pr])) R = some (.lst (rs ++ [pr])) := upd_same
          have hrg : Ats K (upd Hf R (.lst (rs ++ [pr]))) (rs ++ [pr]) ((row ++ [(c, r')]).map eR) := by
            rw [List.map_append]
            exact ((hre.same sf).append (.one hpr)).ext exR
          generalize upd Hf R (.lst (rs ++ [pr])) = Hg at *
          have okr' : ∀ p ∈ row ++ [(c, r')], p.1 ∈ Z.calls ∧ p.2 ≤ 9 := fun p hp => by
            rcases List.mem_append.mp hp with h | h
            · exact okr p h
            · rw [List.mem_singleton.mp h]
              exact ⟨hcm, hr'⟩
          have rok : RowOk Z (row ++ [(c, r')]) := ⟨okr', by simp; omega⟩
          obtain ⟨okS, lenS⟩ := rowS_ok hZ (row ++ [(c, r')])
          -- the states
          refine ⟨fun x H' => ∃ (zT : Addr) (st : List Nat), x = .ref zT ∧ Same Hg H' ∧ Hg zT = none ∧ H' zT = some (.lst (nI st)) ∧ st ≠ [] ∧ (∀ s ∈ st, s < Z.n) ∧ st.length ≤ 4, ?_, ?_⟩
          · refine ⟨v, rfl, .ref R, rfl, Z, v, .ref R, _, rfl, lkg.tg, hZ, Seq.lst (SqL.of hRg) hrg, rok, fun a1 Hh n1 sh ha1 => ⟨by decide, fun e1 ne1 => ?_⟩⟩
            have se := same_upd (o := .lst []) ne1
            have sge := sh.trans se
            refine ⟨a1, e1, _, _, rfl, rfl, SqL.of (se _ _ ha1), ats_nI _, SqL.of upd_same, _, rfl, ?_⟩
            rw [num_nil]
            by_cases em : rowS Z (row ++ [(c, r')]) = []
            · rw [decide_eq_true em]
              refine iteF ⟨by show 1 ≤ sizeLine; decide, fun z1 nz1 => ?_⟩
              exact ⟨z1, [0], rfl, sge.trans (same_upd nz1), sge.free nz1, upd_same, by simp, (fun s hs => by rw [List.mem_singleton.mp hs]; exact n0), by decide⟩
            · rw [decide_eq_false em]
              refine iteT ⟨v, rfl, .ref R, rfl, Z, v, .ref R, _, rfl, lkg.tg.same sge, hZ, Seq.lst (SqL.of (sge _ _ hRg)) (hrg.same sge), rok, fun a3 Hi n3 si ha3 => ?_⟩
              exact ⟨a3, _, rfl, sge.trans si, sge.free n3, ha3, em, okS, lenS⟩
          · rintro x Hh ⟨zT, st, rfl, sh, nz, hzh, stn, stok, stl⟩
            refine ⟨_, _, _, _, zT, rfl, lkg.same sh, rs ++ [pr], row ++ [(c, r')], st, sh _ _ hRg, hrg.same sh, by simp; omega, okr', (lkg.free nz).1, ne_of_none hRg nz, hzh, stn, stok, stl⟩
      · rintro σ H7 ⟨q6, q7, q8, q9, zS, rfl, lk7, rs, row, ss, hR7, hr7, lrow, okr, neBS, neRS, hz7, ssn, ssok, ssl⟩
        have lrow : row.length = m := by omega
        have l6 : row.length ≤ 6 := by omega
        have rok : RowOk Z row := ⟨okr, by omega⟩
        have hrC : ∀ p ∈ row, p.1 ∈ Z.calls := fun p hp => (okr p hp).1
        have hr9 : ∀ p ∈ row, p.2 ≤ 9 := fun p hp => (okr p hp).2
        clear hz7 neRS neBS ssn ssok ssl lk6 lk5 sm6 ex6 hB5 hR5 hz5 hB6 neRz
        -- row, history
        refine ⟨.ref R, rfl, .ref R, _, rfl, Seq.lst (SqL.of hR7) hr7, by rw [List.length_map]; omega, fun u H8 s8 hu => ⟨by decide, fun hL nhL => ⟨by show 2 ≤ sizeLine; decide, fun tp ntp => ?_⟩⟩⟩
        refine ⟨tp, _, rfl, SqT.of upd_same, rfl, _, _, rfl, _, _, rfl, rfl, ?_⟩
        have shL := same_upd (o := .lst []) nhL
        have stp := same_upd (o := .tup [u, .ref hL]) ntp
        have s9 := shL.trans stp
        obtain ⟨neBh, neCh⟩ := (lk7.same s8).free nhL
        have hh9 := stp _ _ (upd_same (H := H8) (a := hL) (o := .lst []))
        have lk9 := (lk7.same s8).same s9
        have hu9 := hu.same s9
        generalize upd (upd H8 hL (.lst [])) tp (.tup [u, .ref hL]) = H9 at *
        clear s9 stp shL ntp nhL hu s8 lk7 hR7 hr7
        obtain ⟨au, xu, rfl, hsu, hau⟩ := id hu9.tup_inv
        have lxu : xu.length = row.length := by rw [hau.length, List.length_map]
        refine ⟨.ref au, rfl, au, rfl, ⟨_, hsu⟩, ?_⟩
        refine for_it (walk_tup (xs := xu)) (fun j σ H' => ∃ (q7 q8 : Option V), σ = [some (.ref S), some (.ref B), some (.int (0 + (i : Nat))), some v, some (.ref au), some (.ref zS), q6, q7, q8, q9, some (.ref hL), p11, p12, p13, p14, p15, p16, none, none] ∧ LK K H' B C Pt cs v Z ∧ Ext K H9 H' ∧
          ∃ hs, H' hL = some (.lst hs) ∧ Ats K H' hs ((hist (row.take j) none).map eE)) ?_ ?_ ?_ ?_
        · exact ⟨_, _, rfl, lk9, Ext.refl _, [], hh9, .nil⟩
        · rintro j σ H' _ ⟨_, _, _, _, ex, _⟩
          exact ex _ _ hsu
        · rintro j x σ Ha' Ha hj ⟨q7', q8', rfl, lka, exa, hs, hha, hta⟩ ⟨rfl, hx⟩
          obtain ⟨⟨c, r⟩, hp, hxp⟩ := ats_map (hau.ext exa) hx
          obtain ⟨b, y1, y2, rfl, hs2, g1, g2⟩ := two_inv hxp
          obtain rfl := g2.num_inv
          refine ⟨b, _, rfl, hs2, rfl, y1, _, rfl, .int r, _, rfl, rfl, ?_⟩
          refine ⟨.ref hL, rfl, .inl ⟨rfl, hs, SqL.of hha⟩, ?_⟩
          refine ⟨[.text "call", .num 0], .two (.str _ kc) (.int 0), by simp, fun w1 H1 s1 h1 => ⟨y1, rfl, _, [.text c.1, .num c.2], h1, g1.same s1, by simp, fun w2 H2 s2 h2 => ?_⟩⟩
          refine ⟨.int r, rfl, [.text "back", .num 0, .num r], .cons (.str _ kb) (.two (.int 0) (.int r)), by simp, fun w3 H3 s3 h3 => ⟨by show 2 ≤ sizeLine; decide, fun L nL => ?_⟩⟩
          have sL := same_upd (o := .lst [w2, w3]) nL
          have sA := ((s1.trans s2).trans s3).trans sL
          have h2 : At K H2 w2 (eE (.call c)) := h2
          have h3 : At K H3 w3 (eE (.back r)) := h3
          have hhb := sA _ _ hha
          have lh := hta.length
          rw [List.length_map, hist_len] at lh
          have lt : (row.take j).length ≤ 6 := by rw [List.length_take]; omega
          refine ⟨hL, L, hs, [w2, w3], rfl, rfl, hhb, upd_same, by rw [sizeLine_eq]; simp at lh ⊢; omega, ?_⟩
          have exE : Ext K (upd H3 L (.lst [w2, w3])) (upd (upd H3 L (.lst [w2, w3])) hL (.lst (hs ++ [w2, w3]))) := Ext.mut hhb trivial
          refine ⟨_, _, rfl, (lka.same sA).lst hhb neBh neCh, (exa.trans (Ext.of_same (K := K) sA)).trans exE, _, upd_same, ?_⟩
          have tk : row.take (j + 1) = row.take j ++ [(c, r)] := by
            rw [List.take_add_one, hp]
            rfl
          rw [tk, hist_snoc, List.map_append]
          exact ((hta.same sA).append (.two ((h2.same s3).same sL) (h3.same sL))).ext exE
        · rintro σ Ha ⟨q7', q8', rfl, lka, exa, hs, hha, hta⟩
          rw [lxu, List.take_length] at hta
          have hua : At K Ha (.ref au) (.tup (row.map eR)) := .tup (exa _ _ hsu) (hau.ext exa)
          clear hu9 lk9 hh9 exa hsu hau
          -- due
          refine ⟨v, rfl, .ref au, rfl, Z, v, .ref au, row, rfl, lka.tg, hZ, Seq.tup hua, rok, fun du Hb nb sb hdu => ?_⟩
          have lkb := lka.same sb
          have hub := hua.same sb
          have hhb := sb _ _ hha
          have htb := hta.same sb
          obtain ⟨okS, lenS⟩ := rowS_ok hZ row
          clear lka hua hha hta sb
          -- wrong
          refine ⟨.ref au, rfl, .ref au, _, rfl, Seq.tup hub, ((row.map eR).length : Int), rfl, Int.le_trans (by decide) (Int.natCast_nonneg _), Int.lt_of_le_of_lt (show ((row.map eR).length : Int) ≤ 6 by rw [List.length_map]; omega) (by decide), fun W nW => ?_⟩
          have lmr : ((row.map eR).length : Int).toNat = row.length := by rw [List.length_map]; exact Int.toNat_natCast _
          rw [lmr]
          refine lc_acc (K := K) (walk_range (lo := 0) (n := row.length)) nW (by omega) (fun _ _ => trivial) (fun k acc H' => acc = nI ((List.range k).filter fun k => decide (rowS Z (row.take (k + 1)) = []))) (fun _ _ _ _ _ h => h) rfl (fun k x Hc' Hc acc kk k0 hk sm eD hr hx hkk hk0 => ?_) fun Hc acc sm eW hr => ?_
          · obtain ⟨rfl, rfl⟩ := hx
            refine ⟨rfl, ?_⟩
            have rk : (List.range (k + 1)).filter (fun k => decide (rowS Z (row.take (k + 1)) = [])) = (List.range k).filter (fun k => decide (rowS Z (row.take (k + 1)) = [])) ++ (if rowS Z (row.take (k + 1)) = [] then [k] else []) := by
              rw [List.range_succ, List.filter_append]
              congr 1
              by_cases e : rowS Z (row.take (k + 1)) = []
              · rw [if_pos e, List.filter_cons_of_pos (by simpa using e)]
                rfl
              · rw [if_neg e, List.filter_cons_of_neg (by simpa using e)]
                rfl
            refine ⟨v, rfl, .ref au, rfl, .int (0 + (k : Nat)), rfl, 0 + (k : Nat), 1, rfl, rfl, _, rfl, row.map eR, none, some (k + 1), hub.same sm, rfl, (by simp), fun su Hd sd hsu => ?_⟩
            have hsu : At K Hd su (.tup ((row.take (k + 1)).map eR)) := by
              rw [List.map_take]
              exact hsu
            refine ⟨Z, v, su, row.take (k + 1), rfl, (lkb.tg.same sm).same sd, hZ, Seq.tup hsu, ⟨fun p hp => okr p (List.mem_of_mem_take hp), by rw [List.length_take]; omega⟩, fun a1 He n1 se ha1 => ⟨by decide, fun e1 ne1 => ?_⟩⟩
            have s1 := same_upd (o := .lst []) ne1
            refine ⟨a1, e1, _, _, rfl, rfl, SqL.of (s1 _ _ ha1), ats_nI _, SqL.of upd_same, _, rfl, ?_⟩
            rw [num_nil]
            have sde := (sd.trans se).trans s1
            by_cases e : rowS Z (row.take (k + 1)) = []
            · rw [decide_eq_true e]
              rw [if_pos e] at rk
              refine iteT ⟨.int (0 + (k : Nat)), rfl, hkk _ _ sde ?_⟩
              rw [rk, hr]
              simp
            · rw [decide_eq_false e]
              rw [if_neg e, List.append_nil] at rk
              refine iteF (hk0 _ sde ?_)
              rw [rk, hr]
          · have hr : acc = nI (wrongs Z row) := hr
            subst hr
            have lkc := lkb.same sm
            have huc := hub.same sm
            have hhc := sm _ _ hhb
            have htc := htb.same sm
            have hdc := sm _ _ hdu
            clear lkb hub hhb htb hdu sm nW nb
            -- lets, states behind
            refine ⟨IsF Hc, ?_, ?_⟩
            · refine ⟨v, rfl, .ref au, rfl, Z, v, .ref au, row, rfl, lkc.tg, hZ, huc, rok, fun Hd sd => ⟨.ref du, rfl, by decide, fun e1 ne1 => ?_⟩⟩
              have s1 := same_upd (o := .lst []) ne1
              refine ⟨du, e1, _, _, rfl, rfl, SqL.of (s1 _ _ (sd _ _ hdc)), ats_nI _, SqL.of upd_same, rfl, false, congrArg V.bl (ne_bl (by rw [num_nil])), iteF ?_⟩
              have sd1 := sd.trans s1
              refine ⟨v, rfl, .ref au, rfl, Z, v, .ref au, row, rfl, lkc.tg.same sd1, hZ, huc.same sd1, rok, fun z He se hz => ⟨.ref du, rfl, .ref du, _, rfl, Seq.lst (SqL.of (se _ _ (sd1 _ _ hdc))) (ats_nI _), by rw [List.length_map]; omega, fun w Hf sf hw => ?_⟩⟩
              exact ⟨nums (rowS Z row), nums (rowS Z row), hz.same sf, hw, Nat.le_trans (Nat.min_le_left _ _) (Nat.le_trans (nums_deep _) (by decide)), _, rfl, ne_nk rfl, (sd1.trans se).trans sf⟩
            rintro b0 Hg ⟨rfl, sg⟩
            refine iteF ?_
            -- the number of lots
            refine ⟨v, rfl, Z, v, rfl, lkc.tg.same sg, hZ, (lkc.same sg).tab, fun zl Hh eh th hzl => ?_⟩
            have lkh := (lkc.same sg).ext_n eh th
            have huh := (huc.same sg).ext (ext_of_n eh)
            have hhh := eh _ _ (sg _ _ hhc) fun _ z => nomatch z
            have hth := (htc.same sg).ext (ext_of_n eh)
            have hdh := eh _ _ (sg _ _ hdc) fun _ z => nomatch z
            have hwh := eh _ _ (sg _ _ eW) fun _ z => nomatch z
            clear lkc huc hhc htc hdc eW sg eh th
            have lhist : (hist row none).length ≤ 12 := by rw [hist_len]; simp; omega
            -- what is more
            refine ⟨[], .nil, by simp, fun w0 Hi si h0 => ?_⟩
            refine ⟨[.text "call", .num 0], .two (.str _ kc) (.int 0), by simp, fun w1 Hj sj h1 => ?_⟩
            have sij := si.trans sj
            have lkj := lkh.same sij
            refine ⟨.ref B, rfl, v, rfl, Z, lkj.tg, rfl, fun yc hyc => ?_⟩
            obtain ⟨ac, xc, rfl, hsc, hac⟩ := hyc.at.tup_inv
            have lxc : xc.length = Z.calls.length := by rw [hac.length, List.length_map]
            have few := hZ.few
            have cne := hZ.ne
            refine ⟨ac, xc, rfl, .inr hsc, fun L nL => ?_⟩
            have sL := same_upd (o := .lst xc) nL
            have lkL := lkj.same sL
            obtain ⟨a8, b8, c8, hB8⟩ := lkL.bag
            refine ⟨B, C, L, cs, a8, b8, c8, xc, rfl, hB8, upd_same, Ne.symm (lkj.free nL).1, by rw [lxc]; exact List.length_pos_iff.mpr cne, by omega, fun k vc a9 b9 c9 Hk hk sk ex hB9 => ?_⟩
            obtain ⟨c, hc, hvc⟩ := ats_map hac hk
            have hcm := List.mem_of_getElem? hc
            have exj := (Ext.of_same (K := K) sL).trans ex
            have exh := (Ext.of_same (K := K) sij).trans exj
            have bk : ∀ (A : Addr) (xs : List V), A ≠ B → Hh A = some (.lst xs) → Hk A = some (.lst xs) := fun A xs ne hA => sk _ _ ne (sL _ _ (sij _ _ hA))
            have lkk := lkL.drawn sk ex hB9
            have neW : W ≠ B := by
              obtain ⟨_, _, _, h0⟩ := lkh.bag
              intro e
              rw [e, h0.bag] at hwh
              injection hwh with hwh
              injection hwh with hwh
              have := congrArg (fun l => l[3]?) hwh
              simp only [nI, List.getElem?_map] at this
              cases h3 : (wrongs Z row)[3]? with
              | none => rw [h3] at this; cases this
              | some w => rw [h3] at this; cases this
            have neD : du ≠ B := by
              obtain ⟨_, _, _, h0⟩ := lkh.bag
              intro e
              rw [e, h0.bag] at hdh
              injection hdh with hdh
              injection hdh with hdh
              have := congrArg (fun l => l[3]?) hdh
              simp only [nI, List.getElem?_map] at this
              cases h3 : (rowS Z row)[3]? with
              | none => rw [h3] at this; cases this
              | some w => rw [h3] at this; cases this
            refine ⟨_, [.text c.1, .num c.2], h1.ext exj, hvc.ext exj, by simp, fun w2 Hl sl h2 => ?_⟩
            have h2 : At K Hl w2 (eE (.call c)) := h2
            refine ⟨[eE (.call c)], .one h2, by simp, fun w3 Hm sm h3 => ?_⟩
            have h0m := (((h0.same sj).ext exj).same sl).same sm
            refine ⟨[.tup [], .tup [eE (.call c)]], .two h0m h3, by simp, fun w4 Hn sn h4 => ?_⟩
            have skn := (sl.trans sm).trans sn
            have lkn := lkk.same skn
            have hun := (huh.ext exh).same skn
            have hhn := skn _ _ (bk _ _ (Ne.symm neBh) hhh)
            have htn := (hth.ext exh).same skn
            have hdn := skn _ _ (bk _ _ neD hdh)
            have hwn := skn _ _ (bk _ _ neW hwh)
            clear skn bk lkk lkL hB8 hB9 sk sL nL hyc lkj sij exj exh ex si sj sl sm sn h0 h1 h2 h3 h0m lkh huh hhh hth hdh hwh hsc hac hvc hk
            obtain ⟨am, xm, rfl, hsm, ham⟩ := h4.tup_inv
            refine ⟨am, rfl, ⟨_, hsm⟩, ?_⟩
            refine for_it (walk_tup (xs := xm)) (fun j σ H' => ∃ (q14 q15 q16 : Option V), σ = [some (.ref S), some (.ref B), some (.int (0 + (i : Nat))), some v, some (.ref au), some (.ref zS), q6, q7', q8', q9, some (.ref hL), some (.ref du), some (.ref W), some zl, q14, q15, q16, none, none] ∧ Same Hn H') ?_ ?_ ?_ ?_
            · exact ⟨_, _, _, rfl, Same.refl _⟩
            · rintro j σ H' _ ⟨_, _, _, _, s0⟩
              exact Ext.of_same s0 _ _ hsm
            · rintro j x σ Ho' Ho hj ⟨q14, q15, q16, rfl, so⟩ ⟨rfl, hx⟩
              obtain ⟨xo, hxo, hco⟩ : ∃ xo : Option Call, At K Ho x (.tup ((xo.toList.map Ev.call).map eE)) ∧ (∀ d, xo = some d → d ∈ Z.calls) := by
                obtain ⟨kx, hkx, hxx⟩ := (ham.same so).back hx
                match j, hkx with
                | 0, e =>
                  obtain rfl := Option.some.inj e
                  exact ⟨none, hxx, fun d e => by cases e⟩
                | 1, e =>
                  obtain rfl := Option.some.inj e
                  exact ⟨some c, hxx, fun d e => by cases e; exact hcm⟩
                | j + 2, e => exact absurd e (by simp)
              have lko := lkn.same so
              have huo := hun.same so
              have hho := so _ _ hhn
              have hto := htn.same so
              have hdo := so _ _ hdn
              have hwo := so _ _ hwn
              have hcall : ∀ d ∈ callsOf row xo, d ∈ Z.calls := fun d hd => by
                unfold callsOf at hd
                rcases List.mem_append.mp hd with h | h
                · obtain ⟨p, hp, rfl⟩ := List.mem_map.mp h
                  exact hrC p hp
                · exact hco d (by simpa using h)
              have hhs : Hs Z (hist row xo) := hist_hs hcall hr9 (by omega)
              have lho : (hist row xo).length ≤ 13 := by
                rw [hist_len]
                have : xo.toList.length ≤ 1 := by cases xo <;> simp
                omega
              -- its
              have lenx : ((hist row none).map eE).length + ((xo.toList.map Ev.call).map eE).length ≤ 1000000 := by
                have : xo.toList.length ≤ 1 := by cases xo <;> simp
                rw [List.length_map, List.length_map, List.length_map]
                omega
              refine ⟨.ref hL, rfl, .ref hL, _, rfl, Seq.lst (SqL.of hho) hto, by rw [List.length_map]; omega, fun th Hpp sp hth => ⟨x, rfl, _, _, hth, hxo.same sp, lenx, fun its Hq sq hits => ?_⟩⟩
              rw [← List.map_append, ← hist_end] at hits
              have spq := sp.trans sq
              have lkq := lko.same spq
              have huq := huo.same spq
              have hdq := spq _ _ hdo
              have hwq := spq _ _ hwo
              have soq := so.trans spq
              clear lko huo hho hto hdo hwo hxo hth sp sq spq so
              have nR : ∀ {H' : Hp} {R : V → Hp → Prop} (e : Addr), Same Hq H' → H' e = none → R (.bl (!decide (rowS Z row = []))) (upd H' e (.lst [])) → rNeL K (.ref du) (.ref e) (upd H' e (.lst [])) R := fun {H' R} e s n q => by
                refine ⟨du, e, _, _, rfl, rfl, SqL.of (same_upd n _ _ (s _ _ hdq)), ats_nI _, SqL.of upd_same, ?_⟩
                rw [num_nil]
                exact q
              have eqR : ∀ {H' : Hp} {R : V → Hp → Prop} (e : Addr), Same Hq H' → H' e = none → R (.bl (decide (rowS Z row = []))) (upd H' e (.lst [])) → rEqL K (.ref du) (.ref e) (upd H' e (.lst [])) R := fun {H' R} e s n q => by
                refine ⟨du, e, _, _, rfl, rfl, SqL.of (same_upd n _ _ (s _ _ hdq)), ats_nI _, SqL.of upd_same, ?_⟩
                rw [num_nil]
                exact q
              have lotd : decide (lotR Z (hist row xo) = []) = decide (rowS Z row = []) := decide_eq_decide.mpr (lotR_none hZ hrC)
              -- at once, in own order
              refine ⟨IsF Hq, ?_, ?_⟩
              · refine ⟨v, rfl, its, rfl, Z, v, its, _, rfl, lkq.tg, hZ, hits, hhs, fun Hr sr => ⟨.ref du, rfl, by decide, fun e1 ne1 => nR e1 sr ne1 ⟨rfl, false, congrArg V.bl (ne_bl (by rw [lotd])), iteF ?_⟩⟩⟩
                have sr1 := sr.trans (same_upd (o := .lst []) ne1)
                exact ⟨v, rfl, its, rfl, Z, v, its, row, xo, rfl, lkq.tg.same sr1, hZ, hits.same sr1, hhs, by omega, hcall, fun Hs ss => ⟨.ref du, rfl, by decide, fun e2 ne2 => nR e2 (sr1.trans ss) ne2 ⟨rfl, _, rfl, ne_bl rfl, (sr1.trans ss).trans (same_upd ne2)⟩⟩⟩
              rintro b0 Hr ⟨rfl, sr⟩
              refine iteF ?_
              -- first wrong
              refine ⟨IsF Hq, ?_, ?_⟩
              · refine ⟨v, rfl, its, rfl, Z, v, its, _, rfl, lkq.tg.same sr, hZ, hits.same sr, hhs, fun Hs ss => ?_⟩
                have srs := sr.trans ss
                refine ⟨fun k hk e1 e2 => ?_, fun hall => ?_⟩
                · refine ⟨.ref W, rfl, by decide, fun e ne => ?_⟩
                  have s1 := srs.trans (same_upd (o := .lst []) ne)
                  refine ⟨W, e, _, _, rfl, rfl, SqL.of (s1 _ _ hwq), ats_nI _, SqL.of upd_same, _, rfl, ?_⟩
                  rw [num_nil]
                  cases hw : wrongs Z row with
                  | nil => exact absurd e1 (wrong_none hZ hrC hw k hk)
                  | cons a ws =>
                    obtain ⟨g1, g2, g3⟩ := wrong_some (x := xo) hZ hrC hw
                    have ek : k = 2 * a + 1 := by
                      rcases Nat.lt_trichotomy k (2 * a + 1) with h | h | h
                      · exact absurd e1 (g3 k h)
                      · exact h
                      · exact absurd g2 (e2 _ h)
                    refine iteT ⟨.ref W, rfl, W, _, ((0 : Nat) : Int), .int a, rfl, rfl, SqL.of (s1 _ _ hwq), atI_nat (by rw [hw]; rfl), 2, a, rfl, rfl, .inl ⟨by decide, by decide⟩, 2 * (a : Int), 1, rfl, rfl, rfl, _, rfl, ?_, s1⟩
                    have : (k : Int) = 2 * (a : Int) + 1 := by omega
                    rw [this]
                    simp
                · refine ⟨.ref W, rfl, by decide, fun e ne => ?_⟩
                  have s1 := srs.trans (same_upd (o := .lst []) ne)
                  refine ⟨W, e, _, _, rfl, rfl, SqL.of (s1 _ _ hwq), ats_nI _, SqL.of upd_same, _, rfl, ?_⟩
                  rw [num_nil]
                  cases hw : wrongs Z row with
                  | nil => exact iteF ⟨rfl, _, rfl, by simp, s1⟩
                  | cons a ws =>
                    obtain ⟨g1, g2, g3⟩ := wrong_some (x := xo) hZ hrC hw
                    exact absurd g2 (hall _ g1)
              rintro b0 Hs ⟨rfl, ss⟩
              refine iteF ?_
              -- the order
              refine ⟨fun z H' => Same Hq H' ∧ (rowS Z row = [] → z = .non) ∧ (rowS Z row ≠ [] → At K H' z (eWy (mom row))), ?_, ?_⟩
              · refine ⟨v, rfl, its, rfl, Z, v, its, row, xo, rfl, lkq.tg.same ss, hZ, hits.same ss, hcall, hr9, by omega, fun Ht st => ⟨fun e => ⟨ss.trans st, fun _ => rfl, fun n => absurd e n⟩, fun n z hz => ⟨ss.trans st, fun e => absurd e n, fun _ => hz⟩⟩⟩
              rintro zo Ht ⟨st, zn, zs⟩
              refine ⟨IsF Ht, ?_, ?_⟩
              · refine ⟨zo, rfl, .ref du, rfl, by decide, fun e1 ne1 => eqR e1 st ne1 ?_⟩
                have s1 := st.trans (same_upd (o := .lst []) ne1)
                by_cases em : rowS Z row = []
                · obtain rfl := zn em
                  refine ⟨rfl, false, congrArg V.bl (ne_bl (by rw [decide_eq_true em]; rfl)), iteF ?_⟩
                  exact ⟨.non, rfl, false, rfl, iteF ⟨rfl, same_upd ne1⟩⟩
                · have hz := zs em
                  obtain ⟨az, xz, rfl, _, _⟩ := id hz.tup_inv
                  refine ⟨rfl, false, congrArg V.bl (ne_bl (by rw [decide_eq_false em]; rfl)), iteF ?_⟩
                  refine ⟨.ref az, rfl, true, rfl, iteT ?_⟩
                  exact ⟨v, rfl, its, rfl, .ref az, rfl, Z, v, its, .ref az, row, xo, rfl, lkq.tg.same s1, hZ, hits.same s1, hhs, by omega, hcall, hz.same (same_upd ne1), em, fun Hu su => ⟨true, true, rfl, rfl, _, rfl, by simp, (same_upd ne1).trans su⟩⟩
              rintro b0 Hu ⟨rfl, su0⟩
              have su := st.trans su0
              refine iteF ?_
              -- the moments
              refine ⟨IsF Hq, ?_, ?_⟩
              · by_cases em : rowS Z row = []
                · obtain rfl := zn em
                  exact ⟨.non, rfl, false, rfl, iteF ⟨rfl, su⟩⟩
                · have hz : At K Hu zo (.tup ((mom row).map eM)) := (zs em).same su0
                  obtain ⟨az, xz, rfl, _, _⟩ := id hz.tup_inv
                  refine ⟨.ref az, rfl, true, rfl, iteT ?_⟩
                  have huu := huq.same su
                  refine ⟨.ref az, rfl, .ref au, rfl, .ref au, _, rfl, Seq.tup huu, ((row.map eR).length : Int), rfl, (mom row).map eM, none, some (row.map eR).length, hz, rfl, rfl, fun so' Hv sv hso => ?_⟩
                  obtain ⟨au', xu', eau, hsu', hau'⟩ := (huu.same sv).tup_inv
                  cases eau
                  have lxu' : xu'.length = row.length := by rw [hau'.length, List.length_map]
                  refine ⟨.ref au, rfl, au, xu', rfl, hsu', fun Dm nDm => ?_⟩
                  refine lc_acc (K := K) (walk_enumT (xs := xu')) nDm (by omega) (fun H1 s1 => Ext.of_same s1 _ _ hsu') (fun k acc H1 => Ats K H1 acc (((mom row).take k).map eM)) (fun i acc H1 H2 e h => h.ext e) .nil (fun k y Hw Hw' acc kk k0 hk sw eD hr3 hy hkk hk0 => ?_) fun Hw acc sw eD hr3 => ?_
                  · obtain ⟨Tp, z1, z2, rfl, nT, rfl, e1, e2⟩ := hy
                    obtain rfl : V.int (k : Nat) = z1 := Option.some.inj e1
                    obtain ⟨⟨c', r'⟩, hp', hxp'⟩ := ats_map (hau'.same sw) e2
                    have sT := same_upd (o := .tup [.int (k : Nat), z2]) nT
                    have hT : SqT K (upd Hw Tp (.tup [.int (k : Nat), z2])) Tp [.int (k : Nat), z2] := SqT.of upd_same
                    have hxT := hxp'.same sT
                    obtain ⟨b, y1, y2, rfl, hs2, g1, g2⟩ := two_inv hxT
                    obtain rfl := g2.num_inv
                    refine ⟨Tp, _, rfl, hT, rfl, _, _, rfl, _, _, rfl, b, _, rfl, hs2, rfl, _, _, rfl, _, _, rfl, rfl, rfl, rfl, lc_yes ?_⟩
                    have e2 : (2 : Int) * (k : Int) = ((2 * k : Nat) : Int) := by omega
                    refine ⟨.int (k : Nat), rfl, 2, (k : Int), rfl, rfl, .inl ⟨by decide, by decide⟩, .int r', rfl, [.num ((2 * k : Nat) : Int), .num r'], .two (by rw [← e2]; exact .int _) (.int _), by simp, fun w5 Hx sx hw5 => hkk w5 Hx (sT.trans sx) ?_⟩
                    have hm : (mom row)[k]? = some (2 * k, r') := by
                      unfold mom
                      have lt : k < row.length := (List.getElem?_eq_some_iff.mp hp').1
                      rw [List.getElem?_map, List.getElem?_range lt]
                      simp [hp']
                    rw [List.take_add_one, hm, List.map_append]
                    exact (hr3.same (sT.trans sx)).append (.one hw5)
                  · rw [lxu', ← mom_len row, List.take_length] at hr3
                    refine ⟨.ref Dm, _, rfl, Seq.lst (SqL.of eD) hr3, by rw [List.length_map, mom_len]; omega, fun w5 Hx sx hw5 => ?_⟩
                    have svx := (sv.trans sw).trans sx
                    refine ⟨_, _, (hso.same sw).same sx, hw5, Nat.le_trans (Nat.min_le_right _ _) (Nat.le_trans (moms_deep _) (by decide)), _, rfl, ne_nk ?_, su.trans svx⟩
                    simp [cutK, List.take_of_length_le, mom_len]
              rintro b0 Hv ⟨rfl, sv⟩
              refine iteF ?_
              -- the watcher
              refine ⟨IsF Hq, ?_, ?_⟩
              · rcases hzl with ⟨nl, rfl⟩ | rfl
                · refine ⟨.int nl, rfl, rfl, true, rfl, iteT ?_⟩
                  refine ⟨v, rfl, Z, v, rfl, lkq.tg.same sv, hZ, fun wz Ls sts Hw sw hwf hwz => ⟨its, rfl, Z, Ls, sts, wz, its, _, rfl, hZ, hwf, hwz, (hits.same sv).same sw, hhs.ev, by omega, fun Hx sx => ?_⟩⟩
                  have svx := (sv.trans sw).trans sx
                  refine ⟨fun e => ?_, fun e k => ?_⟩
                  · refine ⟨.ref du, rfl, by decide, fun e1 ne1 => eqR e1 svx ne1 ⟨rfl, _, rfl, ne_bl ?_, svx.trans (same_upd ne1)⟩⟩
                    rw [decide_eq_true ((lotR_none hZ hrC).mp e)]
                    rfl
                  · refine ⟨.ref du, rfl, by decide, fun e1 ne1 => eqR e1 svx ne1 ⟨rfl, _, rfl, ne_bl ?_, svx.trans (same_upd ne1)⟩⟩
                    rw [decide_eq_false fun z => e ((lotR_none hZ hrC).mpr z)]
                    rfl
                · exact ⟨.str "many", rfl, rfl, false, by simp, iteF ⟨rfl, sv⟩⟩
              rintro b0 Hw ⟨rfl, sw⟩
              refine iteF ⟨_, _, _, rfl, soq.trans sw⟩
            · rintro σ Ho ⟨q14, q15, q16, rfl, so⟩
              have lko := lkn.same so
              have huo := hun.same so
              have hho := so _ _ hhn
              have hto := htn.same so
              have hdo := so _ _ hdn
              have hhs : Hs Z (hist row none) := hist_hs (fun d hd => by
                unfold callsOf at hd
                rcases List.mem_append.mp hd with h | h
                · obtain ⟨p, hp, rfl⟩ := List.mem_map.mp h
                  exact hrC p hp
                · cases h) hr9 (by omega)
              -- the beliefs
              refine ⟨IsF Ho, ?_, ?_⟩
              · refine ⟨v, rfl, .ref hL, rfl, .ref hL, _, rfl, Seq.lst (SqL.of hho) hto, by rw [List.length_map]; omega, fun th Hp2 sp hth => ⟨Z, v, th, _, rfl, lko.tg.same sp, hZ, hth, hhs, fun zb Hq sq hzb => ?_⟩⟩
                have spq := sp.trans sq
                have hdq := spq _ _ hdo
                refine ⟨.ref du, rfl, du, rfl, ⟨_, SqL.of hdq⟩, fun Dm nDm => ?_⟩
                have lnI : (nI (rowS Z row)).length = (rowS Z row).length := by simp
                refine lc_acc (K := K) (walk_list (xs := nI (rowS Z row))) nDm (by omega) (fun H1 s1 => SqL.of (s1 _ _ hdq)) (fun k acc H1 => Ats K H1 acc ((((rowS Z row).take k).map fun s => ((s, Wt.idle) : Bel)).map eB)) (fun i acc H1 H2 e h => h.ext e) .nil (fun k y Hr Hr' acc kk k0 hk sr eD hr3 hy hkk hk0 => ?_) fun Hr acc sr eD hr3 => ?_
                · obtain ⟨rfl, hy⟩ := hy
                  rw [List.getElem?_map] at hy
                  obtain ⟨sn, hsn, rfl⟩ := Option.map_eq_some_iff.mp hy
                  refine ⟨rfl, lc_yes ⟨.int sn, rfl, [.none], .one .non, by simp, fun w1 H1 s1 h1 => ⟨[.num sn, .tup [.none]], .two (.int _) h1, by simp, fun w2 H2 s2 h2 => hkk w2 H2 (s1.trans s2) ?_⟩⟩⟩
                  have h2 : At K H2 w2 (eB (sn, .idle)) := h2
                  rw [List.take_add_one, hsn, List.map_append, List.map_append]
                  exact (hr3.same (s1.trans s2)).append (.one h2)
                · rw [lnI, List.take_length] at hr3
                  refine ⟨.ref Dm, _, rfl, Seq.lst (SqL.of eD) hr3, by rw [List.length_map, List.length_map]; omega, fun w5 Hx sx hw5 => ?_⟩
                  refine ⟨_, _, (hzb.same sr).same sx, hw5, Nat.le_trans (Nat.min_le_left _ _) (Nat.le_trans (lot_deep _) (by decide)), _, rfl, ne_nk ?_, (spq.trans sr).trans sx⟩
                  rw [lotR_row hZ hrC hr9]
              rintro b0 Hp2 ⟨rfl, sp⟩
              refine iteF ?_
              -- the empty row
              refine ⟨IsF Ho, ?_, ?_⟩
              · refine ⟨.ref au, rfl, [], .nil, by simp, fun w1 Hq sq h1 => ?_⟩
                have spq := sp.trans sq
                refine ⟨_, _, huo.same spq, h1, Nat.le_trans (Nat.min_le_right _ _) (by decide), _, rfl, ?_⟩
                cases hd : decide (NestedKey.tup (row.map eR) = .tup []) with
                | false => exact iteF ⟨rfl, spq⟩
                | true =>
                  refine iteT ⟨v, rfl, [], .nil, by simp, fun w2 Hr sr h2 => ?_⟩
                  have sqr := spq.trans sr
                  refine ⟨Z, v, w2, [], rfl, lko.tg.same sqr, hZ, h2, hist_hs (row := []) (x := none) (fun d hd => by cases hd) (fun p hp => by cases hp) (by decide), fun zb Hs ss hzb => ⟨rfl, fun zc Ht st hzc => ⟨[eB (0, .idle)], .one hzc, by simp, fun w3 Hu su h3 => ?_⟩⟩⟩
                  refine ⟨_, _, (hzb.same st).same su, h3, Nat.le_trans (Nat.min_le_left _ _) (Nat.le_trans (lot_deep _) (by decide)), _, rfl, ne_nk rfl, ((sqr.trans ss).trans st).trans su⟩
              rintro b0 Hq ⟨rfl, sq⟩
              refine iteF ?_
              have lke := lko.same sq
              exact ⟨_, _, _, _, _, _, _, _, _, _, _, _, _, _, _, rfl, lke.bag, lke.tab⟩
    · rintro σ H2 ⟨p2, p3, p4, p5, p6, p7, p8, p9, p10, p11, p12, p13, p14, p15, p16, rfl, hB2, t2⟩
      exact q _
end
end M

/-! what the top has written; the law over all of it -/
namespace M
open PySem PySem.Spec PyProof.Rows L2
open LamX (CodeO TabS TabB ExtN)
/-- how a def without defaults binds -/
def Bnd (x qn : Str) (st : Stmt) (ps : List Str) : Prop := ∀ (kV doc pm : Value) (an : Option Addr) (cdv ct : Value) (us : List Value), us.length = ps.length → bindArgs (PySem.W.fnOf x qn (defArgs st) (defBody st) (defScope st) .none kV doc pm an cdv ct) ⟨us, []⟩ = pure (ps.zip us)
section
variable {K : PySem.W.Frag} {h : Heap} {mg : Str → Option Value} {f C : Addr} {x qn nm : Str} {st : Stmt} {ps : List Str} {oc kV dc pm cd ct : Value} {od an : Option Addr} {osl : Array (Option Value)}
abbrev FnO (oc : Value) (od : Option Addr) (x qn : Str) (st : Stmt) (kV dc pm : Value) (an : Option Addr) (cd ct : Value) (osl : Array (Option Value)) : Obj := ⟨oc, od, .func (PySem.W.fnOf x qn (defArgs st) (defBody st) (defScope st) .none kV dc pm an cd ct), osl⟩
theorem df_mk (X : K.In h) (G : h.Ns mainGlobals mg) (b : Bnd x x st ps) (a : PySem.W.nsIn K mainGlobals x = some (some (.ref f))) (l : K.lookup f = some (FnO oc od x x st kV dc pm an cd ct osl)) (c : PySem.W.codeIn K cd x = true) (k : PySem.W.keepIn K (.ref f) = true) : Df K mg x st ps :=
  ⟨f, _, fun_mk l c k, PySem.W.mg_of X G a, (fun_mk l c k).binds b⟩
theorem df2_mk (X : K.In h) (G : h.Ns mainGlobals mg) (b : Bnd x x st ps) (a : PySem.W.nsIn K mainGlobals nm = some (some (.ref f))) (l : K.lookup f = some (FnO oc od x x st kV dc pm an cd ct osl)) (c : PySem.W.codeIn K cd x = true) (k : PySem.W.keepIn K (.ref f) = true) : Df2 K mg nm x st ps :=
  ⟨f, _, fun_mk l c k, PySem.W.mg_of X G a, (fun_mk l c k).binds b⟩
theorem dfc_mk {ca : Addr} (X : K.In h) (G : h.Ns mainGlobals mg) (b : Bnd x x st ps) (a : PySem.W.nsIn K mainGlobals x = some (some (.ref f))) (l : K.lookup f = some (FnO oc od x x st kV dc pm an (.ref ca) ct osl)) (c : PySem.W.codeIn K (.ref ca) x = true) (k : PySem.W.keepIn K (.ref f) = true) : DfC K mg x st ps ca :=
  ⟨f, _, fun_mk l c k, rfl, PySem.W.mg_of X G a, (fun_mk l c k).binds b⟩
theorem dfm_mk (W : SlX.SCls K C) (b : Bnd x qn st ps) (a : PySem.W.findIn K (.ref C) x = some (some (.ref f))) (i : PySem.W.isFn K (.ref f) = true) (l : K.lookup f = some (FnO oc od x qn st kV dc pm an cd ct osl)) (c : PySem.W.codeIn K cd qn = true) (k : PySem.W.keepIn K (.ref f) = true) : DfM K C x qn st ps :=
  ⟨f, _, fun_mk l c k, W, ⟨a, i, k⟩, (fun_mk l c k).binds b⟩
theorem dfi_mk (X : K.In h) (G : h.Ns mainGlobals mg) (b : Bnd "__init__" qn st ps) (aC : PySem.W.nsIn K mainGlobals nm = some (some (.ref C))) (m : PySem.W.makesIn K C = true) (kc : PySem.W.keepIn K (.ref C) = true)
    (a : PySem.W.findIn K (.ref C) "__init__" = some (some (.ref f))) (i : PySem.W.isFn K (.ref f) = true) (l : K.lookup f = some (FnO oc od "__init__" qn st kV dc pm an cd ct osl)) (c : PySem.W.codeIn K cd qn = true) (k : PySem.W.keepIn K (.ref f) = true) : DfI K mg C nm qn st ps :=
  ⟨f, _, fun_mk l c k, PySem.W.mg_of X G aC, ⟨m, a, i, kc⟩, (fun_mk l c k).binds b⟩
theorem slot_mk {y : Str} {p : Addr} {i : Nat} (a : PySem.W.findIn K (.ref C) y = some (some (.ref p))) (g : PySem.W.specialIn K (.ref p) "__get__" = some (some (.builtin "member_descriptor.__get__"))) (t : PySem.W.takesIn K (.ref p) = some true) (ty : PySem.W.typeIn K (.ref p) = some (.type "member_descriptor")) (ix : PySem.W.slotIn K p C = some i) (lt : i < 1000) : ∃ p, SlX.Slot1 K C y p i := ⟨p, a, g, t, ty, ix, lt⟩
theorem con_mk {u : Tok → Value} {t : Tok} (X : K.In h) (G : h.Ns mainGlobals mg) (a : PySem.W.nsIn K mainGlobals x = some (some (u t))) : ∃ t, mg x = some (u t) := ⟨t, PySem.W.mg_of X G a⟩
theorem tx_of (X : K.In h) (t : Tx K mg) : Tx K mg := t
def wordsOk (vs : Array Value) : Bool := (vs.toList.map fun v => match v with | .str x _ => some x | _ => none) == wordsL.map some
theorem words_vals : ∀ {xs : List Str} {vs : List Value}, (vs.map fun v => match v with | .str x _ => some x | _ => none) = xs.map some → Vals (xs.map V.str) vs
  | [], [], _ => .nil
  | [], v :: vs, e => by cases e
  | x :: xs, [], e => by cases e
  | x :: xs, v :: vs, e => by
    simp only [List.map_cons, List.cons.injEq] at e
    obtain ⟨e1, e2⟩ := e
    refine .cons ?_ (words_vals e2)
    cases v <;> first | (cases e1; exact ⟨_, rfl⟩) | cases e1
theorem words_at {H : Hp} : ∀ {xs : List Str}, (∀ x ∈ xs, PyData.strOk x = true) → Ats K H (xs.map V.str) (xs.map .text)
  | [], _ => .nil
  | x :: xs, h => .cons (.str _ (h x List.mem_cons_self)) (words_at fun y hy => h y (List.mem_cons_of_mem _ hy))
theorem words_mk {a : Addr} {vs : Array Value} {n : Nat} (X : K.In h) (G : h.Ns mainGlobals mg) (a0 : PySem.W.nsIn K mainGlobals "WORDS" = some (some (.ref a))) (l : K.lookup a = some ⟨.type "tuple", od, .seq vs n, osl⟩) (hw : wordsOk vs = true) : ∃ a, mg "WORDS" = some (.ref a) ∧ ∀ H, At K H (.ref a) (.tup (wordsL.map .text)) := by
  have e : (vs.toList.map fun v => match v with | .str x _ => some x | _ => none) = wordsL.map some := by
    unfold wordsOk at hw
    exact eq_of_beq hw
  have hv := words_vals e
  refine ⟨a, PySem.W.mg_of X G a0, fun H => .tup (.inr ⟨_, vs, n, l, rfl, rfl, ?_, hv⟩) (words_at (by decide +kernel))⟩
  rw [← Array.length_toList, ← hv.length, List.length_map]
  decide
end
theorem b_is_integer : Bnd "is_integer" "is_integer" sIsInteger ["thing"] := fun _ _ _ _ _ _ us hl => match us, hl with | [_], _ => rfl
theorem b_is_count : Bnd "is_count" "is_count" sIsCount ["thing"] := fun _ _ _ _ _ _ us hl => match us, hl with | [_], _ => rfl
theorem b_is_number : Bnd "is_number" "is_number" sIsNumber ["thing"] := fun _ _ _ _ _ _ us hl => match us, hl with | [_], _ => rfl
theorem b_is_sized : Bnd "is_sized" "is_sized" sIsSized ["thing", "many"] := fun _ _ _ _ _ _ us hl => match us, hl with | [_, _], _ => rfl
theorem b_is_worded : Bnd "is_worded" "is_worded" sIsWorded ["thing", "words"] := fun _ _ _ _ _ _ us hl => match us, hl with | [_, _], _ => rfl
theorem b_is_name : Bnd "is_name" "is_name" sIsName ["thing"] := fun _ _ _ _ _ _ us hl => match us, hl with | [_], _ => rfl
theorem b_is_call : Bnd "is_call" "is_call" sIsCall ["thing"] := fun _ _ _ _ _ _ us hl => match us, hl with | [_], _ => rfl
theorem b_is_call_doing : Bnd "is_call_doing" "is_call_doing" sIsCallDoing ["thing"] := fun _ _ _ _ _ _ us hl => match us, hl with | [_], _ => rfl
theorem b_is_event : Bnd "is_event" "is_event" sIsEvent ["thing"] := fun _ _ _ _ _ _ us hl => match us, hl with | [_], _ => rfl
theorem b_is_tuple_of : Bnd "is_tuple_of" "is_tuple_of" sIsTupleOf ["thing", "is_item"] := fun _ _ _ _ _ _ us hl => match us, hl with | [_, _], _ => rfl
theorem b_is_history_form : Bnd "is_history_form" "is_history_form" sIsHistoryForm ["thing"] := fun _ _ _ _ _ _ us hl => match us, hl with | [_], _ => rfl
theorem b_outcomes_of : Bnd "outcomes_of" "outcomes_of" sOutcomesOf ["thing", "state", "call"] := fun _ _ _ _ _ _ us hl => match us, hl with | [_, _, _], _ => rfl
theorem b_hand_key : Bnd "hand_key" "hand_key" sHandKey ["what"] := fun _ _ _ _ _ _ us hl => match us, hl with | [_], _ => rfl
theorem b_belief_key : Bnd "belief_key" "belief_key" sBeliefKey ["belief"] := fun _ _ _ _ _ _ us hl => match us, hl with | [_], _ => rfl
theorem b_with_hand : Bnd "with_hand" "with_hand" sWithHand ["belief", "hand", "what"] := fun _ _ _ _ _ _ us hl => match us, hl with | [_, _, _], _ => rfl
theorem b_first_belief : Bnd "first_belief" "first_belief" sFirstBelief ["hands"] := fun _ _ _ _ _ _ us hl => match us, hl with | [_], _ => rfl
theorem b_ordered : Bnd "ordered" "ordered" sOrdered ["beliefs"] := fun _ _ _ _ _ _ us hl => match us, hl with | [_], _ => rfl
theorem b_taken : Bnd "taken" "taken" sTaken ["thing", "belief"] := fun _ _ _ _ _ _ us hl => match us, hl with | [_, _], _ => rfl
theorem b_closed : Bnd "closed" "closed" sClosed ["thing", "beliefs"] := fun _ _ _ _ _ _ us hl => match us, hl with | [_, _], _ => rfl
theorem b_behind_call : Bnd "behind_call" "behind_call" sBehindCall ["thing", "lot", "hand", "word", "number"] := fun _ _ _ _ _ _ us hl => match us, hl with | [_, _, _, _, _], _ => rfl
theorem b_behind_back : Bnd "behind_back" "behind_back" sBehindBack ["lot", "hand", "result"] := fun _ _ _ _ _ _ us hl => match us, hl with | [_, _, _], _ => rfl
theorem b_behind_event : Bnd "behind_event" "behind_event" sBehindEvent ["thing", "lot", "event"] := fun _ _ _ _ _ _ us hl => match us, hl with | [_, _, _], _ => rfl
theorem b_check_history : Bnd "check_history" "check_history" sCheckHistory ["thing", "hands", "history"] := fun _ _ _ _ _ _ us hl => match us, hl with | [_, _, _], _ => rfl
theorem b_beliefs_of : Bnd "beliefs_of" "beliefs_of" sBeliefsOf ["thing", "hands", "history"] := fun _ _ _ _ _ _ us hl => match us, hl with | [_, _, _], _ => rfl
theorem b_is_at_once : Bnd "is_at_once" "is_at_once" sIsAtOnce ["thing", "hands", "history"] := fun _ _ _ _ _ _ us hl => match us, hl with | [_, _, _], _ => rfl
theorem b_first_wrong : Bnd "first_wrong" "first_wrong" sFirstWrong ["thing", "hands", "history"] := fun _ _ _ _ _ _ us hl => match us, hl with | [_, _, _], _ => rfl
theorem b_is_done_call : Bnd "is_done_call" "is_done_call" sIsDoneCall ["thing"] := fun _ _ _ _ _ _ us hl => match us, hl with | [_], _ => rfl
theorem b_check_row : Bnd "check_row" "check_row" sCheckRow ["thing", "row"] := fun _ _ _ _ _ _ us hl => match us, hl with | [_, _], _ => rfl
theorem b_led : Bnd "led" "led" sLed ["thing", "states", "call", "result"] := fun _ _ _ _ _ _ us hl => match us, hl with | [_, _, _, _], _ => rfl
theorem b_states_behind : Bnd "states_behind" "states_behind" sStatesBehind ["thing", "row"] := fun _ _ _ _ _ _ us hl => match us, hl with | [_, _], _ => rfl
theorem b_led_states : Bnd "led_states" "led_states" sLedStates ["thing", "states", "at", "result"] := fun _ _ _ _ _ _ us hl => match us, hl with | [_, _, _, _], _ => rfl
theorem b_is_row : Bnd "is_row" "is_row" sIsRow ["thing", "row"] := fun _ _ _ _ _ _ us hl => match us, hl with | [_, _], _ => rfl
theorem b_states_behindA : Bnd "states_behind" "states_behind" sStatesBehindA ["thing", "row"] := fun _ _ _ _ _ _ us hl => match us, hl with | [_, _], _ => rfl
theorem b_lets : Bnd "lets" "lets" sLets ["thing", "row"] := fun _ _ _ _ _ _ us hl => match us, hl with | [_, _], _ => rfl
theorem b_check_hands : Bnd "check_hands" "check_hands" sCheckHands ["hands"] := fun _ _ _ _ _ _ us hl => match us, hl with | [_], _ => rfl
theorem b_events_at : Bnd "events_at" "events_at" sEventsAt ["thing", "lot"] := fun _ _ _ _ _ _ us hl => match us, hl with | [_, _], _ => rfl
theorem b_watcher : Bnd "watcher" "watcher" sWatcher ["thing", "hands"] := fun _ _ _ _ _ _ us hl => match us, hl with | [_, _], _ => rfl
theorem b_watched : Bnd "watched" "watched" sWatched ["states", "history"] := fun _ _ _ _ _ _ us hl => match us, hl with | [_, _], _ => rfl
theorem b_spans : Bnd "spans" "spans" sSpans ["history"] := fun _ _ _ _ _ _ us hl => match us, hl with | [_], _ => rfl
theorem b_rows_of : Bnd "rows_of" "rows_of" sRowsOf ["hands", "history"] := fun _ _ _ _ _ _ us hl => match us, hl with | [_, _], _ => rfl
theorem b_nexts : Bnd "nexts" "nexts" sNexts ["thing", "history", "rows", "spot"] := fun _ _ _ _ _ _ us hl => match us, hl with | [_, _, _, _], _ => rfl
theorem b_is_end : Bnd "is_end" "is_end" sIsEnd ["rows", "spot"] := fun _ _ _ _ _ _ us hl => match us, hl with | [_, _], _ => rfl
theorem b_way_of : Bnd "way_of" "way_of" sWayOf ["ways", "spot"] := fun _ _ _ _ _ _ us hl => match us, hl with | [_, _], _ => rfl
theorem b_own_order_of : Bnd "own_order_of" "own_order_of" sOwnOrderOf ["thing", "hands", "history"] := fun _ _ _ _ _ _ us hl => match us, hl with | [_, _, _], _ => rfl
theorem b_is_in_own_order : Bnd "is_in_own_order" "is_in_own_order" sIsInOwnOrder ["thing", "hands", "history"] := fun _ _ _ _ _ _ us hl => match us, hl with | [_, _, _], _ => rfl
theorem b_law_take : Bnd "_law_take" "_law_take" sLTake ["bag", "many"] := fun _ _ _ _ _ _ us hl => match us, hl with | [_, _], _ => rfl
theorem b_law_some : Bnd "_law_some" "_law_some" sLSome ["bag", "things"] := fun _ _ _ _ _ _ us hl => match us, hl with | [_, _], _ => rfl
theorem b_law_outcomes : Bnd "_law_outcomes" "_law_outcomes" sLOutcomes ["thing", "state", "call"] := fun _ _ _ _ _ _ us hl => match us, hl with | [_, _, _], _ => rfl
theorem b_law_hand_key : Bnd "_law_hand_key" "_law_hand_key" sLHandKey ["what"] := fun _ _ _ _ _ _ us hl => match us, hl with | [_], _ => rfl
theorem b_law_bag : Bnd "_law_bag" "_law_bag" sLBag ["script"] := fun _ _ _ _ _ _ us hl => match us, hl with | [_], _ => rfl
theorem b_is_moment : Bnd "is_moment" "is_moment" sIsMoment ["value", "ends"] := fun _ _ _ _ _ _ us hl => match us, hl with | [_, _], _ => rfl
theorem b_is_time_kept : Bnd "is_time_kept" "is_time_kept" sIsTimeKept ["order", "ends"] := fun _ _ _ _ _ _ us hl => match us, hl with | [_, _], _ => rfl
theorem b_is_order : Bnd "is_order" "is_order" sIsOrder ["thing", "hands", "history", "value"] := fun _ _ _ _ _ _ us hl => match us, hl with | [_, _, _, _], _ => rfl
theorem b_w_init : Bnd "__init__" "Ways.__init__" sWInit ["self", "thing", "hands"] := fun _ _ _ _ _ _ us hl => match us, hl with | [_, _, _], _ => rfl
theorem b_w_closed : Bnd "closed" "Ways.closed" sWClosed ["self"] := fun _ _ _ _ _ _ us hl => match us, hl with | [_], _ => rfl
theorem b_w_goes : Bnd "goes" "Ways.goes" sWGoes ["self", "index", "event"] := fun _ _ _ _ _ _ us hl => match us, hl with | [_, _, _], _ => rfl
theorem b_order_of : Bnd "order_of" "order_of" sOrderOf ["thing", "hands", "history"] := fun _ _ _ _ _ _ us hl => match us, hl with | [_, _, _], _ => rfl
theorem b_law_states : Bnd "_law_states_behind" "_law_states_behind" sLStatesBehind ["thing", "row"] := fun _ _ _ _ _ _ us hl => match us, hl with | [_, _], _ => rfl
theorem b_law_closed : Bnd "_law_closed" "_law_closed" sLClosed ["thing", "beliefs"] := fun _ _ _ _ _ _ us hl => match us, hl with | [_, _], _ => rfl
theorem b_law_behind : Bnd "_law_behind" "_law_behind" sLBehind ["thing", "beliefs", "event"] := fun _ _ _ _ _ _ us hl => match us, hl with | [_, _, _], _ => rfl
theorem b_law_lot : Bnd "_law_lot" "_law_lot" sLLot ["beliefs"] := fun _ _ _ _ _ _ us hl => match us, hl with | [_], _ => rfl
theorem b_law_many : Bnd "_law_many_lots" "_law_many_lots" sLManyLots ["thing", "hands", "most"] := fun _ _ _ _ _ _ us hl => match us, hl with | [_, _, _], _ => rfl
theorem b_law_thing : Bnd "_law_thing" "_law_thing" sLThing ["bag", "many", "most"] := fun _ _ _ _ _ _ us hl => match us, hl with | [_, _, _], _ => rfl
theorem b_law : Bnd "law" "law" sLLaw ["script"] := fun _ _ _ _ _ _ us hl => match us, hl with | [_], _ => rfl
/-- all defs, where they stand -/
structure Al (K : PySem.W.Frag) (mg : Str → Option Value) (C c : Addr) : Prop where
  is_integer : Df K mg "is_integer" sIsInteger ["thing"]
  is_count : Df K mg "is_count" sIsCount ["thing"]
  is_number : Df K mg "is_number" sIsNumber ["thing"]
  is_sized : Df K mg "is_sized" sIsSized ["thing", "many"]
  is_worded : Df K mg "is_worded" sIsWorded ["thing", "words"]
  is_name : Df K mg "is_name" sIsName ["thing"]
  is_call : Df K mg "is_call" sIsCall ["thing"]
  is_call_doing : Df K mg "is_call_doing" sIsCallDoing ["thing"]
  is_event : Df K mg "is_event" sIsEvent ["thing"]
  is_tuple_of : Df K mg "is_tuple_of" sIsTupleOf ["thing", "is_item"]
  is_history_form : Df K mg "is_history_form" sIsHistoryForm ["thing"]
  outcomes_of : Df K mg "outcomes_of" sOutcomesOf ["thing", "state", "call"]
  hand_key : Df K mg "hand_key" sHandKey ["what"]
  belief_key : Df K mg "belief_key" sBeliefKey ["belief"]
  with_hand : Df K mg "with_hand" sWithHand ["belief", "hand", "what"]
  first_belief : Df K mg "first_belief" sFirstBelief ["hands"]
  ordered : Df K mg "ordered" sOrdered ["beliefs"]
  taken : Df K mg "taken" sTaken ["thing", "belief"]
  closed : Df K mg "closed" sClosed ["thing", "beliefs"]
  behind_call : Df K mg "behind_call" sBehindCall ["thing", "lot", "hand", "word", "number"]
  behind_back : Df K mg "behind_back" sBehindBack ["lot", "hand", "result"]
  behind_event : Df K mg "behind_event" sBehindEvent ["thing", "lot", "event"]
  check_history : Df K mg "check_history" sCheckHistory ["thing", "hands", "history"]
  beliefs_of : Df K mg "beliefs_of" sBeliefsOf ["thing", "hands", "history"]
  is_at_once : Df K mg "is_at_once" sIsAtOnce ["thing", "hands", "history"]
  first_wrong : Df K mg "first_wrong" sFirstWrong ["thing", "hands", "history"]
  is_done_call : Df K mg "is_done_call" sIsDoneCall ["thing"]
  check_row : Df K mg "check_row" sCheckRow ["thing", "row"]
  led : Df K mg "led" sLed ["thing", "states", "call", "result"]
  states_behind : Df2 K mg "states_behind_things" "states_behind" sStatesBehind ["thing", "row"]
  led_states : Df K mg "led_states" sLedStates ["thing", "states", "at", "result"]
  is_row : Df K mg "is_row" sIsRow ["thing", "row"]
  states_behindA : Df2 K mg "states_behind_alike" "states_behind" sStatesBehindA ["thing", "row"]
  lets : Df K mg "lets" sLets ["thing", "row"]
  check_hands : Df K mg "check_hands" sCheckHands ["hands"]
  events_at : Df K mg "events_at" sEventsAt ["thing", "lot"]
  watcher : Df K mg "watcher" sWatcher ["thing", "hands"]
  watched : Df K mg "watched" sWatched ["states", "history"]
  spans : Df K mg "spans" sSpans ["history"]
  rows_of : Df K mg "rows_of" sRowsOf ["hands", "history"]
  nexts : Df K mg "nexts" sNexts ["thing", "history", "rows", "spot"]
  is_end : Df K mg "is_end" sIsEnd ["rows", "spot"]
  way_of : Df K mg "way_of" sWayOf ["ways", "spot"]
  own_order_of : Df K mg "own_order_of" sOwnOrderOf ["thing", "hands", "history"]
  is_in_own_order : Df K mg "is_in_own_order" sIsInOwnOrder ["thing", "hands", "history"]
  law_take : Df K mg "_law_take" sLTake ["bag", "many"]
  law_some : Df K mg "_law_some" sLSome ["bag", "things"]
  law_outcomes : Df K mg "_law_outcomes" sLOutcomes ["thing", "state", "call"]
  law_hand_key : Df K mg "_law_hand_key" sLHandKey ["what"]
  law_bag : Df K mg "_law_bag" sLBag ["script"]
  is_moment : Df K mg "is_moment" sIsMoment ["value", "ends"]
  is_time_kept : Df K mg "is_time_kept" sIsTimeKept ["order", "ends"]
  is_order : Df K mg "is_order" sIsOrder ["thing", "hands", "history", "value"]
  w_init : DfI K mg C "Ways" "Ways.__init__" sWInit ["self", "thing", "hands"]
  w_closed : DfM K C "closed" "Ways.closed" sWClosed ["self"]
  w_goes : DfM K C "goes" "Ways.goes" sWGoes ["self", "index", "event"]
  order_of : Df K mg "order_of" sOrderOf ["thing", "hands", "history"]
  law_states : Df K mg "_law_states_behind" sLStatesBehind ["thing", "row"]
  law_closed : Df K mg "_law_closed" sLClosed ["thing", "beliefs"]
  law_behind : Df K mg "_law_behind" sLBehind ["thing", "beliefs", "event"]
  law_lot : DfC K mg "_law_lot" sLLot ["beliefs"] c
  law_many : Df K mg "_law_many_lots" sLManyLots ["thing", "hands", "most"]
  law_thing : Df K mg "_law_thing" sLThing ["bag", "many", "most"]
section
variable {P : Program} {w : World} {K : PySem.W.Frag} {mg : Str → Option Value} {base : Heap} {C c Pt : Addr}
theorem fs_of (T : Tx K mg) (W : WaC K C) (TB : TabB base mg c Pt) (A : Al K mg C c) : Fs P w K mg base Pt := by
  have K_is_integer := k_is_integer (P := P) (w := w) (base := base) T A.is_integer
  have K_is_count := k_is_count (P := P) (w := w) (base := base) T A.is_count K_is_integer
  have K_is_number := k_is_number (P := P) (w := w) (base := base) T A.is_number K_is_count
  have K_is_sized := k_is_sized (P := P) (w := w) (base := base) T A.is_sized
  have K_is_worded := k_is_worded (P := P) (w := w) (base := base) T A.is_worded
  have K_is_name := k_is_name (P := P) (w := w) (base := base) T A.is_name
  have K_is_call := k_is_call (P := P) (w := w) (base := base) T A.is_call K_is_sized K_is_name K_is_number
  have K_is_call_doing := k_is_call_doing (P := P) (w := w) (base := base) T A.is_call_doing K_is_worded K_is_count K_is_call
  have K_is_event := k_is_event (P := P) (w := w) (base := base) T A.is_event K_is_worded K_is_count K_is_number K_is_call_doing
  have K_is_tuple_of := k_is_tuple_of (P := P) (w := w) (base := base) T A.is_tuple_of K_is_event
  have K_is_history_form := k_is_history_form (P := P) (w := w) (base := base) T A.is_history_form K_is_event K_is_tuple_of
  have K_outcomes_of := k_outcomes_of (P := P) (w := w) (base := base) T A.outcomes_of K_is_count K_is_call
  have K_hand_key := k_hand_key (P := P) (w := w) (base := base) T A.hand_key
  have K_belief_key := k_belief_key (P := P) (w := w) (base := base) T A.belief_key K_hand_key
  have K_with_hand := k_with_hand (P := P) (w := w) (base := base) T A.with_hand
  have K_first_belief := k_first_belief (P := P) (w := w) (base := base) T A.first_belief
  have K_ordered := k_ordered (P := P) (w := w) (base := base) T A.ordered K_belief_key
  have K_taken := k_taken (P := P) (w := w) (base := base) T A.taken K_outcomes_of K_with_hand
  have K_closed := k_closed (P := P) (w := w) (base := base) T A.closed K_taken K_ordered
  have K_behind_call := k_behind_call (P := P) (w := w) (base := base) T A.behind_call K_with_hand K_closed
  have K_behind_back := k_behind_back (P := P) (w := w) (base := base) T A.behind_back K_with_hand K_ordered
  have K_behind_event := k_behind_event (P := P) (w := w) (base := base) T A.behind_event K_behind_call K_behind_back
  have K_check_history := k_check_history (P := P) (w := w) (base := base) T A.check_history K_is_history_form
  have K_beliefs_of := k_beliefs_of (P := P) (w := w) (base := base) T A.beliefs_of K_check_history K_first_belief K_behind_event
  have K_is_at_once := k_is_at_once (P := P) (w := w) (base := base) T A.is_at_once K_beliefs_of
  have K_first_wrong := k_first_wrong (P := P) (w := w) (base := base) T A.first_wrong K_check_history K_first_belief K_behind_event
  have K_is_done_call := k_is_done_call (P := P) (w := w) (base := base) T A.is_done_call K_is_sized K_is_call K_is_number
  have K_check_row := k_check_row (P := P) (w := w) (base := base) T A.check_row K_is_done_call
  have K_led := k_led (P := P) (w := w) (base := base) T A.led K_outcomes_of
  have K_states_behind := k_states_behind (P := P) (w := w) (base := base) T A.states_behind K_check_row K_led
  have K_led_states := k_led_states (P := P) (w := w) (base := base) T A.led_states
  have K_is_row := k_is_row (P := P) (w := w) (base := base) T A.is_row K_is_sized K_is_call K_is_number
  have K_states_behindA := k_states_behindA (P := P) (w := w) (base := base) T A.states_behindA K_led_states
  have K_lets := k_lets (P := P) (w := w) (base := base) T A.lets K_is_row K_states_behindA
  have K_check_hands := k_check_hands (P := P) (w := w) (base := base) T A.check_hands K_is_integer
  have K_events_at := k_events_at (P := P) (w := w) (base := base) T A.events_at
  have K_watcher := k_watcher (P := P) (w := w) (base := base) T A.watcher K_check_hands K_first_belief K_events_at K_behind_event
  have K_watched := k_watched (P := P) (w := w) (base := base) T A.watched
  have K_spans := k_spans (P := P) (w := w) (base := base) T A.spans
  have K_rows_of := k_rows_of (P := P) (w := w) (base := base) T A.rows_of K_spans
  have K_nexts := k_nexts (P := P) (w := w) (base := base) T A.nexts K_outcomes_of
  have K_is_end := k_is_end (P := P) (w := w) (base := base) T A.is_end
  have K_way_of := k_way_of (P := P) (w := w) (base := base) T A.way_of
  have K_own_order_of := k_own_order_of (P := P) (w := w) (base := base) T A.own_order_of K_check_history K_rows_of K_is_end K_way_of K_nexts
  have K_is_in_own_order := k_is_in_own_order (P := P) (w := w) (base := base) T A.is_in_own_order K_own_order_of
  have K_law_take := k_law_take (P := P) (w := w) (base := base) T A.law_take
  have K_law_some := k_law_some (P := P) (w := w) (base := base) T A.law_some K_law_take
  have K_law_outcomes := k_law_outcomes (P := P) (w := w) (base := base) T A.law_outcomes
  have K_law_hand_key := k_law_hand_key (P := P) (w := w) (base := base) T A.law_hand_key
  have K_law_bag := k_law_bag (P := P) (w := w) (base := base) T A.law_bag
  have K_is_moment := k_is_moment (P := P) (w := w) (base := base) T A.is_moment K_is_integer
  have K_is_time_kept := k_is_time_kept (P := P) (w := w) (base := base) T A.is_time_kept
  have K_is_order := k_is_order (P := P) (w := w) (base := base) T A.is_order K_check_history K_spans K_is_moment K_outcomes_of K_is_time_kept
  have K_w_init := k_w_init (P := P) (w := w) (base := base) T W A.w_init K_first_belief
  have K_w_closed := k_w_closed (P := P) (w := w) (base := base) T W A.w_closed K_outcomes_of K_with_hand
  have K_w_goes := k_w_goes (P := P) (w := w) (base := base) T W A.w_goes K_with_hand K_w_closed
  have K_order_of := k_order_of (P := P) (w := w) (base := base) T W A.order_of K_check_history K_w_init K_w_goes
  have K_law_states := k_law_states (P := P) (w := w) (base := base) T A.law_states K_law_outcomes
  have K_law_closed := k_law_closed (P := P) (w := w) (base := base) T A.law_closed K_law_outcomes
  have K_law_behind := k_law_behind (P := P) (w := w) (base := base) T A.law_behind K_law_closed
  have K_law_lot := k_law_lot (P := P) (w := w) (base := base) T TB A.law_lot K_law_hand_key
  have K_law_many := k_law_many (P := P) (w := w) (base := base) T A.law_many K_law_behind K_law_lot
  have K_law_thing := k_law_thing (P := P) (w := w) (base := base) T A.law_thing K_law_take K_law_some
  exact ⟨K_law_bag, K_law_take, K_law_some, K_law_thing, K_law_outcomes, K_law_states, K_law_many, K_lets, K_states_behind, K_is_at_once, K_is_in_own_order, K_first_wrong, K_order_of, K_is_order, K_watched, K_watcher, K_beliefs_of, K_first_belief⟩
theorem law_at {l : PySem.W.OpenLaw} {h : Heap} {fa f : Addr} {oc kV dc pm cd ct : Value} {od an : Option Addr} {osl : Array (Option Value)} (hl : l.prog = P) (X : K.In h) (G : h.Ns mainGlobals mg) (hmg : mg "law" = some (.ref fa)) (T : Tx K mg) (W : WaC K C) (A : Al K mg C c)
    (aC : PySem.W.nsIn K mainGlobals "Ways" = some (some (.ref C))) (tb : h.get? Pt = some { cls := .none, data := .fields #[] }) (nT : K.lookup Pt = none) (hd : PySem.W.codeHdIn K c Pt = true)
    (a0 : PySem.W.nsIn K mainGlobals "law" = some (some (.ref f))) (l0 : K.lookup f = some (FnO oc od "law" "law" sLLaw kV dc pm an cd ct osl)) (c0 : PySem.W.codeIn K cd "law" = true) (k0 : PySem.W.keepIn K (.ref f) = true) : LamX.LawAtS l w K CX0 12 63 "script" mg fa h := by
  have e := hmg.symm.trans (PySem.W.mg_of X G a0)
  cases e
  have F := fun_mk (st := sLLaw) l0 c0 k0
  refine ⟨_, [(c, Pt)], spLaw K Pt, fun p hp => ?_, fun p hp => ?_, fun p hp => ?_, fun s u => .of_eq (b_law kV dc pm an cd ct [u] rfl), fun H a ns _ _ ht hS => ?_, fun base _ _ hT => ok_law T F (fs_of T W (hT _ List.mem_cons_self) A)⟩
  · rw [List.mem_singleton.mp hp]
    exact tb
  · rw [List.mem_singleton.mp hp]
    exact nT
  · rw [List.mem_singleton.mp hp]
    exact PySem.W.codeHd_of_K X hd
  · exact ⟨a, ns, rfl, hS, LamX.TabS.nil (ht _ List.mem_cons_self), fun _ => rfl⟩
end
end M

open PySem PySem.W PyProof.Rows
set_option maxHeartbeats 0 in
theorem PySem.Challenge.cw_madeatonce_k41_whole_one_hand_is_a_row_holds : PySem.Challenge.rw_madeatonce_k41_whole_one_hand_is_a_row.Holds := by
  w_on; o_law; k_head; (case hw => w_witness2)
  k_fill
  refine LamX.walk_ofTs (l := PySem.Challenge.rw_madeatonce_k41_whole_one_hand_is_a_row) (n := 63) (k := 12) (x := "script") (CX := fun _ => L2.CX0) rfl (by decide) rfl ⟨rfl, by decide, by decide⟩ (fun w h Y => km_in_of Y) ?F (fun _ _ _ _ _ z => z)
  case F =>
    intro w mg fa h Y KX G hmg
    have hT8 := km_tabs_of Y
    have T := M.tx_of (mg := mg) KX (by
      constructor
      · exact mg_none_of KX G (by k_is)
      · exact mg_none_of KX G (by k_is)
      · exact mg_none_of KX G (by k_is)
      · exact mg_none_of KX G (by k_is)
      · exact mg_none_of KX G (by k_is)
      · exact mg_none_of KX G (by k_is)
      · exact mg_none_of KX G (by k_is)
      · exact mg_none_of KX G (by k_is)
      · exact mg_none_of KX G (by k_is)
      · exact mg_none_of KX G (by k_is)
      · exact mg_none_of KX G (by k_is)
      · exact mg_none_of KX G (by k_is)
      · exact mg_none_of KX G (by k_is)
      · exact mg_none_of KX G (by k_is)
      · exact mg_none_of KX G (by k_is)
      · exact mg_none_of KX G (by k_is)
      · exact M.con_mk KX G (x := "LETTERS") (u := fun t => .str "abcdefghijklmnopqrstuvwxyz" t) (by k_is)
      · exact M.con_mk KX G (x := "DIGITS") (u := fun t => .str "0123456789" t) (by k_is)
      · exact M.con_mk KX G (x := "MOST_LETTERS") (u := fun t => .int 8 t) (by k_is)
      · exact M.con_mk KX G (x := "MOST_NUMBER") (u := fun t => .int 9 t) (by k_is)
      · exact M.con_mk KX G (x := "MOST_BELIEFS") (u := fun t => .int 4000 t) (by k_is)
      · exact M.con_mk KX G (x := "MOST_SPOTS") (u := fun t => .int 200000 t) (by k_is)
      · exact M.con_mk KX G (x := "MOST_LOTS") (u := fun t => .int 5000 t) (by k_is)
      · exact M.con_mk KX G (x := "ASKS") (u := fun t => .str "asks" t) (by k_is)
      · exact M.con_mk KX G (x := "HAS") (u := fun t => .str "has" t) (by k_is)
      · exact M.words_mk KX G (by k_is) (by k_is) (by kernel_rfl))
    refine' M.law_at (P := (PySem.Challenge.rw_madeatonce_k41_whole_one_hand_is_a_row).prog) rfl KX G hmg T ?W ?A ?aC ?tb ?nT ?hd ?a0 ?l0 ?c0 ?k0
    (case aC => k_is)
    (case tb => exact hT8 _ List.mem_cons_self)
    (case a0 => k_is)
    (case l0 => k_is)
    (case c0 => k_is)
    (case k0 => k_is)
    (case W => exact ⟨⟨by k_is, by k_is, by k_is, by k_is⟩, M.slot_mk (by k_is) (by k_is) (by k_is) (by k_is) (by k_is) (by decide), M.slot_mk (by k_is) (by k_is) (by k_is) (by k_is) (by k_is) (by decide), M.slot_mk (by k_is) (by k_is) (by k_is) (by k_is) (by k_is) (by decide)⟩)
    case A =>
      constructor
      · exact M.df_mk KX G M.b_is_integer (by k_is) (by k_is) (by k_is) (by k_is)
      · exact M.df_mk KX G M.b_is_count (by k_is) (by k_is) (by k_is) (by k_is)
      · exact M.df_mk KX G M.b_is_number (by k_is) (by k_is) (by k_is) (by k_is)
      · exact M.df_mk KX G M.b_is_sized (by k_is) (by k_is) (by k_is) (by k_is)
      · exact M.df_mk KX G M.b_is_worded (by k_is) (by k_is) (by k_is) (by k_is)
      · exact M.df_mk KX G M.b_is_name (by k_is) (by k_is) (by k_is) (by k_is)
      · exact M.df_mk KX G M.b_is_call (by k_is) (by k_is) (by k_is) (by k_is)
      · exact M.df_mk KX G M.b_is_call_doing (by k_is) (by k_is) (by k_is) (by k_is)
      · exact M.df_mk KX G M.b_is_event (by k_is) (by k_is) (by k_is) (by k_is)
      · exact M.df_mk KX G M.b_is_tuple_of (by k_is) (by k_is) (by k_is) (by k_is)
      · exact M.df_mk KX G M.b_is_history_form (by k_is) (by k_is) (by k_is) (by k_is)
      · exact M.df_mk KX G M.b_outcomes_of (by k_is) (by k_is) (by k_is) (by k_is)
      · exact M.df_mk KX G M.b_hand_key (by k_is) (by k_is) (by k_is) (by k_is)
      · exact M.df_mk KX G M.b_belief_key (by k_is) (by k_is) (by k_is) (by k_is)
      · exact M.df_mk KX G M.b_with_hand (by k_is) (by k_is) (by k_is) (by k_is)
      · exact M.df_mk KX G M.b_first_belief (by k_is) (by k_is) (by k_is) (by k_is)
      · exact M.df_mk KX G M.b_ordered (by k_is) (by k_is) (by k_is) (by k_is)
      · exact M.df_mk KX G M.b_taken (by k_is) (by k_is) (by k_is) (by k_is)
      · exact M.df_mk KX G M.b_closed (by k_is) (by k_is) (by k_is) (by k_is)
      · exact M.df_mk KX G M.b_behind_call (by k_is) (by k_is) (by k_is) (by k_is)
      · exact M.df_mk KX G M.b_behind_back (by k_is) (by k_is) (by k_is) (by k_is)
      · exact M.df_mk KX G M.b_behind_event (by k_is) (by k_is) (by k_is) (by k_is)
      · exact M.df_mk KX G M.b_check_history (by k_is) (by k_is) (by k_is) (by k_is)
      · exact M.df_mk KX G M.b_beliefs_of (by k_is) (by k_is) (by k_is) (by k_is)
      · exact M.df_mk KX G M.b_is_at_once (by k_is) (by k_is) (by k_is) (by k_is)
      · exact M.df_mk KX G M.b_first_wrong (by k_is) (by k_is) (by k_is) (by k_is)
      · exact M.df_mk KX G M.b_is_done_call (by k_is) (by k_is) (by k_is) (by k_is)
      · exact M.df_mk KX G M.b_check_row (by k_is) (by k_is) (by k_is) (by k_is)
      · exact M.df_mk KX G M.b_led (by k_is) (by k_is) (by k_is) (by k_is)
      · exact M.df2_mk KX G M.b_states_behind (by k_is) (by k_is) (by k_is) (by k_is)
      · exact M.df_mk KX G M.b_led_states (by k_is) (by k_is) (by k_is) (by k_is)
      · exact M.df_mk KX G M.b_is_row (by k_is) (by k_is) (by k_is) (by k_is)
      · exact M.df2_mk KX G M.b_states_behindA (by k_is) (by k_is) (by k_is) (by k_is)
      · exact M.df_mk KX G M.b_lets (by k_is) (by k_is) (by k_is) (by k_is)
      · exact M.df_mk KX G M.b_check_hands (by k_is) (by k_is) (by k_is) (by k_is)
      · exact M.df_mk KX G M.b_events_at (by k_is) (by k_is) (by k_is) (by k_is)
      · exact M.df_mk KX G M.b_watcher (by k_is) (by k_is) (by k_is) (by k_is)
      · exact M.df_mk KX G M.b_watched (by k_is) (by k_is) (by k_is) (by k_is)
      · exact M.df_mk KX G M.b_spans (by k_is) (by k_is) (by k_is) (by k_is)
      · exact M.df_mk KX G M.b_rows_of (by k_is) (by k_is) (by k_is) (by k_is)
      · exact M.df_mk KX G M.b_nexts (by k_is) (by k_is) (by k_is) (by k_is)
      · exact M.df_mk KX G M.b_is_end (by k_is) (by k_is) (by k_is) (by k_is)
      · exact M.df_mk KX G M.b_way_of (by k_is) (by k_is) (by k_is) (by k_is)
      · exact M.df_mk KX G M.b_own_order_of (by k_is) (by k_is) (by k_is) (by k_is)
      · exact M.df_mk KX G M.b_is_in_own_order (by k_is) (by k_is) (by k_is) (by k_is)
      · exact M.df_mk KX G M.b_law_take (by k_is) (by k_is) (by k_is) (by k_is)
      · exact M.df_mk KX G M.b_law_some (by k_is) (by k_is) (by k_is) (by k_is)
      · exact M.df_mk KX G M.b_law_outcomes (by k_is) (by k_is) (by k_is) (by k_is)
      · exact M.df_mk KX G M.b_law_hand_key (by k_is) (by k_is) (by k_is) (by k_is)
      · exact M.df_mk KX G M.b_law_bag (by k_is) (by k_is) (by k_is) (by k_is)
      · exact M.df_mk KX G M.b_is_moment (by k_is) (by k_is) (by k_is) (by k_is)
      · exact M.df_mk KX G M.b_is_time_kept (by k_is) (by k_is) (by k_is) (by k_is)
      · exact M.df_mk KX G M.b_is_order (by k_is) (by k_is) (by k_is) (by k_is)
      · exact M.dfi_mk KX G M.b_w_init (by k_is) (by k_is) (by k_is) (by k_is) (by k_is) (by k_is) (by k_is) (by k_is)
      · exact M.dfm_mk ⟨by k_is, by k_is, by k_is, by k_is⟩ M.b_w_closed (by k_is) (by k_is) (by k_is) (by k_is) (by k_is)
      · exact M.dfm_mk ⟨by k_is, by k_is, by k_is, by k_is⟩ M.b_w_goes (by k_is) (by k_is) (by k_is) (by k_is) (by k_is)
      · exact M.df_mk KX G M.b_order_of (by k_is) (by k_is) (by k_is) (by k_is)
      · exact M.df_mk KX G M.b_law_states (by k_is) (by k_is) (by k_is) (by k_is)
      · exact M.df_mk KX G M.b_law_closed (by k_is) (by k_is) (by k_is) (by k_is)
      · exact M.df_mk KX G M.b_law_behind (by k_is) (by k_is) (by k_is) (by k_is)
      · exact M.dfc_mk KX G M.b_law_lot (by k_is) (by k_is) (by k_is) (by k_is)
      · exact M.df_mk KX G M.b_law_many (by k_is) (by k_is) (by k_is) (by k_is)
      · exact M.df_mk KX G M.b_law_thing (by k_is) (by k_is) (by k_is) (by k_is)
    (case nT => kernel_rfl)
    (case hd => kernel_rfl)

