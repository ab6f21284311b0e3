import PyProof.Rows.All
import Wide.All
import OpenK.AllK
import Wide.FinOn
import HandS.ForMost
import HandS.Wide
import HandS.WideBits
import HandS.Conv
import HandS.IsInst
import HandS.Walk
import HandS.TupLe
import HandS.TupAny
import HandS.DictComp
import HandS.SetKeys
import HandS.ForExc
import HandS.ExcIs
import HandS.ExcInit
import HandS.ExcField
import HandS.Defaults
import HandS.CallSlots
import HandS.MakeKwOnly
import KE.DatumOrd
import PyProof.Claim2Refuses
import KE.GoesEnum
import HandS.WordsDict
import HandS.SortInts
import HandS.Zip
import PyProof.CollectIter
import PyProof.WalksMore
import HandS.TryMany
import KE.KTryMore
import HandS.TryOnly
import HandS.TupMul
import KE.KxIndex
import KE.KeyNested
import HandS.SetFor
import HandS.Strs
import HandS.SortKw
import HandS.Deep
import HandS.DictTup
import HandS.ListItems
import KE.SortData
import HandS.ClsMeth
import HandS.More
import KE.KCallOwn
import KE.KDictWalk
import HandS.ExcOwn
import KE.KDictPairs
import HandS.Dict
import HandS.DeepEq
import PySem.Challenge.RW_fewasks_k53_marks_moved
set_option Elab.async false
set_option linter.all false
set_option maxRecDepth 100000
/-! My own small words over the layer: steps of readings as lemmas, heaps that keep. -/
namespace FW
open PySem L2
/-! ### heaps -/
/-- all that stood stands, but at the addresses M -/
def Kp (M : List Addr) (H H' : Hp) : Prop := ∀ b o, b ∉ M → H b = some o → H' b = some o
theorem Kp.refl {M : List Addr} {H : Hp} : Kp M H H := fun _ _ _ h => h
theorem Kp.trans {M : List Addr} {H H1 H2 : Hp} (a : Kp M H H1) (b : Kp M H1 H2) : Kp M H H2 := fun c o n h => b c o n (a c o n h)
theorem Kp.mono {M N : List Addr} {H H1 : Hp} (a : Kp M H H1) (s : ∀ x ∈ M, x ∈ N) : Kp N H H1 := fun c o n h => a c o (fun z => n (s c z)) h
theorem Kp.same {H H1 : Hp} (a : Kp [] H H1) : Same H H1 := fun c o h => a c o (by simp) h
theorem Kp.of {M : List Addr} {H H1 : Hp} (a : Same H H1) : Kp M H H1 := fun c o _ h => a c o h
theorem Kp.new {M : List Addr} {H : Hp} {p : Addr} {o : HO} (h : H p = none) : Kp M H (upd H p o) := fun b u _ e => by rw [upd_ne (ne_of_none e h)]; exact e
theorem Kp.mut {M : List Addr} {H : Hp} {p : Addr} {o : HO} (h : p ∈ M) : Kp M H (upd H p o) := fun b u n e => by
  rw [upd_ne (show b ≠ p from fun z => n (by rw [z]; exact h))]; exact e
/-- a new object that was mutated or laid since: it stood not at the start -/
theorem Kp.mutN {M : List Addr} {H H1 : Hp} {p : Addr} {o : HO} (k : Kp M H H1) (h : H p = none) : Kp M H (upd H1 p o) := fun b u n e => by
  rw [upd_ne (ne_of_none e h)]; exact k b u n e
theorem Same.new {H : Hp} {p : Addr} {o : HO} (h : H p = none) : Same H (upd H p o) := fun b u e => by rw [upd_ne (ne_of_none e h)]; exact e
theorem upd_get {H : Hp} {a b : Addr} {o u : HO} (h : b ≠ a) (e : H b = some u) : upd H a o b = some u := by rw [upd_ne h]; exact e
theorem upd_none {H : Hp} {a b : Addr} {o : HO} (e : upd H a o b = none) : H b = none ∧ b ≠ a := by
  by_cases h : b = a
  · subst h; rw [upd_same] at e; cases e
  · rw [upd_ne h] at e; exact ⟨e, h⟩
/-- all but p is as it was -/
def Off (p : Addr) (H H' : Hp) : Prop := ∀ b, b ≠ p → H' b = H b
theorem Off.get {p b : Addr} {H H' : Hp} {o : HO} (k : Off p H H') (n : b ≠ p) (e : H b = some o) : H' b = some o := (k b n).trans e
theorem Off.kp {p : Addr} {M : List Addr} {H H' : Hp} (k : Off p H H') (m : p ∈ M) : Kp M H H' := fun b o n e => (k b (fun z => n (by rw [z]; exact m))).trans e
theorem Off.trans {p : Addr} {H H1 H2 : Hp} (a : Off p H H1) (b : Off p H1 H2) : Off p H H2 := fun x n => (b x n).trans (a x n)
theorem Off.keep {p : Addr} {M : List Addr} {H H1 H2 : Hp} (a : Kp M H H1) (b : Off p H1 H2) (n : H p = none) : Kp M H H2 := fun x o m e => (b x (ne_of_none e n)).trans (a x o m e)
/-- a list's change keeps the tuples -/
theorem Off.tup {p b : Addr} {H H' : Hp} {xs ys : List V} (k : Off p H H') (hp : H p = some (.lst xs)) (e : H b = some (.tup ys)) : H' b = some (.tup ys) := k.get (ne_of e hp (fun z => nomatch z)) e
/-- what keeps the tuples -/
structure KT (H H' : Hp) : Prop where
  p : ∀ b xs, H b = some (.tup xs) → H' b = some (.tup xs)
  f : ∀ b o xs, H b = some (.frz o (.tup xs)) → H' b = some (.frz o (.tup xs))
instance {H H' : Hp} : CoeFun (KT H H') (fun _ => ∀ b xs, H b = some (.tup xs) → H' b = some (.tup xs)) := ⟨KT.p⟩
theorem KT.refl {H : Hp} : KT H H := ⟨fun _ _ e => e, fun _ _ _ e => e⟩
theorem KT.of {H H' : Hp} (k : Same H H') : KT H H' := ⟨fun b xs e => k _ _ e, fun b o xs e => k _ _ e⟩
theorem KT.off {p : Addr} {H H' : Hp} {xs : List V} (k : Off p H H') (e : H p = some (.lst xs)) : KT H H' := ⟨fun b ys e2 => k.tup e e2, fun b o ys e2 => k.get (ne_of e2 e (fun z => nomatch z)) e2⟩
theorem KT.trans {H H1 H2 : Hp} (a : KT H H1) (b : KT H1 H2) : KT H H2 := ⟨fun c xs e => b.p c xs (a.p c xs e), fun c o xs e => b.f c o xs (a.f c o xs e)⟩
theorem KT.kp {M : List Addr} {H H' : Hp} (k : Kp M H H') (h : ∀ b ∈ M, ∃ xs, H b = some (.lst xs)) : KT H H' := ⟨fun b ys e => k b _ (fun z => by
  obtain ⟨xs, e2⟩ := h b z
  rw [e] at e2; cases e2) e, fun b o ys e => k b _ (fun z => by
  obtain ⟨xs, e2⟩ := h b z
  rw [e] at e2; cases e2) e⟩
theorem KT.upd {H H1 : Hp} {D : Addr} {o : HO} (k : KT H H1) (h : H D = none) : KT H (upd H1 D o) := ⟨fun b xs e => by rw [upd_ne (ne_of_none e h)]; exact k.p b xs e, fun b u xs e => by rw [upd_ne (ne_of_none e h)]; exact k.f b u xs e⟩
theorem KT.updL {H : Hp} {D : Addr} {o : HO} {ys : List V} (h : H D = some (.lst ys)) : KT H (L2.upd H D o) := ⟨fun b xs e => upd_get (ne_of e h (fun z => nomatch z)) e, fun b u xs e => upd_get (ne_of e h (fun z => nomatch z)) e⟩
/-- a tuple whose object has no dict -/
def TupD (H : Hp) (r : Addr) (xs : List V) : Prop := ∃ o : Obj, H r = some (.frz o (.tup xs)) ∧ o.dict = none
theorem TupD.kt {H H' : Hp} {r : Addr} {xs : List V} (h : TupD H r xs) (k : KT H H') : TupD H' r xs := by
  obtain ⟨o, e, d⟩ := h
  exact ⟨o, k.f _ _ _ e, d⟩
theorem TupD.tx {K : PySem.W.Frag} {H : Hp} {r : Addr} {xs : List V} (h : TupD H r xs) : TyX K H (.ref r) (.type "tuple") := by
  obtain ⟨o, e, d⟩ := h
  exact .fTuple e
theorem TupD.sq {K : PySem.W.Frag} {H : Hp} {r : Addr} {xs : List V} (h : TupD H r xs) : SqT K H r xs := by
  obtain ⟨o, e, d⟩ := h
  exact .inl (.inr ⟨o, e⟩)
/-! ### rules by names -/
/-- a new object o -/
def Nw (o : HO) (H : Hp) (Q : VK) : Prop := ∀ p, H p = none → Q (.ref p) (upd H p o)
def rLen (K : PySem.W.Frag) : List V → Hp → VK → Prop := fun xs H Q => ∃ p ys, xs = [.ref p] ∧ (SqL K H p ys ∨ SqT K H p ys) ∧ Q (.int ys.length) H
def rMin2 : List V → Hp → VK → Prop := fun xs H Q => ∃ i j, xs = [.int i, .int j] ∧ Q (.int (if j < i then j else i)) H
def rMax2 : List V → Hp → VK → Prop := fun xs H Q => ∃ i j, xs = [.int i, .int j] ∧ Q (.int (if j > i then j else i)) H
def rListOf (K : PySem.W.Frag) : List V → Hp → VK → Prop := fun xs H Q => ∃ p ys, xs = [.ref p] ∧ (SqL K H p ys ∨ SqT K H p ys) ∧ ∀ l, H l = none → Q (.ref l) (upd H l (.lst ys))
def rTupOf (K : PySem.W.Frag) : List V → Hp → VK → Prop := fun xs H Q => ∃ p ys, xs = [.ref p] ∧ ((SqL K H p ys ∧ ∀ l, H l = none → Q (.ref l) (upd H l (.tup ys))) ∨ (SqT K H p ys ∧ Q (.ref p) H))
def rRg2 (x y : V) (H : Hp) (R : Int → Int → Hp → Prop) : Prop := ∃ i j, x = .int i ∧ y = .int j ∧ R i j H
def rBits (x : V) (H : Hp) (Q : VK) : Prop := ∃ i, x = .int i ∧ Q (.int (Builtin.Int.intBits i : Nat)) H
def rRng1 (vs : List V) (H : Hp) (R : It → Hp → Prop) : Prop := ∃ j : Int, vs = [.int j] ∧ -(2 ^ 62) ≤ j ∧ j < 2 ^ 62 ∧ R (Itr 0 j.toNat) H
def rRng2 (vs : List V) (H : Hp) (R : It → Hp → Prop) : Prop := ∃ i j : Int, vs = [.int i, .int j] ∧ (-(2 ^ 62) ≤ i ∧ i < 2 ^ 62 ∧ -(2 ^ 62) ≤ j ∧ j < 2 ^ 62) ∧ R (Itr i (j - i).toNat) H
def rItL (K : PySem.W.Frag) (x : V) (H : Hp) (R : It → Hp → Prop) : Prop := ∃ a, x = .ref a ∧ (∃ xs, SqL K H a xs) ∧ R (Itl K a) H
def rItT (K : PySem.W.Frag) (x : V) (H : Hp) (R : It → Hp → Prop) : Prop := ∃ a, x = .ref a ∧ (∃ xs, SqT K H a xs) ∧ R (Itt K a) H
def rDIn (x y : V) (H : Hp) (Q : VK) : Prop := ∃ a o, x = .ref a ∧ DGet H a y o ∧ Q (.bl o.isSome) H
def rDNotIn (x y : V) (H : Hp) (Q : VK) : Prop := ∃ a o, x = .ref a ∧ DGet H a y o ∧ Q (.bl (!o.isSome)) H
def rDGet (x y : V) (H : Hp) (Q : VK) : Prop := ∃ a v, x = .ref a ∧ DGet H a y (some v) ∧ Q v H
def rDGet2 (a : Addr) (y z : V) (H : Hp) (Q : VK) : Prop := ∃ o, DGet H a y o ∧ Q (o.getD z) H
def rDPut (x y v : V) (H : Hp) (R : Hp → Prop) : Prop := ∃ a H4, x = .ref a ∧ DPut H a y v H4 ∧ R H4
def rDSetd (a : Addr) (y z : V) (H : Hp) (Q : VK) : Prop := ∃ (kvs : List (Key × V)) (k : Key), H a = some (.dK kvs) ∧ y = kV k ∧ kvs.length < sizeLine ∧ (∀ v, valV kvs k = some v → Q v H) ∧ (valV kvs k = none → Q z (upd H a (.dK (putK kvs k z))))
def rIsD (x : V) (H : Hp) (R : Addr → Hp → Prop) : Prop := ∃ a, x = .ref a ∧ IsD H a ∧ R a H
def rIsBl : R2 := fun x y H Q => ∃ a b, x = .bl a ∧ y = .bl b ∧ Q (.bl (decide (a = b))) H
def rIsNon : R2 := fun x y H Q => y = .non ∧ Q (.bl (decide (x = .non))) H
def rNotNon : R2 := fun x y H Q => y = .non ∧ Q (.bl (!decide (x = .non))) H
def rTru (K : PySem.W.Frag) (x : V) (H : Hp) (R : Bool → Hp → Prop) : Prop := ∃ k, TruV K x H k ∧ R k H
def tTru (K : PySem.W.Frag) (ta : TE) : TT := fun σ H R => ta σ H fun x H' => ∃ k, TruV K x H' k ∧ R k H'
def rSortD (xs : List V) (H : Hp) (Q : VK) : Prop := ∃ (a : Addr) (kvs : List (Key × V)) (ks : List Int), xs = [.ref a] ∧ Rd H a (.dK kvs) ∧ kvs.map (·.1) = ks.map Sum.inl ∧ ks.length < 64 ∧
    ∀ (ys : List Int) (p : Addr), ys.Perm ks → ys.Pairwise (· ≤ ·) → H p = none → Q (.ref p) (upd H p (.lst (ys.map V.int)))
section
variable {X : Cx}
theorem o_isN : OpR X (compareOp .Is) rIsNon := op_isN
theorem o_notN : OpR X (compareOp .IsNot) rNotNon := op_notN
theorem c_len : CallR X (.builtin "len") (rLen X.K) := call_len_seq
theorem c_min2 (hc : X.calm = true) : CallR X (.builtin "min") rMin2 := call_min2 hc
theorem c_listOf : CallR X (.type "list") (rListOf X.K) := call_list_of
theorem c_tupOf : CallR X (.type "tuple") (rTupOf X.K) := call_tuple_of
end
theorem kb_int_int : kitB "int" "int" = some true := by decide +kernel
theorem kb_int_bool : kitB "int" "bool" = some false := by decide +kernel
theorem kb_int_str : kitB "int" "str" = some false := by decide +kernel
theorem kb_int_tuple : kitB "int" "tuple" = some false := by decide +kernel
theorem kb_int_list : kitB "int" "list" = some false := by decide +kernel
theorem kb_int_dict : kitB "int" "dict" = some false := by decide +kernel
theorem kb_bool_int : kitB "bool" "int" = some true := by decide +kernel
theorem kb_bool_bool : kitB "bool" "bool" = some true := by decide +kernel
theorem kb_bool_str : kitB "bool" "str" = some false := by decide +kernel
theorem kb_bool_tuple : kitB "bool" "tuple" = some false := by decide +kernel
theorem kb_bool_list : kitB "bool" "list" = some false := by decide +kernel
theorem kb_bool_dict : kitB "bool" "dict" = some false := by decide +kernel
theorem kb_str_int : kitB "str" "int" = some false := by decide +kernel
theorem kb_str_bool : kitB "str" "bool" = some false := by decide +kernel
theorem kb_str_str : kitB "str" "str" = some true := by decide +kernel
theorem kb_str_tuple : kitB "str" "tuple" = some false := by decide +kernel
theorem kb_str_list : kitB "str" "list" = some false := by decide +kernel
theorem kb_str_dict : kitB "str" "dict" = some false := by decide +kernel
theorem kb_tuple_int : kitB "tuple" "int" = some false := by decide +kernel
theorem kb_tuple_bool : kitB "tuple" "bool" = some false := by decide +kernel
theorem kb_tuple_str : kitB "tuple" "str" = some false := by decide +kernel
theorem kb_tuple_tuple : kitB "tuple" "tuple" = some true := by decide +kernel
theorem kb_tuple_list : kitB "tuple" "list" = some false := by decide +kernel
theorem kb_tuple_dict : kitB "tuple" "dict" = some false := by decide +kernel
theorem kb_list_int : kitB "list" "int" = some false := by decide +kernel
theorem kb_list_bool : kitB "list" "bool" = some false := by decide +kernel
theorem kb_list_str : kitB "list" "str" = some false := by decide +kernel
theorem kb_list_tuple : kitB "list" "tuple" = some false := by decide +kernel
theorem kb_list_list : kitB "list" "list" = some true := by decide +kernel
theorem kb_list_dict : kitB "list" "dict" = some false := by decide +kernel
theorem kb_dict_int : kitB "dict" "int" = some false := by decide +kernel
theorem kb_dict_bool : kitB "dict" "bool" = some false := by decide +kernel
theorem kb_dict_str : kitB "dict" "str" = some false := by decide +kernel
theorem kb_dict_tuple : kitB "dict" "tuple" = some false := by decide +kernel
theorem kb_dict_list : kitB "dict" "list" = some false := by decide +kernel
theorem kb_dict_dict : kitB "dict" "dict" = some true := by decide +kernel
theorem kb_NoneType_int : kitB "NoneType" "int" = some false := by decide +kernel
theorem kb_NoneType_bool : kitB "NoneType" "bool" = some false := by decide +kernel
theorem kb_NoneType_str : kitB "NoneType" "str" = some false := by decide +kernel
theorem kb_NoneType_tuple : kitB "NoneType" "tuple" = some false := by decide +kernel
theorem kb_NoneType_list : kitB "NoneType" "list" = some false := by decide +kernel
theorem kb_NoneType_dict : kitB "NoneType" "dict" = some false := by decide +kernel
/-! ### steps -/
section
variable {K : PySem.W.Frag} {σ : St} {H : Hp} {Q : VK} {nx bk ct : St → Hp → Prop} {rt : VK} {v : V}
theorem w_seq {t u : TS} (h : t ⟨u ⟨nx, rt, bk, ct⟩, rt, bk, ct⟩ σ H) : tSeq t u ⟨nx, rt, bk, ct⟩ σ H := h
theorem w_seqA {te : TE} {g : TG} {u : TS} (h : te σ H fun x H1 => g x σ H1 (u ⟨nx, rt, bk, ct⟩)) : tSeq (tAsg te g) u ⟨nx, rt, bk, ct⟩ σ H := h
theorem w_seqD {te : TE} {u : TS} (h : te σ H fun _ H1 => u ⟨nx, rt, bk, ct⟩ σ H1) : tSeq (tDrop te) u ⟨nx, rt, bk, ct⟩ σ H := h
theorem w_seqF {wi : TI} {g : TG} {tb u : TS} (h : tFor wi g tb ⟨u ⟨nx, rt, bk, ct⟩, rt, bk, ct⟩ σ H) : tSeq (tFor wi g tb) u ⟨nx, rt, bk, ct⟩ σ H := h
theorem w_seqW {c : TT} {tb u : TS} (h : tWhile c tb ⟨u ⟨nx, rt, bk, ct⟩, rt, bk, ct⟩ σ H) : tSeq (tWhile c tb) u ⟨nx, rt, bk, ct⟩ σ H := h
theorem w_seqG {i : Nat} {te : TE} {ti : TIp} {u : TS} (h : tAug i te ti ⟨u ⟨nx, rt, bk, ct⟩, rt, bk, ct⟩ σ H) : tSeq (tAug i te ti) u ⟨nx, rt, bk, ct⟩ σ H := h
/-- a statement whose ways meet: what follows is taken as U, of which R is enough -/
theorem w_seqJ {t u : TS} (R : St → Hp → Prop) (h2 : ∀ σ' H', R σ' H' → u ⟨nx, rt, bk, ct⟩ σ' H') (h1 : ∀ U : St → Hp → Prop, (∀ σ' H', R σ' H' → U σ' H') → t ⟨U, rt, bk, ct⟩ σ H) : tSeq t u ⟨nx, rt, bk, ct⟩ σ H := h1 _ h2
theorem w_var {i : Nat} (e : σ[i]? = some (some v)) (h : Q v H) : tVar i σ H Q := ⟨v, e, h⟩
theorem w_c (h : Q v H) : tC v σ H Q := h
theorem w_asg {te : TE} {g : TG} (h : te σ H fun x H1 => g x σ H1 nx) : tAsg te g ⟨nx, rt, bk, ct⟩ σ H := h
theorem w_name {i : Nat} {R : St → Hp → Prop} (h : R (σ.set i (some v)) H) : gName i v σ H R := h
theorem w_op {r : R2} {ta tb : TE} (h : ta σ H fun x H1 => tb σ H1 fun y H2 => r x y H2 Q) : tOp r ta tb σ H Q := h
theorem w_un {r : V → Hp → VK → Prop} {ta : TE} (h : ta σ H fun x H1 => r x H1 Q) : tUn r ta σ H Q := h
theorem w_neg {i : Int} (h : Q (.int (-i)) H) : rU (fun i => .int (-i)) (.int i) H Q := ⟨i, rfl, h⟩
theorem w_i {C : Int → Int → Prop} {g : Int → Int → V} {i j : Int} (c : C i j) (h : Q (g i j) H) : rI C g (.int i) (.int j) H Q := ⟨i, j, rfl, rfl, c, h⟩
theorem w_i0 {g : Int → Int → V} {i j : Int} (h : Q (g i j) H) : rI0 g (.int i) (.int j) H Q := ⟨i, j, rfl, rfl, h⟩
theorem w_eqI {i j : Int} (h : Q (.bl (decide (i = j))) H) : rEq (.int i) (.int j) H Q := ⟨rfl, by
  have e : decide (V.int i = V.int j) = decide (i = j) := by
    by_cases q : i = j
    · subst q; rw [decide_eq_true rfl, decide_eq_true rfl]
    · rw [decide_eq_false q, decide_eq_false (fun z => q (V.int.inj z))]
  rw [e]; exact h⟩
theorem w_neI {i j : Int} (h : Q (.bl (!decide (i = j))) H) : rNe (.int i) (.int j) H Q := ⟨rfl, by
  have e : decide (V.int i = V.int j) = decide (i = j) := by
    by_cases q : i = j
    · subst q; rw [decide_eq_true rfl, decide_eq_true rfl]
    · rw [decide_eq_false q, decide_eq_false (fun z => q (V.int.inj z))]
  rw [e]; exact h⟩
theorem w_ixL {p : Addr} {xs : List V} {i : Int} (h1 : SqL K H p xs) (h2 : atI xs i = some v) (h : Q v H) : rIxL K (.ref p) (.int i) H Q := ⟨p, xs, i, v, rfl, rfl, h1, h2, h⟩
theorem w_ixT {p : Addr} {xs : List V} {i : Int} (h1 : SqT K H p xs) (h2 : atI xs i = some v) (h : Q v H) : rIxT K (.ref p) (.int i) H Q := ⟨p, xs, i, v, rfl, rfl, h1, h2, h⟩
theorem w_ixSL {p : Addr} {xs : List V} {i : Int} (h1 : SqL K H p xs) (h2 : atI xs i = some v) (h : Q v H) : rIx K (.ref p) (.int i) H Q := .inl ⟨p, xs, i, v, rfl, rfl, h1, h2, h⟩
theorem w_ixST {p : Addr} {xs : List V} {i : Int} (h1 : SqT K H p xs) (h2 : atI xs i = some v) (h : Q v H) : rIx K (.ref p) (.int i) H Q := .inr (.inl ⟨p, xs, i, v, rfl, rfl, h1, h2, h⟩)
theorem w_neB {x y : Bool} (h : Q (.bl (!decide (x = y))) H) : rNe (.bl x) (.bl y) H Q := ⟨rfl, by
  have e : decide (V.bl x = V.bl y) = decide (x = y) := by
    by_cases q : x = y
    · subst q; rw [decide_eq_true rfl, decide_eq_true rfl]
    · rw [decide_eq_false q, decide_eq_false (fun z => q (V.bl.inj z))]
  rw [e]; exact h⟩
theorem w_eqN (h : Q (.bl true) H) : rEq .non .non H Q := ⟨rfl, h⟩
theorem w_sub {to ti : TE} {t : TSet} {R : St → Hp → Prop} (h : to σ H fun o H1 => ti σ H1 fun i H2 => t o i v H2 fun H3 => R σ H3) : gSub to ti t v σ H R := h
theorem w_setL {p : Addr} {xs ys : List V} {k : Int} {j : Nat} {R : Hp → Prop} (h1 : H p = some (.lst xs)) (h2 : ixN xs.length k = some j) (e : xs.set j v = ys) (h : ∀ H1, H1 p = some (.lst ys) → Off p H H1 → R H1) : rSetL (.ref p) (.int k) v H R :=
  ⟨p, xs, k, j, rfl, rfl, h1, h2, by rw [e]; exact h _ upd_same fun x hx => upd_ne hx⟩
theorem w_if {c : TT} {t u : TS} (h : c σ H fun b H1 => if b = true then t ⟨nx, rt, bk, ct⟩ σ H1 else u ⟨nx, rt, bk, ct⟩ σ H1) : tIfS c t u ⟨nx, rt, bk, ct⟩ σ H := h
theorem w_test {t : TE} {R : Bool → Hp → Prop} (h : t σ H fun x H' => ∃ k, x = .bl k ∧ R k H') : tTest t σ H R := h
theorem w_tb {t : TE} {R : Bool → Hp → Prop} (h : t σ H fun x H' => ∃ k, x = .bl k ∧ R k H') : tB t σ H R := h
theorem w_bl {b : Bool} {R : Bool → Prop} (h : R b) : ∃ k, V.bl b = .bl k ∧ R k := ⟨b, rfl, h⟩
theorem w_and {t u : TT} {R : Bool → Hp → Prop} (h : t σ H fun c H1 => if c = true then u σ H1 R else R false H1) : tAnd t u σ H R := h
theorem w_or {t u : TT} {R : Bool → Hp → Prop} (h : t σ H fun c H1 => if c = true then R true H1 else u σ H1 R) : tOr t u σ H R := h
theorem w_not {t : TT} {R : Bool → Hp → Prop} (h : t σ H fun c H1 => R (!c) H1) : tNot t σ H R := h
theorem w_andV {ta tb : TE} (h : ta σ H fun x H1 => ∃ c, x = .bl c ∧ if c = true then tb σ H1 Q else Q (.bl false) H1) : tAndV ta tb σ H Q := h
theorem w_orV {ta tb : TE} (h : ta σ H fun x H1 => ∃ c, x = .bl c ∧ if c = true then Q (.bl true) H1 else tb σ H1 Q) : tOrV ta tb σ H Q := h
theorem w_notV {ta : TE} (h : ta σ H fun x H1 => ∃ c, x = .bl c ∧ Q (.bl (!c)) H1) : tNotV ta σ H Q := h
theorem w_ite {p : Prop} {inst : Decidable p} {A B : Prop} (h1 : p → A) (h2 : ¬ p → B) : if decide p = true then A else B := by
  by_cases h : p
  · rw [if_pos (decide_eq_true h)]; exact h1 h
  · rw [if_neg (fun z => h (of_decide_eq_true z))]; exact h2 h
theorem w_itN {p : Prop} {inst : Decidable p} {A B : Prop} (h1 : ¬ p → A) (h2 : p → B) : if (!decide p) = true then A else B := by
  by_cases h : p
  · rw [decide_eq_true h]; exact h2 h
  · rw [decide_eq_false h]; exact h1 h
theorem w_yes {p : Prop} {inst : Decidable p} {A B : Prop} (h : p) (a : A) : if decide p = true then A else B := by rw [if_pos (decide_eq_true h)]; exact a
theorem w_no {p : Prop} {inst : Decidable p} {A B : Prop} (h : ¬ p) (b : B) : if decide p = true then A else B := by rw [if_neg (fun z => h (of_decide_eq_true z))]; exact b
theorem w_nyes {p : Prop} {inst : Decidable p} {A B : Prop} (h : p) (b : B) : if (!decide p) = true then A else B := by rw [decide_eq_true h]; exact b
theorem w_nno {p : Prop} {inst : Decidable p} {A B : Prop} (h : ¬ p) (a : A) : if (!decide p) = true then A else B := by rw [decide_eq_false h]; exact a
theorem w_itB {b : Bool} {A B : Prop} (h1 : b = true → A) (h2 : b = false → B) : if b = true then A else B := by
  cases b with
  | true => exact h1 rfl
  | false => exact h2 rfl
theorem w_nT {A B : Prop} (h : B) : if (!true) = true then A else B := h
theorem w_nF {A B : Prop} (h : A) : if (!false) = true then A else B := h
theorem w_ret {te : TE} (h : te σ H rt) : tRet te ⟨nx, rt, bk, ct⟩ σ H := h
theorem w_drop {te : TE} (h : te σ H fun _ H1 => nx σ H1) : tDrop te ⟨nx, rt, bk, ct⟩ σ H := h
theorem w_next (h : nx σ H) : tNext ⟨nx, rt, bk, ct⟩ σ H := h
theorem w_cb {r : List V → Hp → VK → Prop} {t : TA} (h : t σ H fun vs H1 => r vs H1 Q) : tCB r t σ H Q := h
theorem w_nil {R : List V → Hp → Prop} (h : R [] H) : tNil σ H R := h
theorem w_cons {ta : TE} {tr : TA} {R : List V → Hp → Prop} (h : ta σ H fun x H1 => tr σ H1 fun xs H2 => R (x :: xs) H2) : tCons ta tr σ H R := h
theorem w_call {sp : Sp} {E : XK} {t : TA} (h : t σ H fun vs H1 => sp (vs ++ []) H1 Q E) : tCall sp [] E t σ H Q := h
theorem w_lst {t : TA} (h : t σ H fun xs H1 => xs.length ≤ sizeLine ∧ Nw (.lst xs) H1 Q) : tLst t σ H Q := h
theorem w_tup {t : TA} (h : t σ H fun xs H1 => xs.length ≤ sizeLine ∧ Nw (.tup xs) H1 Q) : tTup t σ H Q := h
theorem w_new {o : HO} (h : ∀ p H2, H p = none → H2 p = some o → Same H H2 → Q (.ref p) H2) : Nw o H Q := fun p hp => h p _ hp upd_same (Same.new hp)
theorem w_sz {n : Nat} {o : HO} (h1 : n ≤ sizeLine) (h : Nw o H Q) : n ≤ sizeLine ∧ Nw o H Q := ⟨h1, h⟩
theorem w_app {p : Addr} {xs : List V} (h1 : H p = some (.lst xs)) (h2 : xs.length < sizeLine) (h : ∀ H1, H1 p = some (.lst (xs ++ [v])) → Off p H H1 → Q .non H1) : rAppend (.ref p) [v] H Q :=
  ⟨p, xs, v, rfl, rfl, h1, h2, h _ upd_same fun x hx => upd_ne hx⟩
theorem w_bm {r : V → List V → Hp → VK → Prop} {to : TE} {t : TA} (h : to σ H fun x H1 => tyV K "list" x H1 ∧ t σ H1 fun xs H2 => r x xs H2 Q) : tBM K "list" r to t σ H Q := h
theorem w_tyL {p : Addr} {xs : List V} {A : Prop} (h1 : H p = some (.lst xs)) (h : A) : tyV K "list" (.ref p) H ∧ A := ⟨.inl ⟨rfl, _, .inl (.inl h1)⟩, h⟩
theorem w_lenL {p : Addr} {ys : List V} (h1 : SqL K H p ys) (h : Q (.int ys.length) H) : rLen K [V.ref p] H Q := ⟨p, ys, rfl, .inl h1, h⟩
theorem w_lenT {p : Addr} {ys : List V} (h1 : SqT K H p ys) (h : Q (.int ys.length) H) : rLen K [V.ref p] H Q := ⟨p, ys, rfl, .inr h1, h⟩
theorem w_min2 {i j : Int} (h : Q (.int (if j < i then j else i)) H) : rMin2 [V.int i, V.int j] H Q := ⟨i, j, rfl, h⟩
theorem w_max2 {i j : Int} (h : Q (.int (if j > i then j else i)) H) : rMax2 [V.int i, V.int j] H Q := ⟨i, j, rfl, h⟩
theorem w_listL {p : Addr} {ys : List V} (h1 : SqL K H p ys) (h : ∀ l H2, H l = none → H2 l = some (.lst ys) → Same H H2 → Q (.ref l) H2) : rListOf K [V.ref p] H Q := ⟨p, ys, rfl, .inl h1, w_new h⟩
theorem w_tupL {p : Addr} {ys : List V} (h1 : SqL K H p ys) (h : ∀ l H2, H l = none → H2 l = some (.tup ys) → Same H H2 → Q (.ref l) H2) : rTupOf K [V.ref p] H Q := ⟨p, ys, rfl, .inl ⟨h1, w_new h⟩⟩
theorem w_sum {p : Addr} {ns : List Int} (h1 : SqL K H p (ns.map V.int)) (h : Q (.int ns.sum) H) : rSum K [V.ref p] H Q := ⟨p, ns, rfl, h1, h⟩
theorem w_tupRg {te : St → Hp → (Int → Int → Hp → Prop) → Prop} (h : te σ H fun a b H1 => RgOk a b ∧ Nw (.tup (rgV a b)) H1 Q) : tTupRg te σ H Q := h
theorem w_rg2 {ta tb : TE} {R : Int → Int → Hp → Prop} (h : ta σ H fun x H1 => tb σ H1 fun y H2 => rRg2 x y H2 R) : tRg2 ta tb σ H R := h
theorem w_rg2' {i j : Int} {R : Int → Int → Hp → Prop} (h : R i j H) : rRg2 (.int i) (.int j) H R := ⟨i, j, rfl, rfl, h⟩
theorem w_bits {to : TE} (h : to σ H fun x H1 => rBits x H1 Q) : tBits to σ H Q := h
theorem w_bits' {i : Int} (h : Q (.int (Builtin.Int.intBits i : Nat)) H) : rBits (.int i) H Q := ⟨i, rfl, h⟩
theorem w_isi {x : V} {a n : String} {b : Bool} (ty : TyX K H x (.type a)) (hk : kitB a n = some b) (h : Q (.bl b) H) : rIsi K [x, .ty n] H Q := ⟨x, .ty n, _, _, b, rfl, .ty n, ty, kit_ty hk, h⟩
theorem w_eqS {x y : Str} (h : Q (.bl (decide (x = y))) H) : rEq (.str x) (.str y) H Q := ⟨rfl, by
  have e : decide (V.str x = V.str y) = decide (x = y) := by
    by_cases q : x = y
    · subst q; rw [decide_eq_true rfl, decide_eq_true rfl]
    · rw [decide_eq_false q, decide_eq_false (fun z => q (V.str.inj z))]
  rw [e]; exact h⟩
theorem w_eqB {x y : Bool} (h : Q (.bl (decide (x = y))) H) : rEq (.bl x) (.bl y) H Q := ⟨rfl, by
  have e : decide (V.bl x = V.bl y) = decide (x = y) := by
    by_cases q : x = y
    · subst q; rw [decide_eq_true rfl, decide_eq_true rfl]
    · rw [decide_eq_false q, decide_eq_false (fun z => q (V.bl.inj z))]
  rw [e]; exact h⟩
/-! targets, dicts -/
theorem w_gtup {a : Addr} {xs : List V} {n : Nat} {t : TGs} {R : St → Hp → Prop} (h1 : SqT K H a xs) (h2 : xs.length = n) (h : t xs σ H R) : gTup K n t (.ref a) σ H R := ⟨a, xs, rfl, h1, h2, h⟩
theorem w_gcons {t : TG} {u : TGs} {r : List V} {R : St → Hp → Prop} (h : t v σ H fun σ' H' => u r σ' H' R) : gCons t u (v :: r) σ H R := ⟨v, r, rfl, h⟩
theorem w_gnil {R : St → Hp → Prop} (h : R σ H) : gNil [] σ H R := ⟨rfl, h⟩
theorem w_din {ty td : TE} (h : ty σ H fun y H1 => td σ H1 fun x H2 => rDIn x y H2 Q) : tDIn ty td σ H Q := h
theorem w_dnotin {ty td : TE} (h : ty σ H fun y H1 => td σ H1 fun x H2 => rDNotIn x y H2 Q) : tDNotIn ty td σ H Q := h
theorem w_dget {ty td : TE} (h : td σ H fun x H1 => ty σ H1 fun y H2 => rDGet x y H2 Q) : tDGet td ty σ H Q := h
theorem w_dinI {a : Addr} {kvs : List (Key × V)} {n : Int} (e : H a = some (.dK kvs)) (h : Q (.bl (valV kvs (Sum.inl n)).isSome) H) : rDIn (.ref a) (.int n) H Q := ⟨a, _, rfl, DGet.k (k := Sum.inl n) e, h⟩
theorem w_dnotinI {a : Addr} {kvs : List (Key × V)} {n : Int} (e : H a = some (.dK kvs)) (h : Q (.bl (!(valV kvs (Sum.inl n)).isSome)) H) : rDNotIn (.ref a) (.int n) H Q := ⟨a, _, rfl, DGet.k (k := Sum.inl n) e, h⟩
theorem w_dgetI {a : Addr} {kvs : List (Key × V)} {n : Int} (e : H a = some (.dK kvs)) (e2 : valV kvs (Sum.inl n) = some v) (h : Q v H) : rDGet (.ref a) (.int n) H Q := ⟨a, v, rfl, e2 ▸ DGet.k (k := Sum.inl n) e, h⟩
theorem w_dnewK (h : Nw (.dK []) H Q) : tDNewK σ H Q := h
theorem w_dput {td ty tv : TE} (h : tv σ H fun v H1 => td σ H1 fun x H2 => ty σ H2 fun y H3 => rDPut x y v H3 fun H4 => nx σ H4) : sDPut td ty tv ⟨nx, rt, bk, ct⟩ σ H := h
theorem w_seqP {td ty tv : TE} {u : TS} (h : tv σ H fun v H1 => td σ H1 fun x H2 => ty σ H2 fun y H3 => rDPut x y v H3 fun H4 => u ⟨nx, rt, bk, ct⟩ σ H4) : tSeq (sDPut td ty tv) u ⟨nx, rt, bk, ct⟩ σ H := h
theorem w_dputI {a : Addr} {kvs : List (Key × V)} {n : Int} {R : Hp → Prop} (e : H a = some (.dK kvs)) (hl : kvs.length < sizeLine) (h : ∀ H1, H1 a = some (.dK (putK kvs (Sum.inl n) v)) → Off a H H1 → R H1) : rDPut (.ref a) (.int n) v H R :=
  ⟨a, _, rfl, DPut.k (k := Sum.inl n) e hl, h _ upd_same fun x hx => upd_ne hx⟩
theorem w_dget2 {td ty tx : TE} (h : td σ H fun x H1 => rIsD x H1 fun a H1 => ty σ H1 fun y H2 => tx σ H2 fun z H3 => rDGet2 a y z H3 Q) : tDGet2 td ty tx σ H Q := h
theorem w_isD {a : Addr} {kvs : List (Key × V)} {R : Addr → Hp → Prop} (e : H a = some (.dK kvs)) (h : R a H) : rIsD (.ref a) H R := ⟨a, rfl, .inl ⟨kvs, .inl e⟩, h⟩
theorem w_dget2I {a : Addr} {kvs : List (Key × V)} {n : Int} {z : V} (e : H a = some (.dK kvs)) (h : Q ((valV kvs (Sum.inl n)).getD z) H) : rDGet2 a (.int n) z H Q := ⟨_, DGet.k (k := Sum.inl n) e, h⟩
theorem w_dsetd {td ty tx : TE} (h : td σ H fun x H1 => rIsD x H1 fun a H1 => ty σ H1 fun y H2 => tx σ H2 fun z H3 => rDSetd a y z H3 Q) : tDSetd td ty tx σ H Q := h
theorem w_leT2 {p q : Addr} {a b c d : Int} (h1 : SqT K H p [.int a, .int b]) (h2 : SqT K H q [.int c, .int d]) (h : Q (.bl (decide (a < c ∨ a = c ∧ b ≤ d))) H) : rLeT K (.ref p) (.ref q) H Q := by
  refine ⟨p, q, [a, b], [c, d], rfl, rfl, h1, h2, ?_⟩
  have e : Ob.lexAt (fun j => decide (([a, b] : List Int).getD j 0 = ([c, d] : List Int).getD j 0)) (fun j => decide (([a, b] : List Int).getD j 0 ≤ ([c, d] : List Int).getD j 0)) (decide (([a, b] : List Int).length ≤ ([c, d] : List Int).length)) 0 (min ([a, b] : List Int).length ([c, d] : List Int).length) = decide (a < c ∨ a = c ∧ b ≤ d) := by
    show (if decide (a = c) = true then (if decide (b = d) = true then true else decide (b ≤ d)) else decide (a ≤ c)) = _
    by_cases h1 : a = c
    · rw [if_pos (decide_eq_true h1)]
      by_cases h2 : b = d
      · rw [if_pos (decide_eq_true h2)]
        exact (decide_eq_true (by omega)).symm
      · rw [if_neg (fun z => h2 (of_decide_eq_true z))]
        rw [Bool.eq_iff_iff]; simp; omega
    · rw [if_neg (fun z => h1 (of_decide_eq_true z))]
      rw [Bool.eq_iff_iff]; simp; omega
  rw [e]
  exact h
theorem inV_ints (n : Int) (vs : List Int) : inV (.int n) (vs.map V.int) = decide (n ∈ vs) := by
  unfold inV
  rw [Bool.eq_iff_iff, List.any_eq_true]
  constructor
  · rintro ⟨y, hy, e⟩
    obtain ⟨z, hz, rfl⟩ := List.mem_map.mp hy
    have e' : z = n := by simpa [eqV] using e
    subst e'
    exact decide_eq_true hz
  · intro h
    exact ⟨.int n, List.mem_map_of_mem (of_decide_eq_true h), by simp [eqV]⟩
theorem flat_ints (vs : List Int) : (vs.map V.int).all flatV = true := by
  rw [List.all_eq_true]
  intro y hy
  obtain ⟨z, _, rfl⟩ := List.mem_map.mp hy
  rfl
theorem w_inT {p : Addr} {vs : List Int} {n : Int} (h1 : SqT K H p (vs.map V.int)) (h : Q (.bl (decide (n ∈ vs))) H) : rIn K false (.int n) (.ref p) H Q := ⟨p, _, rfl, .inr h1, rfl, flat_ints vs, by rw [inV_ints]; exact h⟩
theorem w_ninT {p : Addr} {vs : List Int} {n : Int} (h1 : SqT K H p (vs.map V.int)) (h : Q (.bl (!decide (n ∈ vs))) H) : rIn K true (.int n) (.ref p) H Q := ⟨p, _, rfl, .inr h1, rfl, flat_ints vs, by rw [inV_ints]; exact h⟩
theorem w_inL {p : Addr} {vs : List Int} {n : Int} (h1 : SqL K H p (vs.map V.int)) (h : Q (.bl (decide (n ∈ vs))) H) : rIn K false (.int n) (.ref p) H Q := ⟨p, _, rfl, .inl h1, rfl, flat_ints vs, by rw [inV_ints]; exact h⟩
theorem w_ninL {p : Addr} {vs : List Int} {n : Int} (h1 : SqL K H p (vs.map V.int)) (h : Q (.bl (!decide (n ∈ vs))) H) : rIn K true (.int n) (.ref p) H Q := ⟨p, _, rfl, .inl h1, rfl, flat_ints vs, by rw [inV_ints]; exact h⟩
def rDisp (p : Addr) (ps : List (V × V)) (H2 : Hp) (Q : VK) : Prop := H2 p = some (.dK []) ∧ ∃ kvs : List (Key × V), ps = kvs.map (fun kv => (kV kv.1, kv.2)) ∧ kvs.length ≤ 15 ∧ Q (.ref p) (upd H2 p (.dK (mergeK [] kvs)))
theorem w_disp {trs : List (TE × TE)} (h : ∀ p H1, H p = none → H1 p = some (.dK []) → Same H H1 → tPairs trs σ H1 (fun ps H2 => rDisp p ps H2 Q)) : tDisp trs σ H Q := fun p hp => h p _ hp upd_same (Same.new hp)
theorem w_pair {tk tv : TE} {r : List (TE × TE)} {R : List (V × V) → Hp → Prop} (h : tk σ H fun x H1 => tv σ H1 fun y H2 => tPairs r σ H2 fun ps H3 => R ((x, y) :: ps) H3) : tPairs ((tk, tv) :: r) σ H R := h
theorem w_pnil {R : List (V × V) → Hp → Prop} (h : R [] H) : tPairs [] σ H R := h
theorem w_dispE {p : Addr} {ps : List (V × V)} (kvs : List (Key × V)) (h1 : H p = some (.dK [])) (h2 : ps = kvs.map (fun kv => (kV kv.1, kv.2))) (h3 : kvs.length ≤ 15) (h : ∀ H1, H1 p = some (.dK (mergeK [] kvs)) → Off p H H1 → Q (.ref p) H1) : rDisp p ps H Q :=
  ⟨h1, kvs, h2, h3, h _ upd_same fun x hx => upd_ne hx⟩
theorem w_callS {sp : Sp} {E : St → XK} {t : TA} (h : t σ H fun vs H1 => sp vs H1 Q (E σ)) : tCallS sp E t σ H Q := h
theorem w_isB {x y : Bool} (h : Q (.bl (decide (x = y))) H) : rIsBl (.bl x) (.bl y) H Q := ⟨x, y, rfl, rfl, h⟩
theorem w_isN (h : Q (.bl (decide (v = .non))) H) : rIsNon v .non H Q := ⟨rfl, h⟩
theorem w_notN (h : Q (.bl (!decide (v = .non))) H) : rNotNon v .non H Q := ⟨rfl, h⟩
theorem w_chain {r r' : R2} {ta tb tc : TE} (h : ta σ H fun x H1 => tb σ H1 fun y H2 => r x y H2 fun z H3 => ∃ k, z = .bl k ∧ (if k = true then tc σ H3 fun w' H4 => r' y w' H4 Q else Q (.bl false) H3)) : tChain r r' ta tb tc σ H Q := h
theorem w_trL {p : Addr} {xs : List V} {R : Bool → Hp → Prop} (h1 : SqL K H p xs) (h : R (!xs.isEmpty) H) : rTru K (.ref p) H R := ⟨_, .inl ⟨xs, h1, rfl⟩, h⟩
theorem w_trT {p : Addr} {xs : List V} {R : Bool → Hp → Prop} (h1 : SqT K H p xs) (h : R (!xs.isEmpty) H) : rTru K (.ref p) H R := ⟨_, .inr (.inl ⟨xs, h1, rfl⟩), h⟩
theorem w_tru {ta : TE} {R : Bool → Hp → Prop} (h : ta σ H fun x H1 => rTru K x H1 R) : tTru K ta σ H R := h
/-! loops -/
def Lp (J : It) (g : TG) (tb : TS) (D : Ends) (σ : St) (H1 : Hp) : Prop := ∃ W : Nat → Nat → St → Hp → Prop, (∃ m, W 0 m σ H1) ∧ ∀ i m σ H, W i m σ H →
  (J.stop i H ∧ D.nx σ H) ∨ (J.go i H ∧ ∃ N : St → Hp → Prop, (∀ σ' H', N σ' H' → ∃ m', m' < m ∧ W (i + 1) m' σ' H') ∧ ∀ x H', J.yld i H x H' → g x σ H' fun σ2 H2 => tb { D with nx := N, ct := N, bk := D.nx } σ2 H2)
theorem w_for {wi : TI} {g : TG} {tb : TS} (h : wi σ H fun J H1 => Lp J g tb ⟨nx, rt, bk, ct⟩ σ H1) : tFor wi g tb ⟨nx, rt, bk, ct⟩ σ H := h
theorem lp_it {J : It} {n : Nat} {G : Hp → Prop} {Y : Nat → Hp → V → Hp → Prop} (w : Walk J n G Y) {g : TG} {tb : TS} (Pv : Nat → St → Hp → Prop) (h0 : Pv 0 σ H) (hG : ∀ i σ H, i ≤ n → Pv i σ H → G H)
    (hs : ∀ i x σ H H', i < n → Pv i σ H → Y i H x H' → g x σ H' fun σ2 H2 => tb ⟨Pv (i + 1), rt, nx, Pv (i + 1)⟩ σ2 H2) (hd : ∀ σ H, Pv n σ H → nx σ H) : Lp J g tb ⟨nx, rt, bk, ct⟩ σ H :=
  for_it w (D := ⟨nx, rt, bk, ct⟩) Pv h0 hG hs hd
theorem lp_list {a : Addr} {xs : List V} {g : TG} {tb : TS} (Pv : Nat → St → Hp → Prop) (h0 : Pv 0 σ H) (hl : ∀ i σ H, i ≤ xs.length → Pv i σ H → SqL K H a xs)
    (hs : ∀ i x σ H, xs[i]? = some x → Pv i σ H → g x σ H fun σ2 H2 => tb ⟨Pv (i + 1), rt, nx, Pv (i + 1)⟩ σ2 H2) (hd : ∀ σ H, Pv xs.length σ H → nx σ H) : Lp (Itl K a) g tb ⟨nx, rt, bk, ct⟩ σ H :=
  for_list (D := ⟨nx, rt, bk, ct⟩) Pv h0 hl hs hd
theorem lp_tup {a : Addr} {xs : List V} {g : TG} {tb : TS} (Pv : Nat → St → Hp → Prop) (h0 : Pv 0 σ H) (hl : ∀ i σ H, i ≤ xs.length → Pv i σ H → SqT K H a xs)
    (hs : ∀ i x σ H, xs[i]? = some x → Pv i σ H → g x σ H fun σ2 H2 => tb ⟨Pv (i + 1), rt, nx, Pv (i + 1)⟩ σ2 H2) (hd : ∀ σ H, Pv xs.length σ H → nx σ H) : Lp (Itt K a) g tb ⟨nx, rt, bk, ct⟩ σ H :=
  for_tup (D := ⟨nx, rt, bk, ct⟩) Pv h0 hl hs hd
theorem lp_range {lo : Int} {n : Nat} {g : TG} {tb : TS} (Pv : Nat → St → Hp → Prop) (h0 : Pv 0 σ H)
    (hs : ∀ i σ H, i < n → Pv i σ H → g (.int (lo + i)) σ H fun σ2 H2 => tb ⟨Pv (i + 1), rt, nx, Pv (i + 1)⟩ σ2 H2) (hd : ∀ σ H, Pv n σ H → nx σ H) : Lp (Itr lo n) g tb ⟨nx, rt, bk, ct⟩ σ H :=
  for_range (D := ⟨nx, rt, bk, ct⟩) Pv h0 hs hd
theorem w_rng1 {t : TA} {R : It → Hp → Prop} (h : t σ H fun vs H1 => rRng1 vs H1 R) : iRng1 t σ H R := h
theorem w_rng1' {j : Int} {R : It → Hp → Prop} (h1 : -(2 ^ 62) ≤ j) (h2 : j < 2 ^ 62) (h : R (Itr 0 j.toNat) H) : rRng1 [.int j] H R := ⟨j, rfl, h1, h2, h⟩
theorem w_rng2 {t : TA} {R : It → Hp → Prop} (h : t σ H fun vs H1 => rRng2 vs H1 R) : iRng2 t σ H R := h
theorem w_rng2' {i j : Int} {R : It → Hp → Prop} (h1 : -(2 ^ 62) ≤ i ∧ i < 2 ^ 62 ∧ -(2 ^ 62) ≤ j ∧ j < 2 ^ 62) (h : R (Itr i (j - i).toNat) H) : rRng2 [.int i, .int j] H R := ⟨i, j, rfl, h1, h⟩
theorem w_itL {tl : TE} {R : It → Hp → Prop} (h : tl σ H fun x H1 => rItL K x H1 R) : iList K tl σ H R := h
theorem w_itL' {a : Addr} {xs : List V} {R : It → Hp → Prop} (h1 : SqL K H a xs) (h : R (Itl K a) H) : rItL K (.ref a) H R := ⟨a, rfl, ⟨xs, h1⟩, h⟩
theorem w_itT {tl : TE} {R : It → Hp → Prop} (h : tl σ H fun x H1 => rItT K x H1 R) : iTup K tl σ H R := h
theorem w_itT' {a : Addr} {xs : List V} {R : It → Hp → Prop} (h1 : SqT K H a xs) (h : R (Itt K a) H) : rItT K (.ref a) H R := ⟨a, rfl, ⟨xs, h1⟩, h⟩
/-- one turn of a while: W (by a falling number) is reached again -/
def WhT (W : Nat → St → Hp → Prop) (m : Nat) (tb : TS) (rt : VK) (nx : St → Hp → Prop) (σ : St) (H : Hp) : Prop := ∃ N : St → Hp → Prop, (∀ σ' H', N σ' H' → ∃ m', m' < m ∧ W m' σ' H') ∧ tb ⟨N, rt, nx, N⟩ σ H
theorem w_turn {W : Nat → St → Hp → Prop} {m : Nat} {tb : TS} (h : tb ⟨fun σ' H' => ∃ m', m' < m ∧ W m' σ' H', rt, nx, fun σ' H' => ∃ m', m' < m ∧ W m' σ' H'⟩ σ H) : WhT W m tb rt nx σ H := ⟨_, fun _ _ z => z, h⟩
theorem w_whileN {c : TT} {tb : TS} (W : Nat → St → Hp → Prop) (m0 : Nat) (h0 : W m0 σ H) (hs : ∀ m σ H, W m σ H → c σ H fun b H1 => if b = true then WhT W m tb rt nx σ H1 else nx σ H1) : tWhile c tb ⟨nx, rt, bk, ct⟩ σ H := ⟨W, ⟨m0, h0⟩, hs⟩
/-! comprehensions -/
def LcP (J : It) (g : TG) (tt : TT) (te : TE) (vs : List Nat) (Q : VK) (σ : St) (H1 : Hp) : Prop := ∀ D, H1 D = none → ∃ W : Nat → Nat → Hp → Prop, (∃ m, W 0 m (upd H1 D (.lst []))) ∧ ∀ i m H, W i m H →
  (J.stop i H ∧ Q (.ref D) H) ∨ (J.go i H ∧ ∃ Nx : Hp → Prop, (∀ H', Nx H' → ∃ m', m' < m ∧ W (i + 1) m' H') ∧ ∀ x H', J.yld i H x H' → g x (wipe σ vs) H' fun σ2 H2 => wipe σ2 vs = wipe σ vs ∧ tt σ2 H2 fun b H3 =>
    if b = true then te σ2 H3 fun y H4 => ∃ acc, H4 D = some (.lst acc) ∧ acc.length < sizeLine ∧ Nx (upd H4 D (.lst (acc ++ [y]))) else Nx H3)
theorem w_lc {wi : TI} {g : TG} {tt : TT} {te : TE} {vs : List Nat} (h : wi σ H fun J H1 => LcP J g tt te vs Q σ H1) : tLc wi g tt te vs σ H Q := h
/-- each turn adds one: the k-th is ys[k]; what stood but M stands -/
theorem lcp_map {J : It} {n : Nat} {G : Hp → Prop} {Y : Nat → Hp → V → Hp → Prop} (w : Walk J n G Y) {g : TG} {te : TE} {vs : List Nat} (M : List Addr) (ys : List V) (hn : ys.length = n) (hz : n ≤ 1000000) (hG : ∀ H', Kp M H H' → G H')
    (hs : ∀ i x H1 H2 (R : V → Hp → Prop), i < n → Kp M H H1 → Y i H1 x H2 → (∀ y H4, ys[i]? = some y → Kp M H1 H4 → R y H4) → g x (wipe σ vs) H2 fun σ2 H3 => wipe σ2 vs = wipe σ vs ∧ te σ2 H3 R)
    (hM : ∀ b ∈ M, ∃ o, H b = some o)
    (hd : ∀ D H', H D = none → Kp M H H' → H' D = some (.lst ys) → Q (.ref D) H') : LcP J g tYes te vs Q σ H := by
  intro D hD
  have hDM : D ∉ M := fun z => by obtain ⟨o, e⟩ := hM D z; rw [hD] at e; cases e
  refine lc_it w (fun i H' => Kp M H H' ∧ H' D = some (.lst (ys.take i))) ⟨Kp.new hD, upd_same⟩ (fun i H' _ z => hG H' z.1) ?_ ?_
  · rintro i x H1 H2 hi ⟨k1, e1⟩ y
    refine (hs i x H1 H2 _ hi k1 y ?_)
    intro z H4 hz' k4
    refine ⟨ys.take i, k4 _ _ hDM e1, ?_, ?_, ?_⟩
    · rw [List.length_take]; exact Nat.lt_of_le_of_lt (Nat.min_le_left _ _) (Nat.lt_of_lt_of_le (Nat.lt_of_lt_of_le hi hz) (by decide))
    · exact (k1.trans k4).mutN hD
    · rw [upd_same, List.take_add_one, hz']; rfl
  · rintro H' ⟨k, e⟩
    rw [List.take_of_length_le (by omega)] at e
    exact hd D H' hD k e
/-- each turn adds one of which P holds (P leans on tuples alone); S: what else holds turn by turn -/
theorem lcp_gen {J : It} {n : Nat} {G : Hp → Prop} {Y : Nat → Hp → V → Hp → Prop} (w : Walk J n G Y) {g : TG} {te : TE} {vs : List Nat} (M : List Addr) (P : Nat → V → Hp → Prop) (S : Nat → Hp → Prop) (hz : n ≤ 1000000)
    (mono : ∀ i y H1 H2, KT H1 H2 → P i y H1 → P i y H2) (SD : ∀ D, H D = none → ∀ i H1 o, S i H1 → S i (upd H1 D o)) (hG : ∀ i H', Kp M H H' → S i H' → G H') (S0 : S 0 H)
    (hs : ∀ i x H1 H2 (R : V → Hp → Prop), i < n → Kp M H H1 → KT H H1 → S i H1 → Y i H1 x H2 → (∀ y H4, P i y H4 → Kp M H1 H4 → KT H1 H4 → S (i + 1) H4 → R y H4) → g x (wipe σ vs) H2 fun σ2 H3 => wipe σ2 vs = wipe σ vs ∧ te σ2 H3 R)
    (hM : ∀ b ∈ M, ∃ o, H b = some o)
    (hd : ∀ D H' ys, ys.length = n → (∀ i y, ys[i]? = some y → P i y H') → H D = none → Kp M H H' → KT H H' → S n H' → H' D = some (.lst ys) → Q (.ref D) H') : LcP J g tYes te vs Q σ H := by
  intro D hD
  have hDM : D ∉ M := fun z => by obtain ⟨o, e⟩ := hM D z; rw [hD] at e; cases e
  refine lc_it w (fun i H' => Kp M H H' ∧ KT H H' ∧ S i H' ∧ ∃ ys, ys.length = i ∧ H' D = some (.lst ys) ∧ ∀ k y, ys[k]? = some y → P k y H') ⟨Kp.new hD, KT.refl.upd hD, SD D hD _ _ _ S0, [], rfl, upd_same, by simp⟩ (fun i H' _ z => hG i H' z.1 z.2.2.1) ?_ ?_
  · rintro i x H1 H2 hi ⟨k1, t1, s1, ys, hl, e1, hp⟩ y
    refine hs i x H1 H2 _ hi k1 t1 s1 y ?_
    intro z H4 pz k4 t4 s4
    have e4 := k4 _ _ hDM e1
    refine ⟨ys, e4, ?_, (k1.trans k4).mutN hD, (t1.trans t4).upd hD, SD D hD _ _ _ s4, ys ++ [z], by rw [List.length_append, hl]; rfl, upd_same, ?_⟩
    · rw [hl]; exact Nat.lt_of_lt_of_le (Nat.lt_of_lt_of_le hi hz) (by decide)
    · intro k y' hy'
      by_cases hk : k < ys.length
      · rw [List.getElem?_append_left hk] at hy'
        exact mono _ _ _ _ (KT.updL e4) (mono _ _ _ _ t4 (hp k y' hy'))
      · rw [List.getElem?_append_right (by omega)] at hy'
        by_cases hk2 : k = ys.length
        · subst hk2
          have e : z = y' := by simpa using hy'
          subst e
          rw [hl]
          exact mono _ _ _ _ (KT.updL e4) pz
        · rw [List.getElem?_eq_none (by simp; omega)] at hy'
          cases hy'
  · rintro H' ⟨k, t, sn, ys, hl, e, hp⟩
    exact hd D H' ys hl hp hD k t sn e
theorem lcp_rel {J : It} {n : Nat} {G : Hp → Prop} {Y : Nat → Hp → V → Hp → Prop} (w : Walk J n G Y) {g : TG} {te : TE} {vs : List Nat} (M : List Addr) (P : Nat → V → Hp → Prop) (hz : n ≤ 1000000)
    (mono : ∀ i y H1 H2, KT H1 H2 → P i y H1 → P i y H2) (hG : ∀ H', Kp M H H' → G H')
    (hs : ∀ i x H1 H2 (R : V → Hp → Prop), i < n → Kp M H H1 → KT H H1 → Y i H1 x H2 → (∀ y H4, P i y H4 → Kp M H1 H4 → KT H1 H4 → R y H4) → g x (wipe σ vs) H2 fun σ2 H3 => wipe σ2 vs = wipe σ vs ∧ te σ2 H3 R)
    (hM : ∀ b ∈ M, ∃ o, H b = some o)
    (hd : ∀ D H' ys, ys.length = n → (∀ i y, ys[i]? = some y → P i y H') → H D = none → Kp M H H' → KT H H' → H' D = some (.lst ys) → Q (.ref D) H') : LcP J g tYes te vs Q σ H :=
  lcp_gen w M P (fun _ _ => True) hz mono (fun _ _ _ _ _ _ => trivial) (fun _ H' k _ => hG H' k) trivial (fun i x H1 H2 R hi k t _ y h => hs i x H1 H2 R hi k t y fun y' H4 p k4 t4 => h y' H4 p k4 t4 trivial) hM fun D H' ys h1 h2 h3 h4 h5 _ h6 => hd D H' ys h1 h2 h3 h4 h5 h6
theorem refs_of {α : Type} (C : Addr → α → Prop) : ∀ (ys : List V) (F : Nat → α), (∀ j y, ys[j]? = some y → ∃ p, y = .ref p ∧ C p (F j)) → ∃ ps : List (Addr × α), ys = ps.map (fun q => .ref q.1) ∧ ps.map (·.2) = (List.range ys.length).map F ∧ ∀ q ∈ ps, C q.1 q.2
  | [], _, _ => ⟨[], rfl, rfl, by simp⟩
  | y :: r, F, h => by
    obtain ⟨p, rfl, hp⟩ := h 0 y rfl
    obtain ⟨ps, e1, e2, e3⟩ := refs_of C r (F ∘ Nat.succ) fun j z hz => h (j + 1) z hz
    refine ⟨(p, F 0) :: ps, by rw [e1]; rfl, ?_, ?_⟩
    · rw [List.length_cons, List.range_succ_eq_map, List.map_cons, e2, List.map_cons, List.map_map]
    · intro q hq
      rcases List.mem_cons.mp hq with rfl | hq
      · exact hp
      · exact e3 q hq
end
/-! ### errors -/
/-- what the top has written of an own error class without __init__ -/
structure Exn (K : PySem.W.Frag) (mg : Str → Option Value) (x : Str) (C : Addr) : Prop where
  g : mg x = some (.ref C)
  x : PySem.W.excIn K C [.type "ValueError", .type "Exception", .type "BaseException", .type "object"] "ValueError.__new__" = true
  k : PySem.W.keepIn K (.ref C) = true
  b : PySem.W.subIn K (.ref C) (.type "BaseException") = some true
  t : PySem.W.typeIn K (.ref C) = some (.type "type")
  e : PySem.W.exmOne K (.ref C) (.ref C) = some true
theorem exm_is {K : PySem.W.Frag} {t : Value} {C : Addr} {r : Bool} (hb : PySem.W.subIn K (.ref C) (.type "BaseException") = some true) (hi : PySem.W.isClsIn K C = true) (ht : PySem.W.typeIn K (.ref C) = some (.type "type")) (hs : PySem.W.subIn K t (.ref C) = some r) : PySem.W.exmOne K t (.ref C) = some r := by
  have hi' : (PySem.W.clsIn K C).isSome = true := hi
  unfold PySem.W.exmOne
  rw [hb, if_pos (by rfl)]
  show (if ((PySem.W.clsIn K C).isSome && PySem.W.typeIn K (Value.ref C) == some (Value.type "type")) = true then PySem.W.subIn K t (Value.ref C) else none) = some r
  rw [hi', ht]
  exact hs
def tTryO (K : PySem.W.Frag) (c : Value) (tb : WX → TS) (ts : Addr → Value → Option Addr → TS) : TS := fun D σ H => tb (wOnly K c ts (fun _ _ _ _ => False) D) D σ H
section
variable {X : Cx} {x : Str} {c : Value} {body suite : List Stmt} {b₀ : Stmt} {np pos pos' : Pos} {tb : WX → TS} {ts : Addr → Value → Option Addr → TS}
end
section
variable {K : PySem.W.Frag} {σ : St} {H : Hp} {nx bk ct : St → Hp → Prop} {rt : VK}
theorem w_try {c : Value} {tb : WX → TS} {ts : Addr → Value → Option Addr → TS} (h : tb (wOnly K c ts (fun _ _ _ _ => False) ⟨nx, rt, bk, ct⟩) ⟨nx, rt, bk, ct⟩ σ H) : tTryO K c tb ts ⟨nx, rt, bk, ct⟩ σ H := h
end
/-! ### dict comprehensions -/
section
open PySem.Spec PyProof.Rows
variable {X : Cx}
end
section
variable {K : PySem.W.Frag} {σ : St} {H : Hp} {Q : VK}
def DcP (J : It) (g : TG) (tt : TT) (tk tv : TE) (vs : List Nat) (Q : VK) (σ : St) (H1 : Hp) : Prop := ∀ D, H1 D = none → ∃ W : Nat → Nat → Hp → Prop, (∃ m, W 0 m (upd H1 D (.dK []))) ∧ ∀ i m H, W i m H →
  (J.stop i H ∧ Q (.ref D) H) ∨ (J.go i H ∧ ∃ Nx : Hp → Prop, (∀ H', Nx H' → ∃ m', m' < m ∧ W (i + 1) m' H') ∧ ∀ x H', J.yld i H x H' → g x (wipe σ vs) H' fun σ2 H2 => wipe σ2 vs = wipe σ vs ∧ tt σ2 H2 fun b H3 =>
    if b = true then tk σ2 H3 fun y H4 => tv σ2 H4 fun z H5 => ∃ kvs k, y = kV k ∧ H5 D = some (.dK kvs) ∧ kvs.length < sizeLine ∧ Nx (upd H5 D (.dK (putK kvs k z))) else Nx H3)
theorem w_dc {wi : TI} {g : TG} {tt : TT} {tk tv : TE} {vs : List Nat} (h : wi σ H fun J H1 => DcP J g tt tk tv vs Q σ H1) : tDc wi g tt tk tv vs σ H Q := h
theorem putK_len' {κ : Type} [DecidableEq κ] (c : List (κ × V)) (k : κ) (x : V) : (putK c k x).length ≤ c.length + 1 := by
  unfold putK
  by_cases e : (c.any fun kv => decide (kv.1 = k)) = true
  · rw [if_pos e, List.length_map]; omega
  · rw [if_neg e, List.length_append]; simp
theorem mergeK_len (es : List (Key × V)) : ∀ acc, (mergeK acc es).length ≤ acc.length + es.length := by
  unfold mergeK
  induction es with
  | nil => intro acc; simp
  | cons e r ih =>
    intro acc
    have h1 := ih (putK acc e.1 e.2)
    have h2 := putK_len' acc e.1 e.2
    simp only [List.foldl_cons, List.length_cons] at *
    omega
theorem mergeK_snoc (acc es : List (Key × V)) (e : Key × V) : mergeK acc (es ++ [e]) = putK (mergeK acc es) e.1 e.2 := by
  unfold mergeK; rw [List.foldl_append]; rfl
/-- each turn adds a pair: the k-th is es[k]; what stood but M stands -/
theorem dcp_map {J : It} {n : Nat} {G : Hp → Prop} {Y : Nat → Hp → V → Hp → Prop} (w : Walk J n G Y) {g : TG} {tk tv : TE} {vs : List Nat} (M : List Addr) (es : List (Key × V)) (hn : es.length = n) (hz : n ≤ 1000000) (hG : ∀ H', Kp M H H' → G H')
    (hs : ∀ i x H1 H2 (R : V → V → Hp → Prop), i < n → Kp M H H1 → Y i H1 x H2 → (∀ e H4, es[i]? = some e → Kp M H1 H4 → R (kV e.1) e.2 H4) → g x (wipe σ vs) H2 fun σ2 H3 => wipe σ2 vs = wipe σ vs ∧ tk σ2 H3 fun y H4 => tv σ2 H4 fun z H5 => R y z H5)
    (hM : ∀ b ∈ M, ∃ o, H b = some o)
    (hd : ∀ D H', H D = none → Kp M H H' → H' D = some (.dK (mergeK [] es)) → Q (.ref D) H') : DcP J g tYes tk tv vs Q σ H := by
  intro D hD
  have hDM : D ∉ M := fun z => by obtain ⟨o, e⟩ := hM D z; rw [hD] at e; cases e
  refine ⟨fun i m H' => m = n - i ∧ i ≤ n ∧ Kp M H H' ∧ H' D = some (.dK (mergeK [] (es.take i))), ⟨n, by simp, Nat.zero_le _, Kp.new hD, upd_same⟩, ?_⟩
  rintro i m H1 ⟨rfl, hi, k1, e1⟩
  by_cases hlt : i < n
  · refine .inr ⟨w.goes i H1 hlt (hG _ k1), fun H' => Kp M H H' ∧ H' D = some (.dK (mergeK [] (es.take (i + 1)))), fun H' z => ⟨n - (i + 1), by omega, rfl, hlt, z.1, z.2⟩, fun x H2 y => ?_⟩
    refine hs i x H1 H2 (fun y z H5 => ∃ kvs k, y = kV k ∧ H5 D = some (.dK kvs) ∧ kvs.length < sizeLine ∧ (Kp M H (upd H5 D (.dK (putK kvs k z))) ∧ (upd H5 D (.dK (putK kvs k z))) D = some (.dK (mergeK [] (es.take (i + 1)))))) hlt k1 (w.yields i H1 x H2 hlt (hG _ k1) y) ?_
    intro e H4 he k4
    refine ⟨mergeK [] (es.take i), e.1, rfl, k4 _ _ hDM e1, ?_, (k1.trans k4).mutN hD, ?_⟩
    · have h1 := mergeK_len (es.take i) []
      have h2 : (es.take i).length ≤ 1000000 := by rw [List.length_take]; omega
      exact Nat.lt_of_le_of_lt (Nat.le_trans h1 (by simpa using h2)) (by decide)
    · rw [upd_same, List.take_add_one, he]
      show _ = some (HO.dK (mergeK [] (es.take i ++ [e])))
      rw [mergeK_snoc]
  · have e : i = n := by omega
    subst e
    rw [List.take_of_length_le (by omega)] at e1
    exact .inl ⟨w.stops H1 (hG _ k1), hd D H1 hD k1 e1⟩
theorem valV_merge (k : Key) : ∀ (es acc : List (Key × V)), (valV (mergeK acc es) k).isSome = ((valV acc k).isSome || es.any fun e => decide (e.1 = k)) := by
  intro es
  induction es with
  | nil => intro acc; show (valV acc k).isSome = _; simp
  | cons e r ih =>
    intro acc
    show (valV (mergeK (putK acc e.1 e.2) r) k).isSome = _
    rw [ih, valV_put, List.any_cons]
    by_cases h : k = e.1
    · rw [if_pos h, decide_eq_true h.symm]; simp
    · rw [if_neg h, decide_eq_false (fun z => h z.symm)]; simp
end
/-! ### ints -/
theorem cmul_l {i j : Int} (h1 : -(2 ^ 64) < i) (h2 : i < 2 ^ 64) : CMul i j := .inl ⟨h1, h2⟩
theorem cmul_r {i j : Int} (h1 : -(2 ^ 64) < j) (h2 : j < 2 ^ 64) : CMul i j := .inr ⟨h1, h2⟩
theorem cdivw {i j : Int} (h1 : 0 < j) (h2 : j < 2 ^ 64) : CDivW i j := wide_div (b := 64) h1 (by omega) (by decide) (by decide)
theorem at_lt {α : Type} {xs : List α} {i : Int} (h0 : 0 ≤ i) (h1 : i < xs.length) : ∃ v, xs[i.toNat]? = some v ∧ atI xs i = some v := by
  have hl : i.toNat < xs.length := by omega
  refine ⟨xs[i.toNat], List.getElem?_eq_getElem hl, ?_⟩
  have e := atI_nat (xs := xs) (j := i.toNat) (List.getElem?_eq_getElem hl)
  rw [Int.toNat_of_nonneg h0] at e
  exact e
/-! ### the deck -/
def MOSTD : Nat := 1099511627776
structure Deck (H : Hp) (d c : Addr) (n : Nat) : Prop where
  ex : ∃ (cs : List Int) (a : Nat) (b : Int) (t : Nat), H d = some (.lst [.ref c, .int a, .int b, .int t]) ∧ H c = some (.lst (cs.map V.int)) ∧ t ≤ n
  ne : c ≠ d
theorem Deck.kp {M : List Addr} {H H' : Hp} {d c : Addr} {n : Nat} (k : Kp M H H') (h1 : d ∉ M) (h2 : c ∉ M) (D : Deck H d c n) : Deck H' d c n := by
  obtain ⟨⟨cs, a, b, t, e1, e2, e3⟩, ne⟩ := D
  exact ⟨⟨cs, a, b, t, k _ _ h1 e1, k _ _ h2 e2, e3⟩, ne⟩
theorem Deck.new {H : Hp} {d c : Addr} {n : Nat} {p : Addr} {o : HO} (h : H p = none) (D : Deck H d c n) : Deck (upd H p o) d c n := D.kp (M := []) (Kp.new h) (by simp) (by simp)
theorem Deck.mut {H : Hp} {d c : Addr} {n : Nat} {p : Addr} {o : HO} (h1 : p ≠ d) (h2 : p ≠ c) (D : Deck H d c n) : Deck (upd H p o) d c n :=
  D.kp (M := [p]) (Kp.mut (by simp)) (by simpa using Ne.symm h1) (by simpa using Ne.symm h2)
theorem Deck.mono {H : Hp} {d c : Addr} {n m : Nat} (D : Deck H d c n) (h : n ≤ m) : Deck H d c m := by
  obtain ⟨⟨cs, a, b, t, e1, e2, e3⟩, ne⟩ := D
  exact ⟨⟨cs, a, b, t, e1, e2, Nat.le_trans e3 h⟩, ne⟩
theorem Deck.at {H : Hp} {d c : Addr} {n : Nat} (D : Deck H d c n) : (∃ xs, H d = some (.lst xs)) ∧ ∃ xs, H c = some (.lst xs) := by
  obtain ⟨⟨cs, a, b, t, e1, e2, e3⟩, ne⟩ := D
  exact ⟨⟨_, e1⟩, ⟨_, e2⟩⟩
theorem Deck.ne1 {H : Hp} {d c p : Addr} {n : Nat} (D : Deck H d c n) (h : H p = none) : p ≠ d ∧ p ≠ c := by
  obtain ⟨⟨xs, e1⟩, ys, e2⟩ := D.at
  exact ⟨(ne_of_none e1 h).symm, (ne_of_none e2 h).symm⟩
end FW

set_option Elab.async false
set_option linter.all false
set_option maxRecDepth 100000
set_option maxHeartbeats 4000000
/-! {key: value for a in as if .. for b in bs if ..}: a dict by two clauses, as a rule of the layer (my own: the layer has it for lists). -/
namespace FW
open PySem PySem.Spec PyProof.Rows L2
section
variable {kx vx ta ia tb ib : Expr} {fa fb : List Expr} {sc : Scope} {ps : Pos}
abbrev two (kx vx ta ia : Expr) (fa : List Expr) (tb ib : Expr) (fb : List Expr) (sc : Scope) (ps : Pos) : Expr := .DictComp kx vx [⟨ta, ia, fa, 0⟩, ⟨tb, ib, fb, 0⟩] sc ps
/-- the tests of a clause, one behind the other -/
abbrev testsOf2 (fs : List Expr) (env : Env) : Sem Bool := forIn fs true fun c r => if r = true then do let ok ← isTrue c env (eval c env); pure (ForInStep.yield ok) else pure (ForInStep.yield r)
variable {pg : Program} {wd : World} {A : Around} {R : Result → Shared → Prop} {st : Shared} {it : Value} {D : Addr} {env : Env}
end
section
variable {X : Cx} {kx vx ta ia tb ib : Expr} {fa fb : List Expr} {sc : Scope} {ps qs : Pos} {own : List (Str × Nat)} {us : List Nat} {wa wb : TI} {ga gb : TG} {ra rb : TT} {tk tv : TE}
/-- the inner walk of one turn: from it Nx is reached -/
def Inner2 (J : It) (gb : TG) (rb : TT) (tk tv : TE) (us : List Nat) (D : Addr) (σ : L2.St) (H : Hp) (Nx : Hp → Prop) : Prop := ∃ W : Nat → Nat → Hp → Prop, (∃ m, W 0 m H) ∧ ∀ j k H1, W j k H1 →
  (J.stop j H1 ∧ Nx H1) ∨ (J.go j H1 ∧ ∃ Ny : Hp → Prop, (∀ H2, Ny H2 → ∃ k', k' < k ∧ W (j + 1) k' H2) ∧ ∀ x H2, J.yld j H1 x H2 → gb x (wipe σ us) H2 fun σ3 H3 => wipe σ3 us = wipe σ us ∧ rb σ3 H3 fun b H4 =>
    if b = true then tk σ3 H4 fun y H5 => tv σ3 H5 fun z H6 => ∃ kvs key, y = kV key ∧ H6 D = some (.dK kvs) ∧ kvs.length < sizeLine ∧ Ny (upd H6 D (.dK (putK kvs key z))) else Ny H4)
/-- the whole -/
def tDc2 (wa : TI) (ga : TG) (ra : TT) (wb : TI) (gb : TG) (rb : TT) (tk tv : TE) (os us : List Nat) : TE := fun σ H Q => wa σ H fun J H1 => ∀ D, H1 D = none → ∃ W : Nat → Nat → Hp → Prop, (∃ m, W 0 m (upd H1 D (.dK []))) ∧ ∀ i m H2, W i m H2 →
  (J.stop i H2 ∧ Q (.ref D) H2) ∨ (J.go i H2 ∧ ∃ Nx : Hp → Prop, (∀ H3, Nx H3 → ∃ m', m' < m ∧ W (i + 1) m' H3) ∧ ∀ x H3, J.yld i H2 x H3 → ga x (wipe σ os) H3 fun σ2 H4 => wipe σ2 os = wipe σ os ∧ ra σ2 H4 fun b H5 =>
    if b = true then wb σ2 H5 fun J1 H6 => Inner2 J1 gb rb tk tv us D σ2 H6 Nx else Nx H5)
end
/-! ### its steps -/
section
variable {K : PySem.W.Frag} {σ : L2.St} {H : Hp} {Q : VK}
def Dc2P (J : It) (ga : TG) (ra : TT) (wb : TI) (gb : TG) (rb : TT) (tk tv : TE) (os us : List Nat) (Q : VK) (σ : L2.St) (H1 : Hp) : Prop := ∀ D, H1 D = none → ∃ W : Nat → Nat → Hp → Prop, (∃ m, W 0 m (upd H1 D (.dK []))) ∧ ∀ i m H2, W i m H2 →
  (J.stop i H2 ∧ Q (.ref D) H2) ∨ (J.go i H2 ∧ ∃ Nx : Hp → Prop, (∀ H3, Nx H3 → ∃ m', m' < m ∧ W (i + 1) m' H3) ∧ ∀ x H3, J.yld i H2 x H3 → ga x (wipe σ os) H3 fun σ2 H4 => wipe σ2 os = wipe σ os ∧ ra σ2 H4 fun b H5 =>
    if b = true then wb σ2 H5 fun J1 H6 => Inner2 J1 gb rb tk tv us D σ2 H6 Nx else Nx H5)
theorem w_dc2 {wa wb : TI} {ga gb : TG} {ra rb : TT} {tk tv : TE} {os us : List Nat} (h : wa σ H fun J H1 => Dc2P J ga ra wb gb rb tk tv os us Q σ H1) : tDc2 wa ga ra wb gb rb tk tv os us σ H Q := h
/-- a comprehension with a test: the turn i gives sel i, or nothing -/
theorem lcp_sel {J : It} {n : Nat} {G : Hp → Prop} {Y : Nat → Hp → V → Hp → Prop} (w : Walk J n G Y) {g : TG} {tt : TT} {te : TE} {vs : List Nat} (M : List Addr) (sel : Nat → Option V) (hz : n ≤ 1000000) (hG : ∀ H', Kp M H H' → G H')
    (hs : ∀ i x H1 H2 (R : V → Hp → Prop) (R0 : Hp → Prop), i < n → Kp M H H1 → Y i H1 x H2 → (∀ y H4, sel i = some y → Kp M H1 H4 → R y H4) → (∀ H4, sel i = none → Kp M H1 H4 → R0 H4) → g x (wipe σ vs) H2 fun σ2 H3 => wipe σ2 vs = wipe σ vs ∧ tt σ2 H3 fun b H4 => if b = true then te σ2 H4 R else R0 H4)
    (hM : ∀ b ∈ M, ∃ o, H b = some o)
    (hd : ∀ D H', H D = none → Kp M H H' → H' D = some (.lst ((List.range n).filterMap sel)) → Q (.ref D) H') : LcP J g tt te vs Q σ H := by
  intro D hD
  have hDM : D ∉ M := fun z => by obtain ⟨o, e⟩ := hM D z; rw [hD] at e; cases e
  refine lc_it w (fun i H' => Kp M H H' ∧ H' D = some (.lst ((List.range i).filterMap sel))) ⟨Kp.new hD, upd_same⟩ (fun i H' _ z => hG H' z.1) ?_ ?_
  · rintro i x H1 H2 hi ⟨k1, e1⟩ y
    refine hs i x H1 H2 _ _ hi k1 y ?_ ?_
    · intro z H4 hz' k4
      refine ⟨_, k4 _ _ hDM e1, ?_, (k1.trans k4).mutN hD, ?_⟩
      · refine Nat.lt_of_le_of_lt (List.length_filterMap_le _ _) ?_
        rw [List.length_range]
        exact Nat.lt_of_lt_of_le (Nat.lt_of_lt_of_le hi hz) (by decide)
      · rw [upd_same, List.range_succ, List.filterMap_append]
        simp [hz']
    · intro H4 hz' k4
      refine ⟨k1.trans k4, ?_⟩
      rw [k4 _ _ hDM e1, List.range_succ, List.filterMap_append]
      simp [hz']
  · rintro H' ⟨k, e⟩
    exact hd D H' hD k e
/-! ### a dict that is walked; any, sorted, insert -/
def rInsert : V → List V → Hp → VK → Prop := fun x vs H Q => ∃ (l : Addr) (xs : List V) (i : Int) (y : V), x = .ref l ∧ vs = [.int i, y] ∧ H l = some (.lst xs) ∧ xs.length < sizeLine ∧ 0 ≤ i ∧ i < 2 ^ 63 ∧ Q .non (upd H l (.lst (xs.take i.toNat ++ [y] ++ xs.drop i.toNat)))
theorem w_any {p : Addr} {bs : List Bool} (h1 : SqL K H p (bs.map V.bl)) (h : Q (.bl (bs.any id)) H) : rAny K [.ref p] H Q := ⟨p, bs, rfl, h1, h⟩
section
variable {nx bk ct : L2.St → Hp → Prop} {rt : VK}
def rKeys (x : V) (H1 : Hp) (R : It → Hp → Prop) : Prop := ∃ d o, x = .ref d ∧ ((∃ kvs, H1 d = some (.frz o (.dK kvs)) ∧ R (Itk d o kvs) H1) ∨ ∃ kvs, H1 d = some (.frz o (.dT kvs)) ∧ R (Itkt d o kvs) H1)
theorem w_keys {td : TE} {R : It → Hp → Prop} (h : td σ H fun x H1 => rKeys x H1 R) : iKeys td σ H R := h
theorem w_keys' {d : Addr} {o : Obj} {kvs : List (Key × V)} {R : It → Hp → Prop} (e : H d = some (.frz o (.dK kvs))) (h : R (Itk d o kvs) H) : rKeys (.ref d) H R := ⟨d, o, rfl, .inl ⟨kvs, e, h⟩⟩
end
theorem w_tyes {R : Bool → Hp → Prop} (h : R true H) : tYes σ H R := h
theorem w_dinF {a : Addr} {o : Obj} {kvs : List (Key × V)} {n : Int} (e : H a = some (.frz o (.dK kvs))) (h : Q (.bl (valV kvs (Sum.inl n)).isSome) H) : rDIn (.ref a) (.int n) H Q := ⟨a, _, rfl, .inl ⟨kvs, Sum.inl n, .inr ⟨o, e⟩, rfl, rfl⟩, h⟩
theorem w_dgetF {a : Addr} {o : Obj} {kvs : List (Key × V)} {n : Int} {v : V} (e : H a = some (.frz o (.dK kvs))) (e2 : valV kvs (Sum.inl n) = some v) (h : Q v H) : rDGet (.ref a) (.int n) H Q := ⟨a, v, rfl, .inl ⟨kvs, Sum.inl n, .inr ⟨o, e⟩, rfl, e2.symm⟩, h⟩
/-! ### get, reversed, slices, pop -/
def rDGet1 (a : Addr) (y : V) (H : Hp) (Q : VK) : Prop := ∃ o, DGet H a y o ∧ Q (o.getD .non) H
theorem w_dget1 {td ty : TE} (h : td σ H fun x H1 => rIsD x H1 fun a H1 => ty σ H1 fun y H2 => rDGet1 a y H2 Q) : tDGet1 td ty σ H Q := h
theorem w_dget1I {a : Addr} {kvs : List (Key × V)} {n : Int} (e : H a = some (.dK kvs)) (h : Q ((valV kvs (Sum.inl n)).getD .non) H) : rDGet1 a (.int n) H Q := ⟨_, DGet.k (k := Sum.inl n) e, h⟩
def rRev (K : PySem.W.Frag) (vs : List V) (H : Hp) (R : It → Hp → Prop) : Prop := ∃ (a : Addr) (xs : List V), vs = [.ref a] ∧ SqL K H a xs ∧ R (Itv K a xs.length) H
theorem w_rev {ta : TA} {R : It → Hp → Prop} (h : ta σ H fun vs H1 => rRev K vs H1 R) : iRev K ta σ H R := h
theorem w_rev' {a : Addr} {xs : List V} {R : It → Hp → Prop} (h1 : SqL K H a xs) (h : R (Itv K a xs.length) H) : rRev K [.ref a] H R := ⟨a, xs, rfl, h1, h⟩
def rPart (x : V) (H : Hp) (R : Option Int → Hp → Prop) : Prop := ∃ i, x = .int i ∧ R (some i) H
theorem w_slice {r : V → Option Int → Option Int → Hp → VK → Prop} {te : TE} {tl th : TO} (h : te σ H fun x H1 => tl σ H1 fun l H2 => th σ H2 fun u H3 => r x l u H3 Q) : L2.tSl r te tl th σ H Q := h
theorem w_noPart {R : Option Int → Hp → Prop} (h : R none H) : tNoPart σ H R := h
theorem w_part {te : TE} {R : Option Int → Hp → Prop} (h : te σ H fun x H1 => rPart x H1 R) : tPart te σ H R := h
theorem w_part' {i : Int} {R : Option Int → Hp → Prop} (h : R (some i) H) : rPart (.int i) H R := ⟨i, rfl, h⟩
theorem w_slL {a : Addr} {xs : List V} {lo hi : Option Int} (h1 : SqL K H a xs) (h : ∀ p H1, H p = none → H1 p = some (.lst (cutV xs lo hi)) → Same H H1 → Q (.ref p) H1) : rSlL K (.ref a) lo hi H Q := ⟨a, xs, rfl, h1, w_new h⟩
theorem w_bm0 {r : V → List V → Hp → VK → Prop} {to : TE} (h : to σ H fun x H1 => tyV K "list" x H1 ∧ r x [] H1 Q) : tBM0 K "list" r to σ H Q := h
theorem w_pop {l : Addr} {xs : List V} {y : V} (h1 : H l = some (.lst (xs ++ [y]))) (h : ∀ H1, H1 l = some (.lst xs) → Off l H H1 → Q y H1) : rPop (.ref l) [] H Q :=
  ⟨l, _, y, rfl, rfl, h1, by simp, by rw [List.dropLast_concat]; exact h _ upd_same fun x hx => upd_ne hx⟩
theorem w_retN {nx bk ct : L2.St → Hp → Prop} {rt : VK} (h : rt .non H) : tRetN ⟨nx, rt, bk, ct⟩ σ H := h
end
end FW

set_option Elab.async false
set_option linter.all false
set_option maxRecDepth 100000
set_option maxHeartbeats 4000000
/-! Data of any kind: what isinstance says of them, and tuples of them to a depth. -/
namespace FW
open PySem PySem.Spec PyProof.Rows L2
inductive Ty (H : Hp) : V → String → Prop where
  | non : Ty H .non "NoneType"
  | bl (b : Bool) : Ty H (.bl b) "bool"
  | int (i : Int) : Ty H (.int i) "int"
  | str (z : Str) : Ty H (.str z) "str"
  | lst {a : Addr} {xs : List V} (e : H a = some (.lst xs)) : Ty H (.ref a) "list"
  | tup {a : Addr} {xs : List V} (e : H a = some (.tup xs)) : Ty H (.ref a) "tuple"
  | dK {a : Addr} {kvs : List (Key × V)} (e : H a = some (.dK kvs)) : Ty H (.ref a) "dict"
section
variable {K : PySem.W.Frag} {σ : L2.St} {H : Hp} {Q : VK} {x : V} {a : String}
theorem Ty.tx (t : Ty H x a) : TyX K H x (.type a) := by
  cases t with
  | non => exact .base .non
  | bl b => exact .base (.bl b)
  | int i => exact .base (.int i)
  | str z => exact .base (.str z)
  | lst e => exact .base (.lst e)
  | tup e => exact .base (.tup e)
  | dK e => exact .base (.dK e)
theorem Ty.kTup (t : Ty H x a) : kitB a "tuple" = some (decide (a = "tuple")) := by
  cases t with
  | non => exact kb_NoneType_tuple
  | bl b => exact kb_bool_tuple
  | int i => exact kb_int_tuple
  | str z => exact kb_str_tuple
  | lst e => exact kb_list_tuple
  | tup e => exact kb_tuple_tuple
  | dK e => exact kb_dict_tuple
theorem Ty.kInt (t : Ty H x a) : kitB a "int" = some (decide (a = "int") || decide (a = "bool")) := by
  cases t with
  | non => exact kb_NoneType_int
  | bl b => exact kb_bool_int
  | int i => exact kb_int_int
  | str z => exact kb_str_int
  | lst e => exact kb_list_int
  | tup e => exact kb_tuple_int
  | dK e => exact kb_dict_int
theorem Ty.kBool (t : Ty H x a) : kitB a "bool" = some (decide (a = "bool")) := by
  cases t with
  | non => exact kb_NoneType_bool
  | bl b => exact kb_bool_bool
  | int i => exact kb_int_bool
  | str z => exact kb_str_bool
  | lst e => exact kb_list_bool
  | tup e => exact kb_tuple_bool
  | dK e => exact kb_dict_bool
theorem w_isTup (t : Ty H x a) (h : Q (.bl (decide (a = "tuple"))) H) : rIsi K [x, .ty "tuple"] H Q := w_isi t.tx t.kTup h
theorem w_isInt (t : Ty H x a) (h : Q (.bl (decide (a = "int") || decide (a = "bool"))) H) : rIsi K [x, .ty "int"] H Q := w_isi t.tx t.kInt h
theorem w_isBool (t : Ty H x a) (h : Q (.bl (decide (a = "bool"))) H) : rIsi K [x, .ty "bool"] H Q := w_isi t.tx t.kBool h
theorem Ty.isInt (t : Ty H x a) (e : a = "int") : ∃ i, x = .int i := by
  cases t with
  | int i => exact ⟨i, rfl⟩
  | non => exact absurd e (by decide)
  | bl _ => exact absurd e (by decide)
  | tup _ => exact absurd e (by decide)
  | str _ => exact absurd e (by decide)
  | lst _ => exact absurd e (by decide)
  | dK _ => exact absurd e (by decide)
theorem Ty.ofInt {i : Int} (t : Ty H (.int i) a) : a = "int" := by
  cases t with
  | int i => rfl
theorem Ty.ofTup {p : Addr} {xs : List V} (t : Ty H (.ref p) a) (e : H p = some (.tup xs)) : a = "tuple" := by
  cases t with
  | tup h => rfl
  | lst h => rw [e] at h; cases h
  | dK h => rw [e] at h; cases h
end
/-- data: a tuple of data, or another thing -/
inductive Dat (B : Nat) (H : Hp) : V → Prop where
  | leaf {x : V} {a : String} (t : Ty H x a) (h : a ≠ "tuple") : Dat B H x
  | tup {p : Addr} {xs : List V} (e : H p = some (.tup xs)) (l : xs.length ≤ B) (h : ∀ y ∈ xs, Dat B H y) : Dat B H (.ref p)
theorem Dat.int {B : Nat} {H : Hp} {i : Int} : Dat B H (.int i) := .leaf (.int i) (by decide)
theorem Dat.ty {B : Nat} {H : Hp} {x : V} (h : Dat B H x) : ∃ a, Ty H x a := by
  cases h with
  | leaf t _ => exact ⟨_, t⟩
  | tup e _ _ => exact ⟨_, .tup e⟩
/-- what keeps tuples, and of lists and dicts their kind -/
structure KD (H H' : Hp) : Prop where
  t : KT H H'
  l : ∀ b xs, H b = some (.lst xs) → ∃ ys, H' b = some (.lst ys)
  d : ∀ b kvs, H b = some (.dK kvs) → ∃ kws, H' b = some (.dK kws)
theorem KD.of {H H' : Hp} (k : Same H H') : KD H H' := ⟨KT.of k, fun b xs e => ⟨xs, k _ _ e⟩, fun b kvs e => ⟨kvs, k _ _ e⟩⟩
theorem KD.refl {H : Hp} : KD H H := ⟨KT.refl, fun b xs e => ⟨xs, e⟩, fun b kvs e => ⟨kvs, e⟩⟩
theorem KD.trans {H H1 H2 : Hp} (a : KD H H1) (b : KD H1 H2) : KD H H2 := ⟨a.t.trans b.t, fun c xs e => by
  obtain ⟨ys, e⟩ := a.l c xs e
  exact b.l c ys e, fun c xs e => by
  obtain ⟨ys, e⟩ := a.d c xs e
  exact b.d c ys e⟩
theorem KD.off {p : Addr} {H H' : Hp} {xs ys : List V} (k : Off p H H') (e : H p = some (.lst xs)) (e' : H' p = some (.lst ys)) : KD H H' := ⟨KT.off k e, fun b zs h => by
  by_cases q : b = p
  · subst q; exact ⟨ys, e'⟩
  · exact ⟨zs, k.get q h⟩, fun b kvs h => ⟨kvs, k.get (ne_of h e (fun z => nomatch z)) h⟩⟩
theorem Ty.kd {H H' : Hp} {x : V} {a : String} (t : Ty H x a) (k : KD H H') : Ty H' x a := by
  cases t with
  | non => exact .non
  | bl b => exact .bl b
  | int i => exact .int i
  | str z => exact .str z
  | lst e => obtain ⟨ys, e⟩ := k.l _ _ e; exact .lst e
  | tup e => exact .tup (k.t _ _ e)
  | dK e => obtain ⟨ys, e⟩ := k.d _ _ e; exact .dK e
theorem Dat.kd {B : Nat} {H H' : Hp} {x : V} (h : Dat B H x) (k : KD H H') : Dat B H' x := by
  induction h with
  | leaf t h => exact .leaf (t.kd k) h
  | tup e l _ ih => exact .tup (k.t _ _ e) l fun y hy => ih y hy
theorem Dat.mono {B C : Nat} (hB : B ≤ C) {H : Hp} {x : V} (h : Dat B H x) : Dat C H x := by
  induction h with
  | leaf t h => exact .leaf t h
  | tup e l _ ih => exact .tup e (Nat.le_trans l hB) fun y hy => ih y hy
theorem Dat.cases {B : Nat} {H : Hp} {x : V} (h : Dat B H x) : (∃ a, Ty H x a ∧ a ≠ "tuple") ∨ ∃ (p : Addr) (xs : List V), x = .ref p ∧ H p = some (.tup xs) ∧ xs.length ≤ B ∧ ∀ y ∈ xs, Dat B H y := by
  cases h with
  | leaf t h => exact .inl ⟨_, t, h⟩
  | tup e l h => exact .inr ⟨_, _, rfl, e, l, h⟩
theorem Deck.kd {H H' : Hp} {d c : Addr} {n m : Nat} (D : Deck H d c n) (D' : Deck H' d c m) (o : Off d H H') : KD H H' := by
  obtain ⟨⟨xs, e⟩, _⟩ := D.at
  obtain ⟨⟨ys, e'⟩, _⟩ := D'.at
  exact KD.off o e e'
section
variable {K : PySem.W.Frag} {H : Hp} {Q : VK}
theorem w_slA {a : Addr} {xs : List V} {lo hi : Option Int} (h1 : SqT K H a xs) (h2 : cutV xs lo hi = xs → Q (.ref a) H) (h : ∀ p H1, H p = none → H1 p = some (.tup (cutV xs lo hi)) → Same H H1 → Q (.ref p) H1) : rSlA K (.ref a) lo hi H Q := by
  refine ⟨a, xs, rfl, h1, fun ⟨z1, z2⟩ => h2 ?_, fun _ => w_new h⟩
  unfold cutV
  rw [z1, z2, List.drop_zero, Nat.sub_zero, List.take_length]
theorem w_cat {l b : Addr} {xs zs : List V} (h1 : H l = some (.lst xs)) (h2 : H b = some (.lst zs)) (hz : xs.length + zs.length ≤ sizeLine) (h : ∀ p H1, H p = none → H1 p = some (.lst (xs ++ zs)) → Same H H1 → Q (.ref p) H1) : rCat (.ref l) (.ref b) H Q := ⟨l, b, xs, zs, rfl, rfl, h1, h2, hz, w_new h⟩
/-- t[lo:hi]: where it stands, it is the cut -/
theorem w_slAt {a : Addr} {xs : List V} {lo hi : Option Int} (h1 : H a = some (.tup xs)) (h : ∀ p H1, H1 p = some (.tup (cutV xs lo hi)) → Same H H1 → Q (.ref p) H1) : rSlA K (.ref a) lo hi H Q :=
  w_slA (.of h1) (fun e => h a H (by rw [e]; exact h1) (fun _ _ z => z)) (fun p H1 _ e k => h p H1 e k)
theorem w_catAt {a b : Addr} {xs ys : List V} (h1 : H a = some (.tup xs)) (h2 : H b = some (.tup ys)) (hz : xs.length + ys.length ≤ sizeLine) (h : ∀ p H1, H1 p = some (.tup (xs ++ ys)) → Same H H1 → Q (.ref p) H1) : rCatA K (.ref a) (.ref b) H Q := by
  refine ⟨a, b, xs, ys, rfl, rfl, .of h1, .of h2, hz, fun e => ?_, fun _ e => ?_, fun _ _ p hp => h p _ upd_same (Same.new hp)⟩
  · subst e
    exact h b H h2 (fun _ _ z => z)
  · subst e
    exact h a H (by rw [List.append_nil]; exact h1) (fun _ _ z => z)
end
/-! ### except X as e -/
def tTryA (K : PySem.W.Frag) (c : Value) (i : Nat) (tb : WX → TS) (ts : Addr → Value → Option Addr → TS) : TS := fun D σ H => tb (wAs K c i ts (fun _ _ _ _ => False) D) D σ H
def tGuard (P : Prop) (t : TS) : TS := fun D σ H => P ∧ t D σ H
section
variable {X : Cx} {x n : Str} {c : Value} {i : Nat} {body suite : List Stmt} {b₀ : Stmt} {np pos pos' : Pos} {tb : WX → TS} {ts : Addr → Value → Option Addr → TS}
theorem p_tryAs (hs : X.stack = X.env :: X.outer) (hf : X.env.frame = some X.env.locals) (hN : X.N.Nodup) (hi : X.N[i]? = some n) (hln : X.env.kindOf n = some .local) (hc : Names X x c)
    (hb : ∀ (W : WX) (pn : List (Addr × Obj)) (xe : Value → Shared → Prop), Takes (X.tr pn xe) W → PassesOwn (model X.prog X.w) X.A X.env xe → PSs (X.tr pn xe) body (tb W))
    (hsu : ∀ (a : Addr) (oe : Obj) (cls : Value) (d : Option Addr) (pn : List (Addr × Obj)), Zc cls d oe → (∃ vs, oe.data = .fields vs) → PSs (X.suite a ((a, oe) :: pn)) (b₀ :: suite) (ts a cls d)) :
    PS X (.Try body [.ExceptHandler (some (.Name x np)) (some n) (b₀ :: suite) pos'] [] [] pos) (tTryA X.K c i tb ts) := ps_try_as hs hf hN hi hln hc takes0 hb hsu
theorem pss_guard {P : Prop} {ss : List Stmt} {t : TS} (h : P → PSs X ss t) : PSs X ss (tGuard P t) := ⟨fun pins s σ H D I hw => (h hw.1).run pins s σ H D I hw.2⟩
end
section
variable {K : PySem.W.Frag} {σ : L2.St} {H : Hp} {Q : VK} {nx bk ct : L2.St → Hp → Prop} {rt : VK}
theorem w_tryA {c : Value} {i : Nat} {tb : WX → TS} {ts : Addr → Value → Option Addr → TS} (h : tb (wAs K c i ts (fun _ _ _ _ => False) ⟨nx, rt, bk, ct⟩) ⟨nx, rt, bk, ct⟩ σ H) : tTryA K c i tb ts ⟨nx, rt, bk, ct⟩ σ H := h
theorem w_guard {P : Prop} {t : TS} (p : P) (h : t ⟨nx, rt, bk, ct⟩ σ H) : tGuard P t ⟨nx, rt, bk, ct⟩ σ H := ⟨p, h⟩
end
end FW

set_option Elab.async false
set_option linter.all false
set_option maxRecDepth 100000
set_option maxHeartbeats 4000000
/-! own errors with fields: made, caught, looked at; min of pairs; defaults by keyword -/
namespace FW
section
open PySem PySem.W PySem.Calls PyProof.Rows
variable {prog : Program} {w : World} {A : Around} {E : Value → Shared → Prop} {s : Shared} {K : Frag} {x D : Addr} {ox : Obj} {od : Option Obj}
theorem fo_data {C : Addr} {name : Str} {a g : Value} (hc : (clsIn K C).isSome = true) (ha : findIn K (.ref C) name = some (some a)) (hg : specialIn K a "__get__" = some (some g)) (ht : takesIn K a = some true) : findObj K C od name = some (.bind g a) := by
  obtain ⟨cd, e⟩ := Option.isSome_iff_exists.mp hc
  unfold findObj; rw [e, Option.bind_some, ha, Option.bind_some]; simp [hg, ht]
theorem cls_look {Q : Option Value → Shared → Prop} (C : L2.ExcC K D) (X : K.In s.heap) (I : InstAt s.heap x ox D od) (h : Q (some (.ref D)) { s with toks := s.toks + 1 }) : wpAny (model prog w) A (getAttr? (.ref x) "__class__") Q E s := by
  have hf : findObj K D od "__class__" = some (.bind (.builtin "getset_descriptor.__get__") (.builtin "object.__class__")) := fo_data (by obtain ⟨cd, hc, _⟩ := any_some C.hd; rw [hc]; rfl) C.ha C.hn C.ht
  obtain ⟨hp, g, d, t, os⟩ := s
  have y0 := I.type (M := model prog w); have y1 := looks_findIn (M := model prog w) X C.hg
  have y2 := looks_findIn (M := model prog w) X C.hk; have y3 := looks_find (M := model prog w) X I hf
  have sub : Looks (model prog w) hp (isInstance (.ref x) (.type "BaseException")) true := y0.andThen (looks_subIn X C.hs)
  have n2 : (Value.builtin "BaseException.__getattribute__" == Value.builtin "object.__getattribute__") = false := by decide +kernel
  have n1 : (onTheHeap (Value.ref D) && Value.builtin "BaseException.__getattribute__" == Value.builtin "object.__getattribute__") = false := by rw [n2]; rfl
  unfold getAttr? getAttrBy? getAttrBy
  refine wpAny_bind (wpAny_mkText (wpAny_bind (wpAny_attempt (wpAny_holding (wpAny_bind (y0.at (wpAny_bind (y1.at ?_))))))))
  show wpAny _ _ (if (onTheHeap (Value.ref D) && Value.builtin "BaseException.__getattribute__" == Value.builtin "object.__getattribute__") = true then _ else _) _ _ _; rw [n1, if_neg Bool.false_ne_true]
  unfold getAttrByItsOwn hookBefore; refine wpAny_bind ?_; rw [if_pos (show onTheHeap (Value.ref D) = true from rfl)]; refine y2.at ?_
  refine wpAny_bind (wpAny_attempt (wpAny_holding ?_)); unfold callGetattribute; rw [show (false && onTheHeap (Value.builtin "BaseException.__getattribute__")) = false from rfl, if_neg Bool.false_ne_true]
  unfold boundAndCalled; rw [PySem.F.excAttr_ValueError.ga.bind (.ref x)]; refine wpAny_bind (wpAny_pure ?_)
  show wpAny _ _ (call (.builtin "BaseException.__getattribute__") [.ref x, .str "__class__" t]) _ _ _; refine wpAny_call (codeAny_call_builtin PySem.F.excAttr_ValueError.ga.plain PySem.F.entry_bexc_ga ?_)
  refine @check_slot (model prog w) _ _ ⟨hp, g, d, t + 1, os⟩ "BaseException.__getattribute__" "BaseException" "__getattribute__" (.ref x) [.str "__class__" t] [] _ (by decide +kernel) (by decide +kernel) sub (PySem.F.args_bexc_ga (.ref x) (.str "__class__" t)) ?_; unfold Builtin.«object.__getattribute__»
  refine wpAny_bind (wpAny_of_eq (a := ((Value.ref x : Value), [Value.str "__class__" t])) (by first | rfl | (simp only [slotArgs]; rfl)) ?_); refine wpAny_bind (wpAny_pure (wpAny_bind (y0.at (wpAny_bind (y3.at ?_)))))
  show wpAny _ _ (holding [Value.builtin "object.__class__"] (call (.builtin "getset_descriptor.__get__") [.builtin "object.__class__", .ref x, .ref D]) >>= ret) _ _ _; refine wpAny_bind (wpAny_holding (wpAny_call (class_get (s := ⟨hp, g, d, t + 1, os⟩) (ox := ox) (od := od) X I C.hm ?_)))
  refine wpAny_pure ?_; show wpAny _ _ (handedOut (.ref D)) _ _ _; rw [handedOut_of (v := .ref D) rfl]
  first | exact wpAny_pure (wpAny_pure h) | exact wpAny_pure h | exact wpAny_pure (wpAny_bind (wpAny_pure (wpAny_pure h)))
theorem kitx_of (C : L2.ExcC K D) : KitX K (.ref x) (.ref D) (fun h => InstAt h x ox D od) := by
  have Z : KitX K (.ref x) (.ref D) (fun h => InstAt h x ox D none) := handS_kitx_exc C.hg C.hk C.hs C.hd C.ha C.hn C.ht C.hm
  refine ⟨fun _ _ _ I => I.type, fun _ _ X _ => ?_, Z.ne, fun X I k => cls_look C X I k⟩
  obtain ⟨cd, hc, _⟩ := any_some C.hd
  unfold clsIn at hc
  split at hc
  · rename_i ho
    intro A' Q' E' s' k q
    unfold isType loadHead; exact wpAny_bind (wpAny_loadPart (k _ _ (X _ _ ho)) (wpAny_pure q))
  · cases hc
end
open PySem PySem.Spec PyProof.Rows L2
/-- isinstance(e, c), e the error that the suite holds, with its fields at d -/
def rIsF (K : PySem.W.Frag) (D a : Addr) (d : Option Addr) : List V → Hp → VK → Prop := fun xs H Q => ∃ (c : V) (cv : Value) (b : Bool) (dd : Addr) (fs : List (Str × V)), xs = [.ref a, c] ∧ d = some dd ∧ H dd = some (.xd fs) ∧ (∀ u, RelV c u → u = cv) ∧ PySem.W.kitOne K (.ref D) cv = some b ∧ Q (.bl b) H
theorem call_isF {X : Cx} {a D : Addr} {oe : Obj} {cls : Value} {d : Option Addr} {pn : List (Addr × Obj)} (C : ExcC X.K D) (hc : cls = .ref D) (hz : Zc cls d oe) (hf : ∃ vs, oe.data = .fields vs) : CallR (X.suite a ((a, oe) :: pn)) (.builtin "isinstance") (rIsF X.K D a d) := by
  intro pins s σ H xs us Q I r ⟨c, cv, b, dd, fs, e0, ed, ea, hcv, e, q⟩
  subst e0 hc ed
  cases r with
  | cons rx rr =>
    cases rr with
    | cons rt rr =>
      cases rr
      cases rx
      have ec := hcv _ rt
      subst ec
      obtain ⟨ha, _⟩ := I.pin (a, oe) (List.mem_append.mpr (.inl List.mem_cons_self))
      obtain ⟨vs, hv⟩ := hf
      have hx : ObjOk X.prog X.w H s.heap dd (.xd fs) := I.hok dd _ ea
      obtain ⟨mA, hns, _⟩ := hx
      obtain ⟨od, ho, _⟩ := lookIn_ns hns
      have J : PySem.W.InstAt s.heap a oe D (some od) := ⟨ha, hz.1, by unfold PySem.W.notCls; rw [hv] <;> rfl, by rw [hz.2]; exact ho⟩
      exact PySem.W.kia_one (kitx_of C) I.kIn J e (fun z => nomatch z) fun tk => ⟨.bl b, H, I.kept (t' := tk) fun _ _ z => z, rfl, q⟩
/-- an own error with __init__ -/
structure ExnI (K : PySem.W.Frag) (mg : Str → Option Value) (x : Str) (C fI : Addr) (fd : FuncData) (ps : List Str) (fs : List Str) : Prop where
  g : mg x = some (.ref C)
  T : OexC K C
  i : PySem.W.findIn K (.ref C) "__init__" = some (some (.ref fI))
  t : PySem.W.typeIn K (.ref fI) = some (.type "function")
  b : Binds K fd ps []
  f : XfC K C
  ec : ExcC K C
  nf : ∀ y ∈ fs, PySem.W.findIn K (.ref C) y = some none
/-- a def with keyword-only defaults -/
structure DfK (K : PySem.W.Frag) (mg : Str → Option Value) (x : Str) (st : Stmt) (ps : List Str) (kws : List (Str × V)) (dvs : List V) (f : Addr) (fd : FuncData) : Prop where
  fn : FunD K x x (defArgs st) (defBody st) (defScope st) [] kws f fd
  g : mg x = some (.ref f)
  kp : PySem.W.keepIn K (.ref f) = true
  b : ∃ ds, Vals dvs ds ∧ Binds K fd ps ds
  kb : ∃ g, KBn K fd ps (ps.length - kws.length) (kws.map (·.1)) g (fun vs zs => vs ++ zs)
/-- raise C(..) of two fields -/
def tRaiseO (C : Addr) (W : WX) (sp : Sp) (ta : TA) : TS := fun _ σ H => tMkO C sp [] ta σ H fun cls d H' => W cls d σ H'
section
variable {K : PySem.W.Frag} {σ : L2.St} {H : Hp} {Q : VK} {nx bk ct : L2.St → Hp → Prop} {rt : VK}
theorem w_mkO {C : Addr} {sp : Sp} {ta : TA} {Qx : XK} (h : ta σ H fun vs H1 => vs.length ≤ 1000 ∧ ∀ a, H1 a = none → sp (.ref a :: (vs ++ [])) (upd H1 a (exo a C none)) (fun v H2 => v = .non ∧ ∃ (d : Addr) (fs : List (Str × V)), H2 a = some (exo a C (some d)) ∧ H2 d = some (exd d fs) ∧ H1 d = none ∧ Qx (.ref C) (some d) (upd (del H2 a) d (.xd fs))) (fun _ _ _ => False)) : tMkO C sp [] ta σ H Qx := h
theorem w_callN {n m : Nat} {sp : Sp} {gV : List V → List V → List V} {E : XK} {t tk : TA} (h : t σ H fun vs H1 => tk σ H1 fun zs H2 => vs.length = n ∧ zs.length = m ∧ sp (gV vs zs) H2 Q E) : tCallN n m sp gV E t tk σ H Q := h
theorem w_xf {a C : Addr} {cls : Value} {d : Option Addr} {f : Str} {te : TE} (h : te σ H fun x H1 => x = .ref a ∧ cls = .ref C ∧ ∃ (dd : Addr) (fs : List (Str × V)) (v : V), d = some dd ∧ H1 dd = some (.xd fs) ∧ fs.lookup f = some v ∧ Q v H1) : tXf a cls d C f te σ H Q := h
theorem w_isF {a D C dd : Addr} {fs : List (Str × V)} {b : Bool} (ed : H dd = some (.xd fs)) (e : PySem.W.kitOne K (.ref D) (.ref C) = some b) (h : Q (.bl b) H) : rIsF K D a (some dd) [.ref a, .ref C] H Q := ⟨.ref C, .ref C, b, dd, fs, rfl, rfl, ed, fun u r => r, e, h⟩
theorem w_ost {f : Str} {to te : TE} {D : Ends} (h : te σ H fun y H1 => to σ H1 fun x H2 => ∃ a C : Addr, x = .ref a ∧ OexC K C ∧ PySem.W.findIn K (.ref C) f = some none ∧ ((H2 a = some (exo a C none) ∧ ∀ dx, H2 dx = none → dx ≠ a → D.nx σ (upd (upd H2 dx (exd dx [(f, y)])) a (exo a C (some dx)))) ∨ ∃ (dx : Addr) (fs : List (Str × V)), H2 a = some (exo a C (some dx)) ∧ H2 dx = some (exd dx fs) ∧ fs.length ≤ 900 ∧ D.nx σ (upd H2 dx (exd dx ((f, y) :: fs))))) : tOst K f to te D σ H := h
end
/-- what __init__ of two fields leaves -/
def spInit2 (K : PySem.W.Frag) (C : Addr) (f g : Str) : Sp := fun vs H Q _ => ∃ (a : Addr) (x y : V), vs = [.ref a, x, y] ∧ H a = some (exo a C none) ∧ ∀ dx, H dx = none → dx ≠ a → Q .non (upd (upd (upd H dx (exd dx [(f, x)])) a (exo a C (some dx))) dx (exd dx [(g, y), (f, x)]))
def spInit1 (K : PySem.W.Frag) (C : Addr) (f : Str) : Sp := fun vs H Q _ => ∃ (a : Addr) (x : V), vs = [.ref a, x] ∧ H a = some (exo a C none) ∧ ∀ dx, H dx = none → dx ≠ a → Q .non (upd (upd H dx (exd dx [(f, x)])) a (exo a C (some dx)))
/-- the heap behind it -/
theorem mk2_same {K : PySem.W.Frag} {C : Addr} {f g : Str} {x y : V} {H : Hp} {Qx : XK} {a : Addr} (ha : H a = none) (h : ∀ d H', Same H H' → H d = none → H' d = some (.xd [(g, y), (f, x)]) → Qx (.ref C) (some d) H') :
    spInit2 K C f g [.ref a, x, y] (upd H a (exo a C none)) (fun v H2 => v = .non ∧ ∃ (d : Addr) (fs : List (Str × V)), H2 a = some (exo a C (some d)) ∧ H2 d = some (exd d fs) ∧ H d = none ∧ Qx (.ref C) (some d) (upd (del H2 a) d (.xd fs))) (fun _ _ _ => False) := by
  refine ⟨a, x, y, rfl, upd_same, fun dx hd hne => ⟨rfl, dx, _, ?_, upd_same, (upd_none hd).1, h dx _ (fun b o e => ?_) (upd_none hd).1 upd_same⟩⟩
  · rw [upd_ne (Ne.symm hne), upd_same]
  · have n1 : b ≠ dx := ne_of_none e (upd_none hd).1
    have n2 : b ≠ a := ne_of_none e ha
    rw [upd_ne n1, del_ne n2, upd_ne n1, upd_ne n2, upd_ne n1, upd_ne n2]
    exact e
/-! ### min of a list of pairs -/
def LtP (p q : Int × Int) : Prop := p.1 < q.1 ∨ p.1 = q.1 ∧ p.2 < q.2
def rMinP (K : PySem.W.Frag) : List V → Hp → VK → Prop := fun vs H Q => ∃ (a : Addr) (ps : List (Addr × Int × Int)), vs = [V.ref a] ∧ SqL K H a (ps.map fun q => .ref q.1) ∧ (∀ q ∈ ps, H q.1 = some (.tup [.int q.2.1, .int q.2.2])) ∧ ps ≠ [] ∧ ∀ q ∈ ps, (∀ r ∈ ps, ¬ LtP r.2 q.2) → Q (.ref q.1) H
section
variable {X : Cx} {pins : List (Addr × Obj)} {σ : L2.St} {H : Hp} {s : Shared}
end
theorem room100 {k : Nat} {A : Around} (r : Room k A) : A.units + 100 < cLine := by have := r.un; omega
end FW

set_option Elab.async false
set_option linter.all false
set_option maxRecDepth 100000
set_option maxHeartbeats 4000000
/-! for i, x in enumerate(t), t a tuple -/
namespace FW
open PySem PySem.Spec PyProof.Rows L2
def ItU (K : PySem.W.Frag) (a : Addr) : It :=
  ⟨fun i H => ∃ (xs : List V) (x : V), SqT K H a xs ∧ xs[i]? = some x,
   fun i H v H' => ∃ T x, v = .ref T ∧ H T = none ∧ H' = upd H T (.tup [.int (i : Nat), x]) ∧ ∀ xs, SqT K H a xs → xs[i]? = some x,
   fun i H => ∃ xs : List V, SqT K H a xs ∧ xs.length = i⟩
section
variable {P : Program} {w : World} {K : PySem.W.Frag} {elts : List Expr} {kk : Nat} {tpos : Pos}
end
section
variable {prog : Program} {w : World} {A : Around} {E : Value → Shared → Prop} {s : Shared}
end
def rEnumT (K : PySem.W.Frag) (vs : List V) (H : Hp) (R : It → Hp → Prop) : Prop := ∃ a xs, vs = [.ref a] ∧ SqT K H a xs ∧ R (ItU K a) H
def iEnumT (K : PySem.W.Frag) (ta : TA) : TI := fun σ H R => ta σ H fun vs H1 => rEnumT K vs H1 R
def rLenD (vs : List V) (H : Hp) (Q : VK) : Prop := ∃ a kvs, vs = [V.ref a] ∧ H a = some (.dK kvs) ∧ Q (.int kvs.length) H
section
variable {K : PySem.W.Frag} {σ : L2.St} {H : Hp} {a : Addr} {xs : List V}
theorem w_enum {ta : TA} {R : It → Hp → Prop} (h : ta σ H fun vs H1 => rEnumT K vs H1 R) : iEnumT K ta σ H R := h
theorem w_enum' {R : It → Hp → Prop} (h1 : SqT K H a xs) (h : R (ItU K a) H) : rEnumT K [.ref a] H R := ⟨a, xs, rfl, h1, h⟩
end
/-! ### what keeps all but the deck -/
structure KX (dk : Addr) (H H' : Hp) : Prop extends KD H H' where
  p : Kp [dk] H H'
theorem KX.of {d : Addr} {H H' : Hp} (k : Same H H') : KX d H H' := ⟨KD.of k, Kp.of k⟩
theorem KX.refl {d : Addr} {H : Hp} : KX d H H := ⟨KD.refl, Kp.refl⟩
theorem KX.trans {d : Addr} {H H1 H2 : Hp} (a : KX d H H1) (b : KX d H1 H2) : KX d H H2 := ⟨a.toKD.trans b.toKD, a.p.trans b.p⟩
theorem Deck.kx {H H' : Hp} {d c : Addr} {n m : Nat} (D : Deck H d c n) (D' : Deck H' d c m) (o : Off d H H') : KX d H H' := ⟨D.kd D' o, o.kp (by simp)⟩
instance {d : Addr} {H H' : Hp} : CoeOut (KX d H H') (KD H H') := ⟨KX.toKD⟩
/-- [x for .. if ..]: which are taken is left open; S goes on from turn to turn -/
theorem lcp_some {σ : L2.St} {H : Hp} {Q : VK} {J : It} {n : Nat} {G : Hp → Prop} {Y : Nat → Hp → V → Hp → Prop} (w : Walk J n G Y) {g : TG} {tt : TT} {te : TE} {vs : List Nat} (M : List Addr) (P : V → Prop) (S : Nat → Hp → Prop) (hz : n ≤ 1000000)
    (SD : ∀ D, H D = none → ∀ i H1 o, S i H1 → S i (upd H1 D o)) (hG : ∀ i H', Kp M H H' → S i H' → G H') (S0 : S 0 H)
    (hs : ∀ i x H1 H2 (R : V → Hp → Prop) (R0 : Hp → Prop), i < n → Kp M H H1 → S i H1 → Y i H1 x H2 → (∀ y H4, P y → Kp M H1 H4 → S (i + 1) H4 → R y H4) → (∀ H4, Kp M H1 H4 → S (i + 1) H4 → R0 H4) → g x (wipe σ vs) H2 fun σ2 H3 => wipe σ2 vs = wipe σ vs ∧ tt σ2 H3 fun b H4 => if b = true then te σ2 H4 R else R0 H4)
    (hM : ∀ b ∈ M, ∃ o, H b = some o)
    (hd : ∀ D H' ys, ys.length ≤ n → (∀ y ∈ ys, P y) → H D = none → Kp M H H' → S n H' → H' D = some (.lst ys) → Q (.ref D) H') : LcP J g tt te vs Q σ H := by
  intro D hD
  have hDM : D ∉ M := fun z => by obtain ⟨o, e⟩ := hM D z; rw [hD] at e; cases e
  refine lc_it w (fun i H' => Kp M H H' ∧ S i H' ∧ ∃ ys, ys.length ≤ i ∧ H' D = some (.lst ys) ∧ ∀ y ∈ ys, P y) ⟨Kp.new hD, SD D hD _ _ _ S0, [], Nat.le_refl _, upd_same, by simp⟩ (fun i H' _ z => hG i H' z.1 z.2.1) ?_ ?_
  · rintro i x H1 H2 hi ⟨k1, s1, ys, hl, e1, hp⟩ y
    refine hs i x H1 H2 _ _ hi k1 s1 y ?_ ?_
    · intro z H4 pz k4 s4
      refine ⟨ys, k4 _ _ hDM e1, Nat.lt_of_le_of_lt hl (Nat.lt_of_lt_of_le (Nat.lt_of_lt_of_le hi hz) (by decide)), (k1.trans k4).mutN hD, SD D hD _ _ _ s4, ys ++ [z], by rw [List.length_append]; simpa using hl, upd_same, fun y' hy' => ?_⟩
      rcases List.mem_append.mp hy' with h | h
      · exact hp y' h
      · have e : y' = z := by simpa using h
        rw [e]
        exact pz
    · intro H4 k4 s4
      exact ⟨k1.trans k4, s4, ys, Nat.le_succ_of_le hl, k4 _ _ hDM e1, hp⟩
  · rintro H' ⟨k, sn, ys, hl, e, hp⟩
    exact hd D H' ys hl hp hD k sn e
end FW

set_option Elab.async false
set_option linter.all false
set_option maxRecDepth 100000
set_option maxHeartbeats 4000000
/-! sorted(d) of a dict of ints, of any length -/
namespace FW
open PySem PySem.Spec PyProof.Rows L2
def rSortA (xs : List V) (H : Hp) (Q : VK) : Prop := ∃ (a : Addr) (kvs : List (Key × V)) (ks : List Int), xs = [.ref a] ∧ Rd H a (.dK kvs) ∧ kvs.map (·.1) = ks.map Sum.inl ∧ ks.length ≤ 100000 ∧
    ∀ (ys : List Int) (p : Addr), ys.Perm ks → ys.Pairwise (· ≤ ·) → H p = none → Q (.ref p) (upd H p (.lst (ys.map V.int)))
theorem c_sortA {X : Cx} (hcalm : X.calm = true) : CallR X (.builtin "sorted") rSortA := by
  intro pins s σ H xs us Q I r ⟨a, kvs, ks, ex, hd, hks, hlk, q⟩
  subst ex
  obtain ⟨u, eu, rx⟩ := vals1 r
  subst eu
  cases rx
  obtain ⟨z, lo, vs, rel, dd⟩ := dk_rd I.hok hd
  obtain ⟨ep, hat⟩ := dd.dictAt
  have hkeys : vs.map (·.1) = ks.map Sum.inl := rel.keys.symm.trans hks
  have hl : vs.length = ks.length := by
    have e := congrArg List.length hkeys
    simpa using e
  have h16 : vs.length ≤ sizeLine := by rw [hl, sizeLine_eq]; omega
  refine Calls.call_function_entry kind_sorted plain_sorted entry_sorted (args_sorted1 _) ?_
  unfold Builtin.«sorted»; refine wpAny_bind (m := checkCount "sorted" 1 1 _) (wpAny_pure ?_)
  refine wpAny_bind (PySem.W.kdu_collect (A := X.A.in1) (PySem.W.kdl_dict (knd := mixKind X.prog X.w) (kvs := vs) (ep := ep) lo) (I.ok.hd hcalm) hat h16 fun h' tk acc hk hacc => ?_)
  have hal : acc.toList.length = ks.length := by rw [Array.length_toList, hacc.1, hl]
  have hS : IntsAre acc.toList ks := ints_each hal fun j v e => by
    obtain ⟨k, x, e1, e2⟩ := hacc.2 j v (by rw [← Array.getElem?_toList]; exact e)
    have e3 : (vs.map (·.1))[j]? = some k := by rw [List.getElem?_map, e1]; rfl
    rw [hkeys, List.getElem?_map] at e3
    obtain ⟨y, e4, e5⟩ := Option.map_eq_some_iff.mp e3
    subst e5
    rcases keyIs_shape (show keyIs (Sum.inl y) v = true from e2) with ⟨i, t, ek, ev⟩ | ⟨z, t, ek, ev⟩
    · cases ek
      exact ⟨y, t, e4, ev⟩
    · cases ek
  have I1 : Inv X pins σ H { s with heap := h', toks := tk } := I.kept hk
  have hz : acc.toList.length ≤ sizeLine := by rw [hal, sizeLine_eq]; omega
  refine wpAny_bind (wpAny_newList ?_ hz)
  have hoL : (h'.push (seqObj "list" acc.toList.toArray 0)).get? h'.objs.size = some (seqObj "list" acc.toList.toArray 0) := Heap.get?_push_size _ rfl
  show wpAny _ _ _ _ _ { s with heap := h'.push (seqObj "list" acc.toList.toArray 0), toks := tk }
  refine wpAny_bind (wpAny_holding (wpAny_call_entry slot_list_sort ⟨_, hoL, rfl⟩ entry_list_sort (SrtO.list_sort_ord (s := { s with heap := h'.push (seqObj "list" acc.toList.toArray 0), toks := tk }) SrtO.swo_int hoL hz (fun h2 => SrtO.ints_sortable hS h2) fun out h1 h2 => ⟨_, rfl, ?_⟩) (args_list_sort _)))
  obtain ⟨g1, g2, g3⟩ := SrtO.ints_out hS h1 h2
  obtain ⟨e', he'⟩ := sortedHeap_at (vs := acc.toList) (out := out.toArray) hoL
  have hlen : ((out.map SrtO.iv).map V.int).length ≤ sizeLine := by rw [List.length_map, g2.length_eq, ← hal]; exact hz
  refine wpAny_pure ⟨_, rfl, .ref h'.objs.size, upd H h'.objs.size (.lst ((out.map SrtO.iv).map V.int)), I1.laid (t' := tk) (fun b u e => ?_) (Nat.le_refl _) (show ObjOk X.prog X.w _ _ _ (.lst ((out.map SrtO.iv).map V.int)) from ⟨hlen, out, e', vals_of_ints g1, he'⟩), rfl, q _ _ g2 g3 (I1.hok.fresh (Nat.le_refl _))⟩
  have hb : b < h'.objs.size := Heap.lt_size e
  rw [sortedHeap_old (Nat.ne_of_lt hb) (by rw [size_push']; exact Nat.lt_succ_of_lt hb)]
  exact Heap.get?_push_of_some _ e
theorem w_sortA {H : Hp} {Q : VK} {a : Addr} {kvs : List (Key × V)} {ks : List Int} (e : H a = some (.dK kvs)) (hk : kvs.map (·.1) = ks.map Sum.inl) (hl : ks.length ≤ 100000) (h : ∀ (ys : List Int) p H1, ys.Perm ks → ys.Pairwise (· ≤ ·) → H p = none → H1 p = some (.lst (ys.map V.int)) → Same H H1 → Q (.ref p) H1) : rSortA [.ref a] H Q :=
  ⟨a, kvs, ks, rfl, .inl e, hk, hl, fun ys p g1 g2 hp => h ys p _ g1 g2 hp upd_same (Same.new hp)⟩
end FW

set_option Elab.async false
set_option linter.all false
set_option maxRecDepth 100000
set_option maxHeartbeats 4000000
/-! t[k::w] of a tuple; extend by a tuple; pairs in a list -/
namespace HT
open PySem PySem.Spec PyProof.Rows
section
variable {prog : Program} {w : World} {A : Around} {E : Value → Shared → Prop} {s : Shared}
def places (n k w : Nat) : Nat := (n - k - 1) / w + 1
def stepL {α : Type} (xs : List α) (k c : Nat) : List α := (List.range (places xs.length k c)).filterMap fun j => xs[k + j * c]?
end
end HT
namespace FW
open PySem PySem.Spec PyProof.Rows L2
/-- t[k::w] -/
def rStep (K : PySem.W.Frag) (x y z : V) (H : Hp) (Q : VK) : Prop := ∃ (a : Addr) (xs : List V) (k c : Nat), x = .ref a ∧ y = .int k ∧ z = .int c ∧ SqT K H a xs ∧ k < xs.length ∧ 0 < c ∧ (k = 0 → c = 1 → Q (.ref a) H) ∧ (¬ (k = 0 ∧ c = 1) → Nw (.tup (HT.stepL xs k c)) H Q)
def tStep (K : PySem.W.Frag) (te tl ts : TE) : TE := fun σ H Q => te σ H fun x H1 => tl σ H1 fun y H2 => ts σ H2 fun z H3 => rStep K x y z H3 Q
section
variable {X : Cx}
def rExtT (K : PySem.W.Frag) : V → List V → Hp → VK → Prop := fun x vs H Q => ∃ l b xs zs, x = .ref l ∧ vs = [.ref b] ∧ H l = some (.lst xs) ∧ H b = some (.tup zs) ∧ xs.length + zs.length ≤ sizeLine ∧ Q .non (upd H l (.lst (xs ++ zs)))
/-- a pair (int, truth) that is not in a list of such -/
def rNotInP (K : PySem.W.Frag) : R2 := fun x y H Q => ∃ (p a : Addr) (v : Int) (b : Bool) (an : List (Addr × Int × Bool)), x = .ref p ∧ y = .ref a ∧ H p = some (.tup [.int v, .bl b]) ∧ SqL K H a (an.map fun q => .ref q.1) ∧ (∀ q ∈ an, H q.1 = some (.tup [.int q.2.1, .bl q.2.2])) ∧ Q (.bl (decide ((v, b) ∉ an.map (·.2)))) H
end
section
variable {K : PySem.W.Frag} {σ : L2.St} {H : Hp} {Q : VK}
theorem w_step {te tl ts : TE} (h : te σ H fun x H1 => tl σ H1 fun y H2 => ts σ H2 fun z H3 => rStep K x y z H3 Q) : tStep K te tl ts σ H Q := h
end
end FW

set_option Elab.async false
set_option linter.all false
set_option maxRecDepth 100000
set_option maxHeartbeats 4000000
/-! a, .., *rest = t: the last target starred, t a tuple -/
namespace FW
open PySem PySem.Spec PyProof.Rows L2
section
variable {prog : Program} {w : World} {A : Around} {E : Value → Shared → Prop} {s : Shared}
end
/-- n names, then a starred one -/
def gStar (K : PySem.W.Frag) (j : Nat) (t : TGs) : TG := fun v σ H Q => ∃ a xs, v = .ref a ∧ SqT K H a xs ∧ j ≤ xs.length ∧ ∀ L, H L = none → t (xs.take j ++ [.ref L]) σ (upd H L (.lst (xs.drop j))) Q
section
variable {X : Cx} {pos : Pos}
end
end FW

set_option Elab.async false
set_option linter.all false
set_option maxRecDepth 100000
set_option maxHeartbeats 4000000
/-! try with several except clauses, each with or without a name -/
namespace FW
open PySem PySem.Spec PyProof.Rows L2
abbrev Suite := Addr → Value → Option Addr → TS
/-- the ends behind a suite whose name goes -/
def unset (i : Nat) (D : Ends) : Ends := ⟨fun σ H => D.nx (σ.set i none) H, D.rt, fun σ H => D.bk (σ.set i none) H, fun σ H => D.ct (σ.set i none) H⟩
def runCl (o : Option Nat) (ts : Suite) (a : Addr) (cls : Value) (d : Option Addr) (D : Ends) (σ : L2.St) (H : Hp) : Prop :=
  match o with
  | none => ts a cls d D σ H
  | some i => ts a cls d (unset i D) (σ.set i (some (.ref a))) H
def wCl (K : PySem.W.Frag) (Wo : WX) (D : Ends) : List (Value × Option Nat × Suite) → WX
  | [] => Wo
  | (c, o, ts) :: r => fun cls d σ H => ∃ b, PySem.W.exmOne K cls c = some b ∧ (b = true → ∀ a, H a = none → runCl o ts a cls d D σ H) ∧ (b = false → wCl K Wo D r cls d σ H)
inductive ClOk (X : Cx) : List ExceptHandler → List (Value × Option Nat × Suite) → Prop
  | nil : ClOk X [] []
  | only {x : Str} {c : Value} {ts : Suite} {st : Stmt} {sts : List Stmt} {p1 p2 : Pos} {hs : List ExceptHandler} {l : List (Value × Option Nat × Suite)} (nm : Names X x c)
      (su : ∀ a oe cls d pn, Zc cls d oe → (∃ vs, oe.data = .fields vs) → PSs (X.suite a ((a, oe) :: pn)) (st :: sts) (ts a cls d)) (r : ClOk X hs l) :
      ClOk X (.ExceptHandler (some (.Name x p1)) none (st :: sts) p2 :: hs) ((c, none, ts) :: l)
  | as {x n : Str} {c : Value} {i : Nat} {ts : Suite} {st : Stmt} {sts : List Stmt} {p1 p2 : Pos} {hs : List ExceptHandler} {l : List (Value × Option Nat × Suite)} (hi : X.N[i]? = some n) (hl : X.env.kindOf n = some .local) (nm : Names X x c)
      (su : ∀ a oe cls d pn, Zc cls d oe → (∃ vs, oe.data = .fields vs) → PSs (X.suite a ((a, oe) :: pn)) (st :: sts) (ts a cls d)) (r : ClOk X hs l) :
      ClOk X (.ExceptHandler (some (.Name x p1)) (some n) (st :: sts) p2 :: hs) ((c, some i, ts) :: l)
def tTryG (K : PySem.W.Frag) (l : List (Value × Option Nat × Suite)) (Wo : WX) (tb : WX → TS) : TS := fun D σ H => tb (wCl K Wo D l) D σ H
section
variable {X : Cx} {body : List Stmt} {h1 : ExceptHandler} {hs : List ExceptHandler} {l : List (Value × Option Nat × Suite)} {pos : Pos} {tb : WX → TS} {Wo : WX}
theorem p_tryG (stk : X.stack = X.env :: X.outer) (fr : X.env.frame = some X.env.locals) (nd : X.N.Nodup) (tk : Takes X Wo)
    (pb : ∀ W pn xe, Takes (X.tr pn xe) W → PassesOwn (model X.prog X.w) X.A X.env xe → PSs (X.tr pn xe) body (tb W))
    (cl : ClOk X (h1 :: hs) l) : PS X (.Try body (h1 :: hs) [] [] pos) (tTryG X.K l Wo tb) := by
  constructor
  intro pins s σ H D I h
  have ok := I.ok
  have frm : X.A.frames = some (X.env :: X.outer) := by rw [ok.frames, stk]
  apply wpAny_Try_except
  have run := (pb (wCl X.K Wo D l) (X.pn ++ pins) (fun e z1 => wpAny (model X.prog X.w) X.A (noteFrame e X.env) (fun _ z2 => wpAny (model X.prog X.w) X.A (setFlight e none) (fun _ z3 => wpAny (model X.prog X.w) X.A (handleBy e X.env (h1 :: hs)) (SP X pins D) X.xe z3) X.xe z2) X.xe z1) ?caught PassesOwn.looking).run [] s σ H D (I.toTry _) h
  case caught =>
    intro u z xx
    obtain ⟨a, B, zI, pins', σ1, H1, cls, d, rfl, J', nb, up, sky, na, os, ag, wish⟩ := xx
    have J : Inv X pins σ1 H1 zI := J'.ofTry ok
    have sky1 : Sky B (X.env :: X.outer) a (Zc cls d) X.env.locals z.heap := by rw [← stk]; exact sky
    show wpAny (model X.prog X.w) X.A (noteFrame (.ref a) X.env) _ _ _
    refine Sky.land Zc.steady frm fr sky1 ?_
    intro g3 fl up3
    have J3 : Inv X pins σ1 H1 { z with heap := g3 } := J.landed nb fl.1 (up.trans up3) os ag
    obtain ⟨oe, vs, he, hz, hd⟩ := fl.there
    have far : a ∉ frs (X.env :: X.outer) := by
      intro hm
      obtain ⟨_, o2, e2, no⟩ := fl.2.2.1.mem hm
      rw [he] at e2
      cases e2
      exact no _ hd
    have farL : a ≠ X.env.locals := fun q => far (List.mem_filterMap.mpr ⟨X.env, by simp, by rw [fr, q]⟩)
    have farF : a ∉ X.fs := by
      intro hm
      obtain ⟨e, he', q⟩ := List.mem_filterMap.mp hm
      exact far (List.mem_filterMap.mpr ⟨e, by simp [he'], q⟩)
    have S3 := J3.suite he hd na farL farF
    have look : PySem.W.Looks (model X.prog X.w) g3 (typeOf (.ref a)) cls := fun _ _ _ _ k q => wpAny_typeOf_ref (k _ _ he) (by rw [hz.1]; exact q)
    have name : ∀ {x : Str} {c : Value} {p1 : Pos} {Q E : Value → Shared → Prop}, Names X x c → Q c { z with heap := g3 } → wpAny (model X.prog X.w) (X.A.mark (some (.ref a))) (eval (.Name x p1) X.env) Q E { z with heap := g3 } := by
      rintro x c p1 Q E ⟨hg, hdb, hm | ⟨hm, hv, hnn⟩⟩ q
      · exact ld_glob (X := X.suite a ((a, oe) :: (X.pn ++ pins))) S3 hg hm q hdb
      · exact ld_blt (X := X.suite a ((a, oe) :: (X.pn ++ pins))) S3 hg hm hv q hnn hdb
    have all : ∀ {hs' : List ExceptHandler} {l' : List (Value × Option Nat × Suite)}, ClOk X hs' l' → wCl X.K Wo D l' cls d σ1 H1 → wpAny (model X.prog X.w) X.A (handleBy (.ref a) X.env hs') (SP X pins D) X.xe { z with heap := g3 } := by
      intro hs' l' ck
      induction ck with
      | nil =>
        intro wish
        apply wpAny_handleBy_nil
        obtain ⟨_, _, _, oe', vs', T', oT, ts', he', hz', hd', hT, _⟩ := id fl
        unfold PySem.passOn
        apply wpAny_bind
        refine wpAny_field he' hd' hT ?_
        rw [if_neg (by simp)]
        have out : wpAny (model X.prog X.w) X.A (setFlight (.ref a) X.env.frame) (fun _ z4 => wpAny (model X.prog X.w) X.A (throw (.ref a) : Sem Flow) (SP X pins D) X.xe z4) X.xe { z with heap := g3 } := by
          rw [fr]
          refine HandSPX.setFlight_upZ fl ?_
          intro g4 hh4 up4
          exact wpAny_throw (tk _ _ ⟨a, B, zI, pins, σ1, H1, cls, d, rfl, J, nb, (up.trans up3).trans up4, .inr (.inr (by rw [stk]; exact hh4)), na, os, ag, wish⟩)
        first
        | exact wpAny_bind out
        | exact wpAny_bind (wpAny_pure (wpAny_bind out))
      | @only x c ts st sts p1 p2 hs2 l2 nm su r ih =>
        rintro ⟨b, hb, yes, no⟩
        refine wpAny_handleBy_cons (codeAny_handlers_test ?_) (by intro q; cases q)
        have lm := PySem.W.exm_one (M := model X.prog X.w) (J3.kIn) look hb
        refine name nm (lm.here ?_)
        cases b with
        | false => exact ih (no rfl)
        | true =>
          apply codeAny_handlers_suite
          refine HandSPX.lands_againZ fl ?_
          intro g4 fl4 up4
          have J4 : Inv X pins σ1 H1 { z with heap := g4 } := J.landed nb fl4.1 ((up.trans up3).trans up4) os ag
          obtain ⟨oe4, vs4, he4, hz4, hd4⟩ := fl4.there
          have S4 := J4.suite he4 hd4 na farL farF
          refine wpAny_mono ((su a oe4 cls d (X.pn ++ pins) hz4 ⟨_, hd4⟩).run [] _ _ H1 _ S4 (yes rfl a na)) ?_ (fun _ _ q => False.elim q)
          intro f z6 sp
          cases f with
          | ret u =>
            obtain ⟨v6, σ6, H6, S6, r6, q6⟩ := sp
            exact ⟨v6, σ6, H6, S6.unsuite ok, r6, q6⟩
          | _ =>
            obtain ⟨σ6, H6, S6, q6⟩ := sp
            exact ⟨σ6, H6, S6.unsuite ok, q6⟩
      | @as x n c i ts st sts p1 p2 hs2 l2 hi hl nm su r ih =>
        rintro ⟨b, hb, yes, no⟩
        refine wpAny_handleBy_cons (codeAny_handlers_test ?_) (by intro q; cases q)
        have lm := PySem.W.exm_one (M := model X.prog X.w) (J3.kIn) look hb
        refine name nm (lm.here ?_)
        cases b with
        | false => exact ih (no rfl)
        | true =>
          apply codeAny_handlers_suite_as
          refine HandSPX.lands_againZ fl ?_
          intro g4 fl4 up4
          have J4 : Inv X pins σ1 H1 { z with heap := g4 } := J.landed nb fl4.1 ((up.trans up3).trans up4) os ag
          obtain ⟨oe4, vs4, he4, hz4, hd4⟩ := fl4.there
          have S4 := J4.suite he4 hd4 na farL farF
          refine store_ok (X := X.suite a ((a, oe4) :: (X.pn ++ pins))) (v := .ref a) S4 nd hi (.inl hl) rfl ?_ (.inr hl)
          intro z5 S5
          refine wpAny_mono ((su a oe4 cls d (X.pn ++ pins) hz4 ⟨_, hd4⟩).run [] z5 _ H1 _ S5 (yes rfl a na)) ?_ (fun _ _ q => False.elim q)
          intro f z6 sp
          have goes : ∀ {σ6 : L2.St} {H6 : Hp} {Q : Shared → Prop}, Inv (X.suite a ((a, oe4) :: (X.pn ++ pins))) [] σ6 H6 z6 → (∀ z7, Inv X pins (σ6.set i none) H6 z7 → Q z7) → wpAny (model X.prog X.w) X.A (do bindName X.env n .none; unbindBehindTheSuite X.env n p2) (fun _ z7 => Q z7) X.xe z6 :=
            fun S6 hq => gone_ok (S6.unsuite ok) nd hi hl hq
          cases f with
          | ret u =>
            obtain ⟨v6, σ6, H6, S6, r6, q6⟩ := sp
            exact goes S6 fun z7 J7 => ⟨v6, _, _, J7, r6, q6⟩
          | next =>
            obtain ⟨σ6, H6, S6, q6⟩ := sp
            exact goes S6 fun z7 J7 => ⟨_, _, J7, q6⟩
          | brk =>
            obtain ⟨σ6, H6, S6, q6⟩ := sp
            exact goes S6 fun z7 J7 => ⟨_, _, J7, q6⟩
          | cont =>
            obtain ⟨σ6, H6, S6, q6⟩ := sp
            exact goes S6 fun z7 J7 => ⟨_, _, J7, q6⟩
    exact all cl wish
  refine wpAny_mono run ?_ (fun _ _ q => q)
  intro f z1 sp
  cases f with
  | next =>
    obtain ⟨σ1, H1, J1, q⟩ := sp
    exact wpAny_execs_nil ⟨σ1, H1, J1.ofTry ok, q⟩
  | ret u =>
    obtain ⟨v, σ1, H1, J1, r, q⟩ := sp
    exact ⟨v, σ1, H1, J1.ofTry ok, r, q⟩
  | brk =>
    obtain ⟨σ1, H1, J1, q⟩ := sp
    exact ⟨σ1, H1, J1.ofTry ok, q⟩
  | cont =>
    obtain ⟨σ1, H1, J1, q⟩ := sp
    exact ⟨σ1, H1, J1.ofTry ok, q⟩
end
section
variable {K : PySem.W.Frag} {σ : L2.St} {H : Hp} {nx bk ct : L2.St → Hp → Prop} {rt : VK}
theorem w_tryG {l : List (Value × Option Nat × Suite)} {Wo : WX} {tb : WX → TS} (h : tb (wCl K Wo ⟨nx, rt, bk, ct⟩ l) ⟨nx, rt, bk, ct⟩ σ H) : tTryG K l Wo tb ⟨nx, rt, bk, ct⟩ σ H := h
theorem w_clY {c cls : Value} {o : Option Nat} {ts : Suite} {d : Option Addr} {Wo : WX} {D : Ends} {l : List (Value × Option Nat × Suite)} (e : PySem.W.exmOne K cls c = some true) (h : ∀ a, H a = none → runCl o ts a cls d D σ H) : wCl K Wo D ((c, o, ts) :: l) cls d σ H := ⟨true, e, fun _ => h, fun z => nomatch z⟩
theorem w_clN {c cls : Value} {o : Option Nat} {ts : Suite} {d : Option Addr} {Wo : WX} {D : Ends} {l : List (Value × Option Nat × Suite)} (e : PySem.W.exmOne K cls c = some false) (h : wCl K Wo D l cls d σ H) : wCl K Wo D ((c, o, ts) :: l) cls d σ H := ⟨false, e, (fun z => nomatch z), fun _ => h⟩
end
end FW

set_option Elab.async false
set_option linter.all false
set_option maxRecDepth 100000
set_option maxHeartbeats 4000000
/-! {tuple: value for a in as if ..}: a dict keyed by tuples, one clause; pairs looked for in tuples; zip of tuples -/
namespace FW
open PySem PySem.Spec PyProof.Rows L2
section
variable {kx vx ta ia : Expr} {fa : List Expr} {sc : Scope} {ps : Pos}
abbrev one (kx vx ta ia : Expr) (fa : List Expr) (sc : Scope) (ps : Pos) : Expr := .DictComp kx vx [⟨ta, ia, fa, 0⟩] sc ps
variable {pg : Program} {wd : World} {A : Around} {R : Result → Shared → Prop} {st : Shared} {it : Value} {D : Addr} {env : Env}
end
section
variable {X : Cx}
variable {kx vx ta ia : Expr} {fa : List Expr} {sc : Scope} {ps qs : Pos} {own : List (Str × Nat)} {wa : TI} {ga : TG} {ra : TT} {tk tv : TE}
def DcTP (J : It) (g : TG) (tt : TT) (tk tv : TE) (vs : List Nat) (Q : VK) (σ : L2.St) (H1 : Hp) : Prop := ∀ D, H1 D = none → ∃ W : Nat → Nat → Hp → Prop, (∃ m, W 0 m (upd H1 D (.dT []))) ∧ ∀ i m H, W i m H →
  (J.stop i H ∧ Q (.ref D) H) ∨ (J.go i H ∧ ∃ Nx : Hp → Prop, (∀ H', Nx H' → ∃ m', m' < m ∧ W (i + 1) m' H') ∧ ∀ x H', J.yld i H x H' → g x (wipe σ vs) H' fun σ2 H2 => wipe σ2 vs = wipe σ vs ∧ tt σ2 H2 fun b H3 =>
    if b = true then tk σ2 H3 fun y H4 => tv σ2 H4 fun z H5 => ∃ kvs k b, y = .ref b ∧ H5 b = some (.tup (k.map kV)) ∧ H5 D = some (.dT kvs) ∧ kvs.length < sizeLine ∧ Nx (upd H5 D (.dT (putK kvs k z))) else Nx H3)
def tDcT (wi : TI) (g : TG) (tt : TT) (tk tv : TE) (vs : List Nat) : TE := fun σ H Q => wi σ H fun J H1 => DcTP J g tt tk tv vs Q σ H1
/-- a pair of ints that is not in a tuple of such -/
def rNotInT (K : PySem.W.Frag) : R2 := fun x y H Q => ∃ (p a : Addr) (v b : Int) (an : List (Addr × Int × Int)), x = .ref p ∧ y = .ref a ∧ H p = some (.tup [.int v, .int b]) ∧ SqT K H a (an.map fun q => .ref q.1) ∧ (∀ q ∈ an, H q.1 = some (.tup [.int q.2.1, .int q.2.2])) ∧ Q (.bl (decide ((v, b) ∉ an.map (·.2)))) H
end
section
variable {K : PySem.W.Frag} {σ : L2.St} {H : Hp} {Q : VK} {nx bk ct : L2.St → Hp → Prop} {rt : VK}
theorem w_dct {wi : TI} {g : TG} {tt : TT} {tk tv : TE} {vs : List Nat} (h : wi σ H fun J H1 => DcTP J g tt tk tv vs Q σ H1) : tDcT wi g tt tk tv vs σ H Q := h
/-- for a, b in zip(tuple, tuple) -/
def rZipA (K : PySem.W.Frag) (vs : List V) (H : Hp) (R : It → Hp → Prop) : Prop := ∃ a b xs ys, vs = [.ref a, .ref b] ∧ ((SqL K H a xs ∧ SqL K H b ys ∧ R (Itz K a b) H) ∨ (SqT K H a xs ∧ SqT K H b ys ∧ R (RZ.ItzT K a b) H))
theorem w_zipA {ta : TA} {R : It → Hp → Prop} (h : ta σ H fun vs H1 => rZipA K vs H1 R) : RZ.iZipA K ta σ H R := h
theorem w_zipT' {a b : Addr} {xs ys : List V} {R : It → Hp → Prop} (h1 : SqT K H a xs) (h2 : SqT K H b ys) (h : R (RZ.ItzT K a b) H) : rZipA K [.ref a, .ref b] H R := ⟨a, b, xs, ys, rfl, .inr ⟨h1, h2, h⟩⟩
end
end FW

set_option Elab.async false
set_option linter.all false
set_option maxRecDepth 100000
set_option maxHeartbeats 4000000
/-! try: .. except (A, B): .. -/
namespace FW
open PySem PySem.Spec PyProof.Rows L2
def wTwo (K : PySem.W.Frag) (c1 c2 : Value) (ts : Suite) (D : Ends) : WX := fun cls d σ H => PySem.W.exmAny K cls [c1, c2] = some true ∧ ∀ a, H a = none → ts a cls d D σ H
def tTry2 (K : PySem.W.Frag) (c1 c2 : Value) (tb : WX → TS) (ts : Suite) : TS := fun D σ H => tb (wTwo K c1 c2 ts D) D σ H
section
variable {X : Cx} {body sts : List Stmt} {st : Stmt} {x1 x2 : Str} {c1 c2 : Value} {p1 p2 p3 p4 p5 : Pos} {kk : Nat} {tb : WX → TS} {ts : Suite}
end
end FW

set_option Elab.async false
set_option linter.all false
set_option maxRecDepth 100000
set_option maxHeartbeats 4000000
/-! texts: len, in, signs one by one, join; lists taken apart; all -/
namespace FW
open PySem PySem.Spec PyProof.Rows L2
def rLenS : List V → Hp → VK → Prop := fun xs H Q => ∃ z, xs = [.str z] ∧ z.length ≤ sizeLine ∧ Q (.int z.length) H
def rInS : R2 := fun x y H Q => ∃ (c : Nat) (z : Str), x = .str ⟨#[c]⟩ ∧ y = .str z ∧ Q (.bl (decide (c ∈ z.cps.toList))) H
def rJoin (K : PySem.W.Frag) : V → List V → Hp → VK → Prop := fun x xs H Q => ∃ a p, ∃ ys : List Str, x = .str a ∧ xs = [.ref p] ∧ (SqL K H p (ys.map V.str) ∨ SqT K H p (ys.map V.str)) ∧ (ys.map (·.length)).sum + ys.length * a.length ≤ 16777216 ∧ Q (.str (Txt.join a ys)) H
def rIStr (v : V) (H : Hp) (R : It → Hp → Prop) : Prop := ∃ x, v = .str x ∧ R (Its x) H
def rLtS : R2 := fun x y H Q => ∃ i j : Str, x = .str i ∧ y = .str j ∧ Q (.bl (decide (i.cps.toList < j.cps.toList))) H
def rGtS : R2 := fun x y H Q => ∃ i j : Str, x = .str i ∧ y = .str j ∧ Q (.bl (decide (j.cps.toList < i.cps.toList))) H
section
variable {X : Cx}
theorem o_ltS : OpR X (compareOp .Lt) rLtS := op_lt_str
theorem c_lenS : CallR X (.builtin "len") rLenS := call_len_str
theorem o_inS : OpR X (compareOp .In) rInS := op_in_sign
theorem p_join {o e : Expr} {to te : TE} {apos pos : Pos} (ho : PE X o to) (he : PE X e te) (hs : starEach [e] X.env = [(false, eval e X.env)] := by rfl) (hbase : attributeBase o "join" X.env (eval o X.env) = eval o X.env := by rfl) (hline : (apos.endLine == pos.line) = true := by rfl) :
    PE X (.Call (.Attribute o "join" apos) [e] [] pos) (tM1 (rJoin X.K) to te) := pe_join ho he hs hbase hline
end
section
variable {K : PySem.W.Frag} {σ : L2.St} {H : Hp} {Q : VK} {nx bk ct : L2.St → Hp → Prop} {rt : VK}
theorem w_callD {sp : Sp} {dvs : List V} {E : XK} {t : TA} (h : t σ H fun vs H1 => sp (vs ++ dvs) H1 Q E) : tCall sp dvs E t σ H Q := h
theorem w_ipI {g : Int → Int → Int} {i j : Int} (h : Q (.int (g i j)) H) : ipI g (.int i) (.int j) H Q := ⟨i, j, rfl, rfl, h⟩
theorem w_ltS {x y : Str} (h : Q (.bl (decide (x.cps.toList < y.cps.toList))) H) : rLtS (.str x) (.str y) H Q := ⟨x, y, rfl, rfl, h⟩
theorem w_gtS {x y : Str} (h : Q (.bl (decide (y.cps.toList < x.cps.toList))) H) : rGtS (.str x) (.str y) H Q := ⟨x, y, rfl, rfl, h⟩
theorem w_neS {x y : Str} (h : Q (.bl (!decide (x = y))) H) : rNe (.str x) (.str y) H Q := ⟨rfl, by
  have e : decide (V.str x = V.str y) = decide (x = y) := by
    by_cases q : x = y
    · subst q; rw [decide_eq_true rfl, decide_eq_true rfl]
    · rw [decide_eq_false q, decide_eq_false (fun z => q (V.str.inj z))]
  rw [e]; exact h⟩
theorem w_lenS {z : Str} (h1 : z.length ≤ sizeLine) (h : Q (.int z.length) H) : rLenS [.str z] H Q := ⟨z, rfl, h1, h⟩
theorem w_inS {c : Nat} {z : Str} (h : Q (.bl (decide (c ∈ z.cps.toList))) H) : rInS (.str ⟨#[c]⟩) (.str z) H Q := ⟨c, z, rfl, rfl, h⟩
theorem w_ixS {z : Str} {i : Int} {c : Nat} (h1 : z.length ≤ sizeLine) (h2 : atI z.cps.toList i = some c) (h : Q (.str ⟨#[c]⟩) H) : rIxS (.str z) (.int i) H Q := ⟨z, i, c, rfl, rfl, h1, h2, h⟩
theorem w_m1 {r : V → List V → Hp → VK → Prop} {to te : TE} (h : to σ H fun x H1 => (∃ a, x = .str a) ∧ te σ H1 fun y H2 => r x [y] H2 Q) : tM1 r to te σ H Q := h
theorem w_isS {z : Str} {A : Prop} (h : A) : (∃ a, V.str z = .str a) ∧ A := ⟨⟨z, rfl⟩, h⟩
theorem w_joinL {a : Str} {p : Addr} {ys : List Str} (h1 : SqL K H p (ys.map V.str)) (h2 : (ys.map (·.length)).sum + ys.length * a.length ≤ 16777216) (h : Q (.str (Txt.join a ys)) H) : rJoin K (.str a) [.ref p] H Q := ⟨a, p, ys, rfl, rfl, .inl h1, h2, h⟩
theorem w_istr {te : TE} {R : It → Hp → Prop} (h : te σ H fun v H1 => rIStr v H1 R) : iStr te σ H R := h
theorem w_istr' {z : Str} {R : It → Hp → Prop} (h : R (Its z) H) : rIStr (.str z) H R := ⟨z, rfl, h⟩
theorem walk_str (x : Str) : Walk (Its x) x.cps.size (fun _ => True) (fun i H v H' => H' = H ∧ ∃ c, x.cps[i]? = some c ∧ v = .str ⟨#[c]⟩) := ⟨fun _ _ hi _ => hi, fun _ _ => Nat.le_refl _, fun _ _ _ _ _ _ y => y⟩
theorem w_glst {a : Addr} {xs : List V} {n : Nat} {t : TGs} {R : L2.St → Hp → Prop} (h1 : SqL K H a xs) (h2 : xs.length = n) (h : t xs σ H R) : gLst K n t (.ref a) σ H R := ⟨a, xs, rfl, h1, h2, h⟩
theorem w_all {p : Addr} {bs : List Bool} (h1 : SqL K H p (bs.map V.bl)) (h : Q (.bl (bs.all id)) H) : rAll K [.ref p] H Q := ⟨p, bs, rfl, h1, h⟩
theorem w_augI {i : Nat} {te : TE} {ti : TIp} {v : V} (e : σ[i]? = some (some v)) (h : te σ H fun x H1 => ti v x H1 fun z H2 => nx (σ.set i (some z)) H2) : tAug i te ti ⟨nx, rt, bk, ct⟩ σ H := ⟨v, e, h⟩
end
section
variable {P : Program} {w : World} {K : PySem.W.Frag} {mg : Str → Option Value} {base : Heap} {x qual : Str} {params : Arguments} {body : List Stmt} {scope : Scope} {dvs : List V} {kws : List (Str × V)} {f : Addr} {fd : FuncData}
/-- a def with defaults that lets nothing out -/
theorem okD {N ps : List Str} {k : Nat} {sp : Sp} (F : FunD K x qual params body scope dvs kws f fd) (S : FnScope N ps scope) (len : ∀ vs H Q E, sp vs H Q E → vs.length = ps.length)
    (hb : ∀ cdv A outer s H vs Q E, Room k (A.deeper (envOfC qual scope s.heap.objs.size f cdv)) → sp vs H Q E → ∃ t, PSs (cxOf CX0 P w K mg base N qual scope f cdv A outer s H E).nox body t ∧ t { nx := fun _ H' => Q .non H', rt := Q } (L2.start N vs) H) : FnOk P w K mg base CX0 (k + 1) f fd ps sp :=
  F.ok S len fun cdv A outer s H vs Q E hr h => by
    obtain ⟨t, p, q⟩ := hb cdv A outer s H vs Q E hr h
    exact ⟨t, p.nox, q⟩
end
/-- a def with defaults -/
structure DfD (K : PySem.W.Frag) (mg : Str → Option Value) (x : Str) (st : Stmt) (ps : List Str) (dvs : List V) (f : Addr) (fd : FuncData) : Prop where
  fn : FunD K x x (defArgs st) (defBody st) (defScope st) dvs [] f fd
  g : mg x = some (.ref f)
  kp : PySem.W.keepIn K (.ref f) = true
  b : ∃ ds, Vals dvs ds ∧ Binds K fd ps ds
/-- a def with several keyword-only defaults -/
structure DfKs (K : PySem.W.Frag) (mg : Str → Option Value) (x : Str) (st : Stmt) (ps : List Str) (kws : List (Str × V)) (dvs : List V) (f : Addr) (fd : FuncData) : Prop where
  fn : FunD K x x (defArgs st) (defBody st) (defScope st) [] kws f fd
  g : mg x = some (.ref f)
  kp : PySem.W.keepIn K (.ref f) = true
  b : ∃ ds, Vals dvs ds ∧ Binds K fd ps ds
theorem join_cps' : ∀ ys : List Str, (Str.join (Str.ofString "") ys).cps.toList = (ys.map fun y => y.cps.toList).flatten
  | [] => rfl
  | [y] => by
    show y.cps.toList = _
    simp
  | y :: z :: r => by
    have ih := join_cps' (z :: r)
    show (y.cps ++ (Str.ofString "").cps ++ (Str.join (Str.ofString "") (z :: r)).cps).toList = _
    rw [Array.toList_append, Array.toList_append, ih, List.map_cons (l := z :: r), List.flatten_cons]
    show y.cps.toList ++ [] ++ _ = _
    rw [List.append_nil]
theorem join_cps (ys : List Str) : (Txt.join (Str.ofString "") ys).cps.toList = (ys.map fun y => y.cps.toList).flatten := by
  have e : Txt.join (Str.ofString "") ys = Str.join (Str.ofString "") ys := StrLaws.glued_eq_join _ _
  rw [e]
  exact join_cps' ys
end FW

set_option Elab.async false
set_option linter.all false
set_option maxRecDepth 100000
set_option maxHeartbeats 4000000
/-! t[::-1] of a tuple -/
namespace HT
open PySem PySem.Spec PyProof.Rows
section
variable {prog : Program} {w : World} {A : Around} {E : Value → Shared → Prop} {s : Shared}
theorem rev_map {α : Type} (xs : List α) : ((List.range xs.length).filterMap fun (m : Nat) => xs[(((xs.length : Nat) : Int) - 1 + (m : Int) * (-1)).toNat]?) = xs.reverse := by
  have h : ∀ n, n ≤ xs.length → ((List.range n).filterMap fun (m : Nat) => xs[(((xs.length : Nat) : Int) - 1 + (m : Int) * (-1)).toNat]?) = xs.reverse.take n := by
    intro n
    induction n with
    | zero => intro _; simp
    | succ n ih =>
      intro hn
      rw [List.range_succ, List.filterMap_append, ih (by omega)]
      have e : (((xs.length : Nat) : Int) - 1 + (n : Int) * (-1)).toNat = xs.length - 1 - n := by omega
      have hg : xs.reverse[n]? = xs[xs.length - 1 - n]? := List.getElem?_reverse (by omega)
      have hs : xs[xs.length - 1 - n]? = some (xs[xs.length - 1 - n]'(by omega)) := List.getElem?_eq_getElem (by omega)
      rw [List.take_succ, hg]
      congr 1
      simp only [List.filterMap_cons, List.filterMap_nil, e, hs]
      rfl
  rw [h _ (Nat.le_refl _)]
  exact List.take_of_length_le (by simp)
end
end HT
namespace FW
open PySem PySem.Spec PyProof.Rows L2
/-- t[::-1] -/
def rRevT (K : PySem.W.Frag) (x z : V) (H : Hp) (Q : VK) : Prop := ∃ (a : Addr) (xs : List V), x = .ref a ∧ z = .int (-1) ∧ SqT K H a xs ∧ Nw (.tup xs.reverse) H Q
def tRevT (K : PySem.W.Frag) (te ts : TE) : TE := fun σ H Q => te σ H fun x H1 => ts σ H1 fun z H3 => rRevT K x z H3 Q
theorem vals_rev {xs : List V} {its : List Value} (r : Vals xs its) : Vals xs.reverse its.reverse := by
  induction r with
  | nil => exact .nil
  | cons h _ ih =>
    rw [List.reverse_cons, List.reverse_cons]
    exact ih.append (.cons h .nil)
section
variable {X : Cx}
end
section
variable {K : PySem.W.Frag} {σ : L2.St} {H : Hp} {Q : VK}
theorem w_revT {te ts : TE} (h : te σ H fun x H1 => ts σ H1 fun z H3 => rRevT K x z H3 Q) : tRevT K te ts σ H Q := h
end
end FW

set_option Elab.async false
set_option linter.all false
set_option maxRecDepth 100000
set_option maxHeartbeats 4000000
/-! text * number, tuple * number, texts put together -/
namespace FW
open PySem PySem.Spec PyProof.Rows L2
def rRepS : R2 := fun x y H Q => ∃ (z : Str) (k : Int), x = .str z ∧ y = .int k ∧ z.length ≤ 16 ∧ 0 ≤ k ∧ k ≤ 1000 ∧ Q (.str (Txt.mul z k)) H
def rAddS : R2 := fun x y H Q => ∃ i j : Str, x = .str i ∧ y = .str j ∧ i.length + j.length ≤ sizeLine ∧ Q (.str (i ++ j)) H
theorem o_addS {X : Cx} : OpR X (binaryOp .Add) rAddS := op_add_str
section
variable {K : PySem.W.Frag} {H : Hp} {Q : VK}
end
end FW

set_option Elab.async false
set_option linter.all false
set_option maxRecDepth 100000
set_option maxHeartbeats 4000000
/-! dicts whose keys are nested tuples of ints, texts and None -/
namespace FW
open PySem PySem.Spec PyProof.Rows L2
mutual
/-- the thing v is the key k -/
inductive NAt (H : Hp) : NestedKey → V → Prop
  | non : NAt H .none .non
  | int (i : Int) : NAt H (.num i) (.int i)
  | str (x : Str) : NAt H (.text x) (.str x)
  | tup {a : Addr} {ks : List NestedKey} {xs : List V} : H a = some (.tup xs) → NAll H ks xs → NAt H (.tup ks) (.ref a)
  | frz {a : Addr} {o : Obj} {ks : List NestedKey} {xs : List V} : H a = some (.frz o (.tup xs)) → NAll H ks xs → NAt H (.tup ks) (.ref a)
inductive NAll (H : Hp) : List NestedKey → List V → Prop
  | nil : NAll H [] []
  | cons {k : NestedKey} {v : V} {ks : List NestedKey} {vs : List V} : NAt H k v → NAll H ks vs → NAll H (k :: ks) (v :: vs)
end
mutual
theorem NAt.kt {H H' : Hp} (t : KT H H') : ∀ (k : NestedKey) (v : V), NAt H k v → NAt H' k v
  | .none, _, h => by cases h; exact .non
  | .num i, _, h => by cases h; exact .int i
  | .text x, _, h => by cases h; exact .str x
  | .tup ks, _, h => by
    cases h with
    | tup e all => exact .tup (t _ _ e) (NAll.kt t ks _ all)
    | frz e all => exact .frz (t.f _ _ _ e) (NAll.kt t ks _ all)
theorem NAll.kt {H H' : Hp} (t : KT H H') : ∀ (ks : List NestedKey) (vs : List V), NAll H ks vs → NAll H' ks vs
  | [], _, h => by cases h; exact .nil
  | k :: ks, _, h => by
    cases h with
    | cons a b => exact .cons (NAt.kt t k _ a) (NAll.kt t ks _ b)
end
mutual
theorem NAt.inj {H : Hp} : ∀ (k k' : NestedKey) (v : V), NAt H k v → NAt H k' v → k = k'
  | .none, _, _, h, h' => by cases h; cases h'; rfl
  | .num i, _, _, h, h' => by cases h; cases h'; rfl
  | .text x, _, _, h, h' => by cases h; cases h'; rfl
  | .tup ks, _, _, h, h' => by
    cases h with
    | tup e all =>
      cases h' with
      | tup e' all' =>
        rw [e] at e'
        cases e'
        rw [NAll.inj ks _ _ all all']
      | frz e' all' =>
        rw [e] at e'
        cases e'
    | frz e all =>
      cases h' with
      | tup e' all' =>
        rw [e] at e'
        cases e'
      | frz e' all' =>
        rw [e] at e'
        cases e'
        rw [NAll.inj ks _ _ all all']
theorem NAll.inj {H : Hp} : ∀ (ks ks' : List NestedKey) (vs : List V), NAll H ks vs → NAll H ks' vs → ks = ks'
  | [], _, _, h, h' => by cases h; cases h'; rfl
  | k :: ks, _, _, h, h' => by
    cases h with
    | cons a b =>
      cases h' with
      | cons a' b' => rw [NAt.inj k _ _ a a', NAll.inj ks _ _ b b']
end
section
variable {X : Cx} {pins : List (Addr × Obj)} {σ : L2.St} {H : Hp} {s : Shared}
mutual
theorem NAt.is (I : Inv X pins σ H s) : ∀ (k : NestedKey) (v : V) (u : Value), NAt H k v → RelV v u → NestedIs s.heap k u
  | .none, _, _, h, r => by
    cases h
    cases r
    exact .none
  | .num i, _, _, h, r => by
    cases h
    obtain ⟨t, rfl⟩ := r
    exact .int i t
  | .text x, _, _, h, r => by
    cases h
    obtain ⟨t, rfl⟩ := r
    exact .text x t
  | .tup ks, _, _, h, r => by
    cases h with
    | @tup a _ xs e all =>
      cases r
      obtain ⟨_, its, rel, o, h1, h2, n, h3⟩ := (show ObjOk X.prog X.w H s.heap a (.tup xs) from I.hok a _ e)
      exact .tup h1 h2 h3 (NAll.is I ks _ _ all rel)
    | @frz a ob _ xs e all =>
      cases r
      obtain ⟨_, _, its, rel, o, h1, h2, n, h3⟩ := (show ObjOk X.prog X.w H s.heap a (.frz ob (.tup xs)) from I.hok a _ e)
      exact .tup h1 h2 h3 (NAll.is I ks _ _ all rel)
theorem NAll.is (I : Inv X pins σ H s) : ∀ (ks : List NestedKey) (vs : List V) (us : List Value), NAll H ks vs → Vals vs us → NestedAll s.heap ks us
  | [], _, _, h, r => by
    cases h
    cases r
    exact .nil
  | k :: ks, _, _, h, r => by
    cases h with
    | cons a b =>
      cases r with
      | cons ra rb => exact .cons (NAt.is I k _ _ a ra) (NAll.is I ks _ _ b rb)
end
end
abbrev NEnt := NestedKey × Addr × V
def NVal (xs : List NEnt) (k : NestedKey) : Option V := (xs.find? fun x => decide (x.1 = k)).map (·.2.2)
def NPut (xs : List NEnt) (k : NestedKey) (a : Addr) (v : V) : List NEnt := if (NVal xs k).isSome then xs.map (fun x => if x.1 = k then (x.1, x.2.1, v) else x) else xs ++ [(k, a, v)]
abbrev NRel : List NEnt → List (NestedKey × Addr × Value) → Prop := Paired fun p q => p.1 = q.1 ∧ p.2.1 = q.2.1 ∧ RelV p.2.2 q.2.2
theorem NRel.val {xs : List NEnt} {ys : List (NestedKey × Addr × Value)} (r : NRel xs ys) (k : NestedKey) : RelO (NVal xs k) ((atKey ys k).map (·.2)) := by
  induction r with
  | nil => exact True.intro
  | @cons p q ps qs h t ih =>
    obtain ⟨h1, _, h2⟩ := h
    by_cases e : p.1 = k
    · have e' : q.1 = k := h1.symm.trans e
      have b : atKey (q :: qs) k = some q.2 := by simp [atKey, List.find?_cons, e']
      have c : NVal (p :: ps) k = some p.2.2 := by simp [NVal, List.find?_cons, e]
      rw [c, b]
      exact h2
    · have e' : ¬ q.1 = k := fun z => e (h1.trans z)
      have b : atKey (q :: qs) k = atKey qs k := by simp [atKey, List.find?_cons, e']
      have c : NVal (p :: ps) k = NVal ps k := by simp [NVal, List.find?_cons, e]
      rw [c, b]
      exact ih
theorem NRel.put {xs : List NEnt} {ys : List (NestedKey × Addr × Value)} (r : NRel xs ys) (k : NestedKey) (b : Addr) {y : V} {u : Value} (ry : RelV y u) : NRel (NPut xs k b y) (storedH ys k b u) := by
  have e : (NVal xs k).isSome = (atKey ys k).isSome := by rw [(r.val k).isSome_eq, Option.isSome_map]
  unfold NPut storedH
  rw [e]
  by_cases q : (atKey ys k).isSome = true
  · rw [if_pos q, if_pos q]
    clear e q
    induction r with
    | nil => exact .nil
    | @cons p q ps qs h t ih =>
      rw [List.map_cons, List.map_cons]
      refine .cons ?_ ih
      obtain ⟨h1, h2, h3⟩ := h
      unfold putAt
      by_cases e : p.1 = k
      · rw [if_pos e, if_pos (h1.symm.trans e)]
        exact ⟨h1, h2, ry⟩
      · rw [if_neg e, if_neg (fun z => e (h1.trans z))]
        exact ⟨h1, h2, h3⟩
  · rw [if_neg q, if_neg q]
    exact Paired.snoc r ⟨rfl, rfl, ry⟩
/-- the dict at a, keyed by nested tuples -/
def NO (P : Program) (w : World) (a : Addr) (xs : List NEnt) : HO := .ext fun h => xs.length ≤ sizeLine ∧ (a == sysModules) = false ∧ ∃ ys : List (NestedKey × Addr × Value), NRel xs ys ∧
  ∃ o es ep, h.get? a = some o ∧ o.ExactDict ∧ o.data = .dict es ep ∧ es.toList = ys.map (entryOfKey (nestedKind P w)) ∧ (ys.map (·.1)).Nodup
structure NDict (P : Program) (w : World) (H : Hp) (a : Addr) (xs : List NEnt) : Prop where
  at' : H a = some (NO P w a xs)
  keys : ∀ p ∈ xs, NAt H p.1 (.ref p.2.1) ∧ p.1.depth ≤ 8
theorem NDict.kp {P : Program} {w : World} {M : List Addr} {H H' : Hp} {a : Addr} {xs : List NEnt} (d : NDict P w H a xs) (k : Kp M H H') (t : KT H H') (h : a ∉ M) : NDict P w H' a xs :=
  ⟨k _ _ h d.at', fun p hp => ⟨NAt.kt t _ _ (d.keys p hp).1, (d.keys p hp).2⟩⟩
section
variable {X : Cx} {pins : List (Addr × Obj)} {σ : L2.St} {H : Hp} {s : Shared} {a : Addr} {xs : List NEnt}
theorem nd_of (I : Inv X pins σ H s) (d : NDict X.prog X.w H a xs) : xs.length ≤ sizeLine ∧ (a == sysModules) = false ∧ ∃ ys, NRel xs ys ∧ s.heap.DictOfH (nestedKind X.prog X.w) a ys := by
  obtain ⟨⟨z, y, ys, r, o, es, ep, h1, h2, h3, h4, h5⟩, hex, hst⟩ := (show ObjOk X.prog X.w H s.heap a (NO X.prog X.w a xs) from I.hok a _ d.at')
  refine ⟨z, y, ys, r, o, es, ep, h1, h2, h3, h4, ?_, h5⟩
  have hk := d.keys
  clear h4 h5 z d hex hst
  induction r with
  | nil => intro x hx; cases hx
  | @cons p q ps qs h t ih =>
    intro x hx
    rcases List.mem_cons.mp hx with rfl | hx
    · obtain ⟨g1, g2⟩ := hk p (by simp)
      have e1 : p.1 = x.1 := h.1
      have e2 : p.2.1 = x.2.1 := h.2.1
      rw [e1] at g1 g2
      rw [e2] at g1
      exact ⟨NAt.is I _ _ _ g1 rfl, g2⟩
    · exact ih (fun p hp => hk p (by simp [hp])) x hx
theorem nd_type (I : Inv X pins σ H s) (d : NDict X.prog X.w H a xs) : s.TypeIs (.ref a) "dict" ∧ (∀ b, Value.ref a = .ref b → ∃ ob, s.heap.get? b = some ob ∧ ob.dict = none) := by
  obtain ⟨_, _, ys, _, dd⟩ := nd_of I d
  refine ⟨dd.typeIs, fun b q => ?_⟩
  cases q
  obtain ⟨ob, _, _, h1, h2, _⟩ := dd
  exact ⟨ob, h1, h2.2.1⟩
theorem nk_is (I : Inv X pins σ H s) {b : Addr} {k : NestedKey} (h : NAt H k (.ref b)) (h8 : k.depth ≤ 8) : (nestedKind X.prog X.w).is s.heap k b := ⟨NAt.is I _ _ _ h rfl, h8⟩
variable {b : Addr} {k : NestedKey} {A : Around} {E : Value → Shared → Prop} {v : V} {r : Value}
theorem n_in {Q : Value → Shared → Prop} (hu : A.units + 9 < cLine) (I : Inv X pins σ H s) (d : NDict X.prog X.w H a xs) (hk : NAt H k (.ref b)) (h8 : k.depth ≤ 8) (h : ∀ s', Inv X pins σ H s' → Q (.bool (NVal xs k).isSome) s') :
    wpAny (model X.prog X.w) A (compareOp .In (.ref b) (.ref a)) Q E s := by
  obtain ⟨z, hd, ys, rel, dd⟩ := nd_of I d
  refine wpAny_in_heap (knd := nestedKind X.prog X.w) (show A.in1.units + 8 < cLine from by show A.units + 1 + 8 < cLine; omega) (nk_is I hk h8) hd dd ?_
  have q := (rel.val k).isSome_eq
  rw [Option.isSome_map] at q
  rw [← q]
  exact h _ (I.tok _)
theorem n_getItem {Q : Value → Shared → Prop} (hu : A.units + 9 < cLine) (I : Inv X pins σ H s) (d : NDict X.prog X.w H a xs) (hk : NAt H k (.ref b)) (h8 : k.depth ≤ 8) (l : NVal xs k = some v) (h : ∀ w' s', Inv X pins σ H s' → RelV v w' → Q w' s') :
    wpAny (model X.prog X.w) A (getItem (.ref a) (.ref b)) Q E s := by
  obtain ⟨z, hd, ys, rel, dd⟩ := nd_of I d
  obtain ⟨w', hw, rw'⟩ := RelO.some_of (v := v) (o := (atKey ys k).map (·.2)) (by rw [← l]; exact rel.val k)
  obtain ⟨p, hp, hp2⟩ := Option.map_eq_some_iff.mp hw
  refine wpAny_getItem_heap (knd := nestedKind X.prog X.w) (show A.in1.units + 8 < cLine from by show A.units + 1 + 8 < cLine; omega) (nk_is I hk h8) dd hp ?_
  rw [hp2]
  exact h w' _ (I.tok _) rw'
theorem n_setItem {Q : Unit → Shared → Prop} (hu : A.units + 9 < cLine) (I : Inv X pins σ H s) (d : NDict X.prog X.w H a xs) (hk : NAt H k (.ref b)) (h8 : k.depth ≤ 8) (hl : xs.length < sizeLine) (rv : RelV v r) (h : ∀ s', Inv X pins σ (upd H a (NO X.prog X.w a (NPut xs k b v))) s' → Q () s') :
    wpAny (model X.prog X.w) A (setItem (.ref a) (.ref b) r) Q E s := by
  obtain ⟨z, hd, ys, rel, dd⟩ := nd_of I d
  have hz : ys.length ≤ sizeLine := by rw [← Paired.length rel]; exact z
  have hl' : (NPut xs k b v).length ≤ sizeLine := by
    unfold NPut
    split
    · rw [List.length_map]; exact z
    · rw [List.length_append]; exact hl
  refine wpAny_setItem_heap (knd := nestedKind X.prog X.w) (hsz := hz) (show A.in1.units + 8 < cLine from by show A.units + 1 + 8 < cLine; omega) (nk_is I hk h8) dd fun h' dd' hs => h _ ?_
  obtain ⟨q, es, ep, hq, h2, h3, h4, _, h5⟩ := dd'
  refine d_write I (by rw [d.at']; exact True.intro) hs ⟨q, hq⟩ ⟨⟨hl', hd, _, rel.put k b rv, q, es, ep, hq, h2, h3, h4, h5⟩, ⟨q, hq⟩, ?_⟩
  rintro h1 h2' ⟨g1, g2, ys', g3, o, es, ep, g4, g5⟩ keep
  exact ⟨g1, g2, ys', g3, o, es, ep, keep _ g4, g5⟩
end
/-! ### the rules -/
def rNIn (P : Program) (w : World) (x y : V) (H : Hp) (Q : VK) : Prop := ∃ a b xs k, x = .ref a ∧ y = .ref b ∧ NDict P w H a xs ∧ NAt H k (.ref b) ∧ k.depth ≤ 8 ∧ Q (.bl (NVal xs k).isSome) H
def rNGet (P : Program) (w : World) (x y : V) (H : Hp) (Q : VK) : Prop := ∃ a b xs k v, x = .ref a ∧ y = .ref b ∧ NDict P w H a xs ∧ NAt H k (.ref b) ∧ k.depth ≤ 8 ∧ NVal xs k = some v ∧ Q v H
def rNIs (P : Program) (w : World) (x : V) (H : Hp) (R : Addr → Hp → Prop) : Prop := ∃ a xs, x = .ref a ∧ NDict P w H a xs ∧ R a H
def rNGet1 (P : Program) (w : World) (a : Addr) (y : V) (H : Hp) (Q : VK) : Prop := ∃ b xs k, y = .ref b ∧ NDict P w H a xs ∧ NAt H k (.ref b) ∧ k.depth ≤ 8 ∧ Q ((NVal xs k).getD .non) H
def rNPut (P : Program) (w : World) (x y v : V) (H : Hp) (R : Hp → Prop) : Prop := ∃ a b xs k, x = .ref a ∧ y = .ref b ∧ NDict P w H a xs ∧ NAt H k (.ref b) ∧ k.depth ≤ 8 ∧ xs.length < sizeLine ∧ R (upd H a (NO P w a (NPut xs k b v)))
def tNIn (P : Program) (w : World) (ty td : TE) : TE := fun σ H Q => ty σ H fun y H1 => td σ H1 fun x H2 => rNIn P w x y H2 Q
def tNGet (P : Program) (w : World) (td ty : TE) : TE := fun σ H Q => td σ H fun x H1 => ty σ H1 fun y H2 => rNGet P w x y H2 Q
def tNGet1 (P : Program) (w : World) (td ty : TE) : TE := fun σ H Q => td σ H fun x H1 => rNIs P w x H1 fun a H1 => ty σ H1 fun y H2 => rNGet1 P w a y H2 Q
def sNPut (P : Program) (w : World) (td ty tv : TE) : TS := fun D σ H => tv σ H fun v H1 => td σ H1 fun x H2 => ty σ H2 fun y H3 => rNPut P w x y v H3 fun H4 => D.nx σ H4
def tNNew (P : Program) (w : World) : TE := fun _ H Q => ∀ p, H p = none → Q (.ref p) (upd H p (NO P w p []))
section
variable {X : Cx} {o i e value : Expr} {pos pos' tpos apos cpos : Pos} {td ty tv : TE}
theorem pc_nin (hu : X.A.units + 64 < cLine) (hi : PE X i ty) (ho : PE X o td) : PC X .In i o (tNIn X.prog X.w ty td) := by
  refine ⟨fun pins s σ H Q I h => ?_⟩
  refine thn (hi.run pins s σ H _ I h) fun iv s1 ⟨y, H1, I1, ry, q1⟩ => thn (ho.run pins s1 σ H1 _ I1 q1) fun u s2 ⟨x, H2, I2, rx, a, b, xs, k, ex, ey, d, hk, h8, q2⟩ => ?_
  subst ex ey
  obtain rfl : u = Value.ref a := rx
  obtain rfl : iv = Value.ref b := ry
  exact n_in (by omega) I2 d hk h8 fun s3 I3 => ⟨.bl _, H2, I3, rfl, q2⟩
theorem pe_nget (hu : X.A.units + 64 < cLine) (ho : PE X o td) (hi : PE X i ty) (hs : NoSl i) : PE X (.Subscript o i pos) (tNGet X.prog X.w td ty) := by
  refine ⟨fun pins s σ H Q I h => ?_⟩
  refine subD_of PySem.F.slot_dict_getitem.lookup hs (thn (ho.run pins s σ H _ I h) fun u s1 ⟨x, H1, I1, rx, q1⟩ => thn (hi.run pins s1 σ H1 _ I1 q1) fun iv s2 ⟨y, H2, I2, ry, a, b, xs, k, v, ex, ey, d, hk, h8, l, q2⟩ => ?_)
  subst ex ey
  obtain rfl : u = Value.ref a := rx
  obtain rfl : iv = Value.ref b := ry
  exact ⟨(nd_type I2 d).1, n_getItem (by omega) I2 d hk h8 l fun w' s3 I3 rw' => ⟨v, H2, I3, rw', q2⟩⟩
theorem ps_nput (hu : X.A.units + 64 < cLine) (ho : PE X o td) (hi : PE X i ty) (hv : PE X value tv) (hs : swapsWith value (some (.Subscript o i pos')) pos.line X.env = pure false) :
    PS X (.Assign [.Subscript o i pos'] value pos) (sNPut X.prog X.w td ty tv) := by
  refine ⟨fun pins s σ H D I h => ?_⟩
  refine wpAny_Assign_Subscript (thn (hv.run pins s σ H _ I h) fun r s1 ⟨v, H1, I1, rv, q1⟩ => thn (ho.run pins s1 σ H1 _ I1 q1) fun u s2 ⟨x, H2, I2, rx, q2⟩ => thn (hi.run pins s2 σ H2 _ I2 q2) fun iv s3 ⟨y, H3, I3, ry, a, b, xs, k, ex, ey, d, hk, h8, hl, q3⟩ => ?_) hs
  subst ex ey
  obtain rfl : u = Value.ref a := rx
  obtain rfl : iv = Value.ref b := ry
  exact n_setItem (by omega) I3 d hk h8 hl rv fun s4 I4 => ⟨σ, _, I4, q3⟩
theorem pe_nnew : PE X (.Dict [] [] pos) (tNNew X.prog X.w) := ⟨fun pins s σ H Q I h =>
  wpAny_Dict_empty ⟨.ref s.heap.objs.size, _, I.laid (a := s.heap.objs.size) (o := NO X.prog X.w s.heap.objs.size []) (t' := s.toks) (fun _ _ q => Heap.get?_push_of_some _ q) (Nat.le_refl _)
    ⟨⟨Nat.zero_le _, beq_eq_false_iff_ne.mpr (Ne.symm (Nat.ne_of_lt I.big)), [], .nil, _, #[], 0, Heap.get?_push_size _ rfl, ⟨rfl, rfl, rfl⟩, rfl, rfl, List.nodup_nil⟩, ⟨_, Heap.get?_push_size _ rfl⟩, by
      rintro h1 h2' ⟨g1, g2, ys', g3, o, es, ep, g4, g5⟩ keep
      exact ⟨g1, g2, ys', g3, o, es, ep, keep _ g4, g5⟩⟩, rfl, h _ (I.hok.fresh (Nat.le_refl _))⟩⟩
end
section
variable {P : Program} {w : World} {K : PySem.W.Frag} {σ : L2.St} {H : Hp} {Q : VK} {nx bk ct : L2.St → Hp → Prop} {rt : VK} {v : V}
theorem w_nin {ty td : TE} (h : ty σ H fun y H1 => td σ H1 fun x H2 => rNIn P w x y H2 Q) : tNIn P w ty td σ H Q := h
theorem w_nget {td ty : TE} (h : td σ H fun x H1 => ty σ H1 fun y H2 => rNGet P w x y H2 Q) : tNGet P w td ty σ H Q := h
theorem w_nget1 {td ty : TE} (h : td σ H fun x H1 => rNIs P w x H1 fun a H1 => ty σ H1 fun y H2 => rNGet1 P w a y H2 Q) : tNGet1 P w td ty σ H Q := h
theorem w_nput {td ty tv : TE} (h : tv σ H fun v H1 => td σ H1 fun x H2 => ty σ H2 fun y H3 => rNPut P w x y v H3 fun H4 => nx σ H4) : sNPut P w td ty tv ⟨nx, rt, bk, ct⟩ σ H := h
theorem w_seqNP {td ty tv : TE} {u : TS} (h : tv σ H fun v H1 => td σ H1 fun x H2 => ty σ H2 fun y H3 => rNPut P w x y v H3 fun H4 => u ⟨nx, rt, bk, ct⟩ σ H4) : tSeq (sNPut P w td ty tv) u ⟨nx, rt, bk, ct⟩ σ H := h
theorem w_nin' {a b : Addr} {xs : List NEnt} {k : NestedKey} (d : NDict P w H a xs) (hk : NAt H k (.ref b)) (h8 : k.depth ≤ 8) (h : Q (.bl (NVal xs k).isSome) H) : rNIn P w (.ref a) (.ref b) H Q := ⟨a, b, xs, k, rfl, rfl, d, hk, h8, h⟩
theorem w_nget' {a b : Addr} {xs : List NEnt} {k : NestedKey} (d : NDict P w H a xs) (hk : NAt H k (.ref b)) (h8 : k.depth ≤ 8) (l : NVal xs k = some v) (h : Q v H) : rNGet P w (.ref a) (.ref b) H Q := ⟨a, b, xs, k, v, rfl, rfl, d, hk, h8, l, h⟩
theorem w_nput' {a b : Addr} {xs : List NEnt} {k : NestedKey} {R : Hp → Prop} (d : NDict P w H a xs) (hk : NAt H k (.ref b)) (h8 : k.depth ≤ 8) (hl : xs.length < sizeLine) (h : ∀ H1, NDict P w H1 a (NPut xs k b v) → Off a H H1 → R H1) : rNPut P w (.ref a) (.ref b) v H R := by
  refine ⟨a, b, xs, k, rfl, rfl, d, hk, h8, hl, h _ ⟨upd_same, fun p hp => ?_⟩ fun x hx => upd_ne hx⟩
  have t : KT H (upd H a (NO P w a (NPut xs k b v))) := ⟨fun c ys ec => upd_get (ne_of ec d.at' (fun z => nomatch z)) ec, fun c _ ys ec => upd_get (ne_of ec d.at' (fun z => nomatch z)) ec⟩
  have hp' : (NAt H p.1 (.ref p.2.1) ∧ p.1.depth ≤ 8) := by
    unfold NPut at hp
    split at hp
    · obtain ⟨q, hq, rfl⟩ := List.mem_map.mp hp
      have := d.keys q hq
      split <;> exact this
    · rcases List.mem_append.mp hp with hp | hp
      · exact d.keys p hp
      · have e : p = (k, b, v) := by simpa using hp
        subst e
        exact ⟨hk, h8⟩
  exact ⟨NAt.kt t _ _ hp'.1, hp'.2⟩
theorem w_nnew (h : ∀ p H1, H p = none → NDict P w H1 p [] → Same H H1 → Q (.ref p) H1) : tNNew P w σ H Q := fun p hp => h p _ hp ⟨upd_same, fun q hq => by cases hq⟩ (Same.new hp)
end
end FW

set_option Elab.async false
set_option linter.all false
set_option maxRecDepth 100000
set_option maxHeartbeats 4000000
/-! sets of ints out of lists, sorted at any length -/
namespace FW
open PySem PySem.Spec PyProof.Rows L2
/-- an empty set, as set.__new__ lays it -/
abbrev es0 (w : World) : Obj := { cls := .type "set", dict := none, data := .set #[] 0 (.fresh 0 0 (!w.params.followText "set-order")) }
section
variable {P : Program} {w : World} {A : Around} {E : Value → Shared → Prop} {s : Shared}
theorem set_of_list {l : Addr} {xs : Array Value} (ns : List Int) {Q : Value → Shared → Prop} (calm : A.handled = none) (isL : s.heap.IsList l xs) (are : IntsAre xs.toList ns) (few : ns.length + 1 < scanBound)
    (fin : ∀ (g : Heap) (tk c : Nat), SetR w g s.heap.objs.size (fun j => decide (j ∈ ns)) c → c ≤ ns.length → (∀ b o, s.heap.get? b = some o → g.get? b = some o) → Q (.ref s.heap.objs.size) { s with heap := g, toks := tk }) :
    wpAny (model P w) A (call (.type "set") [.ref l]) Q E s := by
  have size : xs.size = ns.length := by rw [← Array.length_toList]; exact IntsAre.length are
  obtain ⟨c0, tl, c1⟩ := F.called_set.mro
  have c2 := F.called_set.made
  have c3 := F.called_set.sub
  have c4 := F.called_set.notType
  have c5 := F.called_set.canCreate
  have c6 := F.typeCall_set_1 (.ref l)
  refine wpAny_call (codeAny_of_tree ?_)
  show wpAny (model P w) _ (callAny (.type "set") ⟨[.ref l], []⟩) _ _ s
  refine wpAny_pure ⟨Code.quiet_builtin _ (by decide +kernel), ?_⟩
  refine codeAny_builtin F.entry_type_call ?_
  rw [Around.under_plain (weight_type_call_type "set" [.ref l] []) rfl]
  repeat (any_goals (first | assumption | wp_step))
  refine codeAny_mono (code_set_led1 (w := w) (.ref l) (E := E) (Q₁ := fun y t => y = .ref s.heap.objs.size ∧ t = { s with heap := s.heap.push (es0 w) }) ⟨rfl, rfl⟩) fun r t hr => ?_
  match r, hr with
  | .error e, hr => exact hr
  | .ok (.ret y), hr =>
    obtain ⟨ey, et⟩ := hr
    subst ey et
    have at0 : (s.heap.push (es0 w)).get? s.heap.objs.size = some (es0 w) := Heap.get?_push_size _ rfl
    have ty0 : Shared.TypeIs { s with heap := s.heap.push (es0 w) } (.ref s.heap.objs.size) "set" := ⟨_, at0, rfl⟩
    have d1 := F.called_set.init.lookup
    have d2 := F.called_set.init.bind (.ref s.heap.objs.size)
    repeat (any_goals (first | assumption | wp_step))
    refine codeAny_mono (codeAny_call_builtin (R := wants (fun y t => y = .none ∧ ∃ g tk c, t = { s with heap := g, toks := tk } ∧ SetR w g s.heap.objs.size (fun j => decide (j ∈ ns)) c ∧ c ≤ ns.length ∧ (∀ b o, s.heap.get? b = some o → g.get? b = some o)) E) F.called_set.init.plain F.entry_set_init (check_set_init_1 ty0 ?_)) fun r2 t2 hr2 => ?_
    · obtain ⟨⟨kl, dc, dt, sl⟩, hol, hcl, nl, hdl⟩ := isL
      simp only at hcl hdl
      subst hcl
      subst hdl
      have at1 : (s.heap.push (es0 w)).get? l = some { cls := .type "list", dict := dc, data := .seq xs nl, slots := sl } := Heap.get?_push_of_some _ hol
      have n1 := F.sub_list_set
      have n2 := F.sub_list_frozenset
      have n3 : (Value.type "list" == Value.type "dict") = false := by decide
      have isL1 : (s.heap.push (es0 w)).IsList l xs := ⟨_, at1, rfl, nl, rfl⟩
      unfold Builtin.«set.__init__» noKeywords Builtin.Frozenset.updateFrom
      generalize gi : pyIter = it
      wp_walk
      subst gi
      refine wpAny_pyIter_list isL1 ?_
      refine wpAny_bind (wpAny_runValue ?_)
      have ll : l < s.heap.objs.size := Heap.lt_size hol
      have calm3 : A.in1.in1.in1.handled = none := by simp [calm]
      have sz1 : (s.heap.push (es0 w)).objs.size = s.heap.objs.size + 1 := Heap.size_push ..
      have ne1 : l ≠ (s.heap.push (es0 w)).objs.size := by rw [sz1]; exact Nat.ne_of_lt (Nat.lt_succ_of_lt ll)
      have ne2 : s.heap.objs.size ∉ [(s.heap.push (es0 w)).objs.size, l] := by
        rw [sz1]
        simp only [List.mem_cons, List.not_mem_nil, or_false, not_or]
        exact ⟨Nat.ne_of_lt (Nat.lt_succ_self _), Nat.ne_of_gt ll⟩
      have vals : ∀ (i : Nat) (v : Value), xs[i]? = some v → ∃ k t, ns[i]? = some k ∧ v = .int k t := fun i v hv => by
        have hi : i < ns.length := by rw [← size]; exact (Array.getElem?_eq_some_iff.mp hv).1
        obtain ⟨t, e⟩ := PyProof.Rows.IntsAre.int_at are i v (by rw [Array.getElem?_toList]; exact hv)
        exact ⟨ns[i], t, List.getElem?_eq_getElem hi, by rw [e, List.getD_eq_getElem?_getD, List.getElem?_eq_getElem hi]; rfl⟩
      refine set_update_ints (Walks.list calm3 _ l ne1 xs).toS s.heap.objs.size ne2 ns size few vals xs.size 0 _ (Nat.sub_zero _) (Nat.zero_le _) ⟨⟨_, Heap.get?_push_size _ rfl, rfl, rfl⟩, isL1.push _⟩ ⟨0, Nat.le_refl 0, setR_new_at (Heap.get?_push_of_some _ at0)⟩ ?_
      intro t c mv hc hS
      obtain ⟨g, g2, g3, tk, g5⟩ := t
      have q1 : g2 = s.gens := mv.gens
      have q2 : g3 = s.drawn := mv.drawn
      have q3 : g5 = s.os := mv.os
      subst q1 q2 q3
      show wpAny _ _ _ _ _ _
      refine wpAny_pure ?_
      show wpAny _ _ (ret Value.none) _ _ _
      rw [size] at hc
      refine wpAny_pure ⟨rfl, g, tk, c, rfl, hS, hc, fun b o e => ?_⟩
      have lb : b < s.heap.objs.size := Heap.lt_size e
      exact mv.heap b o (by rw [sz1]; simp only [List.mem_cons, List.not_mem_nil, or_false, not_or]; exact ⟨Nat.ne_of_lt lb, Nat.ne_of_lt (Nat.lt_succ_of_lt lb)⟩) (Heap.get?_push_of_some _ (Heap.get?_push_of_some _ e))
    · match r2, hr2 with
      | .error e, hr2 => exact hr2
      | .ok (.ret y), hr2 =>
        obtain ⟨ey, g, tk, c, et, hS, hc, keep⟩ := hr2
        subst ey et
        repeat (any_goals (first | assumption | wp_step))
        exact fin _ _ _ hS hc keep
      | .ok .next, hr2 => exact hr2.elim
      | .ok .brk, hr2 => exact hr2.elim
      | .ok .cont, hr2 => exact hr2.elim
  | .ok .next, hr => exact hr.elim
  | .ok .brk, hr => exact hr.elim
  | .ok .cont, hr => exact hr.elim
end
def rSetL (K : PySem.W.Frag) (w : World) (vs : List V) (H : Hp) (Q : VK) : Prop := ∃ (l : Addr) (ns : List Int), vs = [.ref l] ∧ SqL K H l (ns.map V.int) ∧ ns.length ≤ 4000 ∧ ∀ (p : Addr) (c : Nat), H p = none → c ≤ ns.length → Q (.ref p) (upd H p (SetO w p (fun j => decide (j ∈ ns)) c))
def rSortS (w : World) (vs : List V) (H : Hp) (Q : VK) : Prop := ∃ (a : Addr) (S : Int → Bool) (n : Nat), vs = [V.ref a] ∧ H a = some (SetO w a S n) ∧ n ≤ 4000 ∧ ∀ (ns : List Int) (p : Addr), ns.Pairwise (· < ·) → (∀ k : Int, k ∈ ns ↔ S k = true) → H p = none → Q (.ref p) (upd H p (.lst (ns.map V.int)))
section
variable {X : Cx}
theorem c_setL (calm : X.calm = true) : CallR X (.type "set") (rSetL X.K X.w) := by
  intro pins s σ H vs us Q I r h
  obtain ⟨l, ns, rfl, hl, hn, q⟩ := h
  rw [Vals.ref1 r]
  obtain ⟨its, rv, pl, hz⟩ := I.list hl
  refine set_of_list ns (I.ok.hd calm) pl.isList (by simpa using RZ.intsAre_vals rv) (by unfold scanBound; omega) fun g tk c R hc keep => ?_
  have free : H s.heap.objs.size = none := I.hok.fresh (Nat.le_refl _)
  exact ⟨.ref s.heap.objs.size, _, I.laid (t' := tk) keep (Nat.le_refl _) (setO_new R), rfl, q _ c free hc⟩
theorem c_sortS (calm : X.calm = true) : CallR X (.builtin "sorted") (rSortS X.w) := by
  intro pins s σ H vs us Q I r h
  obtain ⟨a, S, n, rfl, ha, hn4, q⟩ := h
  rw [Vals.ref1 r]
  obtain ⟨o, es, ep, t, ho, hex, hd, good, nd, hm, hb, hf, hn, ris, led⟩ := setO_get I ha
  refine Calls.call_function_entry kind_sorted plain_sorted entry_sorted (args_sorted1 _) ?_
  unfold Builtin.«sorted»; refine wpAny_bind (m := checkCount "sorted" 1 1 _) (wpAny_pure ?_)
  refine wpAny_bind (collect_set (A := X.A.in1) (I.ok.hd calm) ⟨o, ho, hex.1, hd⟩ hf hb ris led fun s1 xs k1 z1 g1 o1 pm => ?_)
  have xl : xs.length = n := by rw [pm.length_eq, List.length_map, Array.length_toList]; exact hn
  have xI : IntsAre xs (xs.map Builtin.Re.reRawOf) := L2.ints_of xs fun v hv => by
    obtain ⟨e, he, rfl⟩ := List.mem_map.mp (pm.mem_iff.mp hv)
    obtain ⟨k, tk, h1, _⟩ := good e he
    exact ⟨k, tk, h1⟩
  have pk : (xs.map Builtin.Re.reRawOf).Perm (es.toList.map keyOf) := by
    have q := pm.map Builtin.Re.reRawOf
    rwa [List.map_map] at q
  have hz : xs.length ≤ sizeLine := by rw [xl, sizeLine_eq]; omega
  refine wpAny_bind (wpAny_newList ?_ hz)
  have atL : (s1.heap.push (seqObj "list" xs.toArray 0)).get? s1.heap.objs.size = some (seqObj "list" xs.toArray 0) := Heap.get?_push_size _ rfl
  refine wpAny_bind (wpAny_holding (wpAny_call_entry slot_list_sort ⟨_, atL, rfl⟩ entry_list_sort (SrtO.list_sort_ord (s := { s1 with heap := s1.heap.push (seqObj "list" xs.toArray 0) }) SrtO.swo_int atL hz (fun h2 => SrtO.ints_sortable xI h2) fun out h1 h2 => ⟨_, rfl, ?_⟩) (args_list_sort _)))
  obtain ⟨i1, i2, i3⟩ := SrtO.ints_out xI h1 h2
  obtain ⟨e', he'⟩ := sortedHeap_at (vs := xs) (out := out.toArray) atL
  have pn : (out.map SrtO.iv).Perm (es.toList.map keyOf) := i2.trans pk
  have hlen : ((out.map SrtO.iv).map V.int).length ≤ sizeLine := by rw [List.length_map, i2.length_eq, List.length_map]; exact hz
  have free : H s1.heap.objs.size = none := I.hok.fresh z1
  have keep : ∀ b u, s.heap.get? b = some u → (sortedHeap (s1.heap.push (seqObj "list" xs.toArray 0)) s1.heap.objs.size xs out.toArray).get? b = some u := fun b u e => by
    have e1 := k1 b u e
    have lb : b < s1.heap.objs.size := Heap.lt_size e1
    rw [sortedHeap_old (Nat.ne_of_lt lb) (by rw [size_push']; exact Nat.lt_succ_of_lt lb)]
    exact Heap.get?_push_of_some _ e1
  have J : Inv X pins σ (upd H s1.heap.objs.size (.lst ((out.map SrtO.iv).map V.int))) { s with heap := sortedHeap (s1.heap.push (seqObj "list" xs.toArray 0)) s1.heap.objs.size xs out.toArray, gens := s1.gens, drawn := s1.drawn, toks := s1.toks } := I.call (ch := []) (Un.laid keep z1 free) (I.hok.laid (o := .lst ((out.map SrtO.iv).map V.int)) keep z1 ⟨hlen, out, e', vals_of_ints i1, he'⟩) (by rw [g1]; exact I.bare) (fun _ z => nomatch z)
  refine wpAny_pure ⟨_, rfl, .ref s1.heap.objs.size, upd H s1.heap.objs.size (.lst ((out.map SrtO.iv).map V.int)), ?_, rfl, q _ _ (lt_of_le_nodup _ i3 (pn.nodup_iff.mpr nd)) (fun k => by rw [pn.mem_iff, ← hm k]) free⟩
  cases s1
  cases s
  cases o1
  exact J
end
section
variable {K : PySem.W.Frag} {w : World} {H : Hp} {Q : VK}
theorem w_setOf {l : Addr} {ns : List Int} (h1 : SqL K H l (ns.map V.int)) (h2 : ns.length ≤ 4000) (h : ∀ p c H1, H p = none → c ≤ ns.length → H1 p = some (SetO w p (fun j => decide (j ∈ ns)) c) → Same H H1 → Q (.ref p) H1) : rSetL K w [.ref l] H Q :=
  ⟨l, ns, rfl, h1, h2, fun p c hp hc => h p c _ hp hc upd_same (Same.new hp)⟩
theorem w_sortS {a : Addr} {S : Int → Bool} {n : Nat} (h1 : H a = some (SetO w a S n)) (h2 : n ≤ 4000) (h : ∀ (ns : List Int) p H1, ns.Pairwise (· < ·) → (∀ k : Int, k ∈ ns ↔ S k = true) → H p = none → H1 p = some (.lst (ns.map V.int)) → Same H H1 → Q (.ref p) H1) : rSortS w [.ref a] H Q :=
  ⟨a, S, n, rfl, h1, h2, fun ns p hs hm hp => h ns p _ hs hm hp upd_same (Same.new hp)⟩
end
end FW

set_option Elab.async false
set_option linter.all false
set_option maxRecDepth 100000
set_option maxHeartbeats 4000000
/-! objects of own classes; max with a default; data in lists -/
namespace FW
open PySem PySem.Spec PyProof.Rows L2
/-! ### max(list, default=d) -/
def rMaxD (K : PySem.W.Frag) (vs zs : List V) (H : Hp) (Q : VK) : Prop := ∃ (a : Addr) (ns : List Int) (d : Int), vs = [.ref a] ∧ zs = [.int d] ∧ SqL K H a (ns.map V.int) ∧ (ns = [] → Q (.int d) H) ∧ ∀ m, m ∈ ns → (∀ y ∈ ns, y ≤ m) → Q (.int m) H
theorem maxOf_ge (ys : List Int) : ∀ y : Int, ∀ z ∈ y :: ys, z ≤ PySem.W.maxOf y ys := by
  induction ys with
  | nil => intro y z hz; have : z = y := by simpa using hz
           subst this; exact Int.le_refl _
  | cons x ys ih =>
    intro y z hz
    show z ≤ PySem.W.maxOf (if PySem.W.DatumOrd.lt y x = true then x else y) ys
    have e : PySem.W.DatumOrd.lt y x = decide (y < x) := rfl
    rw [e]
    by_cases h : y < x
    · rw [if_pos (decide_eq_true h)]
      have h1 := ih x
      rcases List.mem_cons.mp hz with rfl | hz
      · have := h1 x (by simp)
        omega
      · exact h1 z hz
    · rw [if_neg (fun q => h (of_decide_eq_true q))]
      have h1 := ih y
      rcases List.mem_cons.mp hz with rfl | hz
      · exact h1 z (by simp)
      · rcases List.mem_cons.mp hz with rfl | hz
        · have := h1 y (by simp)
          omega
        · exact h1 z (by simp [hz])
section
variable {X : Cx} {pins : List (Addr × Obj)} {σ : L2.St} {H : Hp} {s : Shared}
theorem hold_ints (h : Heap) : ∀ (ns : List Int) (its : List Value), Vals (ns.map V.int) its → PySem.W.HoldAll h its ns
  | [], _, r => by cases r; exact PySem.W.HoldAll.nil
  | n :: ns, _, r => by
    cases r with
    | cons r1 rr =>
      obtain ⟨t, rfl⟩ := r1
      exact PySem.W.HoldAll.cons ⟨_, Reads.int n t⟩ (hold_ints h ns _ rr)
theorem int_at {ns : List Int} {its : List Value} (r : Vals (ns.map V.int) its) {i : Nat} {v : Value} (h : its[i]? = some v) : ∃ k t, ns[i]? = some k ∧ v = .int k t := by
  induction ns generalizing its i with
  | nil =>
    cases r
    simp at h
  | cons n ns ih =>
    cases r with
    | cons r1 rr =>
      obtain ⟨t, rfl⟩ := r1
      cases i with
      | zero => exact ⟨n, t, rfl, by simpa using h.symm⟩
      | succ i => exact ih rr (by simpa using h)
theorem c_maxD (calm : X.calm = true) (hu : X.A.units + 64 < cLine) : CallRK X (.builtin "max") ["default"] (rMaxD X.K) := by
  intro pins s σ H vs zs us ws Q I r rz ⟨a, ns, d, e1, e2, hs, q0, q1⟩
  subst e1 e2
  obtain ⟨its, rv, hl, _⟩ := I.list hs
  rw [Vals.ref1 r]
  cases rz with
  | cons r1 rr =>
    cases rr
    obtain ⟨t, rfl⟩ := r1
    have hdp : PySem.W.Datum.depth Int ≤ 50 := by decide
    refine PySem.W.max_list_datum_default (d := .int d t) (xs := ns) (I.ok.hd calm) hl.isList (by simpa using hold_ints s.heap ns its rv) (by omega) (fun e h' tk hk => ?_) fun y ys i v h' tk e hi hv hk => ?_
    · exact ⟨.int d, H, I.kept (t' := tk) hk, ⟨_, rfl⟩, q0 e⟩
    · obtain ⟨k, t', hk', rfl⟩ := int_at rv (by simpa using hi)
      have ek : k = PySem.W.maxOf y ys := by
        obtain ⟨as, ra⟩ := hv
        cases ra
        rfl
      refine ⟨.int k, H, I.kept (t' := tk) hk, ⟨_, rfl⟩, q1 k (List.mem_of_getElem? hk') fun z hz => ?_⟩
      rw [ek]
      exact maxOf_ge ys y z (by rw [← e]; exact hz)
end
/-! ### fields, methods, makings -/
/-- a class as the top has left it, with the names of its fields -/
structure Kl (K : PySem.W.Frag) (mg : Str → Option Value) (x : Str) (C : Addr) (as : List Str) : Prop where
  g : mg x = some (.ref C)
  cl : Cls K C
  na : ∀ f ∈ as, NoAttr K C f
/-- a method -/
structure DfM (K : PySem.W.Frag) (C : Addr) (m qual : Str) (st : Stmt) (ps : List Str) (f : Addr) (fd : FuncData) : Prop where
  fn : Fun K m qual st f fd
  b : Binds K fd ps []
  m : Meth K C m f
def rFld (K : PySem.W.Frag) (f : Str) (x : V) (H : Hp) (Q : VK) : Prop := ∃ a C dx fs v, x = .ref a ∧ H a = some (.ins C dx fs) ∧ Cls K C ∧ NoAttr K C f ∧ fs.lookup f = some v ∧ Q v H
def rFldS (K : PySem.W.Frag) (f : Str) (x y : V) (H : Hp) (R : Hp → Prop) : Prop := ∃ a C dx fs, x = .ref a ∧ H a = some (.ins C dx fs) ∧ Cls K C ∧ NoAttr K C f ∧ fs.length < 1000 ∧ R (upd H a (.ins C dx (putF f y fs)))
def rMeth (C : Addr) (m : Str) (x : V) (H : Hp) (A : Prop) : Prop := ∃ a dx fs, x = .ref a ∧ H a = some (.ins C dx fs) ∧ fs.lookup m = none ∧ A
def rMake (C : Addr) (sp : Sp) (vs : List V) (H : Hp) (Q : VK) (E : XK) : Prop := ∀ x dx, H x = none → H dx = none → dx ≠ x → sp (.ref x :: vs) (upd (upd H dx (.own x)) x (.ins C dx [])) (fun v H2 => v = .non ∧ Q (.ref x) H2) E
section
variable {K : PySem.W.Frag} {σ : L2.St} {H : Hp} {Q : VK} {nx bk ct : L2.St → Hp → Prop} {rt : VK} {v : V}
theorem w_fld {ta : TE} {f : Str} (h : ta σ H fun x H1 => rFld K f x H1 Q) : tFld K ta f σ H Q := h
theorem w_fld' {f : Str} {a C dx : Addr} {fs : List (Str × V)} (h1 : H a = some (.ins C dx fs)) (h2 : Cls K C) (h3 : NoAttr K C f) (h4 : fs.lookup f = some v) (h : Q v H) : rFld K f (.ref a) H Q := ⟨a, C, dx, fs, v, rfl, h1, h2, h3, h4, h⟩
theorem w_fldS {ta tv : TE} {f : Str} (h : tv σ H fun y H1 => ta σ H1 fun x H2 => rFldS K f x y H2 fun H3 => nx σ H3) : sFld K ta tv f ⟨nx, rt, bk, ct⟩ σ H := h
theorem w_seqFS {ta tv : TE} {f : Str} {u : TS} (h : tv σ H fun y H1 => ta σ H1 fun x H2 => rFldS K f x y H2 fun H3 => u ⟨nx, rt, bk, ct⟩ σ H3) : tSeq (sFld K ta tv f) u ⟨nx, rt, bk, ct⟩ σ H := h
theorem w_fldS' {f : Str} {a C dx : Addr} {fs : List (Str × V)} {R : Hp → Prop} (h1 : H a = some (.ins C dx fs)) (h2 : Cls K C) (h3 : NoAttr K C f) (h4 : fs.length < 1000) (h : ∀ H1, H1 a = some (.ins C dx (putF f v fs)) → Off a H H1 → R H1) : rFldS K f (.ref a) v H R :=
  ⟨a, C, dx, fs, rfl, h1, h2, h3, h4, h _ upd_same fun x hx => upd_ne hx⟩
theorem w_meth {C : Addr} {m : Str} {sp : Sp} {E : XK} {ta : TE} {t : TA} (h : ta σ H fun x H1 => rMeth C m x H1 (t σ H1 fun vs H2 => sp (x :: (vs ++ [])) H2 Q E)) : tMeth C m sp [] E ta t σ H Q := by
  unfold tMeth
  exact h
theorem w_meth' {C a dx : Addr} {m : Str} {fs : List (Str × V)} {A : Prop} (h1 : H a = some (.ins C dx fs)) (h2 : fs.lookup m = none) (h : A) : rMeth C m (.ref a) H A := ⟨a, dx, fs, rfl, h1, h2, h⟩
theorem w_make {C : Addr} {sp : Sp} {E : XK} {t : TA} (h : t σ H fun vs H1 => rMake C sp (vs ++ []) H1 Q E) : tMake C sp [] E t σ H Q := h
theorem w_make' {C : Addr} {sp : Sp} {vs : List V} {E : XK} (h : ∀ x dx H1, H x = none → H dx = none → dx ≠ x → H1 x = some (.ins C dx []) → Same H H1 → sp (.ref x :: vs) H1 (fun v H2 => v = .non ∧ Q (.ref x) H2) E) : rMake C sp vs H Q E := fun x dx hx hd hne =>
  h x dx _ hx hd hne upd_same fun b o e => by
    rw [upd_ne (ne_of_none e hx), upd_ne (ne_of_none e hd)]
    exact e
theorem w_maxD {r : List V → List V → Hp → VK → Prop} {t tk : TA} (h : t σ H fun vs H1 => tk σ H1 fun zs H2 => r vs zs H2 Q) : tCKw r t tk σ H Q := h
theorem w_maxD' {a : Addr} {ns : List Int} {d : Int} (h1 : SqL K H a (ns.map V.int)) (h0 : ns = [] → Q (.int d) H) (h : ∀ m, m ∈ ns → (∀ y ∈ ns, y ≤ m) → Q (.int m) H) : rMaxD K [.ref a] [.int d] H Q := ⟨a, ns, d, rfl, rfl, h1, h0, h⟩
end
theorem pe_fldK {X : Cx} {K : PySem.W.Frag} {e : Expr} {f : Str} {pos : Pos} {ta : TE} (hk : X.K = K) (he : PE X e ta) (hb : attributeBase e f X.env (eval e X.env) = eval e X.env) : PE X (.Attribute e f pos) (tFld K ta f) := by
  subst hk
  exact pe_fld he hb
end FW

set_option Elab.async false
set_option linter.all false
set_option maxRecDepth 100000
set_option maxHeartbeats 4000000
/-! l[::-1] of a list; set of a tuple of ints; two promises of one def -/
namespace FW
open PySem PySem.Spec PyProof.Rows L2
theorem pick_back (its : List Value) : slicePick its.toArray none none (some (-1)) = its.reverse.toArray := by
  have e1 : sliceBounds none none (some (-1)) its.toArray.size = ((its.length : Int) - 1, -1, -1) := by
    unfold sliceBounds
    rw [List.size_toArray]
    rfl
  unfold slicePick
  rw [e1]
  congr 1
  show List.filterMap (fun i => its.toArray[i]?) (sliceRange ((its.length : Int) - 1) (-1) (-1)) = its.reverse
  rw [← HT.rev_map]
  have e2 : sliceRange ((its.length : Int) - 1) (-1) (-1) = (List.range its.length).map fun (m : Nat) => (((its.length : Nat) : Int) - 1 + (m : Int) * (-1)).toNat := by
    unfold sliceRange
    have g1 : ¬ ((-1 : Int) > 0) := by decide
    simp only [g1, if_false]
    by_cases h0 : its.length = 0
    · rw [h0]; rfl
    · have e3 : (((its.length : Int) - 1 - -1 - -1 - 1) / - -1) = (its.length : Int) := by
        rw [show (- -1 : Int) = 1 by decide, Int.ediv_one]; omega
      rw [if_pos (by omega), e3, Int.toNat_natCast]
      refine List.map_congr_left fun k _ => ?_
      congr 1
      omega
  rw [e2, List.filterMap_map]
  congr 1
  funext m
  show its.toArray[_]? = its[_]?
  rw [List.getElem?_toArray]
def rRevL (K : PySem.W.Frag) (x z : V) (H : Hp) (Q : VK) : Prop := ∃ (a : Addr) (xs : List V), x = .ref a ∧ z = .int (-1) ∧ SqL K H a xs ∧ Nw (.lst xs.reverse) H Q
def tRevL (K : PySem.W.Frag) (te ts : TE) : TE := fun σ H Q => te σ H fun x H1 => ts σ H1 fun z H3 => rRevL K x z H3 Q
section
variable {X : Cx}
theorem pe_revL {e st : Expr} {te ts : TE} {p2 pos : Pos} (he : PE X e te) (hst : PE X st ts) : PE X (.Subscript e (.Slice none none (some st) p2) pos) (tRevL X.K te ts) := by
  refine ⟨fun pins s σ H Q I h => Subscript_ (thn (he.run pins s σ H _ I h) fun v s1 ⟨x, H1, I1, r1, q1⟩ => ?_)⟩
  refine wpAny_Slice ?_
  rw [evalPart_none]
  refine wpAny_pure ?_
  refine wpAny_pure ?_
  refine thn (hst.run pins s1 σ H1 _ I1 q1) fun vs s3 ⟨z, H3, I3, r3, a, xs, ex, ez, hx, g2⟩ => ?_
  subst ex ez
  cases r1
  obtain ⟨t2, rfl⟩ := r3
  have J : Inv X pins σ H3 { s3 with heap := s3.heap.push { cls := .type "slice", data := .fields #[.none, .none, .int (-1 : Int) t2] } } := I3.kept (t' := s3.toks) fun b ob q => Heap.get?_push_of_some _ q
  obtain ⟨its, r, isL, hz⟩ := J.list hx
  have hlen := r.length
  show wpAny (model X.prog X.w) X.A (subscriptTail e (.Slice none none (some st) p2) (.ref a) (.ref s3.heap.objs.size)) (EP X pins σ Q) X.xe _
  refine tail_any (ops := [.ref a, .ref s3.heap.objs.size]) isL.isList.typeIs slot_list_getitem.lookup ?_ (by with_unfolding_all rfl)
  refine wpAny_getItem_list_slice isL.isList (Heap.IsSliceOf.new _ _ _ _) .none .none (.int _ t2) (by decide) ?_ (by rw [List.size_toArray] <;> omega)
  rw [pick_back]
  refine ⟨.ref _, _, J.laid (t' := s3.toks) (o := .lst xs.reverse) (fun b ob q => Heap.get?_push_of_some _ q) (Nat.le_refl _) ?_, rfl, g2 _ (J.hok.fresh (Nat.le_refl _))⟩
  exact ⟨by rw [List.length_reverse]; exact hz, _, 0, vals_rev r, Heap.get?_push_size _ rfl⟩
end
def rSetT (K : PySem.W.Frag) (w : World) (vs : List V) (H : Hp) (Q : VK) : Prop := ∃ (l : Addr) (ns : List Int), vs = [.ref l] ∧ SqT K H l (ns.map V.int) ∧ ns.length ≤ 4000 ∧ ∀ (p : Addr) (c : Nat), H p = none → c ≤ ns.length → Q (.ref p) (upd H p (SetO w p (fun j => decide (j ∈ ns)) c))
section
variable {K : PySem.W.Frag} {w : World} {σ : L2.St} {H : Hp} {Q : VK}
theorem w_revL {te ts : TE} (h : te σ H fun x H1 => ts σ H1 fun z H3 => rRevL K x z H3 Q) : tRevL K te ts σ H Q := h
theorem w_revL' {a : Addr} {xs : List V} (h1 : H a = some (.lst xs)) (h : ∀ p H1, H p = none → H1 p = some (.lst xs.reverse) → Same H H1 → Q (.ref p) H1) : rRevL K (.ref a) (.int (-1)) H Q := ⟨a, xs, rfl, rfl, .of h1, w_new h⟩
end
theorem FnOk.or {P : Program} {w : World} {K : PySem.W.Frag} {mg : Str → Option Value} {base : Heap} {CX : CXT} {k : Nat} {f : Addr} {fd : FuncData} {ps : List Str} {sp sp' : Sp} (F : FnOk P w K mg base CX k f fd ps sp) (G : FnOk P w K mg base CX k f fd ps sp') : FnOk P w K mg base CX k f fd ps (fun vs H Q E => sp vs H Q E ∨ sp' vs H Q E) :=
  ⟨fun vs H Q E q => q.elim (F.len vs H Q E) (G.len vs H Q E), fun A outer s H args us vs Q E hr he hb hv hs => hs.elim (F.run A outer s H args us vs Q E hr he hb hv) (G.run A outer s H args us vs Q E hr he hb hv)⟩
end FW

set_option Elab.async false
set_option linter.all false
set_option maxRecDepth 100000
set_option maxHeartbeats 4000000
/-! d.items() of a dict of texts and ints, and sorted of it -/
namespace FW
open PySem PySem.Spec PyProof.Rows L2
def rItemsK : V → List V → Hp → VK → Prop := fun x xs H Q => ∃ (a : Addr) (kvs : List (Key × V)), x = .ref a ∧ xs = [] ∧ H a = some (.dK kvs) ∧ ∀ p, H p = none → Q (.ref p) (upd H p (L2.DX.itemsO p a))
theorem mt_itemsK {X : Cx} : MtR X "dict.items" rItemsK := by
  intro pins s σ H x xs v us Q I rx rxs h
  obtain ⟨a, kvs, rfl, rfl, ha, q⟩ := h
  cases rx
  cases rxs
  obtain ⟨z, lo, vs, rel, dd⟩ := dk_of I.hok ha
  refine call_meetsIn PySem.F.slot_dict_items dd.typeIs PySem.F.entry_dict_items (PySem.F.args_dict_items_1 _) (meets_dict_items (mixKind X.prog X.w) a lo) ⟨⟨vs, dd⟩, ?_⟩
  have hf : H s.heap.objs.size = none := I.hok.fresh (Nat.le_refl _)
  exact ⟨.ref s.heap.objs.size, upd H s.heap.objs.size (L2.DX.itemsO s.heap.objs.size a), I.laid (t' := s.toks) (fun b u e => Heap.get?_push_of_some _ e) (Nat.le_refl _) (L2.DX.itemsO_ok (Heap.get?_push_size _ rfl)), rfl, q _ hf⟩
/-! ### the order of pairs of a text and an int -/
abbrev TI := Addr × Str × Int
def encTI (b : TI) : PyData := .tuple [.str b.2.1, .int b.2.2]
abbrev txLt (x y : Str) : Prop := x.cps.toList < y.cps.toList
theorem eqv_strs (x y : Str) : PyData.eqv (.str x) (.str y) = true ↔ x = y := by
  simp [PyData.eqv]
theorem le_TI (a b : TI) : PySem.W.dataLe false encTI a b = !(decide (txLt b.2.1 a.2.1) || (decide (a.2.1 = b.2.1) && decide (b.2.2 < a.2.2))) := by
  show (!PySem.W.dataLt (encTI b) (encTI a)) = _
  unfold encTI
  rw [PySem.W.dataLt_pair (by simp [PySem.W.alike]) (by simp [PySem.W.alike]), PySem.W.dataLt_str, PySem.W.dataLt_int]
  by_cases h : b.2.1 = a.2.1
  · rw [if_pos ((eqv_strs _ _).mpr h)]
    have h1 : ¬ txLt b.2.1 a.2.1 := by rw [h]; exact List.lt_irrefl _
    have h2 : a.2.1 = b.2.1 := h.symm
    rw [decide_eq_false h1, decide_eq_true h2]
    simp only [PyData.eqv, beq_iff_eq, Bool.false_or, Bool.true_and]
    by_cases e : b.2.2 = a.2.2
    · rw [if_pos e, decide_eq_false (by omega)]
    · rw [if_neg e]
  · rw [if_neg (fun z => h ((eqv_strs _ _).mp z))]
    have h2 : ¬ a.2.1 = b.2.1 := fun e => h e.symm
    rw [decide_eq_false h2, Bool.false_and, Bool.or_false]
theorem tx_tri {x y : Str} (h : ¬ txLt x y) : txLt y x ∨ x = y := by
  by_cases h2 : txLt y x
  · exact .inl h2
  · exact .inr (PySem.W.str_of_cps (List.le_antisymm (List.not_lt.mp h2) (List.not_lt.mp h)))
theorem le_TI_iff (a b : TI) : PySem.W.dataLe false encTI a b = true ↔ (txLt a.2.1 b.2.1 ∨ (a.2.1 = b.2.1 ∧ a.2.2 ≤ b.2.2)) := by
  rw [le_TI]
  simp only [Bool.not_eq_true', Bool.or_eq_false_iff, decide_eq_false_iff_not, Bool.and_eq_false_iff]
  constructor
  · rintro ⟨h1, h2⟩
    rcases tx_tri h1 with h | h
    · exact .inl h
    · right
      refine ⟨h.symm, ?_⟩
      rcases h2 with h2 | h2
      · exact absurd h.symm h2
      · omega
  · rintro (h | ⟨h1, h2⟩)
    · refine ⟨List.lt_asymm h, .inl fun e => ?_⟩
      rw [e] at h
      exact List.lt_irrefl _ h
    · refine ⟨?_, .inr (by omega)⟩
      rw [h1]
      exact List.lt_irrefl _
theorem totTI : PySem.W.TotalLe (PySem.W.dataLe false encTI) where
  trans a b c h1 h2 := by
    rw [le_TI_iff] at *
    rcases h1 with h1 | ⟨h1, g1⟩
    · rcases h2 with h2 | ⟨h2, g2⟩
      · exact .inl (List.lt_trans h1 h2)
      · exact .inl (h2 ▸ h1)
    · rcases h2 with h2 | ⟨h2, g2⟩
      · exact .inl (h1 ▸ h2)
      · exact .inr ⟨h1.trans h2, by omega⟩
  total a b := by
    rw [le_TI_iff, le_TI_iff]
    by_cases h : txLt a.2.1 b.2.1
    · exact .inl (.inl h)
    · rcases tx_tri h with h | h
      · exact .inr (.inl h)
      · by_cases g : a.2.2 ≤ b.2.2
        · exact .inl (.inr ⟨h, g⟩)
        · exact .inr (.inr ⟨h.symm, by omega⟩)
theorem sorted_TI {bs : List TI} (nd : (bs.map (·.2.1)).Nodup) : (bs.mergeSort (PySem.W.dataLe false encTI)).Pairwise (fun x y => txLt x.2.1 y.2.1) := by
  have h := PySem.W.sort_pairwise totTI bs
  have hp := List.mergeSort_perm bs (PySem.W.dataLe false encTI)
  have nd2 : ((bs.mergeSort (PySem.W.dataLe false encTI)).map (·.2.1)).Nodup := ((hp.map (·.2.1)).nodup_iff).mpr nd
  unfold List.Nodup at nd2
  rw [List.pairwise_map] at nd2
  refine (h.and nd2).imp fun {x y} ⟨h1, h2⟩ => ?_
  rcases (le_TI_iff _ _).mp h1 with h | ⟨h, _⟩
  · exact h
  · exact absurd h h2
/-! ### the tuples laid -/
def kvTI (qs : List (Str × Int)) : List (Key × V) := qs.map fun q => ((Sum.inr q.1 : Key), V.int q.2)
theorem tups_laid {X : Cx} {pins : List (Addr × Obj)} {σ : L2.St} {H : Hp} {s : Shared} {h' : Heap} {tk : Nat} {kvs : List (Key × V)} {vs : List (Key × Value)} {as : List Addr} (I : Inv X pins σ H s) (kv : KV kvs vs)
    (hk : ∀ b o, s.heap.get? b = some o → h'.get? b = some o) (hl : as.length = vs.length) (hG : PySem.W.KdxG (mixKind X.prog X.w) vs s.heap.objs.size h' as) :
    (∀ t ∈ as, H t = none) ∧ (∀ b o, H b = some o → LiI.putT H as kvs b = some o) ∧ Paired (fun (t : Addr) (q : Key × V) => LiI.putT H as kvs t = some (.tup [kV q.1, q.2])) as kvs ∧ Inv X pins σ (LiI.putT H as kvs) { s with heap := h', toks := tk } := by
  have lk : kvs.length = vs.length := Paired.length kv
  have nd : as.Nodup := List.Pairwise.imp (fun {a b} (h : a < b) => Nat.ne_of_lt h) hG.rise
  have new : ∀ t ∈ as, H t = none := fun t ht => I.hok.fresh (Nat.le_of_lt (hG.above t ht))
  have atP := LiI.putT_at as kvs H (by omega) nd
  have off : ∀ b, b ∉ as → LiI.putT H as kvs b = H b := fun b h1 => LiI.putT_off as kvs _ h1
  have kp : ∀ b u, H b = some u → (LiI.putT H as kvs) b = some u := fun b u e => by
    rw [off b (fun z => by rw [new b z] at e; cases e)]
    exact e
  refine ⟨new, kp, atP, ?_⟩
  refine I.call' (ch := []) rfl ⟨fun b o q _ _ _ => hk b o q, fun b o q _ _ _ => ⟨o.slots, hk b o q⟩, fun b o q n _ => ?_, fun b o q _ => ⟨o, hk b o q⟩, fun b xs q => kp b _ q, fun b o u q => kp b _ q, fun b ps q => ⟨#[], by rw [kp b _ q]; simp⟩⟩ (fun b u q => ?_) I.bare fun b z => by simp at z
  · rw [off b fun z => absurd (Heap.lt_size q) (Nat.not_lt.mpr (Nat.le_of_lt (hG.above b z)))]
    exact n
  · by_cases hb : b ∈ as
    · obtain ⟨j, pk, e1, e2, e3⟩ := LiI.paired_ix atP hb
      rw [e3] at q
      cases q
      obtain ⟨key, k, x, f1, f2, f3⟩ := hG.pairs j b e1
      obtain ⟨qv, g1, g2, g3⟩ := LiI.paired_get kv e2
      rw [f1] at g1
      cases g1
      have rk : RelV (kV pk.1) key := by
        rw [g2]
        exact relV_key (show keyIs k key = true from f2)
      exact ⟨by show 2 ≤ sizeLine; decide, [key, x], .cons rk (.cons g3 .nil), ⟨_, f3, rfl, _, rfl⟩⟩
    · rw [off b hb] at q
      exact (I.hok b u q).stay (fun d v _ y => hk d v y) (fun d y => kp d _ y) fun d xs y => kp d _ y
def rSortI (vs : List V) (H : Hp) (Q : VK) : Prop := ∃ (a d : Addr) (qs : List (Str × Int)), vs = [.ref a] ∧ H a = some (L2.DX.itemsO a d) ∧ H d = some (.dK (kvTI qs)) ∧ (qs.map (·.1)).Nodup ∧
  ∀ (H' : Hp) (p : Addr) (ts : List TI), (∀ b o, H b = some o → H' b = some o) → H p = none → H' p = some (.lst (ts.map fun t => .ref t.1)) → (∀ t ∈ ts, H' t.1 = some (.tup [.str t.2.1, .int t.2.2])) → (ts.map (·.2)).Perm qs → ts.Pairwise (fun x y => txLt x.2.1 y.2.1) → Q (.ref p) H'
theorem each_refs {out : List Value} {bs : List TI} (h : PySem.W.EachIs (fun v (b : TI) => v = Value.ref b.1) out bs) : out = bs.map fun b => Value.ref b.1 := by
  induction h with
  | nil => rfl
  | cons h1 _ ih => rw [h1, ih]; rfl
theorem zip_map2 {as : List Addr} {qs : List (Str × Int)} (h : as.length = qs.length) : (as.zip qs).map (·.2) = qs := List.map_snd_zip (by omega)
theorem c_sortI {X : Cx} (hcalm : X.calm = true) (hu : X.A.units + 64 < cLine) : CallR X (.builtin "sorted") rSortI := by
  intro pins s σ H xs us Q I r ⟨a, d, qs, ex, hv, hd, nd, q⟩
  subst ex
  obtain ⟨u, eu, rx⟩ := vals1 r
  subst eu
  cases rx
  obtain ⟨z, lo, vs, rel, dd⟩ := dk_of I.hok hd
  obtain ⟨ep, hat⟩ := dd.dictAt
  obtain ⟨hview, _, _⟩ : ObjOk X.prog X.w H s.heap a (L2.DX.itemsO a d) := I.hok a _ hv
  have lk : (kvTI qs).length = vs.length := Paired.length rel
  have lq : (kvTI qs).length = qs.length := List.length_map ..
  refine Calls.call_function_entry kind_sorted plain_sorted entry_sorted (args_sorted1 _) ?_
  unfold Builtin.«sorted»
  refine wpAny_bind (m := checkCount "sorted" 1 1 _) (wpAny_pure ?_)
  refine wpAny_bind (PySem.W.kdx_collect (A := X.A.in1) (knd := mixKind X.prog X.w) (kvs := vs) (ep := ep) (I.ok.hd hcalm) hview hat (by omega) fun h' tk as hk hl hG => ?_)
  obtain ⟨new, kp, atP, I1⟩ := tups_laid (tk := tk) I rel hk hl hG
  have hz : (as.map Value.ref).length ≤ sizeLine := by rw [List.length_map]; omega
  refine wpAny_bind (wpAny_newList ?_ hz)
  have hoL : (h'.push (seqObj "list" (as.map Value.ref).toArray 0)).get? h'.objs.size = some (seqObj "list" (as.map Value.ref).toArray 0) := Heap.get?_push_size _ rfl
  have hlz : as.length = qs.length := by omega
  have e0 : (as.zip qs).map (fun b : TI => Value.ref b.1) = as.map Value.ref := by
    rw [← List.map_fst_zip (l₁ := as) (l₂ := qs) (by omega), List.map_map]
    rw [List.map_fst_zip (by omega)]
    rfl
  have eR : PySem.W.EachIs (fun v (b : TI) => v = Value.ref b.1) (as.map Value.ref) (as.zip qs) := by
    rw [← e0]
    generalize (as.zip qs : List TI) = l
    induction l with
    | nil => exact .nil
    | cons b l ih => exact .cons rfl ih
  have rd : ∀ b ∈ (as.zip qs : List TI), ∃ ws, Reads (h'.push (seqObj "list" (as.map Value.ref).toArray 0)) (.ref b.1) (encTI b) ws ∧ h'.objs.size ∉ ws := by
    intro b hb
    obtain ⟨j, hj⟩ := List.mem_iff_getElem?.mp hb
    obtain ⟨j1, j2⟩ := List.getElem?_zip_eq_some.mp hj
    obtain ⟨key, k, x, f1, f2, f3⟩ := hG.pairs j b.1 j1
    obtain ⟨qv, g1, g2, g3⟩ := LiI.paired_get rel (i := j) (x := ((Sum.inr b.2.1 : Key), V.int b.2.2)) (by unfold kvTI; rw [List.getElem?_map, j2]; rfl)
    rw [f1] at g1
    cases g1
    obtain ⟨t2, rfl⟩ := g3
    rcases keyIs_shape (show keyIs k key = true from f2) with ⟨i, t, ek, ev⟩ | ⟨y, t, ek, ev⟩
    · rw [ek] at g2
      cases g2
    · rw [ek] at g2
      cases g2
      rw [ev] at f3
      exact ⟨_, .tuple (Heap.get?_push_of_some _ f3) rfl rfl (.cons (.str _ _) (.cons (.int _ _) .nil)), by simp⟩
  have er : PySem.W.EachIs (fun v (b : TI) => ∃ ws, Reads (h'.push (seqObj "list" (as.map Value.ref).toArray 0)) v (encTI b) ws ∧ h'.objs.size ∉ ws) (as.map Value.ref) (as.zip qs) :=
    (PySem.W.each_mem eR).mono fun v b ⟨h1, h2⟩ => by
      rw [h1]
      exact rd b h2
  have hal : PySem.W.AllAlike ((as.zip qs : List TI).map encTI) := PySem.W.AllAlike.of fun b b' => by simp [encTI, PySem.W.alike, PySem.W.alikeAll]
  have hso : PySem.W.Sortable ((as.zip qs : List TI).map encTI) := PySem.W.Sortable.tuples fun b => ⟨_, _, rfl⟩
  have lz : (as.zip qs : List TI).length = qs.length := by rw [List.length_zip]; omega
  show wpAny _ _ _ _ _ { s with heap := h'.push (seqObj "list" (as.map Value.ref).toArray 0), toks := tk }
  refine wpAny_bind (wpAny_holding (PySem.W.list_sort_data (s := { s with heap := h'.push (seqObj "list" (as.map Value.ref).toArray 0), toks := tk }) (R := fun v (b : TI) => v = Value.ref b.1) (enc := encTI) (bs := as.zip qs) hoL eR er hal hso (by rw [lz]; omega) (fun b _ => ?_) fun out ho eo => ?_))
  · have : (encTI b).depth ≤ 8 := by
      show PyData.depthAll [.str b.2.1, .int b.2.2] + 1 ≤ 8
      simp only [PyData.depthAll, PyData.depth]
      decide
    show X.A.in1.units + 1 + (encTI b).depth < cLine
    have e : X.A.in1.units = X.A.units + 1 := rfl
    omega
  · have eo' := each_refs eo
    subst eo'
    generalize hts : (as.zip qs : List TI).mergeSort (PySem.W.dataLe false encTI) = ts
    have hp : ts.Perm (as.zip qs) := by rw [← hts]; exact List.mergeSort_perm _ _
    have hsrt : ts.Pairwise (fun x y => txLt x.2.1 y.2.1) := by
      rw [← hts]
      refine sorted_TI ?_
      have : (as.zip qs : List TI).map (·.2.1) = qs.map (·.1) := by
        have e : (as.zip qs : List TI).map (·.2.1) = ((as.zip qs : List TI).map (·.2)).map (·.1) := by rw [List.map_map]; rfl
        rw [e, zip_map2 hlz]
      rw [this]
      exact nd
    obtain ⟨e', he'⟩ := sortedHeap_at (vs := as.map Value.ref) (out := (ts.map fun b => Value.ref b.1).toArray) hoL
    have lts : ts.length = qs.length := by rw [hp.length_eq, lz]
    have hf1 : LiI.putT H as (kvTI qs) h'.objs.size = none := I1.hok.fresh (Nat.le_refl _)
    have hf0 : H h'.objs.size = none := by
      cases e : H h'.objs.size with
      | none => rfl
      | some o => rw [kp _ _ e] at hf1; cases hf1
    have vts : Vals ((ts.map fun t => V.ref t.1) : List V) (ts.map fun b => Value.ref b.1) := by
      generalize ts = l
      induction l with
      | nil => exact .nil
      | cons b l ih => exact .cons rfl ih
    have hlen : ((ts.map fun t => V.ref t.1) : List V).length ≤ sizeLine := by rw [List.length_map]; omega
    refine wpAny_pure ⟨_, rfl, .ref h'.objs.size, upd (LiI.putT H as (kvTI qs)) h'.objs.size (.lst (ts.map fun t => V.ref t.1)), I1.laid (t' := tk) (fun b u e => ?_) (Nat.le_refl _) (show ObjOk X.prog X.w _ _ _ (.lst (ts.map fun t => V.ref t.1)) from ⟨hlen, _, e', vts, he'⟩), rfl, q _ _ ts (fun b o e => ?_) hf0 upd_same (fun t ht => ?_) ?_ hsrt⟩
    · have hb : b < h'.objs.size := Heap.lt_size e
      rw [sortedHeap_old (Nat.ne_of_lt hb) (by rw [size_push']; exact Nat.lt_succ_of_lt hb)]
      exact Heap.get?_push_of_some _ e
    · rw [upd_ne (fun z => by rw [z, hf0] at e; cases e)]
      exact kp b o e
    · have hm := hp.mem_iff.mp ht
      obtain ⟨j, hj⟩ := List.mem_iff_getElem?.mp hm
      obtain ⟨j1, j2⟩ := List.getElem?_zip_eq_some.mp hj
      obtain ⟨y, y1, y2⟩ := LiI.paired_get atP j1
      unfold kvTI at y1
      rw [List.getElem?_map, j2] at y1
      have y3 := Option.some.inj y1
      subst y3
      rw [upd_ne (fun z => by rw [z, hf1] at y2; cases y2)]
      exact y2
    · have := hp.map (·.2)
      rwa [zip_map2 hlz] at this
theorem w_sortI {H : Hp} {Q : VK} {a d : Addr} {qs : List (Str × Int)} (hv : H a = some (L2.DX.itemsO a d)) (hd : H d = some (.dK (kvTI qs))) (nd : (qs.map (·.1)).Nodup)
    (h : ∀ (H' : Hp) (p : Addr) (ts : List TI), Same H H' → H p = none → H' p = some (.lst (ts.map fun t => .ref t.1)) → (∀ t ∈ ts, H' t.1 = some (.tup [.str t.2.1, .int t.2.2])) → (ts.map (·.2)).Perm qs → ts.Pairwise (fun x y => txLt x.2.1 y.2.1) → Q (.ref p) H') : rSortI [.ref a] H Q := ⟨a, d, qs, rfl, hv, hd, nd, h⟩
theorem w_itemsK {H : Hp} {Q : VK} {a : Addr} {kvs : List (Key × V)} (ha : H a = some (.dK kvs)) (h : ∀ p H1, H p = none → H1 p = some (L2.DX.itemsO p a) → Same H H1 → Q (.ref p) H1) : rItemsK (.ref a) [] H Q := ⟨a, kvs, rfl, rfl, ha, fun p hp => h p _ hp upd_same (Same.new hp)⟩
end FW

set_option Elab.async false
set_option linter.all false
set_option maxRecDepth 100000
set_option maxHeartbeats 4000000
/-! a def of an own class called through the class: C.m(x, ..) -/
namespace FW
open PySem PySem.Spec PyProof.Rows L2
/-- a class's reading, with the names of fields, whatever its name -/
structure Kf (K : PySem.W.Frag) (C : Addr) (as : List Str) : Prop where
  cl : Cls K C
  na : ∀ f ∈ as, NoAttr K C f
def tClsF (C : Addr) (sp : Sp) (dvs : List V) (E : XK) (ta : TE) (t : TA) : TE := fun σ H Q => ta σ H fun x H1 => x = .ref C ∧ t σ H1 fun vs H2 => sp (vs ++ dvs) H2 Q E
theorem pe_clsF {X : Cx} {CX : CXT} {k : Nat} {C f : Addr} {fd : FuncData} {ps : List Str} {mc : Value} {sp : Sp} {E : XK} {o e : Expr} {es : List Expr} {m : Str} {pos apos : Pos} {ta : TE} {t : TA} {pl : Sem Bool} {ds : List Value} {dvs : List V}
    (he : PE X o ta) (r : ClX.CRead X.K C mc) (c : ClX.CVal X.K C mc m (.ref f) (.ref f)) (hk : PySem.W.keepIn X.K (.ref f) = true) (F : FnOk X.prog X.w X.K X.mg X.base CX k f fd ps sp) (hr : Room k X.A) (hb : Binds X.K fd ps ds) (hd : Vals dvs ds) (hx : Passes CX X E) (ha : PA X (e :: es) t)
    (hst : starEach (e :: es) X.env = (false, eval e X.env) :: starEach es X.env := by rfl) (hpl : (backTo pos (starEach es X.env)).any (·.1) = false := by rfl)
    (ht : eval (.Call (.Attribute o m apos) (e :: es) [] pos) X.env = (do
      let ov ← eval o X.env
      standAt apos.atName
      let (f, first) ← holding [ov] (getMethod ov m pl)
      callWith pos f first (backTo pos (starEach (e :: es) X.env)) (backToKw pos (keywordEach [] X.env))) := by rfl) :
    PE X (.Call (.Attribute o m apos) (e :: es) [] pos) (tClsF C sp dvs E ta t) := by
  refine ⟨fun pins s σ H Q I h => ?_⟩
  refine PySem.W.methodCall_KW (pl := pl) (thn (he.run pins s σ H _ I h) fun u s1 ⟨x, H1, I1, rx, ex, q⟩ => ?_) ht
  subst ex
  obtain rfl : u = Value.ref C := rx
  refine PySem.W.method_cls I1.kIn r.ga (ClX.getcval_ok I1 r c fun s2 I2 => ?_)
  refine PySem.W.callWith_K (h₀ := X.base) I2.ok.mod.kin hk (thn (ha.run pos pins s2 σ H1 _ I2 q) fun us s3 ⟨vs, H2, I3, rv, q2⟩ => ⟨I3.kIn, ?_⟩) hst hpl
  exact run_fn F hr hb hd hx I3 rv q2
theorem w_clsF {σ : L2.St} {H : Hp} {Q : VK} {C : Addr} {sp : Sp} {E : XK} {t : TA} (h : t σ H fun vs H2 => sp (vs ++ []) H2 Q E) : tClsF C sp [] E (tC (.ref C)) t σ H Q := ⟨rfl, h⟩
end FW

set_option Elab.async false
set_option linter.all false
set_option maxRecDepth 100000
set_option maxHeartbeats 4000000
/-! len and str by an own class's defs; != of one object with itself -/
namespace FW
open PySem PySem.Spec PyProof.Rows L2
section
variable {X : Cx} {CX : CXT} {k : Nat} {f C : Addr} {fd : FuncData} {ps : List Str} {sp : Sp} {E : XK}
def rLenO (C : Addr) (sp : Sp) (E : XK) (xs : List V) (H : Hp) (Q : VK) : Prop := ∃ a dx fs, xs = [.ref a] ∧ H a = some (.ins C dx fs) ∧ sp [.ref a] H (fun v H2 => ∃ n : Nat, v = .int (n : Int) ∧ n ≤ 1000000 ∧ Q (.int (n : Int)) H2) E
def rStrO (C : Addr) (sp : Sp) (E : XK) (xs : List V) (H : Hp) (Q : VK) : Prop := ∃ a dx fs, xs = [.ref a] ∧ H a = some (.ins C dx fs) ∧ sp [.ref a] H (fun v H2 => ∃ z : Str, v = .str z ∧ Q (.str z) H2) E
end
def rStrI (xs : List V) (H : Hp) (Q : VK) : Prop := ∃ i, xs = [V.int i] ∧ i.natAbs.log2 < 1920 ∧ Q (.str (toString i)) H
/-! ### one object compared with itself -/
section
variable {M : Model} {prog : Program} {w : World} {A : Around} {E : Value → Shared → Prop} {s : Shared} {K : PySem.W.Frag} {x C : Addr} {ox : Obj} {od : Option Obj}
end
/-- an own class that compares by identity -/
structure EqI (K : PySem.W.Frag) (C : Addr) : Prop where
  mr : PySem.W.mroIn K C (.type "object") = some true
  eq : PySem.W.findIn K (.ref C) "__eq__" = some (some (.builtin "object.__eq__"))
  ne : PySem.W.findIn K (.ref C) "__ne__" = some (some (.builtin "object.__ne__"))
def rNeS (K : PySem.W.Frag) : R2 := fun x y H Q => ∃ a C dx fs, x = .ref a ∧ y = .ref a ∧ H a = some (.ins C dx fs) ∧ EqI K C ∧ Q (.bl false) H
end FW

set_option Elab.async false
set_option linter.all false
set_option maxRecDepth 100000
set_option maxHeartbeats 4000000
/-! f(x, k = v) in a try; for k, v in e.items() of a dict that a call made -/
namespace FW
open PySem PySem.Spec PyProof.Rows L2
section
variable {X : Cx} {CX : CXT} {k n : Nat} {f : Addr} {fd : FuncData} {ps ks : List Str} {sp : Sp} {E : L2.St → XK} {x : Str} {p pos : Pos} {e : Expr} {es : List Expr} {kws : List Keyword} {t tk : TA} {g : List Value → List Value → List Value} {gV : List V → List V → List V}
def tCallNS (n m : Nat) (sp : Sp) (gV : List V → List V → List V) (E : L2.St → XK) (t tk : TA) : TE := fun σ H Q => t σ H fun vs H1 => tk σ H1 fun zs H2 => vs.length = n ∧ zs.length = m ∧ sp (gV vs zs) H2 Q (E σ)
theorem run_fnNS {pins : List (Addr × Obj)} {σ : L2.St} {H : Hp} {s : Shared} {Q : VK} {us ws : List Value} {vs zs : List V} (F : FnOk X.prog X.w X.K X.mg X.base CX k f fd ps sp) (hr : Room k X.A) (hb : KBn X.K fd ps n ks g gV) (hx : PassesAt CX X σ (E σ))
    (I : Inv X pins σ H s) (r : Vals vs us) (rz : Vals zs ws) (l1 : vs.length = n) (l2 : zs.length = ks.length) (h : sp (gV vs zs) H Q (E σ)) : wpAny (model X.prog X.w) X.A (call (.ref f) us (ks.zip ws)) (EP X pins σ Q) X.xe s := by
  have r2 := hb.rel r rz
  refine wpAny_call (codeAny_mono (F.run X.A X.stack s H ⟨us, ks.zip ws⟩ (g us ws) (gV vs zs) Q (E σ) hr I.env0 (hb.to s us ws I.kIn (r.length.symm.trans l1) (rz.length.symm.trans l2)) r2 h) fun r' s' hq => ?_)
  cases r' with
  | error e => exact hx pins H s e s' I hq
  | ok fl =>
    cases fl with
    | ret u => exact I.after hq
    | next => exact False.elim hq
    | brk => exact False.elim hq
    | cont => exact False.elim hq
/-! ### a dict that is read from here on -/
def tFrz (td : TE) : TE := fun σ H Q => td σ H fun x H1 => ∃ d kvs, x = .ref d ∧ H1 d = some (.dK kvs) ∧ ∀ o H2, H2 d = some (.frz o (.dK kvs)) → Off d H1 H2 → Q x H2
def rItems (x : V) (H1 : Hp) (R : It → Hp → Prop) : Prop := ∃ d o kvs, x = .ref d ∧ H1 d = some (.frz o (.dK kvs)) ∧ R (Iti d o kvs) H1
end
end FW

set_option Elab.async false
set_option linter.all false
set_option maxRecDepth 100000
set_option maxHeartbeats 4000000
/-! zip of a tuple and a list -/
namespace FW
open PySem
section
variable {pg : Program} {w : World} {ar : Around} {er : Value → Shared → Prop} {sh : Shared}
end
abbrev zipMH1 (h : Heap) (l1 : Addr) : Heap := h.push { cls := .type "tuple_iterator", data := .fields #[.ref l1, .int 0 0] }
abbrev zipMH2 (h : Heap) (l1 l2 : Addr) : Heap := (zipMH1 h l1).push { cls := .type "list_iterator", data := .fields #[.ref l2, .int 0 0] }
abbrev zipMH3 (h : Heap) (l1 l2 : Addr) : Heap := (zipMH2 h l1 l2).push { cls := .type "tuple", data := .seq #[.ref h.objs.size, .ref (zipMH1 h l1).objs.size] }
abbrev zipMH4 (h : Heap) (l1 l2 : Addr) : Heap := (zipMH3 h l1 l2).push { cls := .type "tuple", data := .seq #[.none, .none] }
abbrev zipMH5 (h : Heap) (l1 l2 : Addr) : Heap := (zipMH4 h l1 l2).push { cls := .type "zip", data := .fields #[.none, .bool false, .bool false, .ref (zipMH2 h l1 l2).objs.size, .ref (zipMH3 h l1 l2).objs.size] }

section
variable {pg : Program} {w : World} {ar : Around} {er : Value → Shared → Prop} {sh : Shared}
end
open PySem.Spec PyProof.Rows L2
def ItzM (K : PySem.W.Frag) (aa b : Addr) : It :=
  ⟨fun ix H => ∃ (xs ys : List V) (x y : V), SqT K H aa xs ∧ SqL K H b ys ∧ xs[ix]? = some x ∧ ys[ix]? = some y,
    fun ix H v H' => ∃ T x y, v = .ref T ∧ H T = none ∧ H' = upd H T (.tup [x, y]) ∧ (∀ xs, SqT K H aa xs → xs[ix]? = some x) ∧ ∀ ys, SqL K H b ys → ys[ix]? = some y,
    fun ix H => ∃ xs ys : List V, SqT K H aa xs ∧ SqL K H b ys ∧ (xs.length ≤ ix ∨ ys.length ≤ ix)⟩
def iZipM (K : PySem.W.Frag) (ta : TA) : L2.TI := fun σ H R => ta σ H fun vs Hn => ∃ a b xs ys, vs = [.ref a, .ref b] ∧ SqT K Hn a xs ∧ SqL K Hn b ys ∧ R (ItzM K a b) Hn
def rZipM (K : PySem.W.Frag) (vs : List V) (H : Hp) (R : It → Hp → Prop) : Prop := ∃ a b xs ys, vs = [.ref a, .ref b] ∧ SqT K H a xs ∧ SqL K H b ys ∧ R (ItzM K a b) H
end FW

set_option Elab.async false
set_option linter.all false
set_option maxRecDepth 100000
/-! A walk over what is a list or a tuple. -/
namespace FW
open PySem L2
def rItS (K : PySem.W.Frag) (x : V) (H : Hp) (R : It → Hp → Prop) : Prop := ∃ a, x = .ref a ∧ (((∃ xs, SqL K H a xs) ∧ R (Itl K a) H) ∨ ((∃ xs, SqT K H a xs) ∧ R (Itt K a) H))
def iSeq (K : PySem.W.Frag) (te : L2.TE) : L2.TI := fun σ H R => te σ H fun x H1 => rItS K x H1 R
section
open PySem.Spec PyProof.Rows
end
section
variable {K : PySem.W.Frag} {σ : L2.St} {H : Hp}
end
end FW

set_option Elab.async false
set_option linter.all false
set_option maxRecDepth 100000
set_option maxHeartbeats 4000000
/-! dicts keyed by pairs of texts: values(), items(), pop, sorted; sorted of a list of (text, text, int) -/
namespace FW
open PySem PySem.Spec PyProof.Rows L2
def ItdT (d : Addr) (o : Obj) (kvs : List (List Key × V)) : It :=
  ⟨fun i H => H d = some (.frz o (.dT kvs)) ∧ i < kvs.length, fun i H x H' => H' = H ∧ ∃ k, kvs[i]? = some (k, x), fun i H => H d = some (.frz o (.dT kvs)) ∧ kvs.length ≤ i⟩
def ItiT (d : Addr) (o : Obj) (kvs : List (List Key × V)) : It :=
  ⟨fun i H => H d = some (.frz o (.dT kvs)) ∧ i < kvs.length, fun i H x H' => ∃ (T : Addr) (k : List Key) (v : V) (q : Addr), kvs[i]? = some (k, v) ∧ H q = some (.tup (k.map kV)) ∧ x = .ref T ∧ H T = none ∧ H' = upd H T (.tup [.ref q, v]), fun i H => H d = some (.frz o (.dT kvs)) ∧ kvs.length ≤ i⟩
section
variable {P : Program} {w : World} {K : PySem.W.Frag} {tg : Expr} {d : Addr} {o : Obj} {es : Array DictEntry} {ep : Nat}
end
def iValsT (td : TE) : L2.TI := fun σ H R => td σ H fun x H1 => ∃ d o kvs, x = .ref d ∧ H1 d = some (.frz o (.dT kvs)) ∧ R (ItdT d o kvs) H1
def iItemsT (td : TE) : L2.TI := fun σ H R => td σ H fun x H1 => ∃ d o kvs, x = .ref d ∧ H1 d = some (.frz o (.dT kvs)) ∧ R (ItiT d o kvs) H1
section
variable {X : Cx} {tg e : Expr} {td : TE} {apos cpos : Pos}
end
/-! ### readings -/
section
variable {σ : L2.St} {H : Hp} {nx bk ct : L2.St → Hp → Prop} {rt : VK}
def rValsT (x : V) (H1 : Hp) (R : It → Hp → Prop) : Prop := ∃ d o kvs, x = .ref d ∧ H1 d = some (.frz o (.dT kvs)) ∧ R (ItdT d o kvs) H1
theorem w_valsT {td : TE} {R : It → Hp → Prop} (h : td σ H fun x H1 => rValsT x H1 R) : iValsT td σ H R := h
theorem w_valsT' {d : Addr} {o : Obj} {kvs : List (List Key × V)} {R : It → Hp → Prop} (e : H d = some (.frz o (.dT kvs))) (h : R (ItdT d o kvs) H) : rValsT (.ref d) H R := ⟨d, o, kvs, rfl, e, h⟩
def rVals (x : V) (H1 : Hp) (R : It → Hp → Prop) : Prop := ∃ d o kvs, x = .ref d ∧ H1 d = some (.frz o (.dK kvs)) ∧ R (Itd d o kvs) H1
theorem w_vals {td : TE} {R : It → Hp → Prop} (h : td σ H fun x H1 => rVals x H1 R) : iVals td σ H R := h
theorem w_vals' {d : Addr} {o : Obj} {kvs : List (Key × V)} {R : It → Hp → Prop} (e : H d = some (.frz o (.dK kvs))) (h : R (Itd d o kvs) H) : rVals (.ref d) H R := ⟨d, o, kvs, rfl, e, h⟩
def rItemsTf (x : V) (H1 : Hp) (R : It → Hp → Prop) : Prop := ∃ d o kvs, x = .ref d ∧ H1 d = some (.frz o (.dT kvs)) ∧ R (ItiT d o kvs) H1
theorem w_itemsT {td : TE} {R : It → Hp → Prop} (h : td σ H fun x H1 => rItemsTf x H1 R) : iItemsT td σ H R := h
theorem w_itemsT' {d : Addr} {o : Obj} {kvs : List (List Key × V)} {R : It → Hp → Prop} (e : H d = some (.frz o (.dT kvs))) (h : R (ItiT d o kvs) H) : rItemsTf (.ref d) H R := ⟨d, o, kvs, rfl, e, h⟩
theorem w_keysT' {d : Addr} {o : Obj} {kvs : List (List Key × V)} {R : It → Hp → Prop} (e : H d = some (.frz o (.dT kvs))) (h : R (Itkt d o kvs) H) : rKeys (.ref d) H R := ⟨d, o, rfl, .inr ⟨kvs, e, h⟩⟩
end
/-! ### pop -/
def tDPopT (td ty : TE) : TE := fun σ H Q => td σ H fun x H1 => ∃ a, x = .ref a ∧ IsD H1 a ∧ ty σ H1 fun y H2 => ∃ kvs k b v, H2 a = some (.dT kvs) ∧ y = .ref b ∧ H2 b = some (.tup (k.map kV)) ∧ valV kvs k = some v ∧ Q v (upd H2 a (.dT (dropK kvs k)))
def rDPopT (a : Addr) (y : V) (H : Hp) (Q : VK) : Prop := ∃ kvs k b v, H a = some (.dT kvs) ∧ y = .ref b ∧ H b = some (.tup (k.map kV)) ∧ valV kvs k = some v ∧ Q v (upd H a (.dT (dropK kvs k)))
theorem w_dpopT {σ : L2.St} {H : Hp} {Q : VK} {td ty : TE} (h : td σ H fun x H1 => rIsD x H1 fun a H1 => ty σ H1 fun y H2 => rDPopT a y H2 Q) : tDPopT td ty σ H Q := h
def rDPop1 (a : Addr) (y : V) (H : Hp) (Q : VK) : Prop := ∃ kvs k v, H a = some (.dK kvs) ∧ y = kV k ∧ valV kvs k = some v ∧ Q v (upd H a (.dK (dropK kvs k)))
theorem w_dpop1 {σ : L2.St} {H : Hp} {Q : VK} {td ty : TE} (h : td σ H fun x H1 => rIsD x H1 fun a H1 => ty σ H1 fun y H2 => rDPop1 a y H2 Q) : tDPop1 td ty σ H Q := h
theorem w_dpop1' {H : Hp} {Q : VK} {a : Addr} {kvs : List (Key × V)} {k : Key} {v : V} (e : H a = some (.dK kvs)) (ev : valV kvs k = some v) (h : ∀ H1, H1 a = some (.dK (dropK kvs k)) → Off a H H1 → Q v H1) : rDPop1 a (kV k) H Q := ⟨kvs, k, v, e, rfl, ev, h _ upd_same fun x hx => upd_ne hx⟩
theorem w_isDT {H : Hp} {a : Addr} {kvs : List (List Key × V)} {R : Addr → Hp → Prop} (e : H a = some (.dT kvs)) (h : R a H) : rIsD (.ref a) H R := ⟨a, rfl, .inr ⟨kvs, .inl e⟩, h⟩
theorem w_dnewT {σ : L2.St} {H : Hp} {Q : VK} (h : Nw (.dT []) H Q) : tDNewT σ H Q := h
/-! ### the order of pairs of texts -/
abbrev TTx := Str × Str
def encTT (q : TTx) : PyData := .tuple [.str q.1, .str q.2]
def ttLt (a b : TTx) : Prop := txLt a.1 b.1 ∨ (a.1 = b.1 ∧ txLt a.2 b.2)
def ttK (q : TTx) : List Key := [Sum.inr q.1, Sum.inr q.2]
/-! ### sorted(d) of a dict keyed by pairs of texts -/
def rSortTT : List V → Hp → VK → Prop := fun vs H Q => ∃ (a : Addr) (kvs : List (List Key × V)) (qs : List TTx), vs = [.ref a] ∧ H a = some (.dT kvs) ∧ kvs.map (·.1) = qs.map ttK ∧ qs.Nodup ∧ qs.length ≤ 100000 ∧
  ∀ (ts : List (TTx × Addr)) (p : Addr), (ts.map (·.1)).Perm qs → ts.Pairwise (fun x y => ttLt x.1 y.1) → (∀ t ∈ ts, H t.2 = some (.tup [.str t.1.1, .str t.1.2])) → H p = none → Q (.ref p) (upd H p (.lst (ts.map fun t => V.ref t.2)))
/-! ### sorted of a list of (text, text, int) -/
abbrev T3 := Addr × TTx × Int
def encT3 (b : T3) : PyData := .tuple [.str b.2.1.1, .str b.2.1.2, .int b.2.2]
def rSortT3 : List V → Hp → VK → Prop := fun vs H Q => ∃ (a : Addr) (bs : List T3), vs = [.ref a] ∧ H a = some (.lst (bs.map fun b => V.ref b.1)) ∧ (∀ b ∈ bs, H b.1 = some (.tup [.str b.2.1.1, .str b.2.1.2, .int b.2.2])) ∧ (bs.map (·.2.1)).Nodup ∧ bs.length ≤ 100000 ∧
  ∀ (ts : List T3) (p : Addr), ts.Perm bs → ts.Pairwise (fun x y => ttLt x.2.1 y.2.1) → H p = none → Q (.ref p) (upd H p (.lst (ts.map fun t => V.ref t.1)))
end FW

set_option Elab.async false
set_option linter.all false
set_option maxRecDepth 100000
set_option maxHeartbeats 4000000
/-! o.m(e, ..) of an own class's def that may raise, within a try -/
namespace FW
open PySem PySem.Spec PyProof.Rows L2
section
variable {X : Cx} {CX : CXT} {k : Nat} {f C : Addr} {fd : FuncData} {ps : List Str} {sp : Sp} {E : L2.St → XK} {x m : Str} {pos apos : Pos} {e o : Expr} {es : List Expr} {ta : TE} {t : TA}
def tMethTS (C : Addr) (m : Str) (sp : Sp) (E : L2.St → XK) (ta : TE) (t : TA) : TE := fun σ H Q => ta σ H fun x H1 => ∃ a dx fs, x = .ref a ∧ H1 a = some (.ins C dx fs) ∧ fs.lookup m = none ∧ t σ H1 fun vs H2 => sp (x :: vs) H2 Q (E σ)
theorem pe_methTS {pl : Sem Bool} (he : PE X o ta) (c : Cls X.K C) (hm : Meth X.K C m f) (F : FnOk X.prog X.w X.K X.mg X.base CX k f fd ps sp) (hr : Room k X.A) (hb : Binds X.K fd ps []) (hx : ∀ σ, PassesAt CX X σ (E σ)) (ha : PA X (e :: es) t)
    (hst : starEach (e :: es) X.env = (false, eval e X.env) :: starEach es X.env := by rfl) (hpl : (backTo pos (starEach es X.env)).any (·.1) = false := by rfl)
    (ht : eval (.Call (.Attribute o m apos) (e :: es) [] pos) X.env = (do
      let ov ← eval o X.env
      standAt apos.atName
      let (f, first) ← holding [ov] (getMethod ov m pl)
      callWith pos f first (backTo pos (starEach (e :: es) X.env)) (backToKw pos (keywordEach [] X.env))) := by rfl) :
    PE X (.Call (.Attribute o m apos) (e :: es) [] pos) (tMethTS C m sp E ta t) := by
  refine ⟨fun pins s σ H Q I h => ?_⟩
  refine PySem.W.methodCall_KW (pl := pl) (thn (he.run pins s σ H _ I h) fun u s1 ⟨x, H1, I1, rx, a, dx, fs, ex, ea, l, q⟩ => ?_) ht
  subst ex
  obtain rfl : u = Value.ref a := rx
  refine getmeth_ok I1 ea c hm l ?_
  refine PySem.W.callWith_K (first := [.ref a]) (h₀ := X.base) I.ok.mod.kin hm.kp (thn (ha.run pos pins s1 σ H1 _ I1 q) fun us s2 ⟨vs, H2, I2, r, q2⟩ => ⟨I2.kIn, ?_⟩) hst hpl
  exact run_fnS (us := .ref a :: us) (vs := .ref a :: vs) F hr hb (hx σ) I2 (.cons rfl r) q2
end
theorem w_methS {K : PySem.W.Frag} {σ : L2.St} {H : Hp} {Q : VK} {C : Addr} {m : Str} {sp : Sp} {E : L2.St → XK} {ta : TE} {t : TA} (h : ta σ H fun x H1 => ∃ a dx fs, x = .ref a ∧ H1 a = some (.ins C dx fs) ∧ fs.lookup m = none ∧ t σ H1 fun vs H2 => sp (x :: vs) H2 Q (E σ)) : tMethTS C m sp E ta t σ H Q := h
end FW

set_option Elab.async false
set_option linter.all false
set_option maxRecDepth 100000
set_option maxHeartbeats 4000000
/-! o.m(e, .., k = v, ..) of an own class's def, within a try or not; methods with keyword-only defaults -/
namespace FW
open PySem PySem.Spec PyProof.Rows L2
/-- a method with keyword-only parameters that have defaults -/
structure DfMK (K : PySem.W.Frag) (C : Addr) (m qual : Str) (st : Stmt) (ps : List Str) (kws : List (Str × V)) (dvs : List V) (f : Addr) (fd : FuncData) : Prop where
  fn : FunD K m qual (defArgs st) (defBody st) (defScope st) [] kws f fd
  m : Meth K C m f
  b : ∃ ds, Vals dvs ds ∧ Binds K fd ps ds
/-- the same where some of them have none -/
structure DfMKr (K : PySem.W.Frag) (C : Addr) (m qual : Str) (st : Stmt) (ps : List Str) (kws : List (Str × V)) (f : Addr) (fd : FuncData) : Prop where
  fn : FunD K m qual (defArgs st) (defBody st) (defScope st) [] kws f fd
  m : Meth K C m f
section
variable {X : Cx} {CX : CXT} {k n : Nat} {f C : Addr} {fd : FuncData} {ps ks : List Str} {sp : Sp} {m : Str} {pos apos : Pos} {e o : Expr} {es : List Expr} {kws : List Keyword} {ta : TE} {t tk : TA} {g : List Value → List Value → List Value} {gV : List V → List V → List V}
def tMethNS (C : Addr) (m : Str) (n mm : Nat) (sp : Sp) (gV : List V → List V → List V) (E : L2.St → XK) (ta : TE) (t tk : TA) : TE := fun σ H Q => ta σ H fun x H1 => ∃ a dx fs, x = .ref a ∧ H1 a = some (.ins C dx fs) ∧ fs.lookup m = none ∧
  t σ H1 fun vs H2 => tk σ H2 fun zs H3 => vs.length + 1 = n ∧ zs.length = mm ∧ sp (gV (x :: vs) zs) H3 Q (E σ)
theorem pe_methNS {E : L2.St → XK} {pl : Sem Bool} (he : PE X o ta) (c : Cls X.K C) (hm : Meth X.K C m f) (F : FnOk X.prog X.w X.K X.mg X.base CX k f fd ps sp) (hr : Room k X.A) (hb : KBn X.K fd ps n ks g gV) (hx : ∀ σ, PassesAt CX X σ (E σ)) (ha : PA X (e :: es) t) (hkw : PK X kws tk)
    (hall : (backToKw pos (keywordEach kws X.env)).all (·.1.isSome) = true := by rfl) (hks : (backToKw pos (keywordEach kws X.env)).filterMap (·.1) = ks := by rfl)
    (hst : starEach (e :: es) X.env = (false, eval e X.env) :: starEach es X.env := by rfl) (hpl : ((backTo pos (starEach (e :: es) X.env)).any (·.1) || (backToKw pos (keywordEach kws X.env)).any (·.1.isNone)) = false := by rfl)
    (ht : eval (.Call (.Attribute o m apos) (e :: es) kws pos) X.env = (do
      let ov ← eval o X.env
      standAt apos.atName
      let (f, first) ← holding [ov] (getMethod ov m pl)
      callWith pos f first (backTo pos (starEach (e :: es) X.env)) (backToKw pos (keywordEach kws X.env))) := by rfl) :
    PE X (.Call (.Attribute o m apos) (e :: es) kws pos) (tMethNS C m n ks.length sp gV E ta t tk) := by
  refine ⟨fun pins s σ H Q I h => ?_⟩
  refine PySem.W.methodCall_KW (pl := pl) (thn (he.run pins s σ H _ I h) fun u s1 ⟨x, H1, I1, rx, a, dx, fs, ex, ea, l, q⟩ => ?_) ht
  subst ex
  obtain rfl : u = Value.ref a := rx
  refine getmeth_ok I1 ea c hm l ?_
  refine PySem.W.callWith_KW (first := [.ref a]) (h₀ := X.base) I.ok.mod.kin hm.kp hall (thn (ha.run pos pins s1 σ H1 _ I1 q) fun us s2 ⟨vs, H2, I2, r, q2⟩ => ?_) hpl hst
  refine thn (hkw.run pos pins s2 σ H2 _ I2 q2) fun ws s3 ⟨zs, H3, I3, rz, l1, l2, q3⟩ => ⟨I3.kIn, ?_⟩
  rw [hks]
  exact run_fnNS (us := .ref a :: us) (vs := .ref a :: vs) F hr hb (hx σ) I3 (.cons rfl r) rz l1 l2 q3
def tMethN (C : Addr) (m : Str) (n mm : Nat) (sp : Sp) (gV : List V → List V → List V) (E : XK) (ta : TE) (t tk : TA) : TE := fun σ H Q => ta σ H fun x H1 => ∃ a dx fs, x = .ref a ∧ H1 a = some (.ins C dx fs) ∧ fs.lookup m = none ∧
  t σ H1 fun vs H2 => tk σ H2 fun zs H3 => vs.length + 1 = n ∧ zs.length = mm ∧ sp (gV (x :: vs) zs) H3 Q E
theorem pe_methN {E : XK} {pl : Sem Bool} (he : PE X o ta) (c : Cls X.K C) (hm : Meth X.K C m f) (F : FnOk X.prog X.w X.K X.mg X.base CX k f fd ps sp) (hr : Room k X.A) (hb : KBn X.K fd ps n ks g gV) (hx : Passes CX X E) (ha : PA X (e :: es) t) (hkw : PK X kws tk)
    (hall : (backToKw pos (keywordEach kws X.env)).all (·.1.isSome) = true := by rfl) (hks : (backToKw pos (keywordEach kws X.env)).filterMap (·.1) = ks := by rfl)
    (hst : starEach (e :: es) X.env = (false, eval e X.env) :: starEach es X.env := by rfl) (hpl : ((backTo pos (starEach (e :: es) X.env)).any (·.1) || (backToKw pos (keywordEach kws X.env)).any (·.1.isNone)) = false := by rfl)
    (ht : eval (.Call (.Attribute o m apos) (e :: es) kws pos) X.env = (do
      let ov ← eval o X.env
      standAt apos.atName
      let (f, first) ← holding [ov] (getMethod ov m pl)
      callWith pos f first (backTo pos (starEach (e :: es) X.env)) (backToKw pos (keywordEach kws X.env))) := by rfl) :
    PE X (.Call (.Attribute o m apos) (e :: es) kws pos) (tMethN C m n ks.length sp gV E ta t tk) := by
  refine ⟨fun pins s σ H Q I h => ?_⟩
  refine PySem.W.methodCall_KW (pl := pl) (thn (he.run pins s σ H _ I h) fun u s1 ⟨x, H1, I1, rx, a, dx, fs, ex, ea, l, q⟩ => ?_) ht
  subst ex
  obtain rfl : u = Value.ref a := rx
  refine getmeth_ok I1 ea c hm l ?_
  refine PySem.W.callWith_KW (first := [.ref a]) (h₀ := X.base) I.ok.mod.kin hm.kp hall (thn (ha.run pos pins s1 σ H1 _ I1 q) fun us s2 ⟨vs, H2, I2, r, q2⟩ => ?_) hpl hst
  refine thn (hkw.run pos pins s2 σ H2 _ I2 q2) fun ws s3 ⟨zs, H3, I3, rz, l1, l2, q3⟩ => ⟨I3.kIn, ?_⟩
  rw [hks]
  exact run_fnN (us := .ref a :: us) (vs := .ref a :: vs) F hr hb hx I3 (.cons rfl r) rz l1 l2 q3
end
theorem w_methNS {σ : L2.St} {H : Hp} {Q : VK} {C : Addr} {m : Str} {n mm : Nat} {sp : Sp} {gV : List V → List V → List V} {E : L2.St → XK} {ta : TE} {t tk : TA} (h : ta σ H fun x H1 => ∃ a dx fs, x = .ref a ∧ H1 a = some (.ins C dx fs) ∧ fs.lookup m = none ∧
  t σ H1 fun vs H2 => tk σ H2 fun zs H3 => vs.length + 1 = n ∧ zs.length = mm ∧ sp (gV (x :: vs) zs) H3 Q (E σ)) : tMethNS C m n mm sp gV E ta t tk σ H Q := h
theorem w_methN {σ : L2.St} {H : Hp} {Q : VK} {C : Addr} {m : Str} {n mm : Nat} {sp : Sp} {gV : List V → List V → List V} {E : XK} {ta : TE} {t tk : TA} (h : ta σ H fun x H1 => ∃ a dx fs, x = .ref a ∧ H1 a = some (.ins C dx fs) ∧ fs.lookup m = none ∧
  t σ H1 fun vs H2 => tk σ H2 fun zs H3 => vs.length + 1 = n ∧ zs.length = mm ∧ sp (gV (x :: vs) zs) H3 Q E) : tMethN C m n mm sp gV E ta t tk σ H Q := h
end FW

set_option Elab.async false
set_option linter.all false
set_option maxRecDepth 100000
set_option maxHeartbeats 4000000
/-! dict(t) of a tuple of pairs. -/
namespace FW
open PySem PySem.Spec PyProof.Rows L2
/-- dict(t): t a tuple of pairs of a key and a thing -/
def rDictT (K : PySem.W.Frag) : List V → Hp → VK → Prop := fun xs H Q => ∃ (a : Addr) (ps : List Addr) (kvs : List (Key × V)), xs = [.ref a] ∧ SqT K H a (ps.map V.ref) ∧ Paired (fun p kv => SqT K H p [kV kv.1, kv.2]) ps kvs ∧ ∀ p, H p = none → Q (.ref p) (upd H p (.dK (mergeK [] kvs)))
/-- tuple(l) of a list: the new object has no dict -/
def rTupF (K : PySem.W.Frag) : List V → Hp → VK → Prop := fun xs H Q => ∃ p ys, xs = [.ref p] ∧ SqL K H p ys ∧ ∀ (l : Addr) (o : Obj), H l = none → o.dict = none → Q (.ref l) (upd H l (.frz o (.tup ys)))
/-- dict(t): t a tuple of pairs of a key and a thing -/
def rDictF (K : PySem.W.Frag) : List V → Hp → VK → Prop := fun xs H Q => ∃ (a : Addr) (ps : List Addr) (kvs : List (Key × V)), xs = [.ref a] ∧ TupD H a (ps.map V.ref) ∧ Paired (fun p kv => SqT K H p [kV kv.1, kv.2]) ps kvs ∧ ∀ p, H p = none → Q (.ref p) (upd H p (.dK (mergeK [] kvs)))
/-- () : the new object has no dict -/
def tTup0F : TE := fun _ H Q => ∀ (l : Addr) (o : Obj), H l = none → o.dict = none → Q (.ref l) (upd H l (.frz o (.tup [])))
/-- what is caught is of one of two classes -/
def tGuard2 (P P2 : Prop) (t t2 : TS) : TS := fun D σ H => (P ∧ t D σ H) ∨ (P2 ∧ t2 D σ H)
theorem pss_guard2 {X : Cx} {P P2 : Prop} {ss : List Stmt} {t t2 : TS} (h : P → PSs X ss t) (h2 : P2 → PSs X ss t2) : PSs X ss (tGuard2 P P2 t t2) := ⟨fun pins s σ H D I hw => hw.elim (fun g => (h g.1).run pins s σ H D I g.2) fun g => (h2 g.1).run pins s σ H D I g.2⟩
theorem w_guard2l {P P2 : Prop} {t t2 : TS} {nx bk ct : L2.St → Hp → Prop} {rt : VK} {σ : L2.St} {H : Hp} (p : P) (h : t ⟨nx, rt, bk, ct⟩ σ H) : tGuard2 P P2 t t2 ⟨nx, rt, bk, ct⟩ σ H := .inl ⟨p, h⟩
theorem w_guard2r {P P2 : Prop} {t t2 : TS} {nx bk ct : L2.St → Hp → Prop} {rt : VK} {σ : L2.St} {H : Hp} (p : P2) (h : t2 ⟨nx, rt, bk, ct⟩ σ H) : tGuard2 P P2 t t2 ⟨nx, rt, bk, ct⟩ σ H := .inr ⟨p, h⟩
end FW

set_option Elab.async false
set_option linter.all false
set_option maxRecDepth 100000
set_option maxHeartbeats 4000000
/-! sets of texts out of lists, sorted -/
namespace FW
open PySem PySem.Spec PyProof.Rows L2
def keyT (z : Int × Value) : Str := match z.2 with | .str k _ => k | _ => ⟨#[]⟩
def GoodT (w : World) (z : Int × Value) : Prop := ∃ k u, z.2 = Value.str k u ∧ z.1 = hashStr w k
/-- the set of texts at a -/
def SetT (w : World) (h : Heap) (a : Addr) (S : Str → Bool) (n : Nat) : Prop :=
  ∃ ob xs ep tb, h.get? a = some ob ∧ ob.ExactSet ∧ ob.data = .set xs ep tb ∧ (∀ z ∈ xs.toList, GoodT w z) ∧ (xs.toList.map keyT).Nodup ∧ (∀ k, S k = true ↔ k ∈ xs.toList.map keyT) ∧
    xs.size < scanBound ∧ tb.fits xs.size = true ∧ xs.size = n ∧ Ris tb.place.toList ∧ (w.params.followText "set-order" = true ∨ tb.led = true)
section
variable {P : Program} {w : World} {h h' : Heap} {a : Addr} {S : Str → Bool} {n : Nat}
theorem SetT.at (R : SetT w h a S n) (k : ∀ ob, h.get? a = some ob → h'.get? a = some ob) : SetT w h' a S n := by
  obtain ⟨ob, xs, ep, tb, at', r⟩ := R
  exact ⟨ob, xs, ep, tb, k ob at', r⟩
theorem SetT.congr {S' : Str → Bool} (R : SetT w h a S n) (e : ∀ k, S' k = S k) : SetT w h a S' n := by
  have q : S' = S := funext e
  rw [q]; exact R
end
section
variable {P : Program} {w : World} {A : Around} {E : Value → Shared → Prop} {s : Shared} {a : Addr} {S : Str → Bool} {n : Nat}
end
section
variable {P : Program} {w : World} {A : Around} {E : Value → Shared → Prop} {s : Shared}
end
section
variable {P : Program} {w : World} {A : Around} {E : Value → Shared → Prop} {s : Shared}
end
/-! ### as calls -/
def SetTO (w : World) (a : Addr) (S : Str → Bool) (n : Nat) : HO := .ext fun h => SetT w h a S n
def rSetTL (K : PySem.W.Frag) (w : World) (vs : List V) (H : Hp) (Q : VK) : Prop := ∃ (l : Addr) (zs : List Str), vs = [.ref l] ∧ SqL K H l (zs.map V.str) ∧ zs.length < 64 ∧ ∀ (p : Addr) (c : Nat), H p = none → c ≤ zs.length → Q (.ref p) (upd H p (SetTO w p (fun j => decide (j ∈ zs)) c))
def rSortTS (w : World) (vs : List V) (H : Hp) (Q : VK) : Prop := ∃ (a : Addr) (S : Str → Bool) (n : Nat), vs = [V.ref a] ∧ H a = some (SetTO w a S n) ∧ n < 64 ∧ ∀ (zs : List Str) (p : Addr), zs.Pairwise (fun x y => x.cps.toList < y.cps.toList) → (∀ k : Str, k ∈ zs ↔ S k = true) → zs.length = n → H p = none → Q (.ref p) (upd H p (.lst (zs.map V.str)))
section
variable {X : Cx}
end
section
variable {K : PySem.W.Frag} {w : World} {H : Hp} {Q : VK}
end
end FW

set_option Elab.async false
set_option linter.all false
set_option maxRecDepth 100000
set_option maxHeartbeats 4000000
/-! sorted(d) of a dict keyed by texts, fewer than 64 -/
namespace FW
open PySem PySem.Spec PyProof.Rows L2
def rSortDS (xs : List V) (H : Hp) (Q : VK) : Prop := ∃ (a : Addr) (kvs : List (Key × V)) (ks : List Str), xs = [.ref a] ∧ Rd H a (.dK kvs) ∧ kvs.map (·.1) = ks.map Sum.inr ∧ ks.Nodup ∧ ks.length < 64 ∧
    ∀ (ys : List Str) (p : Addr), ys.Perm ks → ys.Pairwise (fun x y => x.cps.toList < y.cps.toList) → H p = none → Q (.ref p) (upd H p (.lst (ys.map V.str)))
end FW

set_option Elab.async false
set_option linter.all false
set_option maxRecDepth 100000
set_option maxHeartbeats 4000000
/-! sorted(d) of a dict keyed by texts, of any length -/
namespace FW
open PySem PySem.Spec PyProof.Rows L2
def rSortDL (xs : List V) (H : Hp) (Q : VK) : Prop := ∃ (a : Addr) (kvs : List (Key × V)) (ks : List Str), xs = [.ref a] ∧ Rd H a (.dK kvs) ∧ kvs.map (·.1) = ks.map Sum.inr ∧ ks.Nodup ∧ ks.length ≤ 100000 ∧
    ∀ (ys : List Str) (p : Addr), ys.Perm ks → ys.Pairwise (fun x y => x.cps.toList < y.cps.toList) → H p = none → Q (.ref p) (upd H p (.lst (ys.map V.str)))
theorem toks_of : ∀ {l : List Value} {ks : List Str}, l.length = ks.length → (∀ (j : Nat) (v : Value), l[j]? = some v → ∃ k u, ks[j]? = some k ∧ v = .str k u) → ∃ bs : List (Str × Tok), l = bs.map (fun b => Value.str b.1 b.2) ∧ bs.map (·.1) = ks
  | [], [], _, _ => ⟨[], rfl, rfl⟩
  | v :: l, k :: ks, hl, h => by
    obtain ⟨k0, u, e1, rfl⟩ := h 0 v rfl
    cases e1
    obtain ⟨bs, h1, h2⟩ := toks_of (l := l) (ks := ks) (by simpa using hl) fun j v e => by simpa using h (j + 1) v (by simpa using e)
    exact ⟨(k, u) :: bs, by rw [h1]; rfl, by rw [List.map_cons, h2]⟩
theorem each_strs {out : List Value} {bs : List (Str × Tok)} (h : PySem.W.EachIs (fun v (b : Str × Tok) => v = Value.str b.1 b.2) out bs) : out = bs.map fun b => Value.str b.1 b.2 := by
  induction h with
  | nil => rfl
  | cons h1 _ ih => rw [h1, ih]; rfl
theorem each_ofS : ∀ bs : List (Str × Tok), PySem.W.EachIs (fun v (b : Str × Tok) => v = Value.str b.1 b.2) (bs.map fun b => Value.str b.1 b.2) bs
  | [] => .nil
  | b :: bs => .cons rfl (each_ofS bs)
theorem vals_strsT : ∀ bs : List (Str × Tok), Vals ((bs.map (·.1)).map V.str) (bs.map fun b => Value.str b.1 b.2)
  | [] => .nil
  | b :: bs => .cons ⟨_, rfl⟩ (vals_strsT bs)
theorem le_S_iff (a b : Str × Tok) : PySem.W.dataLe false (fun b : Str × Tok => PyData.str b.1) a b = true ↔ ¬ (b.1.cps.toList < a.1.cps.toList) := by
  show (!PySem.W.dataLt (.str b.1) (.str a.1)) = true ↔ _
  rw [PySem.W.dataLt_str]
  simp
theorem tri_S {x y : Str} (h : ¬ x.cps.toList < y.cps.toList) : y.cps.toList < x.cps.toList ∨ x = y := by
  by_cases h2 : y.cps.toList < x.cps.toList
  · exact .inl h2
  · exact .inr (PySem.W.str_of_cps (List.le_antisymm (List.not_lt.mp h2) (List.not_lt.mp h)))
theorem tot_S : PySem.W.TotalLe (PySem.W.dataLe false (fun b : Str × Tok => PyData.str b.1)) where
  trans a b c h1 h2 := by
    rw [le_S_iff] at *
    intro h
    rcases tri_S h1 with g | g
    · exact h2 (List.lt_trans h g)
    · rw [g] at h2
      exact h2 h
  total a b := by
    rw [le_S_iff, le_S_iff]
    by_cases h : b.1.cps.toList < a.1.cps.toList
    · exact .inr (List.lt_asymm h)
    · exact .inl h
theorem c_sortDL {X : Cx} (hcalm : X.calm = true) (hu : X.A.units + 64 < cLine) : CallR X (.builtin "sorted") rSortDL := by
  intro pins s σ H xs us Q I r ⟨a, kvs, ks, ex, hd, hks, hnd, hlk, q⟩
  subst ex
  obtain ⟨u, eu, rx⟩ := vals1 r
  subst eu
  cases rx
  obtain ⟨z, lo, vs, rel, dd⟩ := dk_rd I.hok hd
  obtain ⟨ep, hat⟩ := dd.dictAt
  have hkeys : vs.map (·.1) = ks.map Sum.inr := rel.keys.symm.trans hks
  have hl : vs.length = ks.length := by
    have e := congrArg List.length hkeys
    simpa using e
  have h16 : vs.length ≤ sizeLine := by rw [hl, sizeLine_eq]; omega
  refine Calls.call_function_entry kind_sorted plain_sorted entry_sorted (args_sorted1 _) ?_
  unfold Builtin.«sorted»; refine wpAny_bind (m := checkCount "sorted" 1 1 _) (wpAny_pure ?_)
  refine wpAny_bind (PySem.W.kdu_collect (A := X.A.in1) (PySem.W.kdl_dict (knd := mixKind X.prog X.w) (kvs := vs) (ep := ep) lo) (I.ok.hd hcalm) hat h16 fun h' tk acc hk hacc => ?_)
  have hal : acc.toList.length = ks.length := by rw [Array.length_toList, hacc.1, hl]
  obtain ⟨bs, eacc, mbs⟩ := toks_of hal fun j v e => by
    obtain ⟨k, x, e1, e2⟩ := hacc.2 j v (by rw [← Array.getElem?_toList]; exact e)
    have e3 : (vs.map (·.1))[j]? = some k := by rw [List.getElem?_map, e1]; rfl
    rw [hkeys, List.getElem?_map] at e3
    obtain ⟨y, e4, e5⟩ := Option.map_eq_some_iff.mp e3
    subst e5
    rcases keyIs_shape (show keyIs (Sum.inr y) v = true from e2) with ⟨i, t, ek, ev⟩ | ⟨z, t, ek, ev⟩
    · cases ek
    · cases ek
      exact ⟨y, t, e4, ev⟩
  have lbs : bs.length = ks.length := by rw [← mbs, List.length_map]
  have I1 : Inv X pins σ H { s with heap := h', toks := tk } := I.kept hk
  have hz : acc.toList.length ≤ sizeLine := by rw [hal, sizeLine_eq]; omega
  refine wpAny_bind (wpAny_newList ?_ hz)
  have hoL : (h'.push (seqObj "list" acc.toList.toArray 0)).get? h'.objs.size = some (seqObj "list" acc.toList.toArray 0) := Heap.get?_push_size _ rfl
  show wpAny _ _ _ _ _ { s with heap := h'.push (seqObj "list" acc.toList.toArray 0), toks := tk }
  rw [eacc] at hoL hz ⊢
  have eR := each_ofS bs
  have er : PySem.W.EachIs (fun v (b : Str × Tok) => ∃ ws, Reads (h'.push (seqObj "list" (bs.map fun b => Value.str b.1 b.2).toArray 0)) v (PyData.str b.1) ws ∧ h'.objs.size ∉ ws) (bs.map fun b => Value.str b.1 b.2) bs :=
    eR.mono fun v b h1 => by
      rw [h1]
      exact ⟨[], .str _ _, by simp⟩
  have hal2 : PySem.W.AllAlike (bs.map fun b => PyData.str b.1) := PySem.W.AllAlike.of fun b b' => by simp [PySem.W.alike]
  have hso : PySem.W.Sortable (bs.map fun b => PyData.str b.1) := PySem.W.Sortable.others fun b => ⟨fun z => (nomatch z), fun xs z => (nomatch z)⟩
  refine wpAny_bind (wpAny_holding (PySem.W.list_sort_data (s := { s with heap := h'.push (seqObj "list" (bs.map fun b => Value.str b.1 b.2).toArray 0), toks := tk }) (R := fun v (b : Str × Tok) => v = Value.str b.1 b.2) (enc := fun b => PyData.str b.1) (bs := bs) hoL eR er hal2 hso (by rw [lbs, sizeLine_eq]; omega) (fun b _ => ?_) fun out ho eo => ?_))
  · show X.A.in1.units + 1 + 0 < cLine
    have e : X.A.in1.units = X.A.units + 1 := rfl
    omega
  · have eo' := each_strs eo
    subst eo'
    generalize hts : bs.mergeSort (PySem.W.dataLe false fun b => PyData.str b.1) = ts
    have hp : ts.Perm bs := by rw [← hts]; exact List.mergeSort_perm _ _
    have hp1 : (ts.map (·.1)).Perm ks := by rw [← mbs]; exact hp.map _
    have hsrt : (ts.map (·.1)).Pairwise (fun x y => x.cps.toList < y.cps.toList) := by
      have nd2 : (ts.map (·.1)).Nodup := hp1.nodup_iff.mpr hnd
      rw [List.pairwise_map]
      unfold List.Nodup at nd2
      rw [List.pairwise_map] at nd2
      have h := PySem.W.sort_pairwise tot_S bs
      rw [hts] at h
      refine (h.and nd2).imp fun {x y} ⟨h1, h2⟩ => ?_
      rcases tri_S ((le_S_iff _ _).mp h1) with g | g
      · exact g
      · exact absurd g.symm h2
    obtain ⟨e', he'⟩ := sortedHeap_at (vs := bs.map fun b => Value.str b.1 b.2) (out := (ts.map fun b => Value.str b.1 b.2).toArray) hoL
    have hlen : ((ts.map (·.1)).map V.str).length ≤ sizeLine := by rw [List.length_map, hp1.length_eq, sizeLine_eq]; omega
    refine wpAny_pure ⟨_, rfl, .ref h'.objs.size, upd H h'.objs.size (.lst ((ts.map (·.1)).map V.str)), I1.laid (t' := tk) (fun b u e => ?_) (Nat.le_refl _) (show ObjOk X.prog X.w _ _ _ (.lst ((ts.map (·.1)).map V.str)) from ⟨hlen, _, e', vals_strsT ts, he'⟩), rfl, q _ _ hp1 hsrt (I1.hok.fresh (Nat.le_refl _))⟩
    have hb : b < h'.objs.size := Heap.lt_size e
    rw [sortedHeap_old (Nat.ne_of_lt hb) (by rw [size_push']; exact Nat.lt_succ_of_lt hb)]
    exact Heap.get?_push_of_some _ e
theorem w_sortDL {H : Hp} {Q : VK} {a : Addr} {kvs : List (Key × V)} {ks : List Str} (e : H a = some (.dK kvs)) (hk : kvs.map (·.1) = ks.map Sum.inr) (hn : ks.Nodup) (hl : ks.length ≤ 100000) (h : ∀ (ys : List Str) p H1, ys.Perm ks → ys.Pairwise (fun x y => x.cps.toList < y.cps.toList) → H p = none → H1 p = some (.lst (ys.map V.str)) → Same H H1 → Q (.ref p) H1) : rSortDL [.ref a] H Q :=
  ⟨a, kvs, ks, rfl, .inl e, hk, hn, hl, fun ys p g1 g2 hp => h ys p _ g1 g2 hp upd_same (Same.new hp)⟩
end FW

set_option Elab.async false
set_option linter.all false
set_option maxRecDepth 100000
set_option maxHeartbeats 4000000
namespace FW
open PySem L2
def top (i : Nat) : Stmt := PySem.Challenge.pw_fewasks_k53_marks_moved.main.body.getD i (.Pass ⟨0, 0, 0, 0⟩)
abbrev s_NoName___init__ : Stmt := inClass (top 4) 0
abbrev N_NoName___init__ : List Str := ["self", "name"]
theorem sc_NoName___init__ : FnScope N_NoName___init__ ["self", "name"] (defScope s_NoName___init__) := ⟨rfl, rfl, rfl, by decide +kernel, rfl, by decide +kernel, by decide +kernel⟩
abbrev s_Lack___init__ : Stmt := inClass (top 9) 0
abbrev N_Lack___init__ : List Str := ["self", "name"]
theorem sc_Lack___init__ : FnScope N_Lack___init__ ["self", "name"] (defScope s_Lack___init__) := ⟨rfl, rfl, rfl, by decide +kernel, rfl, by decide +kernel, by decide +kernel⟩
abbrev s_NoMark___init__ : Stmt := inClass (top 6) 0
abbrev N_NoMark___init__ : List Str := ["self", "mark"]
theorem sc_NoMark___init__ : FnScope N_NoMark___init__ ["self", "mark"] (defScope s_NoMark___init__) := ⟨rfl, rfl, rfl, by decide +kernel, rfl, by decide +kernel, by decide +kernel⟩
abbrev s_Stale___init__ : Stmt := inClass (top 7) 0
abbrev N_Stale___init__ : List Str := ["self", "mark", "there"]
theorem sc_Stale___init__ : FnScope N_Stale___init__ ["self", "mark", "there"] (defScope s_Stale___init__) := ⟨rfl, rfl, rfl, by decide +kernel, rfl, by decide +kernel, by decide +kernel⟩
abbrev s_NotAhead___init__ : Stmt := inClass (top 8) 0
abbrev N_NotAhead___init__ : List Str := ["self", "mark", "why"]
theorem sc_NotAhead___init__ : FnScope N_NotAhead___init__ ["self", "mark", "why"] (defScope s_NotAhead___init__) := ⟨rfl, rfl, rfl, by decide +kernel, rfl, by decide +kernel, by decide +kernel⟩
abbrev s_is_int : Stmt := top 13
abbrev N_is_int : List Str := ["thing", "least"]
theorem sc_is_int : FnScope N_is_int ["thing", "least"] (defScope s_is_int) := ⟨rfl, rfl, rfl, by decide +kernel, rfl, by decide +kernel, by decide +kernel⟩
abbrev s_is_text : Stmt := top 14
abbrev N_is_text : List Str := ["thing", "most", "sign"]
theorem sc_is_text : FnScope N_is_text ["thing", "most"] (defScope s_is_text) := ⟨rfl, rfl, rfl, by decide +kernel, rfl, by decide +kernel, by decide +kernel⟩
abbrev s_is_label : Stmt := top 15
abbrev N_is_label : List Str := ["thing", "sign"]
theorem sc_is_label : FnScope N_is_label ["thing"] (defScope s_is_label) := ⟨rfl, rfl, rfl, by decide +kernel, rfl, by decide +kernel, by decide +kernel⟩
abbrev s_rise : Stmt := top 16
abbrev N_rise : List Str := ["row", "k"]
theorem sc_rise : FnScope N_rise ["row"] (defScope s_rise) := ⟨rfl, rfl, rfl, by decide +kernel, rfl, by decide +kernel, by decide +kernel⟩
abbrev s_are_ints : Stmt := top 17
abbrev N_are_ints : List Str := ["thing", "part"]
theorem sc_are_ints : FnScope N_are_ints ["thing"] (defScope s_are_ints) := ⟨rfl, rfl, rfl, by decide +kernel, rfl, by decide +kernel, by decide +kernel⟩
abbrev s_rising_ints : Stmt := top 18
abbrev N_rising_ints : List Str := ["thing"]
theorem sc_rising_ints : FnScope N_rising_ints ["thing"] (defScope s_rising_ints) := ⟨rfl, rfl, rfl, by decide +kernel, rfl, by decide +kernel, by decide +kernel⟩
abbrev s_is_pair : Stmt := top 19
abbrev N_is_pair : List Str := ["thing"]
theorem sc_is_pair : FnScope N_is_pair ["thing"] (defScope s_is_pair) := ⟨rfl, rfl, rfl, by decide +kernel, rfl, by decide +kernel, by decide +kernel⟩
abbrev s_are_rows : Stmt := top 20
abbrev N_are_rows : List Str := ["thing", "row"]
theorem sc_are_rows : FnScope N_are_rows ["thing"] (defScope s_are_rows) := ⟨rfl, rfl, rfl, by decide +kernel, rfl, by decide +kernel, by decide +kernel⟩
abbrev s_held_parents : Stmt := top 41
abbrev N_held_parents : List Str := ["view", "version", "parent"]
theorem sc_held_parents : FnScope N_held_parents ["view", "version"] (defScope s_held_parents) := ⟨rfl, rfl, rfl, by decide +kernel, rfl, by decide +kernel, by decide +kernel⟩
abbrev s_edges_of : Stmt := top 42
abbrev N_edges_of : List Str := ["view", "versions", "found", "version"]
theorem sc_edges_of : FnScope N_edges_of ["view", "versions"] (defScope s_edges_of) := ⟨rfl, rfl, rfl, by decide +kernel, rfl, by decide +kernel, by decide +kernel⟩
abbrev s_way : Stmt := top 43
abbrev N_way : List Str := ["view", "old", "new", "above", "row", "version", "parent", "versions", "walk"]
theorem sc_way : FnScope N_way ["view", "old", "new"] (defScope s_way) := ⟨rfl, rfl, rfl, by decide +kernel, rfl, by decide +kernel, by decide +kernel⟩
abbrev s_Book___init__ : Stmt := inClass (top 24) 0
abbrev N_Book___init__ : List Str := ["self"]
theorem sc_Book___init__ : FnScope N_Book___init__ ["self"] (defScope s_Book___init__) := ⟨rfl, rfl, rfl, by decide +kernel, rfl, by decide +kernel, by decide +kernel⟩
abbrev s_Book_named : Stmt := inClass (top 24) 2
abbrev N_Book_named : List Str := ["self", "content"]
theorem sc_Book_named : FnScope N_Book_named ["self", "content"] (defScope s_Book_named) := ⟨rfl, rfl, rfl, by decide +kernel, rfl, by decide +kernel, by decide +kernel⟩
abbrev s_Book_thing : Stmt := inClass (top 24) 4
abbrev N_Book_thing : List Str := ["self", "name"]
theorem sc_Book_thing : FnScope N_Book_thing ["self", "name"] (defScope s_Book_thing) := ⟨rfl, rfl, rfl, by decide +kernel, rfl, by decide +kernel, by decide +kernel⟩
abbrev s_Book_kind : Stmt := inClass (top 24) 5
abbrev N_Book_kind : List Str := ["self", "name"]
abbrev s_Book_parts : Stmt := inClass (top 24) 6
abbrev N_Book_parts : List Str := ["self", "name", "content", "label", "part"]
theorem sc_Book_parts : FnScope N_Book_parts ["self", "name"] (defScope s_Book_parts) := ⟨rfl, rfl, rfl, by decide +kernel, rfl, by decide +kernel, by decide +kernel⟩
abbrev s_is_name : Stmt := top 25
abbrev N_is_name : List Str := ["book", "thing"]
theorem sc_is_name : FnScope N_is_name ["book", "thing"] (defScope s_is_name) := ⟨rfl, rfl, rfl, by decide +kernel, rfl, by decide +kernel, by decide +kernel⟩
abbrev s_is_kind : Stmt := top 26
abbrev N_is_kind : List Str := ["book", "thing", "kind"]
theorem sc_is_kind : FnScope N_is_kind ["book", "thing", "kind"] (defScope s_is_kind) := ⟨rfl, rfl, rfl, by decide +kernel, rfl, by decide +kernel, by decide +kernel⟩
abbrev s_is_entry : Stmt := top 27
abbrev N_is_entry : List Str := ["book", "thing"]
theorem sc_is_entry : FnScope N_is_entry ["book", "thing"] (defScope s_is_entry) := ⟨rfl, rfl, rfl, by decide +kernel, rfl, by decide +kernel, by decide +kernel⟩
abbrev s_is_tree : Stmt := top 28
abbrev N_is_tree : List Str := ["book", "entries", "entry"]
theorem sc_is_tree : FnScope N_is_tree ["book", "entries"] (defScope s_is_tree) := ⟨rfl, rfl, rfl, by decide +kernel, rfl, by decide +kernel, by decide +kernel⟩
abbrev s_depth_of : Stmt := top 29
abbrev N_depth_of : List Str := ["book", "content", "label", "name"]
theorem sc_depth_of : FnScope N_depth_of ["book", "content"] (defScope s_depth_of) := ⟨rfl, rfl, rfl, by decide +kernel, rfl, by decide +kernel, by decide +kernel⟩
abbrev s_is_version : Stmt := top 30
abbrev N_is_version : List Str := ["book", "content", "parents", "parent"]
theorem sc_is_version : FnScope N_is_version ["book", "content"] (defScope s_is_version) := ⟨rfl, rfl, rfl, by decide +kernel, rfl, by decide +kernel, by decide +kernel⟩
abbrev s_is_content : Stmt := top 31
abbrev N_is_content : List Str := ["book", "thing"]
theorem sc_is_content : FnScope N_is_content ["book", "thing"] (defScope s_is_content) := ⟨rfl, rfl, rfl, by decide +kernel, rfl, by decide +kernel, by decide +kernel⟩
abbrev s_Holding___init__ : Stmt := inClass (top 37) 0
abbrev N_Holding___init__ : List Str := ["self", "book", "names", "name"]
theorem sc_Holding___init__ : FnScope N_Holding___init__ ["self", "book", "names"] (defScope s_Holding___init__) := ⟨rfl, rfl, rfl, by decide +kernel, rfl, by decide +kernel, by decide +kernel⟩
abbrev s_Holding_holds : Stmt := inClass (top 37) 4
abbrev N_Holding_holds : List Str := ["self", "name"]
theorem sc_Holding_holds : FnScope N_Holding_holds ["self", "name"] (defScope s_Holding_holds) := ⟨rfl, rfl, rfl, by decide +kernel, rfl, by decide +kernel, by decide +kernel⟩
abbrev s_Store___init__ : Stmt := inClass (top 39) 0
abbrev N_Store___init__ : List Str := ["self", "book"]
theorem sc_Store___init__ : FnScope N_Store___init__ ["self", "book"] (defScope s_Store___init__) := ⟨rfl, rfl, rfl, by decide +kernel, rfl, by decide +kernel, by decide +kernel⟩
abbrev s_Store_put : Stmt := inClass (top 39) 2
abbrev N_Store_put : List Str := ["self", "name"]
theorem sc_Store_put : FnScope N_Store_put ["self", "name"] (defScope s_Store_put) := ⟨rfl, rfl, rfl, by decide +kernel, rfl, by decide +kernel, by decide +kernel⟩
abbrev s_Store_held : Stmt := inClass (top 39) 5
abbrev N_Store_held : List Str := ["self"]
theorem sc_Store_held : FnScope N_Store_held ["self"] (defScope s_Store_held) := ⟨rfl, rfl, rfl, by decide +kernel, rfl, by decide +kernel, by decide +kernel⟩
abbrev s_Store_view : Stmt := inClass (top 39) 6
abbrev N_Store_view : List Str := ["self"]
theorem sc_Store_view : FnScope N_Store_view ["self"] (defScope s_Store_view) := ⟨rfl, rfl, rfl, by decide +kernel, rfl, by decide +kernel, by decide +kernel⟩
abbrev s_Store_holds : Stmt := inClass (top 39) 4
abbrev N_Store_holds : List Str := ["self", "name"]
theorem sc_Store_holds : FnScope N_Store_holds ["self", "name"] (defScope s_Store_holds) := ⟨rfl, rfl, rfl, by decide +kernel, rfl, by decide +kernel, by decide +kernel⟩
abbrev s_Store_changes : Stmt := inClass (top 39) 7
abbrev N_Store_changes : List Str := ["self"]
theorem sc_Store_changes : FnScope N_Store_changes ["self"] (defScope s_Store_changes) := ⟨rfl, rfl, rfl, by decide +kernel, rfl, by decide +kernel, by decide +kernel⟩
abbrev s_House___init__ : Stmt := inClass (top 46) 0
abbrev N_House___init__ : List Str := ["self", "book"]
theorem sc_House___init__ : FnScope N_House___init__ ["self", "book"] (defScope s_House___init__) := ⟨rfl, rfl, rfl, by decide +kernel, rfl, by decide +kernel, by decide +kernel⟩
abbrev s_House_marks : Stmt := inClass (top 46) 1
abbrev N_House_marks : List Str := ["self"]
theorem sc_House_marks : FnScope N_House_marks ["self"] (defScope s_House_marks) := ⟨rfl, rfl, rfl, by decide +kernel, rfl, by decide +kernel, by decide +kernel⟩
abbrev s_House_at : Stmt := inClass (top 46) 2
abbrev N_House_at : List Str := ["self", "mark"]
theorem sc_House_at : FnScope N_House_at ["self", "mark"] (defScope s_House_at) := ⟨rfl, rfl, rfl, by decide +kernel, rfl, by decide +kernel, by decide +kernel⟩
abbrev s_House_must_have : Stmt := inClass (top 46) 3
abbrev N_House_must_have : List Str := ["self", "version"]
theorem sc_House_must_have : FnScope N_House_must_have ["self", "version"] (defScope s_House_must_have) := ⟨rfl, rfl, rfl, by decide +kernel, rfl, by decide +kernel, by decide +kernel⟩
abbrev s_House_move : Stmt := inClass (top 46) 4
abbrev N_House_move : List Str := ["self", "mark", "old", "new", "back", "there", "told"]
theorem sc_House_move : FnScope N_House_move ["self", "mark", "old", "new", "back"] (defScope s_House_move) := ⟨rfl, rfl, rfl, by decide +kernel, rfl, by decide +kernel, by decide +kernel⟩
abbrev s_House_trail : Stmt := inClass (top 46) 6
abbrev N_House_trail : List Str := ["self"]
theorem sc_House_trail : FnScope N_House_trail ["self"] (defScope s_House_trail) := ⟨rfl, rfl, rfl, by decide +kernel, rfl, by decide +kernel, by decide +kernel⟩
abbrev s_law_deck : Stmt := top 48
abbrev N_law_deck : List Str := ["_law_script"]
theorem sc_law_deck : FnScope N_law_deck ["_law_script"] (defScope s_law_deck) := ⟨rfl, rfl, rfl, by decide +kernel, rfl, by decide +kernel, by decide +kernel⟩
abbrev s_law_mixed : Stmt := top 49
abbrev N_law_mixed : List Str := ["_law_cell", "_law_turn"]
theorem sc_law_mixed : FnScope N_law_mixed ["_law_cell", "_law_turn"] (defScope s_law_mixed) := ⟨rfl, rfl, rfl, by decide +kernel, rfl, by decide +kernel, by decide +kernel⟩
abbrev s_law_draw : Stmt := top 50
abbrev N_law_draw : List Str := ["_law_deck_here", "_law_many", "_law_cells", "_law_found", "_law_number"]
theorem sc_law_draw : FnScope N_law_draw ["_law_deck_here", "_law_many"] (defScope s_law_draw) := ⟨rfl, rfl, rfl, by decide +kernel, rfl, by decide +kernel, by decide +kernel⟩
abbrev s_law_label : Stmt := top 51
abbrev N_law_label : List Str := ["_law_deck_here", "_law_letters", "_law_k"]
theorem sc_law_label : FnScope N_law_label ["_law_deck_here"] (defScope s_law_label) := ⟨rfl, rfl, rfl, by decide +kernel, rfl, by decide +kernel, by decide +kernel⟩
abbrev s_law_give : Stmt := top 52
abbrev N_law_give : List Str := ["_law_things", "_law_content"]
theorem sc_law_give : FnScope N_law_give ["_law_things", "_law_content"] (defScope s_law_give) := ⟨rfl, rfl, rfl, by decide +kernel, rfl, by decide +kernel, by decide +kernel⟩
abbrev s_law_some : Stmt := top 53
abbrev N_law_some : List Str := ["_law_deck_here", "_law_names", "_law_count", "_law_some_here", "_law_k"]
theorem sc_law_some : FnScope N_law_some ["_law_deck_here", "_law_names", "_law_count"] (defScope s_law_some) := ⟨rfl, rfl, rfl, by decide +kernel, rfl, by decide +kernel, by decide +kernel⟩
abbrev s_law_book : Stmt := top 54
abbrev N_law_book : List Str := ["_law_things", "_law_book_here", "_law_content"]
theorem sc_law_book : FnScope N_law_book ["_law_things"] (defScope s_law_book) := ⟨rfl, rfl, rfl, by decide +kernel, rfl, by decide +kernel, by decide +kernel⟩
abbrev s_law_house : Stmt := top 55
abbrev N_law_house : List Str := ["_law_book_here", "_law_held", "_law_house_here", "_law_name"]
theorem sc_law_house : FnScope N_law_house ["_law_book_here", "_law_held"] (defScope s_law_house) := ⟨rfl, rfl, rfl, by decide +kernel, rfl, by decide +kernel, by decide +kernel⟩
abbrev s_law_int : Stmt := top 56
abbrev N_law_int : List Str := ["_law_thing"]
theorem sc_law_int : FnScope N_law_int ["_law_thing"] (defScope s_law_int) := ⟨rfl, rfl, rfl, by decide +kernel, rfl, by decide +kernel, by decide +kernel⟩
abbrev s_law_same : Stmt := top 57
abbrev N_law_same : List Str := ["_law_found", "_law_due", "_law_k"]
theorem sc_law_same : FnScope N_law_same ["_law_found", "_law_due"] (defScope s_law_same) := ⟨rfl, rfl, rfl, by decide +kernel, rfl, by decide +kernel, by decide +kernel⟩
abbrev s_law_parents : Stmt := top 58
abbrev N_law_parents : List Str := ["_law_things", "_law_here_here", "_law_version", "_law_name"]
theorem sc_law_parents : FnScope N_law_parents ["_law_things", "_law_here_here", "_law_version"] (defScope s_law_parents) := ⟨rfl, rfl, rfl, by decide +kernel, rfl, by decide +kernel, by decide +kernel⟩
abbrev s_law_lower : Stmt := top 59
abbrev N_law_lower : List Str := ["_law_things", "_law_here_here", "_law_version", "_law_found", "_law_name", "_law_parent"]
theorem sc_law_lower : FnScope N_law_lower ["_law_things", "_law_here_here", "_law_version"] (defScope s_law_lower) := ⟨rfl, rfl, rfl, by decide +kernel, rfl, by decide +kernel, by decide +kernel⟩
abbrev s_law_brims : Stmt := top 60
abbrev N_law_brims : List Str := ["_law_things", "_law_here_here", "_law_versions_here", "_law_name"]
theorem sc_law_brims : FnScope N_law_brims ["_law_things", "_law_here_here", "_law_versions_here"] (defScope s_law_brims) := ⟨rfl, rfl, rfl, by decide +kernel, rfl, by decide +kernel, by decide +kernel⟩
abbrev s_law_is_walk : Stmt := top 61
abbrev N_law_is_walk : List Str := ["_law_things", "_law_here_here", "_law_was_here", "_law_goes_here", "_law_versions_here", "_law_name", "_law_k"]
theorem sc_law_is_walk : FnScope N_law_is_walk ["_law_things", "_law_here_here", "_law_was_here", "_law_goes_here", "_law_versions_here"] (defScope s_law_is_walk) := ⟨rfl, rfl, rfl, by decide +kernel, rfl, by decide +kernel, by decide +kernel⟩
abbrev s_law_way_told : Stmt := top 62
abbrev N_law_way_told : List Str := ["_law_things", "_law_here_here", "_law_was_here", "_law_goes_here", "_law_thing", "_law_lower_here"]
theorem sc_law_way_told : FnScope N_law_way_told ["_law_things", "_law_here_here", "_law_was_here", "_law_goes_here", "_law_thing"] (defScope s_law_way_told) := ⟨rfl, rfl, rfl, by decide +kernel, rfl, by decide +kernel, by decide +kernel⟩
abbrev s_law_here : Stmt := top 63
abbrev N_law_here : List Str := ["_law_names", "_law_here_here", "_law_name"]
theorem sc_law_here : FnScope N_law_here ["_law_names"] (defScope s_law_here) := ⟨rfl, rfl, rfl, by decide +kernel, rfl, by decide +kernel, by decide +kernel⟩
abbrev s_law_is_label : Stmt := top 64
abbrev N_law_is_label : List Str := ["_law_thing", "_law_sign"]
theorem sc_law_is_label : FnScope N_law_is_label ["_law_thing"] (defScope s_law_is_label) := ⟨rfl, rfl, rfl, by decide +kernel, rfl, by decide +kernel, by decide +kernel⟩
abbrev s_law_mark : Stmt := top 65
abbrev N_law_mark : List Str := ["_law_deck_here", "_law_turn", "_law_some_here"]
theorem sc_law_mark : FnScope N_law_mark ["_law_deck_here"] (defScope s_law_mark) := ⟨rfl, rfl, rfl, by decide +kernel, rfl, by decide +kernel, by decide +kernel⟩
abbrev s_law_goes : Stmt := top 66
abbrev N_law_goes : List Str := ["_law_deck_here", "_law_things", "_law_versions_here", "_law_turn"]
theorem sc_law_goes : FnScope N_law_goes ["_law_deck_here", "_law_things", "_law_versions_here"] (defScope s_law_goes) := ⟨rfl, rfl, rfl, by decide +kernel, rfl, by decide +kernel, by decide +kernel⟩
abbrev s_law_was : Stmt := top 67
abbrev N_law_was : List Str := ["_law_deck_here", "_law_stands", "_law_mark_here", "_law_versions_here", "_law_turn"]
theorem sc_law_was : FnScope N_law_was ["_law_deck_here", "_law_stands", "_law_mark_here", "_law_versions_here"] (defScope s_law_was) := ⟨rfl, rfl, rfl, by decide +kernel, rfl, by decide +kernel, by decide +kernel⟩
abbrev s_law_moved : Stmt := top 68
abbrev N_law_moved : List Str := ["_law_house_here", "_law_mark_here", "_law_was_here", "_law_goes_here", "_law_turn", "_law_told", "e"]
theorem sc_law_moved : FnScope N_law_moved ["_law_house_here", "_law_mark_here", "_law_was_here", "_law_goes_here", "_law_turn"] (defScope s_law_moved) := ⟨rfl, rfl, rfl, by decide +kernel, rfl, by decide +kernel, by decide +kernel⟩
abbrev s_law_is_version : Stmt := top 69
abbrev N_law_is_version : List Str := ["_law_things", "_law_name"]
theorem sc_law_is_version : FnScope N_law_is_version ["_law_things", "_law_name"] (defScope s_law_is_version) := ⟨rfl, rfl, rfl, by decide +kernel, rfl, by decide +kernel, by decide +kernel⟩
abbrev s_law_move_due : Stmt := top 70
abbrev N_law_move_due : List Str := ["_law_things", "_law_here_here", "_law_stands", "_law_mark_here", "_law_was_here", "_law_goes_here", "_law_turn", "_law_lower_here"]
theorem sc_law_move_due : FnScope N_law_move_due ["_law_things", "_law_here_here", "_law_stands", "_law_mark_here", "_law_was_here", "_law_goes_here", "_law_turn"] (defScope s_law_move_due) := ⟨rfl, rfl, rfl, by decide +kernel, rfl, by decide +kernel, by decide +kernel⟩
abbrev s_law_move_right : Stmt := top 71
abbrev N_law_move_right : List Str := ["_law_things", "_law_here_here", "_law_was_here", "_law_goes_here", "_law_due", "_law_told"]
theorem sc_law_move_right : FnScope N_law_move_right ["_law_things", "_law_here_here", "_law_was_here", "_law_goes_here", "_law_due", "_law_told"] (defScope s_law_move_right) := ⟨rfl, rfl, rfl, by decide +kernel, rfl, by decide +kernel, by decide +kernel⟩
abbrev s_law_set : Stmt := top 72
abbrev N_law_set : List Str := ["_law_stands", "_law_mark_here", "_law_goes_here"]
theorem sc_law_set : FnScope N_law_set ["_law_stands", "_law_mark_here", "_law_goes_here"] (defScope s_law_set) := ⟨rfl, rfl, rfl, by decide +kernel, rfl, by decide +kernel, by decide +kernel⟩
abbrev s_law_pairs : Stmt := top 73
abbrev N_law_pairs : List Str := ["_law_stands", "_law_mark_here"]
theorem sc_law_pairs : FnScope N_law_pairs ["_law_stands"] (defScope s_law_pairs) := ⟨rfl, rfl, rfl, by decide +kernel, rfl, by decide +kernel, by decide +kernel⟩
abbrev s_law_at : Stmt := top 74
abbrev N_law_at : List Str := ["_law_house_here", "_law_mark_here", "_law_told", "e"]
theorem sc_law_at : FnScope N_law_at ["_law_house_here", "_law_mark_here"] (defScope s_law_at) := ⟨rfl, rfl, rfl, by decide +kernel, rfl, by decide +kernel, by decide +kernel⟩
abbrev s_law_scene : Stmt := top 75
abbrev N_law_scene : List Str := ["_law_deck_here", "_law_most", "_law_pick", "_law_things", "_law_k", "_law_parents_here", "_law_names", "_law_held", "_law_gone", "_law_name"]
theorem sc_law_scene : FnScope N_law_scene ["_law_deck_here", "_law_most"] (defScope s_law_scene) := ⟨rfl, rfl, rfl, by decide +kernel, rfl, by decide +kernel, by decide +kernel⟩
abbrev s_law_versions : Stmt := top 76
abbrev N_law_versions : List Str := ["_law_things", "_law_here_here", "_law_name"]
theorem sc_law_versions : FnScope N_law_versions ["_law_things", "_law_here_here"] (defScope s_law_versions) := ⟨rfl, rfl, rfl, by decide +kernel, rfl, by decide +kernel, by decide +kernel⟩
abbrev s_law_state_right : Stmt := top 77
abbrev N_law_state_right : List Str := ["_law_deck_here", "_law_house_here", "_law_stands", "_law_made", "_law_first", "_law_mark_here", "_law_due", "_law_found", "_law_marks"]
theorem sc_law_state_right : FnScope N_law_state_right ["_law_deck_here", "_law_house_here", "_law_stands", "_law_made"] (defScope s_law_state_right) := ⟨rfl, rfl, rfl, by decide +kernel, rfl, by decide +kernel, by decide +kernel⟩
abbrev s_law_set_all : Stmt := top 78
abbrev N_law_set_all : List Str := ["_law_deck_here", "_law_house_here", "_law_versions_here", "_law_stands", "_law_made", "_law_letter", "_law_mark_here", "_law_goes_here"]
theorem sc_law_set_all : FnScope N_law_set_all ["_law_deck_here", "_law_house_here", "_law_versions_here", "_law_stands", "_law_made"] (defScope s_law_set_all) := ⟨rfl, rfl, rfl, by decide +kernel, rfl, by decide +kernel, by decide +kernel⟩
abbrev s_law : Stmt := top 79
abbrev N_law : List Str := ["_law_script", "_law_deck_here", "_law_things", "_law_held", "_law_here_here", "_law_versions_here", "_law_house_here", "_law_stands", "_law_made", "_law_k", "_law_again", "_law_turn", "_law_mark_here", "_law_was_here", "_law_goes_here", "_law_times", "_law_turns", "_law_due", "_law_told"]
theorem sc_law : FnScope N_law ["_law_script"] (defScope s_law) := ⟨rfl, rfl, rfl, by decide +kernel, rfl, by decide +kernel, by decide +kernel⟩
structure Df (K : PySem.W.Frag) (mg : Str → Option Value) (x : Str) (st : Stmt) (ps : List Str) (f : Addr) (fd : FuncData) : Prop where
  fn : Fun K x x st f fd
  b : Binds K fd ps []
  g : mg x = some (.ref f)
structure Txt (K : PySem.W.Frag) (mg : Str → Option Value) : Prop where
  n_len : mg "len" = none
  n_list : mg "list" = none
  n_isinstance : mg "isinstance" = none
  n_int : mg "int" = none
  n_bool : mg "bool" = none
  n_str : mg "str" = none
  n_tuple : mg "tuple" = none
  n_dict : mg "dict" = none
  n_range : mg "range" = none
  n_all : mg "all" = none
  n_min : mg "min" = none
  n_max : mg "max" = none
  n_set : mg "set" = none
  n_sorted : mg "sorted" = none
  n_ValueError : mg "ValueError" = none
  g_SIGNS : ∃ t, mg "SIGNS" = some (.str " !\"#$&'()*+,-./0123456789:;<=>?@ABCDEFGHIJKLMNOPQRSTUVWXYZ[\\]^_`abcdefghijklmnopqrstuvwxyz{|}~" t)
  g_LETTERS : ∃ t, mg "LETTERS" = some (.str "abcdefghijklmnopqrstuvwxyz" t)
  g_MOST : ∃ t, mg "MOST" = some (.int 400 t)
  g_DEEP : ∃ t, mg "DEEP" = some (.int 8 t)
  g_LAST : ∃ t, mg "LAST" = some (.int 50 t)
local macro_rules | `(tactic| walk_at "sq") => `(tactic| first | assumption | exact SqL.of (by assumption) | exact SqT.of (by assumption) | exact TupD.sq (by assumption))
local macro_rules | `(tactic| walk_at "c") => `(tactic| first | ((with_reducible refine cdivw ?_ ?_) <;> first | decide | omega | assumption) | ((with_reducible refine cmul_r ?_ ?_) <;> first | decide | omega) | ((with_reducible refine cmul_l ?_ ?_) <;> first | decide | omega) | with_reducible assumption | decide | omega | exact ⟨by decide, by decide, by first | decide | omega⟩)
local macro_rules | `(tactic| walk_at "at") => `(tactic| first | assumption | exact rfl)
local macro_rules | `(tactic| walk_at "ty") => `(tactic| first | exact .base (.int _) | exact .base (.bl _) | exact .base (.str _) | exact .base .non | exact .base (.tup (by assumption)) | exact .base (.lst (by assumption)) | exact .base (.dK (by assumption)) | exact TupD.tx (by assumption))
local macro_rules | `(tactic| walk_at "kb") => `(tactic| first | exact kb_int_int | exact kb_int_bool | exact kb_int_str | exact kb_int_tuple | exact kb_int_list | exact kb_int_dict | exact kb_bool_int | exact kb_bool_bool | exact kb_bool_str | exact kb_bool_tuple | exact kb_bool_list | exact kb_bool_dict | exact kb_str_int | exact kb_str_bool | exact kb_str_str | exact kb_str_tuple | exact kb_str_list | exact kb_str_dict | exact kb_tuple_int | exact kb_tuple_bool | exact kb_tuple_str | exact kb_tuple_tuple | exact kb_tuple_list | exact kb_tuple_dict | exact kb_list_int | exact kb_list_bool | exact kb_list_str | exact kb_list_tuple | exact kb_list_list | exact kb_list_dict | exact kb_dict_int | exact kb_dict_bool | exact kb_dict_str | exact kb_dict_tuple | exact kb_dict_list | exact kb_dict_dict | exact kb_NoneType_int | exact kb_NoneType_bool | exact kb_NoneType_str | exact kb_NoneType_tuple | exact kb_NoneType_list | exact kb_NoneType_dict)
local macro_rules | `(tactic| walk_at "s") => `(tactic| first
  | dsimp only [Bool.not_true, Bool.not_false]
  )
local macro_rules | `(tactic| walk_at "s") => `(tactic| first
  | with_reducible refine w_m1 ?_
  | with_reducible refine w_isS ?_
  | with_reducible refine w_istr ?_
  | with_reducible refine w_istr' ?_
  | ((with_reducible refine' w_all ?h1 ?_); (case h1 => walk_at "sq"))
  | ((with_reducible refine' w_glst ?h1 ?h2 ?_); (case h1 => walk_at "sq"); (case h2 => exact rfl))
  | with_reducible refine w_callN ?_
  | with_reducible refine w_step ?_
  )
local macro_rules | `(tactic| walk_at "s") => `(tactic| first
  | with_reducible refine w_tryG ?_
  | with_reducible refine w_inS ?_
  | with_reducible refine w_neS ?_
  | with_reducible refine w_ltS ?_
  | with_reducible refine w_gtS ?_
  | ((with_reducible refine' w_augI ?hv ?_); (case hv => exact rfl))
  | ((with_reducible refine w_ipI ?_); dsimp only [List.set_cons_zero, List.set_cons_succ])
  | with_reducible refine w_callD ?_
  )
local macro_rules | `(tactic| walk_at "s") => `(tactic| first
  | with_reducible refine w_keys ?_
  | ((with_reducible refine' w_keys' ?h1 ?_); (case h1 => assumption))
  | ((with_reducible refine' w_dinF ?h1 ?_); (case h1 => assumption))
  | ((with_reducible refine' w_dgetF ?h1 ?h2 ?_); (case h1 => assumption); (case h2 => assumption))
  | ((with_reducible refine' w_any ?h1 ?_); (case h1 => walk_at "sq"))
  | with_reducible refine w_zipA ?_
  | ((with_reducible refine' w_zipT' ?h1 ?h2 ?_); (case h1 => walk_at "sq"); (case h2 => walk_at "sq"))
  | with_reducible refine w_dct ?_
  )
local macro_rules | `(tactic| walk_at "s") => `(tactic| first
  | with_reducible refine w_noPart ?_
  | with_reducible refine w_part ?_
  | with_reducible refine w_part' ?_
  | with_reducible refine w_enum ?_
  | ((with_reducible refine' w_enum' ?h1 ?_); (case h1 => walk_at "sq"))
  | with_reducible refine w_bm0 ?_
  | with_reducible refine w_retN ?_
  | with_reducible refine w_tyes ?_
  )
local macro_rules | `(tactic| walk_at "s") => `(tactic| first
  | ((with_reducible refine' w_trT ?h1 ?_); (case h1 => walk_at "sq"))
  | with_reducible refine w_dc ?_
  | with_reducible refine w_dc2 ?_
  | with_reducible refine w_dget1 ?_
  | ((with_reducible refine' w_dget1I ?h1 ?_); (case h1 => assumption))
  | with_reducible refine w_rev ?_
  | ((with_reducible refine' w_rev' ?h1 ?_); (case h1 => walk_at "sq"))
  | with_reducible refine w_slice ?_
  )
local macro_rules | `(tactic| walk_at "s") => `(tactic| first
  | with_reducible refine w_callS ?_
  | with_reducible refine w_try ?_
  | with_reducible refine w_isB ?_
  | with_reducible refine w_isN ?_
  | with_reducible refine w_notN ?_
  | with_reducible refine w_chain ?_
  | with_reducible refine w_tru ?_
  | ((with_reducible refine' w_trL ?h1 ?_); (case h1 => walk_at "sq"))
  )
local macro_rules | `(tactic| walk_at "s") => `(tactic| first
  | with_reducible refine w_dsetd ?_
  | ((with_reducible refine' w_leT2 ?h1 ?h2 ?_); (case h1 => walk_at "sq"); (case h2 => walk_at "sq"))
  | ((with_reducible refine' w_inT ?h1 ?_); (case h1 => walk_at "sq"))
  | ((with_reducible refine' w_ninT ?h1 ?_); (case h1 => walk_at "sq"))
  | ((with_reducible refine' w_inL ?h1 ?_); (case h1 => walk_at "sq"))
  | ((with_reducible refine' w_ninL ?h1 ?_); (case h1 => walk_at "sq"))
  | with_reducible refine w_pair ?_
  | with_reducible refine w_pnil ?_
  )
local macro_rules | `(tactic| walk_at "s") => `(tactic| first
  | ((with_reducible refine' w_dinI ?h1 ?_); (case h1 => assumption))
  | ((with_reducible refine' w_dnotinI ?h1 ?_); (case h1 => assumption))
  | ((with_reducible refine' w_dgetI ?h1 ?h2 ?_); (case h1 => assumption); (case h2 => assumption))
  | with_reducible refine w_dnewK ?_
  | with_reducible refine w_dput ?_
  | with_reducible refine w_dget2 ?_
  | ((with_reducible refine' w_isD ?h1 ?_); (case h1 => assumption))
  | ((with_reducible refine' w_dget2I ?h1 ?_); (case h1 => assumption))
  )
local macro_rules | `(tactic| walk_at "s") => `(tactic| first
  | with_reducible refine w_eqB ?_
  | ((with_reducible refine' w_sum ?h1 ?_); (case h1 => walk_at "sq"))
  | ((with_reducible refine' w_gtup ?h1 ?h2 ?_); (case h1 => walk_at "sq"); (case h2 => exact rfl))
  | with_reducible refine w_gcons ?_
  | with_reducible refine w_gnil ?_
  | with_reducible refine w_din ?_
  | with_reducible refine w_dnotin ?_
  | with_reducible refine w_dget ?_
  )
local macro_rules | `(tactic| walk_at "s") => `(tactic| first
  | ((with_reducible refine' w_itT' ?h1 ?_); (case h1 => walk_at "sq"))
  | with_reducible refine w_lc ?_
  | ((with_reducible refine' w_isi ?ty ?hk ?_); (case ty => walk_at "ty"); (case hk => walk_at "kb"))
  | with_reducible refine iteT ?_
  | with_reducible refine iteF ?_
  | with_reducible refine w_nT ?_
  | with_reducible refine w_nF ?_
  | with_reducible refine w_eqS ?_
  )
local macro_rules | `(tactic| walk_at "s") => `(tactic| first
  | with_reducible refine w_for ?_
  | with_reducible refine w_rng1 ?_
  | ((with_reducible refine w_rng1' ?h1 ?h2 ?_); (case h1 => omega); (case h2 => omega))
  | with_reducible refine w_rng2 ?_
  | ((with_reducible refine w_rng2' ?h1 ?_); (case h1 => omega))
  | with_reducible refine w_itL ?_
  | ((with_reducible refine' w_itL' ?h1 ?_); (case h1 => walk_at "sq"))
  | with_reducible refine w_itT ?_
  )
local macro_rules | `(tactic| walk_at "s") => `(tactic| first
  | ((with_reducible refine w_sz ?h1 ?_); (case h1 => first | decide | (simp only [List.length_cons, List.length_nil]; decide)))
  | with_reducible refine w_min2 ?_
  | with_reducible refine w_max2 ?_
  | with_reducible refine w_tupRg ?_
  | with_reducible refine w_rg2 ?_
  | with_reducible refine w_rg2' ?_
  | with_reducible refine w_bits ?_
  | with_reducible refine w_bits' ?_
  )
local macro_rules | `(tactic| walk_at "s") => `(tactic| first
  | with_reducible refine w_cons ?_
  | with_reducible refine w_call ?_
  | with_reducible refine w_lst ?_
  | with_reducible refine w_tup ?_
  | with_reducible refine w_bm ?_
  | ((with_reducible refine' w_tyL ?h1 ?_); (case h1 => assumption))
  | ((with_reducible refine' w_lenL ?h1 ?_); (case h1 => walk_at "sq"))
  | ((with_reducible refine' w_lenT ?h1 ?_); (case h1 => walk_at "sq"))
  )
local macro_rules | `(tactic| walk_at "s") => `(tactic| first
  | with_reducible refine w_andV ?_
  | with_reducible refine w_orV ?_
  | with_reducible refine w_notV ?_
  | with_reducible refine w_ret ?_
  | with_reducible refine w_drop ?_
  | with_reducible refine w_next ?_
  | with_reducible refine w_cb ?_
  | with_reducible refine w_nil ?_
  )
local macro_rules | `(tactic| walk_at "s") => `(tactic| first
  | with_reducible refine w_sub ?_
  | with_reducible refine w_if ?_
  | with_reducible refine w_test ?_
  | with_reducible refine w_tb ?_
  | with_reducible refine w_bl ?_
  | with_reducible refine w_and ?_
  | with_reducible refine w_or ?_
  | with_reducible refine w_not ?_
  )
local macro_rules | `(tactic| walk_at "s") => `(tactic| first
  | with_reducible refine w_eqI ?_
  | with_reducible refine w_neI ?_
  | ((with_reducible refine' w_ixL ?h1 ?h2 ?_); (case h1 => walk_at "sq"); (case h2 => walk_at "at"))
  | ((with_reducible refine' w_ixT ?h1 ?h2 ?_); (case h1 => walk_at "sq"); (case h2 => walk_at "at"))
  | ((with_reducible refine' w_ixSL ?h1 ?h2 ?_); (case h1 => walk_at "sq"); (case h2 => walk_at "at"))
  | ((with_reducible refine' w_ixST ?h1 ?h2 ?_); (case h1 => walk_at "sq"); (case h2 => walk_at "at"))
  | with_reducible refine w_neB ?_
  | with_reducible refine w_eqN ?_
  )
local macro_rules | `(tactic| walk_at "s") => `(tactic| first
  | with_reducible refine w_c ?_
  | ((with_reducible refine w_name ?_); dsimp only [List.set_cons_zero, List.set_cons_succ])
  | with_reducible refine w_name ?_
  | with_reducible refine w_op ?_
  | with_reducible refine w_un ?_
  | with_reducible refine w_neg ?_
  | with_reducible refine w_i0 ?_
  | ((with_reducible refine w_i ?hc ?_); (case hc => walk_at "c"))
  )
local macro_rules | `(tactic| walk_at "s") => `(tactic| first
  | with_reducible refine w_seqA ?_
  | with_reducible refine w_seqD ?_
  | with_reducible refine w_seqF ?_
  | with_reducible refine w_seqW ?_
  | with_reducible refine w_seqG ?_
  | with_reducible refine w_seqP ?_
  | with_reducible refine w_asg ?_
  | ((with_reducible refine' w_var ?hv ?_); (case hv => exact rfl))
  )
local macro_rules | `(tactic| walk_at "p") => `(tactic| first | assumption | omega | (simp only [List.length_cons, List.length_nil, List.length_map]; omega) | exact rfl | decide)
local macro_rules | `(tactic| walk_at "d") => `(tactic| first
  | ((with_reducible refine w_yes ?hp ?_); (case hp => walk_at "p"))
  | ((with_reducible refine w_no ?hp ?_); (case hp => walk_at "p"))
  | ((with_reducible refine w_nyes ?hp ?_); (case hp => walk_at "p"))
  | ((with_reducible refine w_nno ?hp ?_); (case hp => walk_at "p")))
local macro_rules | `(tactic| walk_at "g") => `(tactic| repeat walk_at "s")
local macro_rules | `(tactic| walk_at "dg") => `(tactic| (walk_at "d"; repeat walk_at "s"))
local macro_rules | `(tactic| walk_at "x") => `(tactic| ((try dsimp only [cxOf, Cx.nox, Cx.wish]); repeat walk_at "s"))
local macro_rules | `(tactic| walk_at "s") => `(tactic| with_reducible refine w_revT ?_)
local macro_rules | `(tactic| walk_at "s") => `(tactic| first
  | with_reducible refine w_nget ?_
  | with_reducible refine w_nget1 ?_
  | with_reducible refine w_seqNP ?_
  | with_reducible refine w_nput ?_
  | with_reducible refine w_maxD ?_
  )
local macro_rules | `(tactic| walk_at "s") => `(tactic| first
  | with_reducible refine w_fld ?_
  | ((with_reducible refine' w_fld' ?h1 ?h2 ?h3 ?h4 ?_); (case h1 => assumption); (case h2 => assumption); (case h3 => assumption); (case h4 => exact rfl))
  | with_reducible refine w_seqFS ?_
  | with_reducible refine w_fldS ?_
  | with_reducible refine w_meth ?_
  | ((with_reducible refine' w_meth' ?h1 ?h2 ?_); (case h1 => assumption); (case h2 => exact rfl))
  | with_reducible refine w_make ?_
  | with_reducible refine w_nin ?_
  )
local macro_rules | `(tactic| walk_at "s") => `(tactic| first
  | with_reducible refine w_revL ?_
  )
def spDeck (K : PySem.W.Frag) : Sp := fun vs H Q _ => ∃ (a : Addr) (ns : List Int), vs = [.ref a] ∧ SqL K H a (ns.map V.int) ∧
  ∀ H' d c, Same H H' → H d = none → H c = none → Deck H' d c 0 → Q (.ref d) H'
def spMixed : Sp := fun vs H Q _ => ∃ (x t : Int), vs = [.int x, .int t] ∧ 0 ≤ t ∧ t ≤ 2 ^ 41 ∧ ∀ i, Q (.int i) H
def spDraw : Sp := fun vs H Q _ => ∃ (d c : Addr) (n : Nat) (m : Int), vs = [.ref d, .int m] ∧ Deck H d c n ∧ n < MOSTD ∧ 0 < m ∧ m < 2 ^ 64 ∧
  ∀ (i : Nat) H', (i : Int) < m → Deck H' d c (n + 1) → Off d H H' → Q (.int i) H'
theorem w_deck {K : PySem.W.Frag} {H : Hp} {Q : VK} {E : XK} {a : Addr} {ns : List Int} (h1 : SqL K H a (ns.map V.int)) (h : ∀ H' d c, Same H H' → H d = none → H c = none → Deck H' d c 0 → Q (.ref d) H') : spDeck K ([V.ref a] ++ []) H Q E := ⟨a, ns, rfl, h1, h⟩
theorem w_draw {H : Hp} {Q : VK} {E : XK} {d c : Addr} {n : Nat} {m : Int} (D : Deck H d c n) (hn : n < MOSTD) (h0 : 0 < m) (h1 : m < 2 ^ 64) (h : ∀ (i : Nat) H', (i : Int) < m → Deck H' d c (n + 1) → Off d H H' → Q (.int i) H') : spDraw ([V.ref d, V.int m] ++ []) H Q E := ⟨d, c, n, m, rfl, D, hn, h0, h1, h⟩
section
variable {P : Program} {w : World} {K : PySem.W.Frag} {mg : Str → Option Value} {base : Heap}
theorem ok_deck {f : Addr} {fd : FuncData} (T : Txt K mg) (F : Fun K "_law_deck" "_law_deck" s_law_deck f fd) : FnOk P w K mg base CX0 1 f fd ["_law_script"] (spDeck K) := by
  refine F.ok sc_law_deck (fun vs H Q E h => ?_) (fun cdv A outer s H vs Q E hr h => ?_)
  · obtain ⟨a, ns, rfl, _⟩ := h
    rfl
  · obtain ⟨a, ns, rfl, hS, q⟩ := h
    refine ⟨_,
      (pss_one
        (ps_ret (pe_lst (pa_cons (pe_callTy (r := rListOf K) c_listOf (by rfl) T.n_list (by decide +kernel) (pa_cons (pv 0) pa_nil)) (pa_cons pe_int (pa_cons pe_int (pa_cons pe_int pa_nil)))))))
      , ?_⟩
    walk_at "x"
    refine w_listL hS fun c H1 hc e1 k1 => ?_
    walk_at "g"
    refine w_new fun d H2 hd e2 k2 => ?_
    refine q _ d c (Same.trans k1 k2) (k1.free hd) hc ⟨⟨ns, 0, 0, 0, e2, k2 _ _ e1, Nat.le_refl _⟩, ne_of_none e1 hd⟩
theorem ok_mixed {f : Addr} {fd : FuncData} (T : Txt K mg) (F : Fun K "_law_mixed" "_law_mixed" s_law_mixed f fd) : FnOk P w K mg base CX0 1 f fd ["_law_cell", "_law_turn"] spMixed := by
  refine F.ok sc_law_mixed (fun vs H Q E h => ?_) (fun cdv A outer s H vs Q E hr h => ?_)
  · obtain ⟨x, t, rfl, _⟩ := h
    rfl
  · obtain ⟨x, t, rfl, h0, h1, q⟩ := h
    refine ⟨_,
      (pss_one
        (ps_ret (pe_op op_mod (pe_op op_pow (pe_op op_add (pe_op op_add (pe_op op_mod (pv 0) pe_int) (pe_op op_mul (pv 1) pe_int)) pe_int) pe_int) pe_int)))
      , ?_⟩
    have e := Int.emod_lt_of_pos x (show (0 : Int) < 2147483629 by decide)
    have e2 := Int.emod_nonneg x (show (2147483629 : Int) ≠ 0 by decide)
    walk_at "x"
    exact q _
theorem ok_draw {f fM : Addr} {fd fdM : FuncData} (T : Txt K mg) (F : Fun K "_law_draw" "_law_draw" s_law_draw f fd) (D_law_mixed : Df K mg "_law_mixed" s_law_mixed ["_law_cell", "_law_turn"] fM fdM) : FnOk P w K mg base CX0 2 f fd ["_law_deck_here", "_law_many"] spDraw := by
  have G_law_mixed : FnOk P w K mg base CX0 1 fM fdM ["_law_cell", "_law_turn"] spMixed := ok_mixed T D_law_mixed.fn
  refine F.ok sc_law_draw (fun vs H Q E h => ?_) (fun cdv A outer s H vs Q E hr h => ?_)
  · obtain ⟨d, c, n, m, rfl, _⟩ := h
    rfl
  · obtain ⟨d, c, n, m, rfl, ⟨⟨cs, a, b, t, e1, e2, e3⟩, ne⟩, hn, hm, hm2, q⟩ := h
    have hn' : t < 1099511627776 := Nat.lt_of_le_of_lt e3 hn
    refine ⟨_,
      (pss_cons
        (ps_set (i := 2) sc_law_draw.nd rfl (.inl rfl) (pe_ix (r := rIxL K) ix_list (pv 0) pe_int (fun _ _ => rfl)))
      (pss_cons
        (ps_asg (pe_op op_add (pe_ix (r := rIxL K) ix_list (pv 0) pe_int (fun _ _ => rfl)) pe_int) (pg_sub (pv 0) pe_int set_list))
      (pss_cons
        (ps_if (PW.pt (pw_and (pt_cmpR op_eq (pe_ix (r := rIxL K) ix_list (pv 0) pe_int (fun _ _ => rfl)) pe_int (nomark _)) (pw_and1 (pt_cmpR op_lt (pe_ix (r := rIxL K) ix_list (pv 0) pe_int (fun _ _ => rfl)) (pe_callB (r := rLen K) c_len (by rfl) T.n_len (by decide +kernel) (pa_cons (pv 2) pa_nil)) (nomark _)))))
          (pss_cons
            (ps_asg (pe_op op_add (pe_ix (r := rIxL K) ix_list (pv 0) pe_int (fun _ _ => rfl)) pe_int) (pg_sub (pv 0) pe_int set_list))
          (pss_cons
            (ps_if (pt_cmpR op_lt (pe_ix (r := rIxL K) ix_list (pv 2) (pe_op op_sub (pe_ix (r := rIxL K) ix_list (pv 0) pe_int (fun _ _ => rfl)) pe_int) (fun _ _ => rfl)) (pe_op op_pow pe_int pe_int) (nomark _))
              (pss_one
                (ps_ret (pe_op op_mod (pe_call G_law_mixed (hr.mono (by omega)) (by rfl) D_law_mixed.g D_law_mixed.fn.kp D_law_mixed.b .nil pass0 (pa_cons (pe_ix (r := rIxL K) ix_list (pv 2) (pe_op op_sub (pe_ix (r := rIxL K) ix_list (pv 0) pe_int (fun _ _ => rfl)) pe_int) (fun _ _ => rfl)) (pa_cons (pe_ix (r := rIxL K) ix_list (pv 0) pe_int (fun _ _ => rfl)) pa_nil))) (pv 1))))
              pss_nil)
          (pss_one
            (ps_asg (pe_ix (r := rIxL K) ix_list (pv 2) (pe_op op_sub (pe_ix (r := rIxL K) ix_list (pv 0) pe_int (fun _ _ => rfl)) pe_int) (fun _ _ => rfl)) (pg_sub (pv 0) pe_int set_list)))))
          pss_nil)
      (pss_cons
        (ps_if (pt_cmpR op_gt (pe_ix (r := rIxL K) ix_list (pv 0) pe_int (fun _ _ => rfl)) pe_int (nomark _))
          (pss_cons
            (ps_set (i := 3) sc_law_draw.nd rfl (.inl rfl) (pe_op op_mod (pe_ix (r := rIxL K) ix_list (pv 0) pe_int (fun _ _ => rfl)) (pv 1)))
          (pss_cons
            (ps_asg (pe_op op_fdivW (pe_ix (r := rIxL K) ix_list (pv 0) pe_int (fun _ _ => rfl)) (pv 1)) (pg_sub (pv 0) pe_int set_list))
          (pss_one
            (ps_ret (pv 3)))))
          pss_nil)
      (pss_cons
        (ps_set (i := 4) sc_law_draw.nd rfl (.inl rfl) (pe_op op_mul (pe_ix (r := rIxL K) ix_list (pv 0) pe_int (fun _ _ => rfl)) pe_int))
      (pss_cons
        (ps_if (pt_cmpR op_gt (pe_callB (r := rLen K) c_len (by rfl) T.n_len (by decide +kernel) (pa_cons (pv 2) pa_nil)) pe_int (nomark _))
          (pss_one
            (ps_set (i := 4) sc_law_draw.nd rfl (.inl rfl) (pe_op op_add (pv 4) (pe_op op_mod (pe_ix (r := rIxL K) ix_list (pv 2) (pe_op op_mod (pe_op op_mul (pe_ix (r := rIxL K) ix_list (pv 0) pe_int (fun _ _ => rfl)) pe_int) (pe_callB (r := rLen K) c_len (by rfl) T.n_len (by decide +kernel) (pa_cons (pv 2) pa_nil))) (fun _ _ => rfl)) pe_int))))
          pss_nil)
      (pss_one
        (ps_ret (pe_op op_mod (pe_call G_law_mixed (hr.mono (by omega)) (by rfl) D_law_mixed.g D_law_mixed.fn.kp D_law_mixed.b .nil pass0 (pa_cons (pv 4) (pa_cons (pe_ix (r := rIxL K) ix_list (pv 0) pe_int (fun _ _ => rfl)) pa_nil))) (pv 1))))))))))
      , ?_⟩
    rw [show L2.start N_law_draw [V.ref d, V.int m] = [some (.ref d), some (.int m), none, none, none] from rfl]
    -- cells = deck[0]; deck[3] = deck[3] + 1
    walk_at "x"
    refine w_setL e1 rfl rfl fun H1 g0 o0 => ?_
    have fin : ∀ (H' : Hp) (a' : Nat) (b' i : Int), 0 ≤ i → i < m → H' d = some (.lst [.ref c, .int a', .int b', .int (t + 1)]) → Off d H H' → Q (.int i) H' := fun H' a' b' i i0 i1 g1 g2 => by
      have z := q i.toNat H' (by omega) ⟨⟨cs, a', b', t + 1, g1, (g2 c ne).trans e2, by omega⟩, ne⟩ g2
      rw [Int.toNat_of_nonneg i0] at z
      exact z
    have md : ∀ x : Int, 0 ≤ x % m ∧ x % m < m := fun x => ⟨Int.emod_nonneg x (by omega), Int.emod_lt_of_pos x hm⟩
    have g0 : H1 d = some (.lst [.ref c, .int a, .int b, .int ((t : Int) + 1)]) := g0
    have c1 : H1 c = some (.lst (cs.map V.int)) := (o0 c ne).trans e2
    -- if deck[2] == 0 and deck[1] < len(cells): ..
    refine w_seqJ (fun σ' H2 => σ' = [some (.ref d), some (.int m), some (.ref c), none, none] ∧ ∃ (a' : Nat) (b' : Int), H2 d = some (.lst [.ref c, .int a', .int b', .int ((t : Int) + 1)]) ∧ Off d H H2) ?_ ?_
    · rintro σ' H2 ⟨rfl, a', b', g2, o2⟩
      have c2 : H2 c = some (.lst (cs.map V.int)) := (o2 c ne).trans e2
      refine w_seqJ (fun σ' H3 => σ' = [some (.ref d), some (.int m), some (.ref c), none, none] ∧ H3 = H2) ?_ ?_
      · rintro σ' H3 ⟨rfl, rfl⟩
        -- number = deck[3] * 48271; if len(cells) > 0: ..
        walk_at "g"
        refine w_seqJ (fun σ' H4 => (∃ z : Int, σ' = [some (.ref d), some (.int m), some (.ref c), none, some (.int z)]) ∧ H4 = H3) ?_ ?_
        · rintro σ' H4 ⟨⟨z, rfl⟩, rfl⟩
          walk_at "g"
          refine ⟨_, _, rfl, by omega, by omega, fun y => ?_⟩
          walk_at "g"
          exact fin _ a' b' _ (md y).1 (md y).2 g2 o2
        · intro U hU
          walk_at "g"
          refine w_ite (fun hl => ?_) (fun hl => ?_)
          · obtain ⟨v, hv1, hv2⟩ := at_lt (xs := cs.map V.int) (i := ((t : Int) + 1) * 7 % ((cs.map V.int).length : Int)) (Int.emod_nonneg _ (by omega)) (Int.emod_lt_of_pos _ hl)
            rw [List.getElem?_map] at hv1
            obtain ⟨y, _, rfl⟩ := Option.map_eq_some_iff.mp hv1
            walk_at "g"
            exact hU _ _ ⟨⟨_, rfl⟩, rfl⟩
          · exact hU _ _ ⟨⟨_, rfl⟩, rfl⟩
      · intro U hU
        walk_at "g"
        refine w_ite (fun hl => ?_) (fun hl => ?_)
        · walk_at "g"
          refine w_setL g2 rfl rfl fun H9 g9 o9 => ?_
          walk_at "g"
          exact fin _ a' (b' / m) _ (md b').1 (md b').2 g9 (o2.trans o9)
        · exact hU _ _ ⟨rfl, rfl⟩
    · intro U hU
      have no : U [some (.ref d), some (.int m), some (.ref c), none, none] H1 := hU _ _ ⟨rfl, a, b, g0, o0⟩
      walk_at "g"
      refine w_ite (fun hl => ?_) (fun _ => no)
      walk_at "g"
      refine w_ite (fun hl2 => ?_) (fun _ => no)
      obtain ⟨v, hv1, hv2⟩ := at_lt (xs := cs.map V.int) (i := ((a + 1 : Nat) : Int) - 1) (by omega) (by omega)
      rw [List.getElem?_map] at hv1
      obtain ⟨y, _, rfl⟩ := Option.map_eq_some_iff.mp hv1
      walk_at "g"
      refine w_setL g0 rfl rfl fun H2 g2 o2 => ?_
      have g2 : H2 d = some (.lst [.ref c, .int ((a + 1 : Nat) : Int), .int b, .int ((t : Int) + 1)]) := g2
      have o2 : Off d H H2 := o0.trans o2
      have c2 : H2 c = some (.lst (cs.map V.int)) := (o2 c ne).trans e2
      refine w_seq ?_
      walk_at "g"
      refine w_ite (fun hl => ?_) (fun hl => ?_)
      · walk_at "g"
        refine ⟨_, _, rfl, by omega, by omega, fun y => ?_⟩
        walk_at "g"
        exact fin _ (a + 1) b _ (md y).1 (md y).2 g2 o2
      · walk_at "g"
        refine w_setL g2 rfl rfl fun H9 g9 o9 => ?_
        exact hU _ _ ⟨rfl, a + 1, y, g9, o2.trans o9⟩
end
/-! ### _law_same, of data that are the same, kind for kind -/
def Sc : V → Prop
  | .non => True
  | .bl _ => True
  | .int _ => True
  | .str _ => True
  | _ => False
def SD : Nat → Hp → V → V → Prop
  | 0, _, x, y => x = y ∧ Sc x
  | n + 1, H, x, y => (x = y ∧ Sc x) ∨ (∃ p q xs ys, x = .ref p ∧ y = .ref q ∧ ((H p = some (.tup xs) ∧ H q = some (.tup ys)) ∨ (H p = some (.lst xs) ∧ H q = some (.lst ys))) ∧ xs.length = ys.length ∧ xs.length ≤ 100000 ∧
      ∀ (i : Nat) (a b : V), xs[i]? = some a → ys[i]? = some b → SD n H a b) ∨ ∃ p, x = .ref p ∧ y = .ref p ∧ H p = some (.dK [])
theorem SD.ints {H : Hp} {p q : Addr} {xs : List Int} (h1 : H p = some (.lst (xs.map V.int))) (h2 : H q = some (.lst (xs.map V.int))) (hl : xs.length ≤ 100000) : SD 1 H (.ref p) (.ref q) :=
  Or.inr (Or.inl ⟨p, q, _, _, rfl, rfl, .inr ⟨h1, h2⟩, rfl, by simpa using hl, fun i a b ha hb => by
    rw [ha] at hb
    cases hb
    rw [List.getElem?_map] at ha
    obtain ⟨z, _, rfl⟩ := Option.map_eq_some_iff.mp ha
    exact ⟨rfl, trivial⟩⟩)
theorem SD.tups {H : Hp} {p q : Addr} {xs : List Int} (h1 : H p = some (.tup (xs.map V.int))) (h2 : H q = some (.tup (xs.map V.int))) (hl : xs.length ≤ 100000) : SD 1 H (.ref p) (.ref q) :=
  Or.inr (Or.inl ⟨p, q, _, _, rfl, rfl, .inl ⟨h1, h2⟩, rfl, by simpa using hl, fun i a b ha hb => by
    rw [ha] at hb
    cases hb
    rw [List.getElem?_map] at ha
    obtain ⟨z, _, rfl⟩ := Option.map_eq_some_iff.mp ha
    exact ⟨rfl, trivial⟩⟩)
theorem SD.on {H H' : Hp} (k : Same H H') : ∀ {n : Nat} {x y : V}, SD n H x y → SD n H' x y
  | 0, _, _, h => h
  | n + 1, _, _, h => by
    rcases h with h | ⟨p, q, xs, ys, e1, e2, hk, h1, h2, h3⟩ | ⟨p, e1, e2, e3⟩
    · exact .inl h
    · exact .inr (.inl ⟨p, q, xs, ys, e1, e2, hk.imp (fun z => ⟨k _ _ z.1, k _ _ z.2⟩) (fun z => ⟨k _ _ z.1, k _ _ z.2⟩), h1, h2, fun i a b ha hb => SD.on k (h3 i a b ha hb)⟩)
    · exact .inr (.inr ⟨p, e1, e2, k _ _ e3⟩)
theorem Ty.kList {H : Hp} {x : V} {a : String} (t : Ty H x a) : kitB a "list" = some (decide (a = "list")) := by
  cases t with
  | non => exact kb_NoneType_list
  | bl b => exact kb_bool_list
  | int i => exact kb_int_list
  | str z => exact kb_str_list
  | lst e => exact kb_list_list
  | tup e => exact kb_tuple_list
  | dK e => exact kb_dict_list
theorem w_isTL {K : PySem.W.Frag} {H : Hp} {Q : VK} {x : V} {a : String} {p : Addr} {b : Bool} (t : Ty H x a) (ep : H p = some (.tup [.ty "tuple", .ty "list"])) (hb : (decide (a = "tuple") || decide (a = "list")) = b) (h : Q (.bl b) H) : rIsiT K [x, .ref p] H Q := by
  refine ⟨x, p, _, .type a, [.type "tuple", .type "list"], b, rfl, ep, .cons (.ty _) (.cons (.ty _) .nil), t.tx, kitAny_cons (kit_ty t.kTup) (fun e1 => kitAny_cons (kit_ty t.kList) (fun e2 => ?_) (fun e2 => ?_)) (fun e1 => ?_), h⟩
  · rw [← hb, e1, e2]
    rfl
  · rw [← hb, e2]
    simp
  · rw [← hb, e1]
    rfl
def spSame (n : Nat) : Sp := fun vs H Q _ => ∃ (x y : V), vs = [x, y] ∧ SD n H x y ∧ ∀ H', Same H H' → Q (.bl true) H'
def spIntI : Sp := fun vs H Q _ => ∃ (x : Int), vs = [.int x] ∧ Q (.bl true) H
section
variable {P : Program} {w : World} {K : PySem.W.Frag} {mg : Str → Option Value} {base : Heap}
theorem ok_int {f : Addr} {fd : FuncData} (T : Txt K mg) (F : Fun K "_law_int" "_law_int" s_law_int f fd) : FnOk P w K mg base CX0 1 f fd ["_law_thing"] spIntI := by
  refine F.ok sc_law_int (fun vs H Q E h => ?_) (fun cdv A outer s H vs Q E hr h => ?_)
  · obtain ⟨x, rfl, _⟩ := h
    rfl
  · obtain ⟨x, rfl, q⟩ := h
    refine ⟨_,
      (pss_one
        (ps_ret (pe_and (pe_callB (r := rIsi K) call_isi (by rfl) T.n_isinstance (by decide +kernel) (pa_cons (pv 0) (pa_cons (pe_bltn (v := .ty "int") (u := .type "int") (by rfl) T.n_int (by decide +kernel) rfl) pa_nil))) (pe_one (pe_not (pe_callB (r := rIsi K) call_isi (by rfl) T.n_isinstance (by decide +kernel) (pa_cons (pv 0) (pa_cons (pe_bltn (v := .ty "bool") (u := .type "bool") (by rfl) T.n_bool (by decide +kernel) rfl) pa_nil))))))))
      , ?_⟩
    walk_at "x"
    exact q
theorem ok_same0 {f fI : Addr} {fd fdI : FuncData} (T : Txt K mg) (D_law_same : Df K mg "_law_same" s_law_same ["_law_found", "_law_due"] f fd) (D_law_int : Df K mg "_law_int" s_law_int ["_law_thing"] fI fdI) : FnOk P w K mg base CX0 2 f fd ["_law_found", "_law_due"] (spSame 0) := by
  have G_law_int : FnOk P w K mg base CX0 1 fI fdI ["_law_thing"] spIntI := ok_int T D_law_int.fn
  refine D_law_same.fn.ok sc_law_same (fun vs H Q E h => ?_) (fun cdv A outer s H vs Q E hr h => ?_)
  · obtain ⟨x, y, rfl, _⟩ := h
    rfl
  · obtain ⟨x, y, rfl, ⟨rfl, hx⟩, q⟩ := h
    refine ⟨_,
      (pss_cons
        (ps_if (pt_val (pe_callB (r := rIsiT K) call_isiT (by rfl) T.n_isinstance (by decide +kernel) (pa_cons (pv 1) (pa_cons (pe_tup (pa_cons (pe_bltn (v := .ty "tuple") (u := .type "tuple") (by rfl) T.n_tuple (by decide +kernel) rfl) (pa_cons (pe_bltn (v := .ty "list") (u := .type "list") (by rfl) T.n_list (by decide +kernel) rfl) pa_nil))) pa_nil))))
          pss_never
          pss_nil)
      (pss_cons
        (ps_if (pt_val (pe_callB (r := rIsi K) call_isi (by rfl) T.n_isinstance (by decide +kernel) (pa_cons (pv 1) (pa_cons (pe_bltn (v := .ty "dict") (u := .type "dict") (by rfl) T.n_dict (by decide +kernel) rfl) pa_nil))))
          (pss_one
            (ps_ret (pe_and (pe_callB (r := rIsi K) call_isi (by rfl) T.n_isinstance (by decide +kernel) (pa_cons (pv 0) (pa_cons (pe_bltn (v := .ty "dict") (u := .type "dict") (by rfl) T.n_dict (by decide +kernel) rfl) pa_nil))) (pe_one (pe_cmpR (r := L2.rEqV K) (L2.op_eqV hr.units) (pv 0) (pv 1) (nomark _))))))
          pss_nil)
      (pss_cons
        (ps_if (pt_val (pe_callB (r := rIsi K) call_isi (by rfl) T.n_isinstance (by decide +kernel) (pa_cons (pv 1) (pa_cons (pe_bltn (v := .ty "bool") (u := .type "bool") (by rfl) T.n_bool (by decide +kernel) rfl) pa_nil))))
          (pss_one
            (ps_ret (pe_and (pe_callB (r := rIsi K) call_isi (by rfl) T.n_isinstance (by decide +kernel) (pa_cons (pv 0) (pa_cons (pe_bltn (v := .ty "bool") (u := .type "bool") (by rfl) T.n_bool (by decide +kernel) rfl) pa_nil))) (pe_one (pe_cmpR op_eq (pv 0) (pv 1) (nomark _))))))
          pss_nil)
      (pss_cons
        (ps_if (pt_val (pe_callB (r := rIsi K) call_isi (by rfl) T.n_isinstance (by decide +kernel) (pa_cons (pv 1) (pa_cons (pe_bltn (v := .ty "int") (u := .type "int") (by rfl) T.n_int (by decide +kernel) rfl) pa_nil))))
          (pss_one
            (ps_ret (pe_and (pe_call G_law_int (hr.mono (by omega)) (by rfl) D_law_int.g D_law_int.fn.kp D_law_int.b .nil pass0 (pa_cons (pv 0) pa_nil)) (pe_one (pe_cmpR op_eq (pv 0) (pv 1) (nomark _))))))
          pss_nil)
      (pss_cons
        (ps_if (pt_val (pe_callB (r := rIsi K) call_isi (by rfl) T.n_isinstance (by decide +kernel) (pa_cons (pv 1) (pa_cons (pe_bltn (v := .ty "str") (u := .type "str") (by rfl) T.n_str (by decide +kernel) rfl) pa_nil))))
          (pss_one
            (ps_ret (pe_and (pe_callB (r := rIsi K) call_isi (by rfl) T.n_isinstance (by decide +kernel) (pa_cons (pv 0) (pa_cons (pe_bltn (v := .ty "str") (u := .type "str") (by rfl) T.n_str (by decide +kernel) rfl) pa_nil))) (pe_one (pe_cmpR op_eq (pv 0) (pv 1) (nomark _))))))
          pss_nil)
      (pss_one
        (ps_ret (pe_and (pe_cmpR o_isN (pv 1) pe_non (nomark _)) (pe_one (pe_cmpR o_isN (pv 0) pe_non (nomark _)))))))))))
      , ?_⟩
    rw [show L2.start N_law_same [x, x] = [some x, some x, none] from rfl]
    cases x with
    | non =>
      refine w_seq ?_
      walk_at "x"
      refine w_new fun tp H1 htp etp k1 => ?_
      walk_at "g"
      refine w_isTL (b := false) Ty.non etp (by decide) ?_
      walk_at "g"
      refine w_seq ?_
      walk_at "g"
      refine w_seq ?_
      walk_at "g"
      refine w_seq ?_
      walk_at "g"
      refine w_seq ?_
      walk_at "g"
      refine w_yes rfl ?_
      walk_at "g"
      exact q _ k1
    | bl b =>
      refine w_seq ?_
      walk_at "x"
      refine w_new fun tp H1 htp etp k1 => ?_
      walk_at "g"
      refine w_isTL (b := false) (Ty.bl b) etp (by decide) ?_
      walk_at "g"
      refine w_seq ?_
      walk_at "g"
      refine w_seq ?_
      walk_at "g"
      rw [decide_eq_true rfl]
      exact q _ k1
    | int i =>
      refine w_seq ?_
      walk_at "x"
      refine w_new fun tp H1 htp etp k1 => ?_
      walk_at "g"
      refine w_isTL (b := false) (Ty.int i) etp (by decide) ?_
      walk_at "g"
      refine w_seq ?_
      walk_at "g"
      refine w_seq ?_
      walk_at "g"
      refine w_seq ?_
      walk_at "g"
      refine ⟨i, rfl, ?_⟩
      walk_at "g"
      rw [decide_eq_true rfl]
      exact q _ k1
    | str z =>
      refine w_seq ?_
      walk_at "x"
      refine w_new fun tp H1 htp etp k1 => ?_
      walk_at "g"
      refine w_isTL (b := false) (Ty.str z) etp (by decide) ?_
      walk_at "g"
      refine w_seq ?_
      walk_at "g"
      refine w_seq ?_
      walk_at "g"
      refine w_seq ?_
      walk_at "g"
      refine w_seq ?_
      walk_at "g"
      rw [decide_eq_true rfl]
      exact q _ k1
    | byt _ => exact hx.elim
    | flt _ => exact hx.elim
    | ref _ => exact hx.elim
    | ty _ => exact hx.elim
theorem ok_same {f fI : Addr} {fd fdI : FuncData} (T : Txt K mg) (D_law_same : Df K mg "_law_same" s_law_same ["_law_found", "_law_due"] f fd) (D_law_int : Df K mg "_law_int" s_law_int ["_law_thing"] fI fdI) : ∀ n : Nat, FnOk P w K mg base CX0 (n + 2) f fd ["_law_found", "_law_due"] (spSame n)
  | 0 => ok_same0 T D_law_same D_law_int
  | n + 1 => by
    have G_law_int : FnOk P w K mg base CX0 1 fI fdI ["_law_thing"] spIntI := ok_int T D_law_int.fn
    have G_law_same : FnOk P w K mg base CX0 (n + 2) f fd ["_law_found", "_law_due"] (spSame n) := ok_same T D_law_same D_law_int n
    refine D_law_same.fn.ok sc_law_same (fun vs H Q E h => ?_) (fun cdv A outer s H vs Q E hr h => ?_)
    · obtain ⟨x, y, rfl, _⟩ := h
      rfl
    · obtain ⟨x, y, rfl, hd, q⟩ := h
      have hmono : 1 ≤ n + 1 + 1 := by omega
      refine ⟨_,
      (pss_cons
        (ps_if (pt_val (pe_callB (r := rIsiT K) call_isiT (by rfl) T.n_isinstance (by decide +kernel) (pa_cons (pv 1) (pa_cons (pe_tup (pa_cons (pe_bltn (v := .ty "tuple") (u := .type "tuple") (by rfl) T.n_tuple (by decide +kernel) rfl) (pa_cons (pe_bltn (v := .ty "list") (u := .type "list") (by rfl) T.n_list (by decide +kernel) rfl) pa_nil))) pa_nil))))
          (pss_cons
            (ps_if (PW.pt (pw_or (pt_cmpR op_ne (pe_callB (r := rIsi K) call_isi (by rfl) T.n_isinstance (by decide +kernel) (pa_cons (pv 1) (pa_cons (pe_bltn (v := .ty "tuple") (u := .type "tuple") (by rfl) T.n_tuple (by decide +kernel) rfl) pa_nil))) (pe_callB (r := rIsi K) call_isi (by rfl) T.n_isinstance (by decide +kernel) (pa_cons (pv 0) (pa_cons (pe_bltn (v := .ty "tuple") (u := .type "tuple") (by rfl) T.n_tuple (by decide +kernel) rfl) pa_nil))) (nomark _)) (pw_or1 (pt_cmpR op_ne (pe_callB (r := rIsi K) call_isi (by rfl) T.n_isinstance (by decide +kernel) (pa_cons (pv 1) (pa_cons (pe_bltn (v := .ty "list") (u := .type "list") (by rfl) T.n_list (by decide +kernel) rfl) pa_nil))) (pe_callB (r := rIsi K) call_isi (by rfl) T.n_isinstance (by decide +kernel) (pa_cons (pv 0) (pa_cons (pe_bltn (v := .ty "list") (u := .type "list") (by rfl) T.n_list (by decide +kernel) rfl) pa_nil))) (nomark _)))))
              (pss_one
                (ps_ret pe_bl))
              pss_nil)
          (pss_cons
            (ps_if (pt_cmpR op_ne (pe_callB (r := rLen K) c_len (by rfl) T.n_len (by decide +kernel) (pa_cons (pv 0) pa_nil)) (pe_callB (r := rLen K) c_len (by rfl) T.n_len (by decide +kernel) (pa_cons (pv 1) pa_nil)) (nomark _))
              (pss_one
                (ps_ret pe_bl))
              pss_nil)
          (pss_cons
            (ps_for PassesOwn.never rfl (pi_range1 (by rfl) T.n_range (pa_cons (pe_callB (r := rLen K) c_len (by rfl) T.n_len (by decide +kernel) (pa_cons (pv 1) pa_nil)) pa_nil)) (pg_name (i := 2) sc_law_same.nd rfl (.inl rfl))
              (pss_one
                (ps_if (pt_not (pt_val (pe_call G_law_same (hr.mono (by omega)) (by rfl) D_law_same.g D_law_same.fn.kp D_law_same.b .nil pass0 (pa_cons (pe_ix (r := rIx K) ix_seq (pv 0) (pv 2) (fun _ _ => rfl)) (pa_cons (pe_ix (r := rIx K) ix_seq (pv 1) (pv 2) (fun _ _ => rfl)) pa_nil)))))
                  (pss_one
                    (ps_ret pe_bl))
                  pss_nil)))
          (pss_one
            (ps_ret pe_bl)))))
          pss_nil)
      (pss_cons
        (ps_if (pt_val (pe_callB (r := rIsi K) call_isi (by rfl) T.n_isinstance (by decide +kernel) (pa_cons (pv 1) (pa_cons (pe_bltn (v := .ty "dict") (u := .type "dict") (by rfl) T.n_dict (by decide +kernel) rfl) pa_nil))))
          (pss_one
            (ps_ret (pe_and (pe_callB (r := rIsi K) call_isi (by rfl) T.n_isinstance (by decide +kernel) (pa_cons (pv 0) (pa_cons (pe_bltn (v := .ty "dict") (u := .type "dict") (by rfl) T.n_dict (by decide +kernel) rfl) pa_nil))) (pe_one (pe_cmpR (r := L2.rEqV K) (L2.op_eqV hr.units) (pv 0) (pv 1) (nomark _))))))
          pss_nil)
      (pss_cons
        (ps_if (pt_val (pe_callB (r := rIsi K) call_isi (by rfl) T.n_isinstance (by decide +kernel) (pa_cons (pv 1) (pa_cons (pe_bltn (v := .ty "bool") (u := .type "bool") (by rfl) T.n_bool (by decide +kernel) rfl) pa_nil))))
          (pss_one
            (ps_ret (pe_and (pe_callB (r := rIsi K) call_isi (by rfl) T.n_isinstance (by decide +kernel) (pa_cons (pv 0) (pa_cons (pe_bltn (v := .ty "bool") (u := .type "bool") (by rfl) T.n_bool (by decide +kernel) rfl) pa_nil))) (pe_one (pe_cmpR op_eq (pv 0) (pv 1) (nomark _))))))
          pss_nil)
      (pss_cons
        (ps_if (pt_val (pe_callB (r := rIsi K) call_isi (by rfl) T.n_isinstance (by decide +kernel) (pa_cons (pv 1) (pa_cons (pe_bltn (v := .ty "int") (u := .type "int") (by rfl) T.n_int (by decide +kernel) rfl) pa_nil))))
          (pss_one
            (ps_ret (pe_and (pe_call G_law_int (hr.mono (by omega)) (by rfl) D_law_int.g D_law_int.fn.kp D_law_int.b .nil pass0 (pa_cons (pv 0) pa_nil)) (pe_one (pe_cmpR op_eq (pv 0) (pv 1) (nomark _))))))
          pss_nil)
      (pss_cons
        (ps_if (pt_val (pe_callB (r := rIsi K) call_isi (by rfl) T.n_isinstance (by decide +kernel) (pa_cons (pv 1) (pa_cons (pe_bltn (v := .ty "str") (u := .type "str") (by rfl) T.n_str (by decide +kernel) rfl) pa_nil))))
          (pss_one
            (ps_ret (pe_and (pe_callB (r := rIsi K) call_isi (by rfl) T.n_isinstance (by decide +kernel) (pa_cons (pv 0) (pa_cons (pe_bltn (v := .ty "str") (u := .type "str") (by rfl) T.n_str (by decide +kernel) rfl) pa_nil))) (pe_one (pe_cmpR op_eq (pv 0) (pv 1) (nomark _))))))
          pss_nil)
      (pss_one
        (ps_ret (pe_and (pe_cmpR o_isN (pv 1) pe_non (nomark _)) (pe_one (pe_cmpR o_isN (pv 0) pe_non (nomark _)))))))))))
        , ?_⟩
      rw [show L2.start N_law_same [x, y] = [some x, some y, none] from rfl]
      rcases hd with ⟨rfl, hx⟩ | ⟨p, r, xs, ys, rfl, rfl, hk, hlen, hle, hd⟩ | ⟨p, rfl, rfl, ep⟩
      rotate_left 2
      · refine w_seq ?_
        walk_at "x"
        refine w_new fun tp H1 htp etp k1 => ?_
        have ep1 := k1 _ _ ep
        walk_at "g"
        refine w_isTL (b := false) (Ty.dK ep1) etp (by decide) ?_
        walk_at "g"
        refine w_seq ?_
        walk_at "g"
        refine ⟨0, Nat.zero_le _, .inr ⟨p, p, [], [], rfl, rfl, ep1, ep1, rfl, fun q hq => by cases hq⟩, ?_⟩
        exact q _ k1
      · cases x with
        | non =>
          refine w_seq ?_
          walk_at "x"
          refine w_new fun tp H1 htp etp k1 => ?_
          walk_at "g"
          refine w_isTL (b := false) Ty.non etp (by decide) ?_
          walk_at "g"
          refine w_seq ?_
          walk_at "g"
          refine w_seq ?_
          walk_at "g"
          refine w_seq ?_
          walk_at "g"
          refine w_seq ?_
          walk_at "g"
          refine w_yes rfl ?_
          walk_at "g"
          exact q _ k1
        | bl b =>
          refine w_seq ?_
          walk_at "x"
          refine w_new fun tp H1 htp etp k1 => ?_
          walk_at "g"
          refine w_isTL (b := false) (Ty.bl b) etp (by decide) ?_
          walk_at "g"
          refine w_seq ?_
          walk_at "g"
          refine w_seq ?_
          walk_at "g"
          rw [decide_eq_true rfl]
          exact q _ k1
        | int i =>
          refine w_seq ?_
          walk_at "x"
          refine w_new fun tp H1 htp etp k1 => ?_
          walk_at "g"
          refine w_isTL (b := false) (Ty.int i) etp (by decide) ?_
          walk_at "g"
          refine w_seq ?_
          walk_at "g"
          refine w_seq ?_
          walk_at "g"
          refine w_seq ?_
          walk_at "g"
          refine ⟨i, rfl, ?_⟩
          walk_at "g"
          rw [decide_eq_true rfl]
          exact q _ k1
        | str z =>
          refine w_seq ?_
          walk_at "x"
          refine w_new fun tp H1 htp etp k1 => ?_
          walk_at "g"
          refine w_isTL (b := false) (Ty.str z) etp (by decide) ?_
          walk_at "g"
          refine w_seq ?_
          walk_at "g"
          refine w_seq ?_
          walk_at "g"
          refine w_seq ?_
          walk_at "g"
          refine w_seq ?_
          walk_at "g"
          rw [decide_eq_true rfl]
          exact q _ k1
        | byt _ => exact hx.elim
        | flt _ => exact hx.elim
        | ref _ => exact hx.elim
        | ty _ => exact hx.elim
      · have turn : ∀ (i : Nat), i < ys.length → ∃ a b, atI xs (0 + (i : Int)) = some a ∧ atI ys (0 + (i : Int)) = some b ∧ SD n H a b := fun i hi => by
          have h1 : xs[i]? = some xs[i] := List.getElem?_eq_getElem (by omega)
          have h2 : ys[i]? = some ys[i] := List.getElem?_eq_getElem hi
          rw [show 0 + (i : Int) = (i : Int) by omega]
          exact ⟨_, _, atI_nat h1, atI_nat h2, hd i _ _ h1 h2⟩
        rcases hk with ⟨h1, h2⟩ | ⟨h1, h2⟩
        · refine w_seq ?_
          walk_at "x"
          refine w_new fun tp H1 htp etp k1 => ?_
          have h1' := k1 _ _ h1
          have h2' := k1 _ _ h2
          walk_at "g"
          refine w_isTL (b := true) (Ty.tup h2') etp (by decide) ?_
          walk_at "g"
          refine w_seq ?_
          walk_at "g"
          walk_at "dg"
          walk_at "dg"
          refine w_seq ?_
          walk_at "g"
          walk_at "dg"
          refine lp_range (fun i σ H' => Same H1 H' ∧ ∃ y2, σ = [some (.ref p), some (.ref r), y2]) ⟨fun _ _ z => z, _, rfl⟩ ?_ ?_
          · rintro i σ H' hi ⟨k2, y2, rfl⟩
            obtain ⟨a, b, ha, hb, hab⟩ := turn i (by omega)
            have h1'' := k2 _ _ h1'
            have h2'' := k2 _ _ h2'
            walk_at "g"
            refine ⟨a, b, rfl, (hab.on k1).on k2, fun H3 k3 => ?_⟩
            walk_at "g"
            exact ⟨Same.trans k2 k3, _, rfl⟩
          · rintro σ H' ⟨k2, y2, rfl⟩
            walk_at "g"
            exact q _ (Same.trans k1 k2)
        · refine w_seq ?_
          walk_at "x"
          refine w_new fun tp H1 htp etp k1 => ?_
          have h1' := k1 _ _ h1
          have h2' := k1 _ _ h2
          walk_at "g"
          refine w_isTL (b := true) (Ty.lst h2') etp (by decide) ?_
          walk_at "g"
          refine w_seq ?_
          walk_at "g"
          walk_at "dg"
          walk_at "dg"
          refine w_seq ?_
          walk_at "g"
          walk_at "dg"
          refine lp_range (fun i σ H' => Same H1 H' ∧ ∃ y2, σ = [some (.ref p), some (.ref r), y2]) ⟨fun _ _ z => z, _, rfl⟩ ?_ ?_
          · rintro i σ H' hi ⟨k2, y2, rfl⟩
            obtain ⟨a, b, ha, hb, hab⟩ := turn i (by omega)
            have h1'' := k2 _ _ h1'
            have h2'' := k2 _ _ h2'
            walk_at "g"
            refine ⟨a, b, rfl, (hab.on k1).on k2, fun H3 k3 => ?_⟩
            walk_at "g"
            exact ⟨Same.trans k2 k3, _, rfl⟩
          · rintro σ H' ⟨k2, y2, rfl⟩
            walk_at "g"
            exact q _ (Same.trans k1 k2)
end
/-! ### pieces and scripts -/
theorem map_at {α : Type} {f : α → V} {xs : List α} {i : Nat} {v : V} (h : (xs.map f)[i]? = some v) : ∃ x, xs[i]? = some x ∧ v = f x := by
  rw [List.getElem?_map] at h
  obtain ⟨y, h1, h2⟩ := Option.map_eq_some_iff.mp h
  exact ⟨y, h1, h2.symm⟩
theorem le_sum : ∀ {l : List Nat} {x : Nat}, x ∈ l → x ≤ l.sum
  | [], x, h => by cases h
  | y :: l, x, h => by
    rw [List.sum_cons]
    rcases List.mem_cons.mp h with rfl | h
    · omega
    · have := le_sum h
      omega
abbrev SG : Str := Str.ofString " !\"#$&'()*+,-./0123456789:;<=>?@ABCDEFGHIJKLMNOPQRSTUVWXYZ[\\]^_`abcdefghijklmnopqrstuvwxyz{|}~"
def LineOk (z : Str) : Prop := z.length ≤ 40 ∧ ∀ c ∈ z.cps.toList, c ∈ SG.cps.toList
inductive Pc where
  | take (b m : Nat)
  | put (ls : List Str)
def Pc.size : Pc → Nat
  | .take _ m => m
  | .put ls => ls.length
def Pc.make (base : List Str) : Pc → List Str
  | .take b m => (base.drop b).take m
  | .put ls => ls
def Pc.fits (n : Nat) : Pc → Prop
  | .take b m => b + m ≤ n
  | .put _ => True
def Pc.ok : Pc → Prop
  | .take _ m => 1 ≤ m
  | .put ls => ls ≠ [] ∧ ∀ z ∈ ls, LineOk z
def Pc.cost (t p : Int) : Pc → Int
  | .take _ _ => t
  | .put ls => p * (ls.length : Int)
theorem Pc.ok.pos {p : Pc} (h : p.ok) : 1 ≤ p.size := by
  cases p with
  | take b m => exact h
  | put ls =>
    have := List.length_pos_iff.mpr h.1
    exact this
def sizes (ps : List Pc) : Nat := (ps.map Pc.size).sum
def makes (base : List Str) (ps : List Pc) : List Str := (ps.map (Pc.make base)).flatten
def costs (t p : Int) (ps : List Pc) : Int := (ps.map (Pc.cost t p)).sum
theorem take_at {α : Type} {l : List α} {i : Nat} {x : α} (h : l[i]? = some x) : l.take (i + 1) = l.take i ++ [x] := by rw [List.take_add_one, h]; rfl
theorem sizes_ge : ∀ {ps : List Pc}, (∀ p ∈ ps, p.ok) → ps.length ≤ sizes ps
  | [], _ => by simp [sizes]
  | p :: ps, h => by
    have h1 := (h p (by simp)).pos
    have h2 := sizes_ge (ps := ps) fun q hq => h q (by simp [hq])
    unfold sizes at *
    simp only [List.map_cons, List.sum_cons, List.length_cons]
    omega
def RwAt (H : Hp) (a : Addr) (ls : List Str) : Prop := H a = some (.tup (ls.map V.str))
def PcAt (H : Hp) (a : Addr) : Pc → Prop
  | .take b m => H a = some (.tup [.str "take", .int (b : Int), .int (m : Int)])
  | .put ls => ∃ r, H a = some (.tup [.str "put", .ref r]) ∧ RwAt H r ls
theorem PcAt.kt {H H' : Hp} {a : Addr} {p : Pc} (h : PcAt H a p) (k : KT H H') : PcAt H' a p := by
  cases p with
  | take b m => exact k _ _ h
  | put ls =>
    obtain ⟨r, h1, h2⟩ := h
    exact ⟨r, k _ _ h1, k _ _ h2⟩
structure ScAt (H : Hp) (s : Addr) (ps : List (Addr × Pc)) : Prop where
  at' : H s = some (.tup (ps.map fun q => .ref q.1))
  pc : ∀ q ∈ ps, PcAt H q.1 q.2
theorem ScAt.kt {H H' : Hp} {s : Addr} {ps : List (Addr × Pc)} (h : ScAt H s ps) (k : KT H H') : ScAt H' s ps := ⟨k _ _ h.at', fun q hq => (h.pc q hq).kt k⟩
structure ScOk (ps : List Pc) : Prop where
  ok : ∀ p ∈ ps, p.ok
  few : sizes ps ≤ 40
/-- data whose texts are not too long -/
inductive DatT (B : Nat) (H : Hp) : V → Prop where
  | leaf {x : V} {a : String} (t : Ty H x a) (h : a ≠ "tuple") (z : ∀ z, x = .str z → z.length ≤ B) : DatT B H x
  | tup {p : Addr} {xs : List V} (e : H p = some (.tup xs)) (l : xs.length ≤ B) (h : ∀ y ∈ xs, DatT B H y) : DatT B H (.ref p)
theorem DatT.ty {B : Nat} {H : Hp} {x : V} (h : DatT B H x) : ∃ a, Ty H x a := by
  cases h with
  | leaf t _ _ => exact ⟨_, t⟩
  | tup e _ _ => exact ⟨_, .tup e⟩
theorem DatT.len {B : Nat} {H : Hp} {z : Str} (h : DatT B H (.str z)) : z.length ≤ B := by
  cases h with
  | leaf _ _ hz => exact hz z rfl
theorem DatT.kd {B : Nat} {H H' : Hp} {x : V} (h : DatT B H x) (k : KD H H') : DatT B H' x := by
  induction h with
  | leaf t h z => exact .leaf (t.kd k) h z
  | tup e l _ ih => exact .tup (k.t _ _ e) l fun y hy => ih y hy
theorem DatT.cases {B : Nat} {H : Hp} {x : V} (h : DatT B H x) : (∃ a, Ty H x a ∧ a ≠ "tuple") ∨ ∃ (p : Addr) (xs : List V), x = .ref p ∧ H p = some (.tup xs) ∧ xs.length ≤ B ∧ ∀ y ∈ xs, DatT B H y := by
  cases h with
  | leaf t h _ => exact .inl ⟨_, t, h⟩
  | tup e l h => exact .inr ⟨_, _, rfl, e, l, h⟩
theorem DatT.back {B : Nat} {H H1 : Hp} {a : Addr} {xs : List V} (d : DatT B H (.ref a)) (k : Same H H1) (e : H1 a = some (.tup xs)) : H a = some (.tup xs) := by
  rcases d.cases with ⟨s, t, hne⟩ | ⟨p, ys, e1, e2, _⟩
  · cases t with
    | lst h => have z := k _ _ h; rw [e] at z; cases z
    | tup h => exact absurd rfl hne
    | dK h => have z := k _ _ h; rw [e] at z; cases z
  · cases e1
    have z := k _ _ e2
    rw [e] at z
    cases z
    exact e2
theorem DatT.elem {B : Nat} {H : Hp} {a : Addr} {xs : List V} (d : DatT B H (.ref a)) (e : H a = some (.tup xs)) : xs.length ≤ B ∧ ∀ y ∈ xs, DatT B H y := by
  rcases d.cases with ⟨s, t, hne⟩ | ⟨p, ys, e1, e2, h⟩
  · exact absurd (t.ofTup e) hne
  · cases e1
    rw [e] at e2
    cases e2
    exact h
theorem DatT.strs {B : Nat} {H : Hp} {a : Addr} {ls : List Str} (h : RwAt H a ls) (hl : ls.length ≤ B) (hz : ∀ z ∈ ls, z.length ≤ B) : DatT B H (.ref a) := .tup h (by rw [List.length_map]; exact hl) fun y hy => by
  obtain ⟨z, hz', rfl⟩ := List.mem_map.mp hy
  exact .leaf (.str z) (by decide) fun z' e => by cases e; exact hz z hz'
theorem PcAt.dat {B : Nat} {H : Hp} {a : Addr} {p : Pc} (h : PcAt H a p) (hB : 4 ≤ B) (hs : p.size ≤ B) (hz : ∀ ls, p = .put ls → ∀ z ∈ ls, z.length ≤ B) : DatT B H (.ref a) := by
  cases p with
  | take b m =>
    refine .tup h (by simp only [List.length_cons, List.length_nil]; omega) fun y hy => ?_
    have hy' : y = .str "take" ∨ y = .int (b : Int) ∨ y = .int (m : Int) := by simpa using hy
    rcases hy' with rfl | rfl | rfl
    · exact .leaf (.str _) (by decide) fun z e => by cases e; exact Nat.le_trans (show (Str.ofString "take").length ≤ 4 by decide) hB
    · exact .leaf (.int _) (by decide) fun z e => by cases e
    · exact .leaf (.int _) (by decide) fun z e => by cases e
  | put ls =>
    obtain ⟨r, h1, h2⟩ := h
    refine .tup h1 (by simp only [List.length_cons, List.length_nil]; omega) fun y hy => ?_
    have hy' : y = .str "put" ∨ y = .ref r := by simpa using hy
    rcases hy' with rfl | rfl
    · exact .leaf (.str _) (by decide) fun z e => by cases e; exact Nat.le_trans (show (Str.ofString "put").length ≤ 4 by decide) hB
    · exact DatT.strs h2 hs (hz ls rfl)
theorem ScAt.dat {B : Nat} {H : Hp} {s : Addr} {ps : List (Addr × Pc)} (h : ScAt H s ps) (k : ScOk (ps.map (·.2))) (hB : 40 ≤ B) : DatT B H (.ref s) := by
  have hl := sizes_ge k.ok
  have hf := k.few
  rw [List.length_map] at hl
  refine .tup h.at' (by rw [List.length_map]; omega) fun y hy => ?_
  obtain ⟨q, hq, rfl⟩ := List.mem_map.mp hy
  have hqm : q.2 ∈ ps.map (·.2) := List.mem_map_of_mem hq
  have hsz : q.2.size ≤ sizes (ps.map (·.2)) := by
    unfold sizes
    exact le_sum (List.mem_map_of_mem hqm)
  refine (h.pc q hq).dat (by omega) (by omega) fun ls e z hz => ?_
  have := k.ok _ hqm
  rw [e] at this
  have := (this.2 z hz).1
  omega
/-- a piece, as a thing of any kind -/
def PcV (H : Hp) (x : V) (p : Pc) : Prop := ∃ a, x = .ref a ∧ PcAt H a p ∧ p.ok
def ScV (H : Hp) (x : V) (ps : List (Addr × Pc)) : Prop := ∃ s, x = .ref s ∧ ScAt H s ps ∧ ScOk (ps.map (·.2))
theorem PcAt.det {H : Hp} {a : Addr} {p q : Pc} (h : PcAt H a p) (h' : PcAt H a q) : p = q := by
  cases p with
  | take b m =>
    cases q with
    | take b' m' =>
      have e := Option.some.inj (h.symm.trans h')
      injection e with e
      have e1 : (b : Int) = b' := by simpa using (List.cons.inj (List.cons.inj e).2).1
      have e2 : (m : Int) = m' := by simpa using (List.cons.inj (List.cons.inj (List.cons.inj e).2).2).1
      rw [show b = b' by omega, show m = m' by omega]
    | put ls =>
      obtain ⟨r, h1, _⟩ := h'
      have e := Option.some.inj (h.symm.trans h1)
      injection e with e
      have := congrArg List.length e
      simp at this
  | put ls =>
    obtain ⟨r, h1, h2⟩ := h
    cases q with
    | take b' m' =>
      have e := Option.some.inj (h1.symm.trans h')
      injection e with e
      have := congrArg List.length e
      simp at this
    | put ls' =>
      obtain ⟨r', h1', h2'⟩ := h'
      have e := Option.some.inj (h1.symm.trans h1')
      injection e with e
      have e1 : r = r' := by simpa using (List.cons.inj (List.cons.inj e).2).1
      subst e1
      have e2 := Option.some.inj (h2.symm.trans h2')
      injection e2 with e2
      have inj : ∀ {xs ys : List Str}, xs.map V.str = ys.map V.str → xs = ys := by
        intro xs
        induction xs with
        | nil => intro ys h; cases ys with | nil => rfl | cons _ _ => simp at h
        | cons x xs ih =>
          intro ys h
          cases ys with
          | nil => simp at h
          | cons y ys =>
            rw [List.map_cons, List.map_cons, List.cons.injEq] at h
            rw [V.str.inj h.1, ih h.2]
      rw [inj e2]
def spIsInt : Sp := fun vs H Q _ => ∃ (x : V) (a : String), vs = [x, .int 0] ∧ Ty H x a ∧ (∀ n : Nat, x = .int (n : Int) → Q (.bl true) H) ∧ ((∀ n : Nat, x ≠ .int (n : Int)) → Q (.bl false) H)
def spIsText : Sp := fun vs H Q _ => ∃ (x : V) (B : Nat), vs = [x, .int 40] ∧ DatT B H x ∧ B ≤ 1000000 ∧ (∀ z, x = .str z → LineOk z → ∀ H', Same H H' → Q (.bl true) H') ∧ ((∀ z, x = .str z → ¬ LineOk z) → ∀ H', Same H H' → Q (.bl false) H')
def spMadeBy : Sp := fun vs H Q _ => ∃ (x : V) (B : Nat), vs = [x] ∧ DatT B H x ∧ B ≤ 1000000 ∧ (∀ p, PcV H x p → ∀ H', Same H H' → Q (.int (p.size : Int)) H') ∧ ((∀ p, ¬ PcV H x p) → ∀ H', Same H H' → Q (.int 0) H')
def spIsScript : Sp := fun vs H Q _ => ∃ (x : V) (B : Nat), vs = [x] ∧ DatT B H x ∧ B ≤ 1000000 ∧ (∀ ps, ScV H x ps → ∀ H', Same H H' → Q (.bl true) H') ∧ ((∀ ps, ¬ ScV H x ps) → ∀ H', Same H H' → Q (.bl false) H')
theorem ln_size {B : Nat} (h : B ≤ 1000000) {n : Nat} (h2 : n ≤ B) : n ≤ sizeLine := Nat.le_trans (Nat.le_trans h2 h) (by decide)
theorem Ty.kStr {H : Hp} {x : V} {a : String} (t : Ty H x a) : kitB a "str" = some (decide (a = "str")) := by
  cases t with
  | non => exact kb_NoneType_str
  | bl b => exact kb_bool_str
  | int i => exact kb_int_str
  | str z => exact kb_str_str
  | lst e => exact kb_list_str
  | tup e => exact kb_tuple_str
  | dK e => exact kb_dict_str
theorem w_isStr {K : PySem.W.Frag} {H : Hp} {Q : VK} {x : V} {a : String} (t : Ty H x a) (h : Q (.bl (decide (a = "str"))) H) : rIsi K [x, .ty "str"] H Q := w_isi t.tx t.kStr h
theorem Ty.isStr {H : Hp} {x : V} {a : String} (t : Ty H x a) (e : a = "str") : ∃ z, x = .str z := by
  cases t with
  | str z => exact ⟨z, rfl⟩
  | non => exact absurd e (by decide)
  | bl _ => exact absurd e (by decide)
  | tup _ => exact absurd e (by decide)
  | int _ => exact absurd e (by decide)
  | lst _ => exact absurd e (by decide)
  | dK _ => exact absurd e (by decide)
theorem Ty.ofStr {H : Hp} {z : Str} {a : String} (t : Ty H (.str z) a) : a = "str" := by
  cases t with
  | str i => rfl
section
variable {P : Program} {w : World} {K : PySem.W.Frag} {mg : Str → Option Value} {base : Heap}
theorem ok_isint {f : Addr} {fd : FuncData} (T : Txt K mg) (D : DfD K mg "is_int" s_is_int ["thing", "least"] [.int 0] f fd) : FnOk P w K mg base CX0 1 f fd ["thing", "least"] spIsInt := by
  refine okD D.fn sc_is_int (fun vs H Q E h => ?_) (fun cdv A outer s H vs Q E hr h => ?_)
  · obtain ⟨x, a, rfl, _⟩ := h
    rfl
  · obtain ⟨x, a, rfl, t, q1, q2⟩ := h
    refine ⟨_,
      (pss_one
        (ps_ret (pe_and (pe_callB (r := rIsi K) call_isi (by rfl) T.n_isinstance (by decide +kernel) (pa_cons (pv 0) (pa_cons (pe_bltn (v := .ty "int") (u := .type "int") (by rfl) T.n_int (by decide +kernel) rfl) pa_nil))) (pe_and (pe_not (pe_callB (r := rIsi K) call_isi (by rfl) T.n_isinstance (by decide +kernel) (pa_cons (pv 0) (pa_cons (pe_bltn (v := .ty "bool") (u := .type "bool") (by rfl) T.n_bool (by decide +kernel) rfl) pa_nil)))) (pe_one (pe_cmpR op_ge (pv 0) (pv 1) (nomark _)))))))
      , ?_⟩
    rw [show L2.start N_is_int [x, V.int 0] = [some x, some (.int 0)] from rfl]
    walk_at "x"
    refine w_isInt t ?_
    walk_at "g"
    refine w_itB (fun hb => ?_) (fun hb => ?_)
    · walk_at "g"
      refine w_isBool t ?_
      walk_at "g"
      refine w_itN (fun hn => ?_) (fun hn => ?_)
      · rw [decide_eq_false hn, Bool.or_false, decide_eq_true_iff] at hb
        obtain ⟨i, rfl⟩ := t.isInt hb
        walk_at "g"
        by_cases h : i ≥ 0
        · rw [decide_eq_true h]
          exact q1 i.toNat (by rw [Int.toNat_of_nonneg h])
        · rw [decide_eq_false h]
          exact q2 fun n e => by cases e; exact h (by omega)
      · exact q2 fun n e => by
          subst e
          rw [t.ofInt] at hn
          exact absurd hn (by decide)
    · exact q2 fun n e => by
        subst e
        rw [t.ofInt] at hb
        exact absurd hb (by decide)
theorem ok_istext {f : Addr} {fd : FuncData} (T : Txt K mg) (D : DfD K mg "is_text" s_is_text ["thing", "most"] [.int 40] f fd) : FnOk P w K mg base CX0 1 f fd ["thing", "most"] spIsText := by
  obtain ⟨tk_SIGNS, g_SIGNS⟩ := T.g_SIGNS
  refine okD D.fn sc_is_text (fun vs H Q E h => ?_) (fun cdv A outer s H vs Q E hr h => ?_)
  · obtain ⟨x, B, rfl, _⟩ := h
    rfl
  · obtain ⟨x, B, rfl, hd, hB, q1, q2⟩ := h
    obtain ⟨a, t⟩ := hd.ty
    refine ⟨_,
      (pss_one
        (ps_ret (pe_and (pe_callB (r := rIsi K) call_isi (by rfl) T.n_isinstance (by decide +kernel) (pa_cons (pv 0) (pa_cons (pe_bltn (v := .ty "str") (u := .type "str") (by rfl) T.n_str (by decide +kernel) rfl) pa_nil))) (pe_and (pe_cmpR op_le (pe_callB c_lenS (by rfl) T.n_len (by decide +kernel) (pa_cons (pv 0) pa_nil)) (pv 1) (nomark _)) (pe_one (pe_callB (r := rAll K) (cr_all rfl) (by rfl) T.n_all (by decide +kernel) (pa_cons (pe_lc (own := [("sign", 2)]) (g := (gName 2)) rfl sc_is_text.nd (pi_str (pv 0)) (blkOk_by (own := [("sign", 2)]) (N := N_is_text) (sc := defScope s_is_text) (by decide +kernel)) (fun _ _ _ _ _ => (pg_name (i := 2) sc_is_text.nd rfl (.inl rfl))) (fun _ _ _ _ _ => pts_nil) (fun _ _ _ _ _ => (pe_cmpR o_inS (pv 2) (pe_glob (v := .str " !\"#$&'()*+,-./0123456789:;<=>?@ABCDEFGHIJKLMNOPQRSTUVWXYZ[\\]^_`abcdefghijklmnopqrstuvwxyz{|}~") rfl g_SIGNS ⟨_, rfl⟩) rfl))) pa_nil)))))))
      , ?_⟩
    rw [show L2.start N_is_text [x, V.int 40] = [some x, some (.int 40), none] from rfl]
    walk_at "x"
    refine w_isStr t ?_
    walk_at "g"
    refine w_ite (fun hs => ?_) (fun hs => ?_)
    rotate_left
    · exact q2 (fun z e => by subst e; exact absurd t.ofStr hs) H (fun _ _ z => z)
    obtain ⟨z, rfl⟩ := t.isStr hs
    have hzl := hd.len
    walk_at "g"
    refine w_lenS (ln_size hB hzl) ?_
    walk_at "g"
    refine w_ite (fun h40 => ?_) (fun h40 => ?_)
    rotate_left
    · exact q2 (fun z' e hl => by cases e; exact h40 (by have := hl.1; omega)) H (fun _ _ z => z)
    walk_at "g"
    refine lcp_map (walk_str z) [] ((z.cps.toList.map fun c => decide (c ∈ SG.cps.toList)).map V.bl) (by simp) (by show z.length ≤ 1000000; omega) (fun _ _ => trivial) ?_ (by simp) ?_
    · rintro i x H1 H2 R hi k1 ⟨rfl, c, hc, rfl⟩ hR
      refine w_name ⟨rfl, ?_⟩
      walk_at "g"
      refine hR _ _ ?_ Kp.refl
      rw [List.getElem?_map, List.getElem?_map, Array.getElem?_toList, hc]
      rfl
    · intro L H1 hL k1 eL
      walk_at "g"
      have hk := k1.same
      by_cases h : ∀ c ∈ z.cps.toList, c ∈ SG.cps.toList
      · have e : (z.cps.toList.map fun c => decide (c ∈ SG.cps.toList)).all id = true := by
          rw [List.all_eq_true]
          intro b hb
          obtain ⟨c, hc, rfl⟩ := List.mem_map.mp hb
          exact decide_eq_true (h c hc)
        rw [e]
        exact q1 z rfl ⟨by omega, h⟩ _ hk
      · have e : (z.cps.toList.map fun c => decide (c ∈ SG.cps.toList)).all id = false := by
          rw [Bool.eq_false_iff]
          intro hall
          rw [List.all_eq_true] at hall
          exact h fun c hc => of_decide_eq_true (hall _ (List.mem_map_of_mem (f := fun c => decide (c ∈ SG.cps.toList)) hc))
        rw [e]
        exact q2 (fun z' e' hl => by cases e'; exact h hl.2) _ hk
end
/-! ### contents and books -/
inductive Ct where
  | leaf (rows : List Str)
  | tree (es : List (Str × Nat))
  | ver (ps : List Nat) (root stamp : Nat)
abbrev nV (n : Nat) : V := .int (n : Int)
def CtAt (H : Hp) (a : Addr) : Ct → Prop
  | .leaf rows => ∃ r, H a = some (.tup [.str "leaf", .ref r]) ∧ RwAt H r rows
  | .tree es => ∃ (r : Addr) (qs : List (Addr × Str × Nat)), H a = some (.tup [.str "tree", .ref r]) ∧ H r = some (.tup (qs.map fun q => .ref q.1)) ∧ qs.map (·.2) = es ∧ ∀ q ∈ qs, H q.1 = some (.tup [.str q.2.1, nV q.2.2])
  | .ver ps root stamp => ∃ r, H a = some (.tup [.str "version", .ref r, nV root, nV stamp]) ∧ H r = some (.tup (ps.map nV))
theorem CtAt.kt {H H' : Hp} {a : Addr} {c : Ct} (h : CtAt H a c) (k : KT H H') : CtAt H' a c := by
  cases c with
  | leaf rows =>
    obtain ⟨r, h1, h2⟩ := h
    exact ⟨r, k _ _ h1, k _ _ h2⟩
  | tree es =>
    obtain ⟨r, qs, h1, h2, h3, h4⟩ := h
    exact ⟨r, qs, k _ _ h1, k _ _ h2, h3, fun q hq => k _ _ (h4 q hq)⟩
  | ver ps root stamp =>
    obtain ⟨r, h1, h2⟩ := h
    exact ⟨r, k _ _ h1, k _ _ h2⟩
def Ct.word : Ct → Str
  | .leaf _ => "leaf"
  | .tree _ => "tree"
  | .ver _ _ _ => "version"
def Ct.key : Ct → NestedKey
  | .leaf rows => .tup [.text "leaf", .tup (rows.map .text)]
  | .tree es => .tup [.text "tree", .tup (es.map fun e => .tup [.text e.1, .num (e.2 : Int)])]
  | .ver ps root stamp => .tup [.text "version", .tup (ps.map fun n : Nat => .num (n : Int)), .num (root : Int), .num (stamp : Int)]
theorem nall_strs {H : Hp} : ∀ rows : List Str, NAll H (rows.map .text) (rows.map V.str)
  | [] => .nil
  | z :: r => .cons (.str z) (nall_strs r)
theorem nall_nats {H : Hp} : ∀ ns : List Nat, NAll H (ns.map fun n : Nat => .num (n : Int)) (ns.map nV)
  | [] => .nil
  | z :: r => .cons (.int _) (nall_nats r)
theorem nall_ents {H : Hp} : ∀ qs : List (Addr × Str × Nat), (∀ q ∈ qs, H q.1 = some (.tup [.str q.2.1, nV q.2.2])) → NAll H ((qs.map (·.2)).map fun e => .tup [.text e.1, .num (e.2 : Int)]) (qs.map fun q => .ref q.1)
  | [], _ => .nil
  | q :: r, h => .cons (.tup (h q (by simp)) (.cons (.str _) (.cons (.int _) .nil))) (nall_ents r fun z hz => h z (by simp [hz]))
theorem CtAt.nk {H : Hp} {a : Addr} {c : Ct} (h : CtAt H a c) : NAt H c.key (.ref a) := by
  cases c with
  | leaf rows =>
    obtain ⟨r, h1, h2⟩ := h
    exact .tup h1 (.cons (.str _) (.cons (.tup h2 (nall_strs rows)) .nil))
  | tree es =>
    obtain ⟨r, qs, h1, h2, rfl, h4⟩ := h
    exact .tup h1 (.cons (.str _) (.cons (.tup h2 (nall_ents qs h4)) .nil))
  | ver ps root stamp =>
    obtain ⟨r, h1, h2⟩ := h
    exact .tup h1 (.cons (.str _) (.cons (.tup h2 (nall_nats ps)) (.cons (.int _) (.cons (.int _) .nil))))
theorem da_texts : ∀ rows : List Str, NestedKey.depthAll (rows.map .text) = 0
  | [] => rfl
  | z :: r => by rw [List.map_cons, NestedKey.depthAll, da_texts r]; rfl
theorem da_nats : ∀ ns : List Nat, NestedKey.depthAll (ns.map fun n : Nat => .num (n : Int)) = 0
  | [] => rfl
  | z :: r => by rw [List.map_cons, NestedKey.depthAll, da_nats r]; rfl
theorem da_ents : ∀ es : List (Str × Nat), NestedKey.depthAll (es.map fun e => .tup [.text e.1, .num (e.2 : Int)]) ≤ 1
  | [] => Nat.zero_le _
  | z :: r => by
    rw [List.map_cons, NestedKey.depthAll]
    have := da_ents r
    have e : NestedKey.depth (.tup [.text z.1, .num (z.2 : Int)]) = 1 := rfl
    rw [e]
    omega
theorem Ct.key_depth (c : Ct) : c.key.depth ≤ 8 := by
  cases c with
  | leaf rows =>
    show NestedKey.depthAll [.text "leaf", .tup (rows.map .text)] + 1 ≤ 8
    simp only [NestedKey.depthAll, NestedKey.depth, da_texts]
    decide
  | tree es =>
    show NestedKey.depthAll [.text "tree", .tup (es.map fun e => .tup [.text e.1, .num (e.2 : Int)])] + 1 ≤ 8
    have := da_ents es
    simp only [NestedKey.depthAll, NestedKey.depth]
    omega
  | ver ps root stamp =>
    show NestedKey.depthAll [.text "version", .tup (ps.map fun n : Nat => .num (n : Int)), .num (root : Int), .num (stamp : Int)] + 1 ≤ 8
    simp only [NestedKey.depthAll, NestedKey.depth, da_nats]
    decide
theorem text_inj : ∀ {xs ys : List Str}, xs.map NestedKey.text = ys.map NestedKey.text → xs = ys
  | [], [], _ => rfl
  | [], _ :: _, h => by simp at h
  | _ :: _, [], h => by simp at h
  | x :: xs, y :: ys, h => by
    rw [List.map_cons, List.map_cons, List.cons.injEq] at h
    injection h.1 with e
    rw [e, text_inj h.2]
theorem num_inj : ∀ {xs ys : List Nat}, (xs.map fun n : Nat => NestedKey.num (n : Int)) = (ys.map fun n : Nat => NestedKey.num (n : Int)) → xs = ys
  | [], [], _ => rfl
  | [], _ :: _, h => by simp at h
  | _ :: _, [], h => by simp at h
  | x :: xs, y :: ys, h => by
    rw [List.map_cons, List.map_cons, List.cons.injEq] at h
    injection h.1 with e
    rw [show x = y by omega, num_inj h.2]
theorem ent_inj : ∀ {xs ys : List (Str × Nat)}, (xs.map fun e => NestedKey.tup [.text e.1, .num (e.2 : Int)]) = (ys.map fun e => NestedKey.tup [.text e.1, .num (e.2 : Int)]) → xs = ys
  | [], [], _ => rfl
  | [], _ :: _, h => by simp at h
  | _ :: _, [], h => by simp at h
  | x :: xs, y :: ys, h => by
    rw [List.map_cons, List.map_cons, List.cons.injEq] at h
    injection h.1 with e
    have e1 := (List.cons.inj e).1
    have e2 := (List.cons.inj (List.cons.inj e).2).1
    injection e1 with e1
    injection e2 with e2
    rw [show x = y from Prod.ext e1 (by omega), ent_inj h.2]
theorem lit_ne1 : ¬ ((Str.ofString "leaf") = "tree") := by decide +kernel
theorem lit_ne2 : ¬ ((Str.ofString "leaf") = "version") := by decide +kernel
theorem lit_ne3 : ¬ ((Str.ofString "tree") = "version") := by decide +kernel
theorem lit_ne4 : ¬ ((Str.ofString "tree") = "leaf") := by decide +kernel
theorem lit_ne5 : ¬ ((Str.ofString "version") = "leaf") := by decide +kernel
theorem lit_ne6 : ¬ ((Str.ofString "version") = "tree") := by decide +kernel
theorem Ct.key_inj {c d : Ct} (h : c.key = d.key) : c = d := by
  cases c with
  | leaf rows =>
    cases d with
    | leaf rows' =>
      injection h with h
      have := (List.cons.inj (List.cons.inj h).2).1
      injection this with this
      rw [text_inj this]
    | tree es =>
      injection h with h
      have := (List.cons.inj h).1
      injection this with this
      exact absurd this lit_ne1
    | ver ps r s =>
      injection h with h
      have := (List.cons.inj h).1
      injection this with this
      exact absurd this lit_ne2
  | tree es =>
    cases d with
    | leaf rows' =>
      injection h with h
      have := (List.cons.inj h).1
      injection this with this
      exact absurd this lit_ne4
    | tree es' =>
      injection h with h
      have := (List.cons.inj (List.cons.inj h).2).1
      injection this with this
      rw [ent_inj this]
    | ver ps r s =>
      injection h with h
      have := (List.cons.inj h).1
      injection this with this
      exact absurd this lit_ne3
  | ver ps r s =>
    cases d with
    | leaf rows' =>
      injection h with h
      have := (List.cons.inj h).1
      injection this with this
      exact absurd this lit_ne5
    | tree es' =>
      injection h with h
      have := (List.cons.inj h).1
      injection this with this
      exact absurd this lit_ne6
    | ver ps' r' s' =>
      injection h with h
      have h1 := (List.cons.inj (List.cons.inj h).2).1
      have h2 := (List.cons.inj (List.cons.inj (List.cons.inj h).2).2).1
      have h3 := (List.cons.inj (List.cons.inj (List.cons.inj (List.cons.inj h).2).2).2).1
      injection h1 with h1
      injection h2 with h2
      injection h3 with h3
      rw [num_inj h1, show r = r' by omega, show s = s' by omega]
def entsF : Nat → List (Addr × Ct) → List NEnt
  | _, [] => []
  | i, q :: r => (q.2.key, q.1, nV i) :: entsF (i + 1) r
theorem entsF_len : ∀ (cs : List (Addr × Ct)) (i : Nat), (entsF i cs).length = cs.length
  | [], _ => rfl
  | q :: r, i => by show (entsF (i + 1) r).length + 1 = _; rw [entsF_len r]; rfl
theorem entsF_snoc (a : Addr) (c : Ct) : ∀ (cs : List (Addr × Ct)) (i : Nat), entsF i (cs ++ [(a, c)]) = entsF i cs ++ [(c.key, a, nV (i + cs.length))]
  | [], i => rfl
  | q :: r, i => by
    show (q.2.key, q.1, nV i) :: entsF (i + 1) (r ++ [(a, c)]) = (q.2.key, q.1, nV i) :: (entsF (i + 1) r ++ _)
    rw [entsF_snoc a c r (i + 1), List.length_cons, show i + 1 + r.length = i + (r.length + 1) by omega]
theorem ents_none {c : Ct} : ∀ (cs : List (Addr × Ct)) (i : Nat), (∀ q ∈ cs, q.2 ≠ c) → NVal (entsF i cs) c.key = none
  | [], _, _ => rfl
  | q :: r, i, h => by
    have hne : ¬ q.2.key = c.key := fun e => h q (by simp) (Ct.key_inj e)
    show NVal ((q.2.key, q.1, nV i) :: entsF (i + 1) r) c.key = none
    have : NVal ((q.2.key, q.1, nV i) :: entsF (i + 1) r) c.key = NVal (entsF (i + 1) r) c.key := by simp [NVal, List.find?_cons, hne]
    rw [this]
    exact ents_none r (i + 1) fun z hz => h z (by simp [hz])
theorem ents_some {c : Ct} {a : Addr} : ∀ (cs : List (Addr × Ct)) (i j : Nat), (cs.map (·.2)).Nodup → cs[j]? = some (a, c) → NVal (entsF i cs) c.key = some (nV (i + j))
  | [], _, _, _, h => by simp at h
  | q :: r, i, 0, _, h => by
    have e : q = (a, c) := by simpa using h
    subst e
    show NVal ((c.key, a, nV i) :: entsF (i + 1) r) c.key = some (nV (i + 0))
    simp [NVal, List.find?_cons]
  | q :: r, i, j + 1, nd, h => by
    rw [List.map_cons, List.nodup_cons] at nd
    have hr : r[j]? = some (a, c) := by simpa using h
    have hne : ¬ q.2.key = c.key := fun e => nd.1 (by rw [Ct.key_inj e]; exact List.mem_map.mpr ⟨(a, c), List.mem_of_getElem? hr, rfl⟩)
    show NVal ((q.2.key, q.1, nV i) :: entsF (i + 1) r) c.key = _
    have : NVal ((q.2.key, q.1, nV i) :: entsF (i + 1) r) c.key = NVal (entsF (i + 1) r) c.key := by simp [NVal, List.find?_cons, hne]
    rw [this, ents_some r (i + 1) j nd.2 hr, show i + 1 + j = i + (j + 1) by omega]
def depOf (ds : List Nat) : Ct → Nat
  | .tree es => 1 + (es.map fun e => ds.getD e.2 0).foldl max 0
  | _ => 0
def LabOk (z : Str) : Prop := 1 ≤ z.length ∧ z.length ≤ 8 ∧ ∀ c ∈ z.cps.toList, c ∈ (Str.ofString "abcdefghijklmnopqrstuvwxyz").cps.toList
/-- a good content behind those of cs -/
def CtOk (cs : List Ct) (ds : List Nat) : Ct → Prop
  | .leaf rows => rows.length ≤ 40 ∧ ∀ z ∈ rows, LineOk z
  | .tree es => es.length ≤ 20 ∧ (∀ e ∈ es, LabOk e.1 ∧ ∃ c, cs[e.2]? = some c ∧ c.word ≠ "version") ∧ es.Pairwise (fun x y => x.1.cps.toList < y.1.cps.toList) ∧ depOf ds (.tree es) ≤ 8
  | .ver ps root stamp => ps.Pairwise (· < ·) ∧ ps.length ≤ 4 ∧ (∀ p ∈ ps, ∃ c, cs[p]? = some c ∧ c.word = "version") ∧ (∃ c, cs[root]? = some c ∧ c.word = "tree") ∧ stamp ≤ 10 ^ 18
structure BookAt (P : Program) (w : World) (C : Addr) (H : Hp) (p dx lc ld lg : Addr) (cs : List (Addr × Ct)) (ds : List Nat) : Prop where
  ob : H p = some (.ins C dx [("contents", .ref lc), ("depths", .ref ld), ("given", .ref lg)])
  co : H lc = some (.lst (cs.map fun q => .ref q.1))
  de : H ld = some (.lst (ds.map nV))
  gi : NDict P w H lg (entsF 0 cs)
  ct : ∀ q ∈ cs, CtAt H q.1 q.2
  nd : (cs.map (·.2)).Nodup
  dl : ds.length = cs.length
  ne : lc ≠ ld
  few : cs.length ≤ 400
theorem BookAt.kp {P : Program} {w : World} {C : Addr} {M : List Addr} {H H' : Hp} {p dx lc ld lg : Addr} {cs : List (Addr × Ct)} {ds : List Nat} (B : BookAt P w C H p dx lc ld lg cs ds) (k : Kp M H H') (t : KT H H') (h1 : p ∉ M) (h2 : lc ∉ M) (h3 : ld ∉ M) (h4 : lg ∉ M) : BookAt P w C H' p dx lc ld lg cs ds :=
  ⟨k _ _ h1 B.ob, k _ _ h2 B.co, k _ _ h3 B.de, B.gi.kp k t h4, fun q hq => (B.ct q hq).kt t, B.nd, B.dl, B.ne, B.few⟩
theorem BookAt.same {P : Program} {w : World} {C : Addr} {H H' : Hp} {p dx lc ld lg : Addr} {cs : List (Addr × Ct)} {ds : List Nat} (B : BookAt P w C H p dx lc ld lg cs ds) (k : Same H H') : BookAt P w C H' p dx lc ld lg cs ds :=
  B.kp (M := []) (Kp.of k) (KT.of k) (by simp) (by simp) (by simp) (by simp)
def spIsLabel : Sp := fun vs H Q _ => ∃ z : Str, vs = [.str z] ∧ LabOk z ∧ ∀ H', Same H H' → Q (.bl true) H'
def spRiseT : Sp := fun vs H Q _ => ∃ (r : Addr) (ns : List Nat), vs = [.ref r] ∧ H r = some (.tup (ns.map nV)) ∧ ns.length ≤ 1000 ∧ (ns.Pairwise (· < ·) → ∀ H', Same H H' → Q (.bl true) H') ∧ (¬ ns.Pairwise (· < ·) → ∀ H', Same H H' → Q (.bl false) H')
def spRiseS : Sp := fun vs H Q _ => ∃ (r : Addr) (zs : List Str), vs = [.ref r] ∧ H r = some (.lst (zs.map V.str)) ∧ zs.length ≤ 1000 ∧ zs.Pairwise (fun x y => x.cps.toList < y.cps.toList) ∧ ∀ H', Same H H' → Q (.bl true) H'
def NatsV (H : Hp) (x : V) (ns : List Nat) : Prop := ∃ a, x = .ref a ∧ H a = some (.tup (ns.map nV))
def spAreInts : Sp := fun vs H Q _ => ∃ (x : V) (B : Nat), vs = [x] ∧ DatT B H x ∧ B ≤ 1000 ∧ (∀ ns, NatsV H x ns → ∀ H', Same H H' → Q (.bl true) H') ∧ ((∀ ns, ¬ NatsV H x ns) → ∀ H', Same H H' → Q (.bl false) H')
def spRisingInts : Sp := fun vs H Q _ => ∃ (x : V) (B : Nat), vs = [x] ∧ DatT B H x ∧ B ≤ 1000 ∧ (∀ ns, NatsV H x ns → ns.Pairwise (· < ·) → ∀ H', Same H H' → Q (.bl true) H') ∧ ((∀ ns, NatsV H x ns → ¬ ns.Pairwise (· < ·)) → ∀ H', Same H H' → Q (.bl false) H')
def spAreRows : Sp := fun vs H Q _ => ∃ (r : Addr) (rows : List Str), vs = [.ref r] ∧ RwAt H r rows ∧ rows.length ≤ 40 ∧ (∀ z ∈ rows, LineOk z) ∧ ∀ H', Same H H' → Q (.bl true) H'
theorem nV_inj : ∀ {xs ys : List Nat}, xs.map nV = ys.map nV → xs = ys
  | [], [], _ => rfl
  | [], _ :: _, h => by simp at h
  | _ :: _, [], h => by simp at h
  | x :: xs, y :: ys, h => by
    rw [List.map_cons, List.map_cons, List.cons.injEq] at h
    have e : (x : Int) = y := V.int.inj h.1
    rw [show x = y by omega, nV_inj h.2]
theorem nats_of : ∀ {ys : List V}, (∀ y ∈ ys, ∃ n : Nat, y = nV n) → ∃ ns : List Nat, ys = ns.map nV
  | [], _ => ⟨[], rfl⟩
  | y :: ys, h => by
    obtain ⟨n, rfl⟩ := h y (by simp)
    obtain ⟨ns, rfl⟩ := nats_of (ys := ys) fun z hz => h z (by simp [hz])
    exact ⟨n :: ns, rfl⟩
theorem bls_of {C : Nat → Bool → Prop} {vs : List V} (h : ∀ (i : Nat) (y : V), vs[i]? = some y → ∃ b : Bool, y = .bl b ∧ C i b) : ∃ bs : List Bool, vs = bs.map V.bl ∧ ∀ (i : Nat) (b : Bool), bs[i]? = some b → C i b := by
  induction vs generalizing C with
  | nil => exact ⟨[], rfl, by simp⟩
  | cons v vs ih =>
    obtain ⟨b, rfl, hb⟩ := h 0 v rfl
    obtain ⟨bs, rfl, hbs⟩ := ih (C := fun i => C (i + 1)) fun i y hy => h (i + 1) y (by simpa using hy)
    refine ⟨b :: bs, rfl, fun i b' hb' => ?_⟩
    cases i with
    | zero =>
      have : b = b' := by simpa using hb'
      subst this
      exact hb
    | succ i => exact hbs i b' (by simpa using hb')
theorem pw_adj {α : Type} {R : α → α → Prop} (tr : ∀ a b c, R a b → R b c → R a c) : ∀ {l : List α}, (∀ (i : Nat) (x y : α), l[i]? = some x → l[i + 1]? = some y → R x y) → l.Pairwise R
  | [], _ => .nil
  | [x], _ => List.pairwise_singleton _ _
  | x :: y :: r, h => by
    have ih := pw_adj tr (l := y :: r) fun i a b ha hb => h (i + 1) a b (by simpa using ha) (by simpa using hb)
    refine List.pairwise_cons.mpr ⟨fun z hz => ?_, ih⟩
    have h0 := h 0 x y rfl rfl
    rcases List.mem_cons.mp hz with rfl | hz
    · exact h0
    · exact tr _ _ _ h0 ((List.pairwise_cons.mp ih).1 z hz)
theorem adj_pw {α : Type} {R : α → α → Prop} {l : List α} (h : l.Pairwise R) {i : Nat} {x y : α} (hx : l[i]? = some x) (hy : l[i + 1]? = some y) : R x y := by
  obtain ⟨h1, e1⟩ := List.getElem?_eq_some_iff.mp hx
  obtain ⟨h2, e2⟩ := List.getElem?_eq_some_iff.mp hy
  have := List.pairwise_iff_getElem.mp h i (i + 1) h1 h2 (by omega)
  rw [e1, e2] at this
  exact this
theorem nV_at {ns : List Nat} {i : Nat} (h : i < ns.length) : (ns.map nV)[i]? = some (nV (ns[i])) := by rw [List.getElem?_map, List.getElem?_eq_getElem h]; rfl
section
variable {P : Program} {w : World} {K : PySem.W.Frag} {mg : Str → Option Value} {base : Heap}
theorem ok_islabel {f : Addr} {fd : FuncData} (T : Txt K mg) (F : Fun K "is_label" "is_label" s_is_label f fd) : FnOk P w K mg base CX0 1 f fd ["thing"] spIsLabel := by
  obtain ⟨tk_LETTERS, g_LETTERS⟩ := T.g_LETTERS
  refine F.ok sc_is_label (fun vs H Q E h => ?_) (fun cdv A outer s H vs Q E hr h => ?_)
  · obtain ⟨z, rfl, _⟩ := h
    rfl
  · obtain ⟨z, rfl, ⟨l1, l8, hz⟩, q⟩ := h
    refine ⟨_,
      (pss_one
        (ps_ret (pe_and (pe_callB (r := rIsi K) call_isi (by rfl) T.n_isinstance (by decide +kernel) (pa_cons (pv 0) (pa_cons (pe_bltn (v := .ty "str") (u := .type "str") (by rfl) T.n_str (by decide +kernel) rfl) pa_nil))) (pe_and (pe_chain op_le op_le pe_int (pe_callB c_lenS (by rfl) T.n_len (by decide +kernel) (pa_cons (pv 0) pa_nil)) pe_int) (pe_one (pe_callB (r := rAll K) (cr_all rfl) (by rfl) T.n_all (by decide +kernel) (pa_cons (pe_lc (own := [("sign", 1)]) (g := (gName 1)) rfl sc_is_label.nd (pi_str (pv 0)) (blkOk_by (own := [("sign", 1)]) (N := N_is_label) (sc := defScope s_is_label) (by decide +kernel)) (fun _ _ _ _ _ => (pg_name (i := 1) sc_is_label.nd rfl (.inl rfl))) (fun _ _ _ _ _ => pts_nil) (fun _ _ _ _ _ => (pe_cmpR o_inS (pv 1) (pe_glob (v := .str "abcdefghijklmnopqrstuvwxyz") rfl g_LETTERS ⟨_, rfl⟩) rfl))) pa_nil)))))))
      , ?_⟩
    rw [show L2.start N_is_label [V.str z] = [some (.str z), none] from rfl]
    walk_at "x"
    refine w_lenS (Nat.le_trans l8 (by decide)) ?_
    walk_at "g"
    refine w_yes (by omega) ?_
    walk_at "g"
    refine w_yes (by omega) ?_
    walk_at "g"
    refine lcp_map (walk_str z) [] ((z.cps.toList.map fun c => true).map V.bl) (by simp) (by show z.length ≤ 1000000; omega) (fun _ _ => trivial) ?_ (by simp) ?_
    · rintro i x H1 H2 R hi k1 ⟨rfl, c, hc, rfl⟩ hR
      have hc' : z.cps.toList[i]? = some c := by rw [Array.getElem?_toList]; exact hc
      refine w_name ⟨rfl, ?_⟩
      walk_at "g"
      refine hR _ _ ?_ Kp.refl
      rw [List.getElem?_map, List.getElem?_map, hc', decide_eq_true (hz c (List.mem_of_getElem? hc'))]
      rfl
    · intro L H1 hL k1 eL
      walk_at "g"
      rw [show (z.cps.toList.map fun c => true).all id = true by simp]
      exact q _ k1.same
theorem ok_riseT {f : Addr} {fd : FuncData} (T : Txt K mg) (F : Fun K "rise" "rise" s_rise f fd) : FnOk P w K mg base CX0 1 f fd ["row"] spRiseT := by
  refine F.ok sc_rise (fun vs H Q E h => ?_) (fun cdv A outer s H vs Q E hr h => ?_)
  · obtain ⟨r, ns, rfl, _⟩ := h
    rfl
  · obtain ⟨r, ns, rfl, hr', hl, q1, q2⟩ := h
    refine ⟨_,
      (pss_one
        (ps_ret (pe_callB (r := rAll K) (cr_all rfl) (by rfl) T.n_all (by decide +kernel) (pa_cons (pe_lc (own := [("k", 1)]) (g := (gName 1)) rfl sc_rise.nd (pi_range2 (by rfl) T.n_range (pa_cons pe_int (pa_cons (pe_callB (r := rLen K) c_len (by rfl) T.n_len (by decide +kernel) (pa_cons (pv 0) pa_nil)) pa_nil))) (blkOk_by (own := [("k", 1)]) (N := N_rise) (sc := defScope s_rise) (by decide +kernel)) (fun _ _ _ _ _ => (pg_name (i := 1) sc_rise.nd rfl (.inl rfl))) (fun _ _ _ _ _ => pts_nil) (fun _ _ _ _ _ => (pe_cmpR op_lt (pe_ix (r := rIxT K) ix_tup (pv 0) (pe_op op_sub (pv 1) pe_int) (fun _ _ => rfl)) (pe_ix (r := rIxT K) ix_tup (pv 0) (pv 1) (fun _ _ => rfl)) (nomark _)))) pa_nil))))
      , ?_⟩
    rw [show L2.start N_rise [V.ref r] = [some (.ref r), none] from rfl]
    walk_at "x"
    try refine w_rng2' (by simp only [List.length_map]; omega) ?_
    refine lcp_map (walk_range (lo := 1) (n := ((((ns.map nV).length : Nat) : Int) - 1).toNat)) [] (((List.range (ns.length - 1)).map fun i => decide (ns.getD i 0 < ns.getD (i + 1) 0)).map V.bl) (by simp only [List.length_map, List.length_range]; omega) (by simp only [List.length_map]; omega) (fun _ _ => trivial) ?_ (by simp) ?_
    · rintro i x H1 H2 R hi k1 ⟨rfl, rfl⟩ hR
      have hi' : i + 1 < ns.length := by
        simp only [List.length_map] at hi
        omega
      have hr1 := k1.same _ _ hr'
      have at1 : atI (ns.map nV) (1 + (i : Int) - 1) = some (.int ((ns.getD i 0 : Nat) : Int)) := by
        rw [show (1 : Int) + (i : Int) - 1 = ((i : Nat) : Int) by omega]
        refine atI_nat ?_
        rw [nV_at (by omega), List.getD_eq_getElem?_getD, List.getElem?_eq_getElem (by omega)]
        rfl
      have at2 : atI (ns.map nV) (1 + (i : Int)) = some (.int ((ns.getD (i + 1) 0 : Nat) : Int)) := by
        rw [show (1 : Int) + (i : Int) = ((i + 1 : Nat) : Int) by omega]
        refine atI_nat ?_
        rw [nV_at hi', List.getD_eq_getElem?_getD, List.getElem?_eq_getElem hi']
        rfl
      refine w_name ⟨rfl, ?_⟩
      walk_at "g"
      refine hR _ _ ?_ Kp.refl
      rw [List.getElem?_map, List.getElem?_map, List.getElem?_range (by omega)]
      show some (V.bl (decide (ns.getD i 0 < ns.getD (i + 1) 0))) = some (V.bl (decide (((ns.getD i 0 : Nat) : Int) < ((ns.getD (i + 1) 0 : Nat) : Int))))
      congr 2
      rw [Bool.eq_iff_iff, decide_eq_true_iff, decide_eq_true_iff]
      omega
    · intro L H1 hL k1 eL
      walk_at "g"
      have gd : ∀ {i : Nat} {x : Nat}, ns[i]? = some x → ns.getD i 0 = x := fun {i x} h => by rw [List.getD_eq_getElem?_getD, h]; rfl
      by_cases h : ns.Pairwise (· < ·)
      · have e : ((List.range (ns.length - 1)).map fun i => decide (ns.getD i 0 < ns.getD (i + 1) 0)).all id = true := by
          rw [List.all_eq_true]
          intro b hb
          obtain ⟨i, hi, rfl⟩ := List.mem_map.mp hb
          rw [List.mem_range] at hi
          refine decide_eq_true ?_
          have h1 := List.getElem?_eq_getElem (show i < ns.length by omega)
          have h2 := List.getElem?_eq_getElem (show i + 1 < ns.length by omega)
          rw [gd h1, gd h2]
          exact adj_pw h h1 h2
        rw [e]
        exact q1 h _ k1.same
      · have e : ((List.range (ns.length - 1)).map fun i => decide (ns.getD i 0 < ns.getD (i + 1) 0)).all id = false := by
          rw [Bool.eq_false_iff]
          intro hall
          rw [List.all_eq_true] at hall
          refine h (pw_adj (R := (· < ·)) (fun a b c h1 h2 => Nat.lt_trans h1 h2) fun i x y hx hy => ?_)
          have hi : i < ns.length - 1 := by have := (List.getElem?_eq_some_iff.mp hy).1; omega
          have := of_decide_eq_true (hall _ (List.mem_map.mpr ⟨i, List.mem_range.mpr hi, rfl⟩))
          rwa [gd hx, gd hy] at this
        rw [e]
        exact q2 h _ k1.same
theorem ok_riseS {f : Addr} {fd : FuncData} (T : Txt K mg) (F : Fun K "rise" "rise" s_rise f fd) : FnOk P w K mg base CX0 1 f fd ["row"] spRiseS := by
  refine F.ok sc_rise (fun vs H Q E h => ?_) (fun cdv A outer s H vs Q E hr h => ?_)
  · obtain ⟨r, zs, rfl, _⟩ := h
    rfl
  · obtain ⟨r, zs, rfl, hr', hl, hp, q⟩ := h
    refine ⟨_,
      (pss_one
        (ps_ret (pe_callB (r := rAll K) (cr_all rfl) (by rfl) T.n_all (by decide +kernel) (pa_cons (pe_lc (own := [("k", 1)]) (g := (gName 1)) rfl sc_rise.nd (pi_range2 (by rfl) T.n_range (pa_cons pe_int (pa_cons (pe_callB (r := rLen K) c_len (by rfl) T.n_len (by decide +kernel) (pa_cons (pv 0) pa_nil)) pa_nil))) (blkOk_by (own := [("k", 1)]) (N := N_rise) (sc := defScope s_rise) (by decide +kernel)) (fun _ _ _ _ _ => (pg_name (i := 1) sc_rise.nd rfl (.inl rfl))) (fun _ _ _ _ _ => pts_nil) (fun _ _ _ _ _ => (pe_cmpR o_ltS (pe_ix (r := rIxL K) ix_list (pv 0) (pe_op op_sub (pv 1) pe_int) (fun _ _ => rfl)) (pe_ix (r := rIxL K) ix_list (pv 0) (pv 1) (fun _ _ => rfl)) (nomark _)))) pa_nil))))
      , ?_⟩
    rw [show L2.start N_rise [V.ref r] = [some (.ref r), none] from rfl]
    walk_at "x"
    try refine w_rng2' (by simp only [List.length_map]; omega) ?_
    refine lcp_map (walk_range (lo := 1) (n := ((((zs.map V.str).length : Nat) : Int) - 1).toNat)) [] (((List.range (zs.length - 1)).map fun i => true).map V.bl) (by simp only [List.length_map, List.length_range]; omega) (by simp only [List.length_map]; omega) (fun _ _ => trivial) ?_ (by simp) ?_
    · rintro i x H1 H2 R hi k1 ⟨rfl, rfl⟩ hR
      have hi' : i + 1 < zs.length := by
        simp only [List.length_map] at hi
        omega
      have hr1 := k1.same _ _ hr'
      have g1 := List.getElem?_eq_getElem (show i < zs.length by omega)
      have g2 := List.getElem?_eq_getElem hi'
      have at1 : atI (zs.map V.str) (1 + (i : Int) - 1) = some (.str zs[i]) := by
        rw [show (1 : Int) + (i : Int) - 1 = ((i : Nat) : Int) by omega]
        exact atI_nat (by rw [List.getElem?_map, g1]; rfl)
      have at2 : atI (zs.map V.str) (1 + (i : Int)) = some (.str zs[i + 1]) := by
        rw [show (1 : Int) + (i : Int) = ((i + 1 : Nat) : Int) by omega]
        exact atI_nat (by rw [List.getElem?_map, g2]; rfl)
      refine w_name ⟨rfl, ?_⟩
      walk_at "g"
      refine hR _ _ ?_ Kp.refl
      rw [List.getElem?_map, List.getElem?_map, List.getElem?_range (by omega), decide_eq_true (adj_pw hp g1 g2)]
      rfl
    · intro L H1 hL k1 eL
      walk_at "g"
      rw [show ((List.range (zs.length - 1)).map fun i => true).all id = true by simp]
      exact q _ k1.same
theorem ok_areints {f fI : Addr} {fd fdI : FuncData} (T : Txt K mg) (F : Fun K "are_ints" "are_ints" s_are_ints f fd) (D_is_int : DfD K mg "is_int" s_is_int ["thing", "least"] [.int 0] fI fdI) : FnOk P w K mg base CX0 2 f fd ["thing"] spAreInts := by
  obtain ⟨ds_is_int, V_is_int, B_is_int⟩ := D_is_int.b
  have G_is_int : FnOk P w K mg base CX0 1 fI fdI ["thing", "least"] spIsInt := ok_isint T D_is_int
  refine F.ok sc_are_ints (fun vs H Q E h => ?_) (fun cdv A outer s H vs Q E hr h => ?_)
  · obtain ⟨x, B, rfl, _⟩ := h
    rfl
  · obtain ⟨x, B, rfl, hd, hB, q1, q2⟩ := h
    refine ⟨_,
      (pss_one
        (ps_ret (pe_and (pe_callB (r := rIsi K) call_isi (by rfl) T.n_isinstance (by decide +kernel) (pa_cons (pv 0) (pa_cons (pe_bltn (v := .ty "tuple") (u := .type "tuple") (by rfl) T.n_tuple (by decide +kernel) rfl) pa_nil))) (pe_one (pe_callB (r := rAll K) (cr_all rfl) (by rfl) T.n_all (by decide +kernel) (pa_cons (pe_lc (own := [("part", 1)]) (g := (gName 1)) rfl sc_are_ints.nd (pi_tup (pv 0)) (blkOk_by (own := [("part", 1)]) (N := N_are_ints) (sc := defScope s_are_ints) (by decide +kernel)) (fun _ _ _ _ _ => (pg_name (i := 1) sc_are_ints.nd rfl (.inl rfl))) (fun _ _ _ _ _ => pts_nil) (fun _ _ _ _ _ => (pe_call G_is_int (hr.mono (by omega)) (by rfl) D_is_int.g D_is_int.kp B_is_int V_is_int pass0 (pa_cons (pv 1) pa_nil)))) pa_nil))))))
      , ?_⟩
    rw [show L2.start N_are_ints [x] = [some x, none] from rfl]
    walk_at "x"
    rcases hd.cases with ⟨ay, ty, hne⟩ | ⟨a, xs, rfl, ea, hxB, hxs⟩
    · refine w_isTup ty ?_
      rw [decide_eq_false hne]
      walk_at "g"
      refine q2 ?_ _ (fun _ _ z => z)
      rintro ns ⟨a, rfl, h⟩
      exact hne (ty.ofTup h)
    walk_at "g"
    refine lcp_gen (walk_tup (K := K) (a := a) (xs := xs)) [] (fun i y _ => ∃ bb : Bool, y = .bl bb ∧ ∀ z, xs[i]? = some z → (bb = true ↔ ∃ n : Nat, z = nV n)) (fun _ _ => True) (by omega) (fun _ _ _ _ _ h => h) (fun _ _ _ _ _ _ => trivial) (fun _ H1 k _ => .of (k _ _ (by simp) ea)) trivial ?_ (by simp) ?_
    · rintro i y H2 H3 R hi k2 t2 _ ⟨rfl, hy⟩ hR
      obtain ⟨a1, t1⟩ := ((hxs y (List.mem_of_getElem? hy)).kd (KD.of k2.same)).ty
      refine w_name ⟨rfl, ?_⟩
      walk_at "g"
      refine ⟨y, a1, rfl, t1, fun n hn => ?_, fun hn => ?_⟩
      · refine hR _ _ ⟨true, rfl, fun z hz => ⟨fun _ => ⟨n, ?_⟩, fun _ => rfl⟩⟩ Kp.refl KT.refl trivial
        rw [hy] at hz
        cases hz
        exact hn
      · refine hR _ _ ⟨false, rfl, fun z hz => ⟨fun h => Bool.noConfusion h, fun ⟨n, e⟩ => ?_⟩⟩ Kp.refl KT.refl trivial
        rw [hy] at hz
        cases hz
        exact absurd e (hn n)
    · intro L H2 vs hvl hvp hL k2' t2 _ eL
      have k2 := k2'.same
      obtain ⟨bs, rfl, hbs⟩ := bls_of hvp
      rw [List.length_map] at hvl
      walk_at "g"
      by_cases hall : ∀ y ∈ xs, ∃ n : Nat, y = nV n
      · have e : bs.all id = true := by
          rw [List.all_eq_true]
          intro b hb
          obtain ⟨i, hi, rfl⟩ := List.getElem_of_mem hb
          have hi2 : i < xs.length := by omega
          exact ((hbs i bs[i] (List.getElem?_eq_getElem hi)) xs[i] (List.getElem?_eq_getElem hi2)).mpr (hall _ (List.getElem_mem hi2))
        rw [e]
        obtain ⟨ns, rfl⟩ := nats_of hall
        exact q1 ns ⟨a, rfl, ea⟩ _ k2
      · have e : bs.all id = false := by
          rw [Bool.eq_false_iff]
          intro h
          rw [List.all_eq_true] at h
          refine hall fun y hy => ?_
          obtain ⟨i, hi, rfl⟩ := List.getElem_of_mem hy
          have hi2 : i < bs.length := by omega
          exact ((hbs i bs[i] (List.getElem?_eq_getElem hi2)) xs[i] (List.getElem?_eq_getElem hi)).mp (h _ (List.getElem_mem hi2))
        rw [e]
        refine q2 ?_ _ k2
        rintro ns ⟨a', e', h⟩
        cases e'
        rw [ea] at h
        cases h
        exact hall fun y hy => by
          obtain ⟨n, _, rfl⟩ := List.mem_map.mp hy
          exact ⟨n, rfl⟩
theorem ok_risingints {f fA fR fI : Addr} {fd fdA fdR fdI : FuncData} (T : Txt K mg) (F : Fun K "rising_ints" "rising_ints" s_rising_ints f fd) (D_are_ints : Df K mg "are_ints" s_are_ints ["thing"] fA fdA) (D_rise : Df K mg "rise" s_rise ["row"] fR fdR) (D_is_int : DfD K mg "is_int" s_is_int ["thing", "least"] [.int 0] fI fdI) : FnOk P w K mg base CX0 3 f fd ["thing"] spRisingInts := by
  have G_are_ints : FnOk P w K mg base CX0 2 fA fdA ["thing"] spAreInts := ok_areints T D_are_ints.fn D_is_int
  have G_rise : FnOk P w K mg base CX0 1 fR fdR ["row"] spRiseT := ok_riseT T D_rise.fn
  refine F.ok sc_rising_ints (fun vs H Q E h => ?_) (fun cdv A outer s H vs Q E hr h => ?_)
  · obtain ⟨x, B, rfl, _⟩ := h
    rfl
  · obtain ⟨x, B, rfl, hd, hB, q1, q2⟩ := h
    refine ⟨_,
      (pss_one
        (ps_ret (pe_and (pe_call G_are_ints (hr.mono (by omega)) (by rfl) D_are_ints.g D_are_ints.fn.kp D_are_ints.b .nil pass0 (pa_cons (pv 0) pa_nil)) (pe_one (pe_call G_rise (hr.mono (by omega)) (by rfl) D_rise.g D_rise.fn.kp D_rise.b .nil pass0 (pa_cons (pv 0) pa_nil))))))
      , ?_⟩
    rw [show L2.start N_rising_ints [x] = [some x] from rfl]
    walk_at "x"
    refine ⟨x, B, rfl, hd, hB, fun ns hns H1 k1 => ?_, fun hn H1 k1 => ?_⟩
    · walk_at "g"
      have hns' := hns
      obtain ⟨a, rfl, ea⟩ := hns
      have hlen : ns.length ≤ 1000 := by
        have := (hd.elem ea).1
        rw [List.length_map] at this
        omega
      refine ⟨a, ns, rfl, k1 _ _ ea, hlen, fun hp H2 k2 => ?_, fun hp H2 k2 => ?_⟩
      · exact q1 ns hns' hp _ (Same.trans k1 k2)
      · refine q2 ?_ _ (Same.trans k1 k2)
        rintro ns' ⟨a', e, h⟩
        cases e
        rw [ea] at h
        have e2 := Option.some.inj h
        injection e2 with e2
        rw [← nV_inj e2]
        exact hp
    · walk_at "g"
      exact q2 (fun ns h => absurd h (hn ns)) _ k1
theorem ok_arerows {f fT : Addr} {fd fdT : FuncData} (T : Txt K mg) (F : Fun K "are_rows" "are_rows" s_are_rows f fd) (D_is_text : DfD K mg "is_text" s_is_text ["thing", "most"] [.int 40] fT fdT) : FnOk P w K mg base CX0 2 f fd ["thing"] spAreRows := by
  obtain ⟨ds_is_text, V_is_text, B_is_text⟩ := D_is_text.b
  have G_is_text : FnOk P w K mg base CX0 1 fT fdT ["thing", "most"] spIsText := ok_istext T D_is_text
  refine F.ok sc_are_rows (fun vs H Q E h => ?_) (fun cdv A outer s H vs Q E hr h => ?_)
  · obtain ⟨r, rows, rfl, _⟩ := h
    rfl
  · obtain ⟨r, rows, rfl, hr', hl, hz, q⟩ := h
    have hr0 : H r = some (.tup (rows.map V.str)) := hr'
    refine ⟨_,
      (pss_one
        (ps_ret (pe_and (pe_callB (r := rIsi K) call_isi (by rfl) T.n_isinstance (by decide +kernel) (pa_cons (pv 0) (pa_cons (pe_bltn (v := .ty "tuple") (u := .type "tuple") (by rfl) T.n_tuple (by decide +kernel) rfl) pa_nil))) (pe_and (pe_cmpR op_le (pe_callB (r := rLen K) c_len (by rfl) T.n_len (by decide +kernel) (pa_cons (pv 0) pa_nil)) pe_int (nomark _)) (pe_one (pe_callB (r := rAll K) (cr_all rfl) (by rfl) T.n_all (by decide +kernel) (pa_cons (pe_lc (own := [("row", 1)]) (g := (gName 1)) rfl sc_are_rows.nd (pi_tup (pv 0)) (blkOk_by (own := [("row", 1)]) (N := N_are_rows) (sc := defScope s_are_rows) (by decide +kernel)) (fun _ _ _ _ _ => (pg_name (i := 1) sc_are_rows.nd rfl (.inl rfl))) (fun _ _ _ _ _ => pts_nil) (fun _ _ _ _ _ => (pe_call G_is_text (hr.mono (by omega)) (by rfl) D_is_text.g D_is_text.kp B_is_text V_is_text pass0 (pa_cons (pv 1) pa_nil)))) pa_nil)))))))
      , ?_⟩
    rw [show L2.start N_are_rows [V.ref r] = [some (.ref r), none] from rfl]
    walk_at "x"
    refine w_yes (by rw [List.length_map]; omega) ?_
    walk_at "g"
    refine lcp_map (walk_tup (K := K) (a := r) (xs := rows.map V.str)) [] ((rows.map fun _ => true).map V.bl) (by simp) (by rw [List.length_map]; omega) (fun H' k => .of (k _ _ (by simp) hr0)) ?_ (by simp) ?_
    · rintro i x H1 H2 R hi k1 ⟨rfl, hx⟩ hR
      obtain ⟨z, hz', rfl⟩ := map_at hx
      have hzo := hz z (List.mem_of_getElem? hz')
      refine w_name ⟨rfl, ?_⟩
      walk_at "g"
      refine ⟨.str z, 40, rfl, .leaf (.str z) (by decide) (fun z' e => by cases e; exact hzo.1), by omega, fun _ _ _ H3 k3 => ?_, fun hn => absurd hzo (hn z rfl)⟩
      refine hR _ _ ?_ (Kp.of k3)
      rw [List.getElem?_map, List.getElem?_map, hz']
      rfl
    · intro L H1 hL k1 eL
      walk_at "g"
      rw [show (rows.map fun _ => true).all id = true by simp]
      exact q _ k1.same
end
/-! ### a book's own defs -/
def spIsName (P : Program) (w : World) (C : Addr) : Sp := fun vs H Q _ => ∃ (p dx lc ld lg : Addr) (cs : List (Addr × Ct)) (ds : List Nat) (x : V) (a : String), vs = [.ref p, x] ∧ BookAt P w C H p dx lc ld lg cs ds ∧ Ty H x a ∧ (∀ n : Nat, x = nV n → n < cs.length → Q (.bl true) H) ∧ ((∀ n : Nat, x = nV n → ¬ n < cs.length) → Q (.bl false) H)
def spIsKind (P : Program) (w : World) (C : Addr) : Sp := fun vs H Q _ => ∃ (p dx lc ld lg : Addr) (cs : List (Addr × Ct)) (ds : List Nat) (x : V) (a : String) (k : Str), vs = [.ref p, x, .str k] ∧ BookAt P w C H p dx lc ld lg cs ds ∧ Ty H x a ∧ (∀ (n : Nat) (q : Addr × Ct), x = nV n → cs[n]? = some q → Q (.bl (decide (q.2.word = k))) H) ∧ ((∀ n : Nat, x = nV n → ¬ n < cs.length) → Q (.bl false) H)
def spIsPair2 : Sp := fun vs H Q _ => ∃ (a : Addr) (x y : V), vs = [.ref a] ∧ H a = some (.tup [x, y]) ∧ Q (.bl true) H
def spIsEntry (P : Program) (w : World) (C : Addr) : Sp := fun vs H Q _ => ∃ (p dx lc ld lg e : Addr) (cs : List (Addr × Ct)) (ds : List Nat) (z : Str) (n : Nat) (q : Addr × Ct), vs = [.ref p, .ref e] ∧ BookAt P w C H p dx lc ld lg cs ds ∧ H e = some (.tup [.str z, nV n]) ∧ LabOk z ∧ cs[n]? = some q ∧ q.2.word ≠ "version" ∧ ∀ H', Same H H' → Q (.bl true) H'
def spDepth (C : Addr) : Sp := fun vs H Q _ => ∃ (p dx lc ld lg a : Addr) (ds : List Nat) (c : Ct), vs = [.ref p, .ref a] ∧ H p = some (.ins C dx [("contents", .ref lc), ("depths", .ref ld), ("given", .ref lg)]) ∧ H ld = some (.lst (ds.map nV)) ∧ CtAt H a c ∧ (∀ es, c = .tree es → es.length ≤ 20 ∧ ∀ e ∈ es, e.2 < ds.length) ∧ ∀ H', Same H H' → Q (nV (depOf ds c)) H'
def spIsTree (P : Program) (w : World) (C : Addr) : Sp := fun vs H Q _ => ∃ (p dx lc ld lg r : Addr) (cs : List (Addr × Ct)) (ds : List Nat) (qs : List (Addr × Str × Nat)), vs = [.ref p, .ref r] ∧ BookAt P w C H p dx lc ld lg cs ds ∧ H r = some (.tup (qs.map fun q => .ref q.1)) ∧ (∀ q ∈ qs, H q.1 = some (.tup [.str q.2.1, nV q.2.2])) ∧ CtOk (cs.map (·.2)) ds (.tree (qs.map (·.2))) ∧ ∀ H', Same H H' → Q (.bl true) H'
def spIsContent (P : Program) (w : World) (C : Addr) : Sp := fun vs H Q _ => ∃ (p dx lc ld lg a : Addr) (cs : List (Addr × Ct)) (ds : List Nat) (c : Ct), vs = [.ref p, .ref a] ∧ BookAt P w C H p dx lc ld lg cs ds ∧ CtAt H a c ∧ CtOk (cs.map (·.2)) ds c ∧ ∀ H', Same H H' → Q (.bl true) H'
def spIsVersion (P : Program) (w : World) (C : Addr) : Sp := fun vs H Q _ => ∃ (p dx lc ld lg a : Addr) (cs : List (Addr × Ct)) (ds : List Nat) (ps : List Nat) (root stamp : Nat), vs = [.ref p, .ref a] ∧ BookAt P w C H p dx lc ld lg cs ds ∧ CtAt H a (.ver ps root stamp) ∧ CtOk (cs.map (·.2)) ds (.ver ps root stamp) ∧ ∀ H', Same H H' → Q (.bl true) H'
def spBookInit (P : Program) (w : World) (C : Addr) : Sp := fun vs H Q _ => ∃ (p dx : Addr), vs = [.ref p] ∧ H p = some (.ins C dx []) ∧ ∀ (lc ld lg : Addr) (H' : Hp), H lc = none → H ld = none → H lg = none → BookAt P w C H' p dx lc ld lg [] [] → Kp [p] H H' → Q .non H'
/-- what naming a content makes of a book -/
def spNamed (P : Program) (w : World) (C : Addr) : Sp := fun vs H Q _ => ∃ (p dx lc ld lg a : Addr) (cs : List (Addr × Ct)) (ds : List Nat) (c : Ct), vs = [.ref p, .ref a] ∧ BookAt P w C H p dx lc ld lg cs ds ∧ CtAt H a c ∧ CtOk (cs.map (·.2)) ds c ∧ cs.length < 400 ∧
  (∀ (j : Nat) (b : Addr) (H' : Hp), cs[j]? = some (b, c) → Same H H' → Q (nV j) H') ∧ ((∀ q ∈ cs, q.2 ≠ c) → ∀ H', BookAt P w C H' p dx lc ld lg (cs ++ [(a, c)]) (ds ++ [depOf ds c]) → Kp [lc, ld, lg] H H' → KT H H' → Q (nV cs.length) H')
def spThing (P : Program) (w : World) (C : Addr) : Sp := fun vs H Q _ => ∃ (p dx lc ld lg : Addr) (cs : List (Addr × Ct)) (ds : List Nat) (n : Nat) (q : Addr × Ct), vs = [.ref p, nV n] ∧ BookAt P w C H p dx lc ld lg cs ds ∧ cs[n]? = some q ∧ Q (.ref q.1) H
def spKind (P : Program) (w : World) (C : Addr) : Sp := fun vs H Q _ => ∃ (p dx lc ld lg : Addr) (cs : List (Addr × Ct)) (ds : List Nat) (n : Nat) (q : Addr × Ct), vs = [.ref p, nV n] ∧ BookAt P w C H p dx lc ld lg cs ds ∧ cs[n]? = some q ∧ Q (.str q.2.word) H
def spPartsV (P : Program) (w : World) (C : Addr) : Sp := fun vs H Q _ => ∃ (p dx lc ld lg : Addr) (cs : List (Addr × Ct)) (ds : List Nat) (n : Nat) (a : Addr) (ps : List Nat) (root stamp : Nat), vs = [.ref p, nV n] ∧ BookAt P w C H p dx lc ld lg cs ds ∧ cs[n]? = some (a, .ver ps root stamp) ∧ ps.length ≤ 900 ∧ ∀ H' r, Same H H' → H' r = some (.tup ((ps ++ [root]).map nV)) → Q (.ref r) H'
theorem CtAt.head {H : Hp} {a : Addr} {c : Ct} (h : CtAt H a c) : ∃ xs, H a = some (.tup (.str c.word :: xs)) := by
  cases c with
  | leaf rows => obtain ⟨r, h1, _⟩ := h; exact ⟨_, h1⟩
  | tree es => obtain ⟨r, qs, h1, _⟩ := h; exact ⟨_, h1⟩
  | ver ps root stamp => obtain ⟨r, h1, _⟩ := h; exact ⟨_, h1⟩
theorem fold_max (m : Nat) : ∀ (ns : List Nat) (b : Nat), (m = b ∨ m ∈ ns) → b ≤ m → (∀ y ∈ ns, y ≤ m) → ns.foldl max b = m
  | [], b, h, _, _ => by
    rcases h with h | h
    · exact h.symm
    · cases h
  | n :: ns, b, h, hb, hall => by
    show ns.foldl max (max b n) = m
    have hn := hall n (by simp)
    refine fold_max m ns (max b n) ?_ (by omega) fun y hy => hall y (by simp [hy])
    rcases h with h | h
    · exact .inl (by omega)
    · rcases List.mem_cons.mp h with h | h
      · exact .inl (by omega)
      · exact .inr h
theorem small1k {n : Nat} (h : n ≤ 1000) : n ≤ sizeLine := Nat.le_trans h (by decide)
theorem small1kl {n : Nat} (h : n ≤ 1000) : n < sizeLine := Nat.lt_of_le_of_lt h (by decide)
section
variable {P : Program} {w : World} {K : PySem.W.Frag} {mg : Str → Option Value} {base : Heap} {C : Addr}
theorem ok_isname {f fI : Addr} {fd fdI : FuncData} (T : Txt K mg) (F : Fun K "is_name" "is_name" s_is_name f fd) (K_Book : Kl K mg "Book" C ["contents", "depths", "given"]) (D_is_int : DfD K mg "is_int" s_is_int ["thing", "least"] [.int 0] fI fdI) : FnOk P w K mg base CX0 2 f fd ["book", "thing"] (spIsName P w C) := by
  obtain ⟨ds_is_int, V_is_int, B_is_int⟩ := D_is_int.b
  have G_is_int : FnOk P w K mg base CX0 1 fI fdI ["thing", "least"] spIsInt := ok_isint T D_is_int
  have cl := K_Book.cl
  have n1 := K_Book.na "contents" (by simp)
  refine F.ok sc_is_name (fun vs H Q E h => ?_) (fun cdv A outer s H vs Q E hr h => ?_)
  · obtain ⟨p, dx, lc, ld, lg, cs, ds, x, a, rfl, _⟩ := h
    rfl
  · obtain ⟨p, dx, lc, ld, lg, cs, ds, x, a, rfl, B, t, q1, q2⟩ := h
    have ob := B.ob
    have co := B.co
    refine ⟨_,
      (pss_one
        (ps_ret (pe_and (pe_call G_is_int (hr.mono (by omega)) (by rfl) D_is_int.g D_is_int.kp B_is_int V_is_int pass0 (pa_cons (pv 1) pa_nil)) (pe_one (pe_cmpR op_lt (pv 1) (pe_callB (r := rLen K) c_len (by rfl) T.n_len (by decide +kernel) (pa_cons (pe_fldK (K := K) rfl (pv 0) rfl) pa_nil)) (nomark _))))))
      , ?_⟩
    rw [show L2.start N_is_name [V.ref p, x] = [some (.ref p), some x] from rfl]
    walk_at "x"
    refine ⟨x, a, rfl, t, fun n hn => ?_, fun hn => ?_⟩
    · subst hn
      walk_at "g"
      by_cases h : n < cs.length
      · rw [decide_eq_true (by rw [List.length_map]; omega)]
        exact q1 n rfl h
      · rw [decide_eq_false (by rw [List.length_map]; omega)]
        exact q2 fun m e => by
          have : (n : Int) = m := V.int.inj e
          omega
    · walk_at "g"
      exact q2 fun n e => absurd e (hn n)
theorem ok_iskind {f fN fI : Addr} {fd fdN fdI : FuncData} (T : Txt K mg) (F : Fun K "is_kind" "is_kind" s_is_kind f fd) (K_Book : Kl K mg "Book" C ["contents", "depths", "given"]) (D_is_name : Df K mg "is_name" s_is_name ["book", "thing"] fN fdN) (D_is_int : DfD K mg "is_int" s_is_int ["thing", "least"] [.int 0] fI fdI) : FnOk P w K mg base CX0 3 f fd ["book", "thing", "kind"] (spIsKind P w C) := by
  have G_is_name : FnOk P w K mg base CX0 2 fN fdN ["book", "thing"] (spIsName P w C) := ok_isname T D_is_name.fn K_Book D_is_int
  have cl := K_Book.cl
  have n1 := K_Book.na "contents" (by simp)
  refine F.ok sc_is_kind (fun vs H Q E h => ?_) (fun cdv A outer s H vs Q E hr h => ?_)
  · obtain ⟨p, dx, lc, ld, lg, cs, ds, x, a, k, rfl, _⟩ := h
    rfl
  · obtain ⟨p, dx, lc, ld, lg, cs, ds, x, a, k, rfl, B, t, q1, q2⟩ := h
    have ob := B.ob
    have co := B.co
    refine ⟨_,
      (pss_one
        (ps_ret (pe_and (pe_call G_is_name (hr.mono (by omega)) (by rfl) D_is_name.g D_is_name.fn.kp D_is_name.b .nil pass0 (pa_cons (pv 0) (pa_cons (pv 1) pa_nil))) (pe_one (pe_cmpR op_eq (pe_ix (r := rIxT K) ix_tup (pe_ix (r := rIxL K) ix_list (pe_fldK (K := K) rfl (pv 0) rfl) (pv 1) (fun _ _ => rfl)) pe_int (fun _ _ => rfl)) (pv 2) (nomark _))))))
      , ?_⟩
    rw [show L2.start N_is_kind [V.ref p, x, V.str k] = [some (.ref p), some x, some (.str k)] from rfl]
    walk_at "x"
    refine ⟨p, dx, lc, ld, lg, cs, ds, x, a, rfl, B, t, fun n hn hl => ?_, fun hn => ?_⟩
    · subst hn
      have hq := List.getElem?_eq_getElem hl
      generalize cs[n] = q at hq
      obtain ⟨xs, hh⟩ := (B.ct q (List.mem_of_getElem? hq)).head
      have at1 : atI (cs.map fun q => V.ref q.1) (n : Int) = some (.ref q.1) := atI_nat (by rw [List.getElem?_map, hq]; rfl)
      have at0 : atI (V.str q.2.word :: xs) 0 = some (.str q.2.word) := atI_nat (j := 0) rfl
      walk_at "g"
      exact q1 n q rfl hq
    · walk_at "g"
      exact q2 hn
theorem ok_ispair2 {f : Addr} {fd : FuncData} (T : Txt K mg) (F : Fun K "is_pair" "is_pair" s_is_pair f fd) : FnOk P w K mg base CX0 1 f fd ["thing"] spIsPair2 := by
  refine F.ok sc_is_pair (fun vs H Q E h => ?_) (fun cdv A outer s H vs Q E hr h => ?_)
  · obtain ⟨a, x, y, rfl, _⟩ := h
    rfl
  · obtain ⟨a, x, y, rfl, ha, q⟩ := h
    refine ⟨_,
      (pss_one
        (ps_ret (pe_and (pe_callB (r := rIsi K) call_isi (by rfl) T.n_isinstance (by decide +kernel) (pa_cons (pv 0) (pa_cons (pe_bltn (v := .ty "tuple") (u := .type "tuple") (by rfl) T.n_tuple (by decide +kernel) rfl) pa_nil))) (pe_one (pe_cmpR op_eq (pe_callB (r := rLen K) c_len (by rfl) T.n_len (by decide +kernel) (pa_cons (pv 0) pa_nil)) pe_int (nomark _))))))
      , ?_⟩
    rw [show L2.start N_is_pair [V.ref a] = [some (.ref a)] from rfl]
    walk_at "x"
    exact q
theorem ok_isentry {f fN fI fP fL : Addr} {fd fdN fdI fdP fdL : FuncData} (T : Txt K mg) (F : Fun K "is_entry" "is_entry" s_is_entry f fd) (K_Book : Kl K mg "Book" C ["contents", "depths", "given"]) (D_is_name : Df K mg "is_name" s_is_name ["book", "thing"] fN fdN) (D_is_int : DfD K mg "is_int" s_is_int ["thing", "least"] [.int 0] fI fdI) (D_is_pair : Df K mg "is_pair" s_is_pair ["thing"] fP fdP) (D_is_label : Df K mg "is_label" s_is_label ["thing"] fL fdL) : FnOk P w K mg base CX0 3 f fd ["book", "thing"] (spIsEntry P w C) := by
  have G_is_name : FnOk P w K mg base CX0 2 fN fdN ["book", "thing"] (spIsName P w C) := ok_isname T D_is_name.fn K_Book D_is_int
  have G_is_pair : FnOk P w K mg base CX0 1 fP fdP ["thing"] spIsPair2 := ok_ispair2 T D_is_pair.fn
  have G_is_label : FnOk P w K mg base CX0 1 fL fdL ["thing"] spIsLabel := ok_islabel T D_is_label.fn
  have cl := K_Book.cl
  have n1 := K_Book.na "contents" (by simp)
  refine F.ok sc_is_entry (fun vs H Q E h => ?_) (fun cdv A outer s H vs Q E hr h => ?_)
  · obtain ⟨p, dx, lc, ld, lg, e, cs, ds, z, n, q, rfl, _⟩ := h
    rfl
  · obtain ⟨p, dx, lc, ld, lg, e, cs, ds, z, n, q, rfl, B, he, hz, hq, hw, qq⟩ := h
    have he' : H e = some (.tup [.str z, .int (n : Int)]) := he
    refine ⟨_,
      (pss_cons
        (ps_if (PW.pt (pw_or (pt_not (pt_val (pe_call G_is_pair (hr.mono (by omega)) (by rfl) D_is_pair.g D_is_pair.fn.kp D_is_pair.b .nil pass0 (pa_cons (pv 1) pa_nil)))) (pw_or1 (pt_not (pt_val (pe_call G_is_label (hr.mono (by omega)) (by rfl) D_is_label.g D_is_label.fn.kp D_is_label.b .nil pass0 (pa_cons (pe_ix (r := rIxT K) ix_tup (pv 1) pe_int (fun _ _ => rfl)) pa_nil)))))))
          (pss_one
            (ps_ret pe_bl))
          pss_nil)
      (pss_one
        (ps_ret (pe_and (pe_call G_is_name (hr.mono (by omega)) (by rfl) D_is_name.g D_is_name.fn.kp D_is_name.b .nil pass0 (pa_cons (pv 0) (pa_cons (pe_ix (r := rIxT K) ix_tup (pv 1) pe_int (fun _ _ => rfl)) pa_nil))) (pe_one (pe_cmpR op_ne (pe_ix (r := rIxT K) ix_tup (pe_ix (r := rIxL K) ix_list (pe_fldK (K := K) rfl (pv 0) rfl) (pe_ix (r := rIxT K) ix_tup (pv 1) pe_int (fun _ _ => rfl)) (fun _ _ => rfl)) pe_int (fun _ _ => rfl)) pe_str (nomark _)))))))
      , ?_⟩
    rw [show L2.start N_is_entry [V.ref p, V.ref e] = [some (.ref p), some (.ref e)] from rfl]
    refine w_seq ?_
    walk_at "x"
    refine ⟨e, _, _, rfl, he', ?_⟩
    walk_at "g"
    refine ⟨z, rfl, hz, fun H1 k1 => ?_⟩
    have B1 := B.same k1
    have ob1 := B1.ob
    have co1 := B1.co
    have he1 := k1 _ _ he'
    have hl : n < cs.length := (List.getElem?_eq_some_iff.mp hq).1
    obtain ⟨xs, hh⟩ := (B1.ct q (List.mem_of_getElem? hq)).head
    have at1 : atI (cs.map fun q => V.ref q.1) (n : Int) = some (.ref q.1) := atI_nat (by rw [List.getElem?_map, hq]; rfl)
    have at0 : atI (V.str q.2.word :: xs) 0 = some (.str q.2.word) := atI_nat (j := 0) rfl
    walk_at "g"
    refine ⟨p, dx, lc, ld, lg, cs, ds, .int (n : Int), "int", rfl, B1, .int _, fun m hm hml => ?_, fun hm => absurd hl (hm n rfl)⟩
    walk_at "g"
    rw [decide_eq_false hw]
    exact qq _ k1
theorem ok_depth {f : Addr} {fd : FuncData} (T : Txt K mg) (F : Fun K "depth_of" "depth_of" s_depth_of f fd) (K_Book : Kl K mg "Book" C ["contents", "depths", "given"]) : FnOk P w K mg base CX0 1 f fd ["book", "content"] (spDepth C) := by
  have cl := K_Book.cl
  have n2 := K_Book.na "depths" (by simp)
  refine F.ok sc_depth_of (fun vs H Q E h => ?_) (fun cdv A outer s H vs Q E hr h => ?_)
  · obtain ⟨p, dx, lc, ld, lg, a, ds, c, rfl, _⟩ := h
    rfl
  · obtain ⟨p, dx, lc, ld, lg, a, ds, c, rfl, ob, de, hc, ht, q⟩ := h
    refine ⟨_,
      (pss_cons
        (ps_if (pt_cmpR op_ne (pe_ix (r := rIxT K) ix_tup (pv 1) pe_int (fun _ _ => rfl)) pe_str (nomark _))
          (pss_one
            (ps_ret pe_int))
          pss_nil)
      (pss_one
        (ps_ret (pe_op op_add pe_int (pe_callBK (r := rMaxD K) (c_maxD rfl hr.units) (by rfl) T.n_max (by decide +kernel) (pa_cons (pe_lc (own := [("label", 2), ("name", 3)]) (g := (gTup K 2 (gCons (gName 2) (gCons (gName 3) gNil)))) rfl sc_depth_of.nd (pi_tup (pe_ix (r := rIxT K) ix_tup (pv 1) pe_int (fun _ _ => rfl))) (blkOk_by (own := [("label", 2), ("name", 3)]) (N := N_depth_of) (sc := defScope s_depth_of) (by decide +kernel)) (fun _ _ _ _ _ => (pg_tup rfl (pgs_cons (pg_name (i := 2) sc_depth_of.nd rfl (.inl rfl)) (pgs_cons (pg_name (i := 3) sc_depth_of.nd rfl (.inl rfl)) pgs_nil)))) (fun _ _ _ _ _ => pts_nil) (fun _ _ _ _ _ => (pe_ix (r := rIxL K) ix_list (pe_fldK (K := K) rfl (pv 0) rfl) (pv 3) (fun _ _ => rfl)))) pa_nil) (pk_cons pe_int pk_nil))))))
      , ?_⟩
    rw [show L2.start N_depth_of [V.ref p, V.ref a] = [some (.ref p), some (.ref a), none, none] from rfl]
    refine w_seq ?_
    have sm : Same H H := fun _ _ z => z
    cases c with
    | leaf rows =>
      obtain ⟨r, h1, _⟩ := hc
      walk_at "x"
      refine w_nno lit_ne1 ?_
      walk_at "g"
      exact q _ sm
    | ver ps root stamp =>
      obtain ⟨r, h1, _⟩ := hc
      walk_at "x"
      refine w_nno lit_ne6 ?_
      walk_at "g"
      exact q _ sm
    | tree es =>
      obtain ⟨r, qs, h1, h2, rfl, h4⟩ := hc
      obtain ⟨hl20, hin⟩ := ht _ rfl
      rw [List.length_map] at hl20
      walk_at "x"
      refine w_nyes rfl ?_
      walk_at "g"
      refine lcp_map (walk_tup (K := K) (a := r) (xs := qs.map fun q => V.ref q.1)) [] ((qs.map fun q => ds.getD q.2.2 0).map nV) (by simp) (by rw [List.length_map]; omega) (fun H' k => .of (k _ _ (by simp) h2)) ?_ (by simp) ?_
      · rintro i x H1 H2 R hi k1 ⟨rfl, hx⟩ hR
        obtain ⟨z, hz, rfl⟩ := map_at hx
        have hzm := List.mem_of_getElem? hz
        have e1 : H2 z.1 = some (.tup [.str z.2.1, .int (z.2.2 : Int)]) := k1.same _ _ (h4 z hzm)
        have ob1 := k1.same _ _ ob
        have de1 := k1.same _ _ de
        have hlt : z.2.2 < ds.length := hin z.2 (List.mem_map_of_mem hzm)
        have at1 : atI (ds.map nV) (z.2.2 : Int) = some (nV (ds.getD z.2.2 0)) := by
          refine atI_nat ?_
          rw [nV_at hlt, List.getD_eq_getElem?_getD, List.getElem?_eq_getElem hlt]
          rfl
        refine w_gtup (.of e1) rfl (w_gcons (w_name (w_gcons (w_name (w_gnil ⟨rfl, ?_⟩)))))
        walk_at "g"
        refine hR _ _ ?_ Kp.refl
        rw [List.getElem?_map, List.getElem?_map, hz]
        rfl
      · intro L H1 hL k1 eL
        have eL' : H1 L = some (.lst (((qs.map fun q => ds.getD q.2.2 0).map fun n : Nat => (n : Int)).map V.int)) := by rw [List.map_map]; exact eL
        walk_at "g"
        refine w_maxD' (.of eL') (fun e0 => ?_) fun m hm hall => ?_
        · have e1 : qs = [] := by simpa using e0
          subst e1
          walk_at "g"
          exact q _ k1.same
        · obtain ⟨n, hn, rfl⟩ := List.mem_map.mp hm
          walk_at "g"
          have e : depOf ds (.tree (qs.map (·.2))) = 1 + n := by
            show 1 + ((qs.map (·.2)).map fun e => ds.getD e.2 0).foldl max 0 = 1 + n
            rw [List.map_map]
            rw [fold_max n (qs.map ((fun e : Str × Nat => ds.getD e.2 0) ∘ fun q : Addr × Str × Nat => q.2)) 0 (.inr hn) (Nat.zero_le _) fun y hy => by
              have := hall (y : Int) (List.mem_map.mpr ⟨y, hy, rfl⟩)
              omega]
          have := q _ k1.same
          rw [e] at this
          rw [show nV (1 + n) = V.int (1 + (n : Int)) from congrArg V.int (by omega)] at this
          exact this
theorem ok_istree {f fE fR fO fN fI fP fL : Addr} {fd fdE fdR fdO fdN fdI fdP fdL : FuncData} (T : Txt K mg) (F : Fun K "is_tree" "is_tree" s_is_tree f fd) (K_Book : Kl K mg "Book" C ["contents", "depths", "given"]) (D_is_entry : Df K mg "is_entry" s_is_entry ["book", "thing"] fE fdE) (D_rise : Df K mg "rise" s_rise ["row"] fR fdR) (D_depth_of : Df K mg "depth_of" s_depth_of ["book", "content"] fO fdO) (D_is_name : Df K mg "is_name" s_is_name ["book", "thing"] fN fdN) (D_is_int : DfD K mg "is_int" s_is_int ["thing", "least"] [.int 0] fI fdI) (D_is_pair : Df K mg "is_pair" s_is_pair ["thing"] fP fdP) (D_is_label : Df K mg "is_label" s_is_label ["thing"] fL fdL) : FnOk P w K mg base CX0 4 f fd ["book", "entries"] (spIsTree P w C) := by
  have G_is_entry : FnOk P w K mg base CX0 3 fE fdE ["book", "thing"] (spIsEntry P w C) := ok_isentry T D_is_entry.fn K_Book D_is_name D_is_int D_is_pair D_is_label
  have G_rise : FnOk P w K mg base CX0 1 fR fdR ["row"] spRiseS := ok_riseS T D_rise.fn
  have G_depth_of : FnOk P w K mg base CX0 1 fO fdO ["book", "content"] (spDepth C) := ok_depth T D_depth_of.fn K_Book
  obtain ⟨tk_DEEP, g_DEEP⟩ := T.g_DEEP
  refine F.ok sc_is_tree (fun vs H Q E h => ?_) (fun cdv A outer s H vs Q E hr h => ?_)
  · obtain ⟨p, dx, lc, ld, lg, r, cs, ds, qs, rfl, _⟩ := h
    rfl
  · obtain ⟨p, dx, lc, ld, lg, r, cs, ds, qs, rfl, B, hr', hqs, ⟨c1, c2, c3, c4⟩, q⟩ := h
    rw [List.length_map] at c1
    refine ⟨_,
      (pss_cons
        (ps_if (PW.pt (pw_or (pt_not (pt_val (pe_callB (r := rIsi K) call_isi (by rfl) T.n_isinstance (by decide +kernel) (pa_cons (pv 1) (pa_cons (pe_bltn (v := .ty "tuple") (u := .type "tuple") (by rfl) T.n_tuple (by decide +kernel) rfl) pa_nil))))) (pw_or1 (pt_cmpR op_gt (pe_callB (r := rLen K) c_len (by rfl) T.n_len (by decide +kernel) (pa_cons (pv 1) pa_nil)) pe_int (nomark _)))))
          (pss_one
            (ps_ret pe_bl))
          pss_nil)
      (pss_cons
        (ps_if (PW.pt (pw_or (pt_not (pt_val (pe_callB (r := rAll K) (cr_all rfl) (by rfl) T.n_all (by decide +kernel) (pa_cons (pe_lc (own := [("entry", 2)]) (g := (gName 2)) rfl sc_is_tree.nd (pi_tup (pv 1)) (blkOk_by (own := [("entry", 2)]) (N := N_is_tree) (sc := defScope s_is_tree) (by decide +kernel)) (fun _ _ _ _ _ => (pg_name (i := 2) sc_is_tree.nd rfl (.inl rfl))) (fun _ _ _ _ _ => pts_nil) (fun _ _ _ _ _ => (pe_call G_is_entry (hr.mono (by omega)) (by rfl) D_is_entry.g D_is_entry.fn.kp D_is_entry.b .nil pass0 (pa_cons (pv 0) (pa_cons (pv 2) pa_nil))))) pa_nil)))) (pw_or1 (pt_not (pt_val (pe_call G_rise (hr.mono (by omega)) (by rfl) D_rise.g D_rise.fn.kp D_rise.b .nil pass0 (pa_cons (pe_lc (own := [("entry", 2)]) (g := (gName 2)) rfl sc_is_tree.nd (pi_tup (pv 1)) (blkOk_by (own := [("entry", 2)]) (N := N_is_tree) (sc := defScope s_is_tree) (by decide +kernel)) (fun _ _ _ _ _ => (pg_name (i := 2) sc_is_tree.nd rfl (.inl rfl))) (fun _ _ _ _ _ => pts_nil) (fun _ _ _ _ _ => (pe_ix (r := rIxT K) ix_tup (pv 2) pe_int (fun _ _ => rfl)))) pa_nil)))))))
          (pss_one
            (ps_ret pe_bl))
          pss_nil)
      (pss_one
        (ps_ret (pe_cmpR op_le (pe_call G_depth_of (hr.mono (by omega)) (by rfl) D_depth_of.g D_depth_of.fn.kp D_depth_of.b .nil pass0 (pa_cons (pv 0) (pa_cons (pe_tup (pa_cons pe_str (pa_cons (pv 1) pa_nil))) pa_nil))) (pe_glob (v := .int 8) rfl g_DEEP ⟨_, rfl⟩) (nomark _))))))
      , ?_⟩
    rw [show L2.start N_is_tree [V.ref p, V.ref r] = [some (.ref p), some (.ref r), none] from rfl]
    refine w_seq ?_
    walk_at "x"
    refine w_no (by rw [List.length_map]; omega) ?_
    walk_at "g"
    refine w_seq ?_
    walk_at "g"
    refine lcp_map (walk_tup (K := K) (a := r) (xs := qs.map fun q => V.ref q.1)) [] ((qs.map fun _ => true).map V.bl) (by simp) (by rw [List.length_map]; omega) (fun H' k => .of (k _ _ (by simp) hr')) ?_ (by simp) ?_
    · rintro i x H1 H2 R hi k1 ⟨rfl, hx⟩ hR
      obtain ⟨z, hz, rfl⟩ := map_at hx
      have hzm := List.mem_of_getElem? hz
      obtain ⟨g1, c, g2, g3⟩ := c2 z.2 (List.mem_map_of_mem hzm)
      rw [List.getElem?_map] at g2
      obtain ⟨q', hq', rfl⟩ := Option.map_eq_some_iff.mp g2
      refine w_name ⟨rfl, ?_⟩
      walk_at "g"
      refine ⟨p, dx, lc, ld, lg, z.1, cs, ds, z.2.1, z.2.2, q', rfl, B.same k1.same, k1.same _ _ (hqs z hzm), g1, hq', g3, fun H3 k3 => ?_⟩
      refine hR _ _ ?_ (Kp.of k3)
      rw [List.getElem?_map, List.getElem?_map, hz]
      rfl
    · intro L H1 hL k1' eL
      have k1 := k1'.same
      have hr1 := k1 _ _ hr'
      walk_at "g"
      rw [show (qs.map fun _ => true).all id = true by simp]
      walk_at "g"
      refine lcp_map (walk_tup (K := K) (a := r) (xs := qs.map fun q => V.ref q.1)) [] ((qs.map fun q => q.2.1).map V.str) (by simp) (by rw [List.length_map]; omega) (fun H' k => .of (k _ _ (by simp) hr1)) ?_ (by simp) ?_
      · rintro i x H2 H3 R hi k2 ⟨rfl, hx⟩ hR
        obtain ⟨z, hz, rfl⟩ := map_at hx
        have hzm := List.mem_of_getElem? hz
        have e1 : H3 z.1 = some (.tup [.str z.2.1, .int (z.2.2 : Int)]) := k2.same _ _ (k1 _ _ (hqs z hzm))
        refine w_name ⟨rfl, ?_⟩
        walk_at "g"
        refine hR _ _ ?_ Kp.refl
        rw [List.getElem?_map, List.getElem?_map, hz]
        rfl
      · intro L2' H2 hL2 k2' eL2
        have k2 := k2'.same
        walk_at "g"
        refine ⟨L2', qs.map fun q => q.2.1, rfl, eL2, by rw [List.length_map]; omega, ?_, fun H3 k3 => ?_⟩
        · rw [List.pairwise_map] at c3 ⊢
          exact c3
        walk_at "g"
        refine w_new fun t H4 ht e4 k4 => ?_
        have k04 : Same H H4 := Same.trans k1 (Same.trans k2 (Same.trans k3 k4))
        walk_at "g"
        refine ⟨p, dx, lc, ld, lg, t, ds, .tree (qs.map (·.2)), rfl, k04 _ _ B.ob, k04 _ _ B.de, ⟨r, qs, e4, k04 _ _ hr', rfl, fun z hz => k04 _ _ (hqs z hz)⟩, fun es e => ?_, fun H5 k5 => ?_⟩
        · cases e
          refine ⟨by rw [List.length_map]; exact c1, fun z hz => ?_⟩
          obtain ⟨_, c, g2, _⟩ := c2 z hz
          have := (List.getElem?_eq_some_iff.mp g2).1
          rw [B.dl]
          rwa [List.length_map] at this
        walk_at "g"
        rw [decide_eq_true (by omega)]
        exact q _ (Same.trans k04 k5)
theorem ok_isversion {f fG fA fR fK fN fI : Addr} {fd fdG fdA fdR fdK fdN fdI : FuncData} (T : Txt K mg) (F : Fun K "is_version" "is_version" s_is_version f fd) (K_Book : Kl K mg "Book" C ["contents", "depths", "given"]) (D_rising_ints : Df K mg "rising_ints" s_rising_ints ["thing"] fG fdG) (D_are_ints : Df K mg "are_ints" s_are_ints ["thing"] fA fdA) (D_rise : Df K mg "rise" s_rise ["row"] fR fdR) (D_is_kind : Df K mg "is_kind" s_is_kind ["book", "thing", "kind"] fK fdK) (D_is_name : Df K mg "is_name" s_is_name ["book", "thing"] fN fdN) (D_is_int : DfD K mg "is_int" s_is_int ["thing", "least"] [.int 0] fI fdI) : FnOk P w K mg base CX0 4 f fd ["book", "content"] (spIsVersion P w C) := by
  obtain ⟨ds_is_int, V_is_int, B_is_int⟩ := D_is_int.b
  have G_is_int : FnOk P w K mg base CX0 1 fI fdI ["thing", "least"] spIsInt := ok_isint T D_is_int
  have G_rising_ints : FnOk P w K mg base CX0 3 fG fdG ["thing"] spRisingInts := ok_risingints T D_rising_ints.fn D_are_ints D_rise D_is_int
  have G_is_kind : FnOk P w K mg base CX0 3 fK fdK ["book", "thing", "kind"] (spIsKind P w C) := ok_iskind T D_is_kind.fn K_Book D_is_name D_is_int
  refine F.ok sc_is_version (fun vs H Q E h => ?_) (fun cdv A outer s H vs Q E hr h => ?_)
  · obtain ⟨p, dx, lc, ld, lg, a, cs, ds, ps, root, stamp, rfl, _⟩ := h
    rfl
  · obtain ⟨p, dx, lc, ld, lg, a, cs, ds, ps, root, stamp, rfl, B, ⟨r, h1, h2⟩, ⟨c1, c2, c3, ⟨cr, c4, c5⟩, c6⟩, q⟩ := h
    refine ⟨_,
      (pss_cons
        (ps_set (i := 2) sc_is_version.nd rfl (.inl rfl) (pe_ix (r := rIxT K) ix_tup (pv 1) pe_int (fun _ _ => rfl)))
      (pss_cons
        (ps_if (PW.pt (pw_or (pt_not (pt_val (pe_call G_rising_ints (hr.mono (by omega)) (by rfl) D_rising_ints.g D_rising_ints.fn.kp D_rising_ints.b .nil pass0 (pa_cons (pv 2) pa_nil)))) (pw_or1 (pt_cmpR op_gt (pe_callB (r := rLen K) c_len (by rfl) T.n_len (by decide +kernel) (pa_cons (pv 2) pa_nil)) pe_int (nomark _)))))
          (pss_one
            (ps_ret pe_bl))
          pss_nil)
      (pss_cons
        (ps_if (PW.pt (pw_or (pt_not (pt_val (pe_callB (r := rAll K) (cr_all rfl) (by rfl) T.n_all (by decide +kernel) (pa_cons (pe_lc (own := [("parent", 3)]) (g := (gName 3)) rfl sc_is_version.nd (pi_tup (pv 2)) (blkOk_by (own := [("parent", 3)]) (N := N_is_version) (sc := defScope s_is_version) (by decide +kernel)) (fun _ _ _ _ _ => (pg_name (i := 3) sc_is_version.nd rfl (.inl rfl))) (fun _ _ _ _ _ => pts_nil) (fun _ _ _ _ _ => (pe_call G_is_kind (hr.mono (by omega)) (by rfl) D_is_kind.g D_is_kind.fn.kp D_is_kind.b .nil pass0 (pa_cons (pv 0) (pa_cons (pv 3) (pa_cons pe_str pa_nil)))))) pa_nil)))) (pw_or1 (pt_not (pt_val (pe_call G_is_kind (hr.mono (by omega)) (by rfl) D_is_kind.g D_is_kind.fn.kp D_is_kind.b .nil pass0 (pa_cons (pv 0) (pa_cons (pe_ix (r := rIxT K) ix_tup (pv 1) pe_int (fun _ _ => rfl)) (pa_cons pe_str pa_nil)))))))))
          (pss_one
            (ps_ret pe_bl))
          pss_nil)
      (pss_one
        (ps_ret (pe_and (pe_call G_is_int (hr.mono (by omega)) (by rfl) D_is_int.g D_is_int.kp B_is_int V_is_int pass0 (pa_cons (pe_ix (r := rIxT K) ix_tup (pv 1) pe_int (fun _ _ => rfl)) pa_nil)) (pe_one (pe_cmpR op_le (pe_ix (r := rIxT K) ix_tup (pv 1) pe_int (fun _ _ => rfl)) (pe_op op_pow pe_int pe_int) (nomark _)))))))))
      , ?_⟩
    rw [show L2.start N_is_version [V.ref p, V.ref a] = [some (.ref p), some (.ref a), none, none] from rfl]
    walk_at "x"
    refine w_seq ?_
    walk_at "g"
    have dat : DatT 10 H (.ref r) := .tup h2 (by rw [List.length_map]; omega) fun y hy => by
      obtain ⟨n, _, rfl⟩ := List.mem_map.mp hy
      exact .leaf (.int _) (by decide) fun z e => by cases e
    refine ⟨.ref r, 10, rfl, dat, by decide, fun ns hns hp H1 k1 => ?_, fun hn => absurd c1 (hn ps ⟨r, rfl, h2⟩)⟩
    have h11 := k1 _ _ h1
    have h21 := k1 _ _ h2
    walk_at "g"
    refine w_no (by rw [List.length_map]; omega) ?_
    walk_at "g"
    refine w_seq ?_
    walk_at "g"
    refine lcp_map (walk_tup (K := K) (a := r) (xs := ps.map nV)) [] ((ps.map fun _ => true).map V.bl) (by simp) (by rw [List.length_map]; omega) (fun H' k => .of (k _ _ (by simp) h21)) ?_ (by simp) ?_
    · rintro i x H2 H3 R hi k2 ⟨rfl, hx⟩ hR
      obtain ⟨n, hn, rfl⟩ := map_at hx
      obtain ⟨c, g2, g3⟩ := c3 n (List.mem_of_getElem? hn)
      rw [List.getElem?_map] at g2
      obtain ⟨q', hq', rfl⟩ := Option.map_eq_some_iff.mp g2
      have hl : n < cs.length := (List.getElem?_eq_some_iff.mp hq').1
      refine w_name ⟨rfl, ?_⟩
      walk_at "g"
      refine ⟨p, dx, lc, ld, lg, cs, ds, nV n, "int", "version", rfl, (B.same k1).same k2.same, .int _, fun m qm em hm => ?_, fun hm => absurd hl (hm n rfl)⟩
      have en : n = m := by have : (n : Int) = m := V.int.inj em; omega
      subst en
      rw [hq'] at hm
      cases hm
      rw [decide_eq_true g3]
      refine hR _ _ ?_ Kp.refl
      rw [List.getElem?_map, List.getElem?_map, hn]
      rfl
    · intro L H2 hL k2' eL
      have k2 := k2'.same
      have h12 := k2 _ _ h11
      rw [List.getElem?_map] at c4
      obtain ⟨q', hq', rfl⟩ := Option.map_eq_some_iff.mp c4
      have hl : root < cs.length := (List.getElem?_eq_some_iff.mp hq').1
      walk_at "g"
      rw [show (ps.map fun _ => true).all id = true by simp]
      walk_at "g"
      refine ⟨p, dx, lc, ld, lg, cs, ds, nV root, "int", "tree", rfl, (B.same k1).same k2, .int _, fun m qm em hm => ?_, fun hm => absurd hl (hm root rfl)⟩
      have en : root = m := by have : (root : Int) = m := V.int.inj em; omega
      subst en
      rw [hq'] at hm
      cases hm
      rw [decide_eq_true c5]
      walk_at "g"
      refine ⟨nV stamp, "int", rfl, .int _, fun m em => ?_, fun hm => absurd rfl (hm stamp)⟩
      walk_at "g"
      rw [decide_eq_true (by rw [show (10 : Int) ^ Int.toNat 18 = 1000000000000000000 by decide]; omega)]
      exact q _ (Same.trans k1 k2)
end
section
variable {P : Program} {w : World} {K : PySem.W.Frag} {mg : Str → Option Value} {base : Heap} {C : Addr}
theorem ok_iscontent {f fT fV fO fW fE fR fP fL fG fA fK fN fI fX : Addr} {fd fdT fdV fdO fdW fdE fdR fdP fdL fdG fdA fdK fdN fdI fdX : FuncData} (T : Txt K mg) (F : Fun K "is_content" "is_content" s_is_content f fd) (K_Book : Kl K mg "Book" C ["contents", "depths", "given"]) (D_is_tree : Df K mg "is_tree" s_is_tree ["book", "entries"] fT fdT) (D_is_version : Df K mg "is_version" s_is_version ["book", "content"] fV fdV) (D_depth_of : Df K mg "depth_of" s_depth_of ["book", "content"] fO fdO) (D_are_rows : Df K mg "are_rows" s_are_rows ["thing"] fW fdW) (D_is_entry : Df K mg "is_entry" s_is_entry ["book", "thing"] fE fdE) (D_rise : Df K mg "rise" s_rise ["row"] fR fdR) (D_is_pair : Df K mg "is_pair" s_is_pair ["thing"] fP fdP) (D_is_label : Df K mg "is_label" s_is_label ["thing"] fL fdL) (D_rising_ints : Df K mg "rising_ints" s_rising_ints ["thing"] fG fdG) (D_are_ints : Df K mg "are_ints" s_are_ints ["thing"] fA fdA) (D_is_kind : Df K mg "is_kind" s_is_kind ["book", "thing", "kind"] fK fdK) (D_is_name : Df K mg "is_name" s_is_name ["book", "thing"] fN fdN) (D_is_int : DfD K mg "is_int" s_is_int ["thing", "least"] [.int 0] fI fdI) (D_is_text : DfD K mg "is_text" s_is_text ["thing", "most"] [.int 40] fX fdX) : FnOk P w K mg base CX0 5 f fd ["book", "thing"] (spIsContent P w C) := by
  have G_is_tree : FnOk P w K mg base CX0 4 fT fdT ["book", "entries"] (spIsTree P w C) := ok_istree T D_is_tree.fn K_Book D_is_entry D_rise D_depth_of D_is_name D_is_int D_is_pair D_is_label
  have G_is_version : FnOk P w K mg base CX0 4 fV fdV ["book", "content"] (spIsVersion P w C) := ok_isversion T D_is_version.fn K_Book D_rising_ints D_are_ints D_rise D_is_kind D_is_name D_is_int
  have G_are_rows : FnOk P w K mg base CX0 2 fW fdW ["thing"] spAreRows := ok_arerows T D_are_rows.fn D_is_text
  refine F.ok sc_is_content (fun vs H Q E h => ?_) (fun cdv A outer s H vs Q E hr h => ?_)
  · obtain ⟨p, dx, lc, ld, lg, a, cs, ds, c, rfl, _⟩ := h
    rfl
  · obtain ⟨p, dx, lc, ld, lg, a, cs, ds, c, rfl, B, hc, ok, q⟩ := h
    refine ⟨_,
      (pss_cons
        (ps_if (PW.pt (pw_or (pt_not (pt_val (pe_callB (r := rIsi K) call_isi (by rfl) T.n_isinstance (by decide +kernel) (pa_cons (pv 1) (pa_cons (pe_bltn (v := .ty "tuple") (u := .type "tuple") (by rfl) T.n_tuple (by decide +kernel) rfl) pa_nil))))) (pw_or (pt_cmpR op_lt (pe_callB (r := rLen K) c_len (by rfl) T.n_len (by decide +kernel) (pa_cons (pv 1) pa_nil)) pe_int (nomark _)) (pw_or1 (pt_not (pt_val (pe_callB (r := rIsi K) call_isi (by rfl) T.n_isinstance (by decide +kernel) (pa_cons (pe_ix (r := rIxT K) ix_tup (pv 1) pe_int (fun _ _ => rfl)) (pa_cons (pe_bltn (v := .ty "str") (u := .type "str") (by rfl) T.n_str (by decide +kernel) rfl) pa_nil)))))))))
          (pss_one
            (ps_ret pe_bl))
          pss_nil)
      (pss_cons
        (ps_if (pt_cmpR op_eq (pe_ix (r := rIxT K) ix_tup (pv 1) pe_int (fun _ _ => rfl)) pe_str (nomark _))
          (pss_one
            (ps_ret (pe_and (pe_cmpR op_eq (pe_callB (r := rLen K) c_len (by rfl) T.n_len (by decide +kernel) (pa_cons (pv 1) pa_nil)) pe_int (nomark _)) (pe_one (pe_call G_are_rows (hr.mono (by omega)) (by rfl) D_are_rows.g D_are_rows.fn.kp D_are_rows.b .nil pass0 (pa_cons (pe_ix (r := rIxT K) ix_tup (pv 1) pe_int (fun _ _ => rfl)) pa_nil))))))
          pss_nil)
      (pss_cons
        (ps_if (pt_cmpR op_eq (pe_ix (r := rIxT K) ix_tup (pv 1) pe_int (fun _ _ => rfl)) pe_str (nomark _))
          (pss_one
            (ps_ret (pe_and (pe_cmpR op_eq (pe_callB (r := rLen K) c_len (by rfl) T.n_len (by decide +kernel) (pa_cons (pv 1) pa_nil)) pe_int (nomark _)) (pe_one (pe_call G_is_tree (hr.mono (by omega)) (by rfl) D_is_tree.g D_is_tree.fn.kp D_is_tree.b .nil pass0 (pa_cons (pv 0) (pa_cons (pe_ix (r := rIxT K) ix_tup (pv 1) pe_int (fun _ _ => rfl)) pa_nil)))))))
          pss_nil)
      (pss_one
        (ps_ret (pe_and (pe_cmpR op_eq (pe_ix (r := rIxT K) ix_tup (pv 1) pe_int (fun _ _ => rfl)) pe_str (nomark _)) (pe_and (pe_cmpR op_eq (pe_callB (r := rLen K) c_len (by rfl) T.n_len (by decide +kernel) (pa_cons (pv 1) pa_nil)) pe_int (nomark _)) (pe_one (pe_call G_is_version (hr.mono (by omega)) (by rfl) D_is_version.g D_is_version.fn.kp D_is_version.b .nil pass0 (pa_cons (pv 0) (pa_cons (pv 1) pa_nil)))))))))))
      , ?_⟩
    rw [show L2.start N_is_content [V.ref p, V.ref a] = [some (.ref p), some (.ref a)] from rfl]
    refine w_seq ?_
    cases c with
    | leaf rows =>
      obtain ⟨r, h1, h2⟩ := hc
      walk_at "x"
      refine w_no (by simp only [List.length_cons, List.length_nil]; omega) ?_
      walk_at "g"
      refine w_seq ?_
      walk_at "g"
      refine w_yes rfl ?_
      walk_at "g"
      refine w_yes rfl ?_
      walk_at "g"
      refine ⟨r, rows, rfl, h2, ok.1, ok.2, q⟩
    | tree es =>
      obtain ⟨r, qs, h1, h2, rfl, h4⟩ := hc
      walk_at "x"
      refine w_no (by simp only [List.length_cons, List.length_nil]; omega) ?_
      walk_at "g"
      refine w_seq ?_
      walk_at "g"
      refine w_no lit_ne4 ?_
      walk_at "g"
      refine w_seq ?_
      walk_at "g"
      refine w_yes rfl ?_
      walk_at "g"
      refine w_yes rfl ?_
      walk_at "g"
      refine ⟨p, dx, lc, ld, lg, r, cs, ds, qs, rfl, B, h2, h4, ok, q⟩
    | ver ps root stamp =>
      have hc' := hc
      obtain ⟨r, h1, h2⟩ := hc
      walk_at "x"
      refine w_no (by simp only [List.length_cons, List.length_nil]; omega) ?_
      walk_at "g"
      refine w_seq ?_
      walk_at "g"
      refine w_no lit_ne5 ?_
      walk_at "g"
      refine w_seq ?_
      walk_at "g"
      refine w_no lit_ne6 ?_
      walk_at "g"
      refine w_yes rfl ?_
      walk_at "g"
      refine w_yes rfl ?_
      walk_at "g"
      refine ⟨p, dx, lc, ld, lg, a, cs, ds, ps, root, stamp, rfl, B, hc', ok, q⟩
theorem ok_bookinit {f : Addr} {fd : FuncData} (T : Txt K mg) (F : Fun K "__init__" "Book.__init__" s_Book___init__ f fd) (K_Book : Kl K mg "Book" C ["contents", "depths", "given"]) : FnOk P w K mg base CX0 1 f fd ["self"] (spBookInit P w C) := by
  have cl := K_Book.cl
  have n1 := K_Book.na "contents" (by simp)
  have n2 := K_Book.na "depths" (by simp)
  have n3 := K_Book.na "given" (by simp)
  refine F.ok sc_Book___init__ (fun vs H Q E h => ?_) (fun cdv A outer s H vs Q E hr h => ?_)
  · obtain ⟨p, dx, rfl, _⟩ := h
    rfl
  · obtain ⟨p, dx, rfl, hp, q⟩ := h
    refine ⟨_,
      (pss_cons
        (ps_fld (pv 0) (pe_lst pa_nil) rfl)
      (pss_cons
        (ps_fld (pv 0) (pe_lst pa_nil) rfl)
      (pss_one
        (ps_fld (pv 0) pe_nnew rfl))))
      , ?_⟩
    rw [show L2.start N_Book___init__ [V.ref p] = [some (.ref p)] from rfl]
    walk_at "x"
    refine w_new fun lc H1 hlc e1 k1 => ?_
    have hp1 := k1 _ _ hp
    walk_at "g"
    refine w_fldS' hp1 cl n1 (by decide) fun H2 o2 f2 => ?_
    have nlc : lc ≠ p := (ne_of_none hp hlc).symm
    walk_at "g"
    refine w_new fun ld H3 hld e3 k3 => ?_
    have o3 := k3 _ _ o2
    have nld : ld ≠ p := (ne_of_none o2 hld).symm
    have hld1 : H1 ld = none := by rw [← f2 ld nld]; exact hld
    walk_at "g"
    refine w_fldS' o3 cl n2 (show (1 : Nat) < 1000 by decide) fun H4 o4 f4 => ?_
    walk_at "g"
    refine w_nnew fun lg H5 hlg d5 k5 => ?_
    have o5 := k5 _ _ o4
    have nlg : lg ≠ p := (ne_of_none o4 hlg).symm
    have hlg3 : H3 lg = none := by rw [← f4 lg nlg]; exact hlg
    walk_at "g"
    refine w_fldS' o5 cl n3 (show (2 : Nat) < 1000 by decide) fun H6 o6 f6 => ?_
    have e2 := f2.get nlc e1
    have ndc : lc ≠ ld := ne_of_none e2 hld
    have e6 : H6 lc = some (.lst []) := f6.get nlc (k5 _ _ (f4.get nlc (k3 _ _ e2)))
    have e6d : H6 ld = some (.lst []) := f6.get nld (k5 _ _ (f4.get nld e3))
    have d6 : NDict P w H6 lg [] := ⟨f6.get nlg d5.at', fun q hq => by cases hq⟩
    have hld0 : H ld = none := by
      cases e : H ld with
      | none => rfl
      | some o => rw [k1 _ _ e] at hld1; cases hld1
    have hlg0 : H lg = none := by
      cases e : H lg with
      | none => rfl
      | some o =>
        have := k3 _ _ (f2.get nlg (k1 _ _ e))
        rw [this] at hlg3
        cases hlg3
    refine q lc ld lg H6 hlc hld0 hlg0 ⟨o6, e6, e6d, d6, by simp, by simp, rfl, ndc, by simp⟩ fun b o hb e => ?_
    have hb' : b ≠ p := by simpa using hb
    exact f6.get hb' (k5 _ _ (f4.get hb' (k3 _ _ (f2.get hb' (k1 _ _ e)))))
theorem ok_thing {f fN fI : Addr} {fd fdN fdI : FuncData} (T : Txt K mg) (F : Fun K "thing" "Book.thing" s_Book_thing f fd) (K_Book : Kl K mg "Book" C ["contents", "depths", "given"]) (D_is_name : Df K mg "is_name" s_is_name ["book", "thing"] fN fdN) (D_is_int : DfD K mg "is_int" s_is_int ["thing", "least"] [.int 0] fI fdI) : FnOk P w K mg base CX0 3 f fd ["self", "name"] (spThing P w C) := by
  have G_is_name : FnOk P w K mg base CX0 2 fN fdN ["book", "thing"] (spIsName P w C) := ok_isname T D_is_name.fn K_Book D_is_int
  have cl := K_Book.cl
  have n1 := K_Book.na "contents" (by simp)
  refine F.ok sc_Book_thing (fun vs H Q E h => ?_) (fun cdv A outer s H vs Q E hr h => ?_)
  · obtain ⟨p, dx, lc, ld, lg, cs, ds, n, q, rfl, _⟩ := h
    rfl
  · obtain ⟨p, dx, lc, ld, lg, cs, ds, n, qc, rfl, B, hq, q⟩ := h
    have ob := B.ob
    have co := B.co
    have hl : n < cs.length := (List.getElem?_eq_some_iff.mp hq).1
    have at1 : atI (cs.map fun q => V.ref q.1) (n : Int) = some (.ref qc.1) := atI_nat (by rw [List.getElem?_map, hq]; rfl)
    refine ⟨_,
      (pss_cons
        (ps_if (pt_not (pt_val (pe_call G_is_name (hr.mono (by omega)) (by rfl) D_is_name.g D_is_name.fn.kp D_is_name.b .nil pass0 (pa_cons (pv 0) (pa_cons (pv 1) pa_nil)))))
          pss_never
          pss_nil)
      (pss_one
        (ps_ret (pe_ix (r := rIxL K) ix_list (pe_fldK (K := K) rfl (pv 0) rfl) (pv 1) (fun _ _ => rfl)))))
      , ?_⟩
    rw [show L2.start N_Book_thing [V.ref p, nV n] = [some (.ref p), some (.int (n : Int))] from rfl]
    refine w_seq ?_
    walk_at "x"
    refine ⟨p, dx, lc, ld, lg, cs, ds, nV n, "int", rfl, B, .int _, fun m _ _ => ?_, fun hm => absurd hl (hm n rfl)⟩
    walk_at "g"
    exact q
theorem ok_partsV {f fG fN fI : Addr} {fd fdG fdN fdI : FuncData} (T : Txt K mg) (F : Fun K "parts" "Book.parts" s_Book_parts f fd) (K_Book : Kl K mg "Book" C ["contents", "depths", "given"]) (D_Book_thing : DfM K C "thing" "Book.thing" s_Book_thing ["self", "name"] fG fdG) (D_is_name : Df K mg "is_name" s_is_name ["book", "thing"] fN fdN) (D_is_int : DfD K mg "is_int" s_is_int ["thing", "least"] [.int 0] fI fdI) : FnOk P w K mg base CX0 4 f fd ["self", "name"] (spPartsV P w C) := by
  have G_Book_thing : FnOk P w K mg base CX0 3 fG fdG ["self", "name"] (spThing P w C) := ok_thing T D_Book_thing.fn K_Book D_is_name D_is_int
  refine F.ok sc_Book_parts (fun vs H Q E h => ?_) (fun cdv A outer s H vs Q E hr h => ?_)
  · obtain ⟨p, dx, lc, ld, lg, cs, ds, n, a, ps, root, stamp, rfl, _⟩ := h
    rfl
  · obtain ⟨p, dx, lc, ld, lg, cs, ds, n, a, ps, root, stamp, rfl, B, hq, hpl, q⟩ := h
    have ob := B.ob
    obtain ⟨r, h1, h2⟩ := B.ct _ (List.mem_of_getElem? hq)
    refine ⟨_,
      (pss_cons
        (ps_set (i := 2) sc_Book_parts.nd rfl (.inl rfl) (pe_meth (pv 0) K_Book.cl D_Book_thing.m G_Book_thing (hr.mono (by omega)) D_Book_thing.b .nil pass0 (pa_cons (pv 1) pa_nil)))
      (pss_cons
        (ps_if (pt_cmpR op_eq (pe_ix (r := rIxT K) ix_tup (pv 2) pe_int (fun _ _ => rfl)) pe_str (nomark _))
          (pss_one
            (ps_ret (pe_tup pa_nil)))
          pss_nil)
      (pss_cons
        (ps_if (pt_cmpR op_eq (pe_ix (r := rIxT K) ix_tup (pv 2) pe_int (fun _ _ => rfl)) pe_str (nomark _))
          (pss_one
            (ps_ret (pe_callTy (r := rTupOf K) c_tupOf (by rfl) T.n_tuple (by decide +kernel) (pa_cons (pe_lc (own := [("label", 3), ("part", 4)]) (g := (gTup K 2 (gCons (gName 3) (gCons (gName 4) gNil)))) rfl sc_Book_parts.nd (pi_tup (pe_ix (r := rIxT K) ix_tup (pv 2) pe_int (fun _ _ => rfl))) (blkOk_by (own := [("label", 3), ("part", 4)]) (N := N_Book_parts) (sc := defScope s_Book_parts) (by decide +kernel)) (fun _ _ _ _ _ => (pg_tup rfl (pgs_cons (pg_name (i := 3) sc_Book_parts.nd rfl (.inl rfl)) (pgs_cons (pg_name (i := 4) sc_Book_parts.nd rfl (.inl rfl)) pgs_nil)))) (fun _ _ _ _ _ => pts_nil) (fun _ _ _ _ _ => (pv 4))) pa_nil))))
          pss_nil)
      (pss_one
        (ps_ret (pe_op op_catA (pe_ix (r := rIxT K) ix_tup (pv 2) pe_int (fun _ _ => rfl)) (pe_tup (pa_cons (pe_ix (r := rIxT K) ix_tup (pv 2) pe_int (fun _ _ => rfl)) pa_nil))))))))
      , ?_⟩
    rw [show L2.start N_Book_parts [V.ref p, nV n] = [some (.ref p), some (.int (n : Int)), none, none, none] from rfl]
    walk_at "x"
    refine ⟨p, dx, lc, ld, lg, cs, ds, n, _, rfl, B, hq, ?_⟩
    walk_at "g"
    refine w_seq ?_
    walk_at "g"
    refine w_no lit_ne5 ?_
    walk_at "g"
    refine w_seq ?_
    walk_at "g"
    refine w_no lit_ne6 ?_
    walk_at "g"
    refine w_new fun t H1 ht e1 k1 => ?_
    walk_at "g"
    refine w_catAt (k1 _ _ h2) e1 (small1k (by simp only [List.length_map, List.length_cons, List.length_nil]; omega)) fun r2 H2 e2 k2 => ?_
    exact q H2 r2 (Same.trans k1 k2) (by rw [e2, List.map_append]; rfl)
theorem ok_named {f fC fO : Addr} {fd fdC fdO : FuncData} (T : Txt K mg) (F : Fun K "named" "Book.named" s_Book_named f fd) (K_Book : Kl K mg "Book" C ["contents", "depths", "given"]) (D_is_content : Df K mg "is_content" s_is_content ["book", "thing"] fC fdC) (D_depth_of : Df K mg "depth_of" s_depth_of ["book", "content"] fO fdO) (G_is_content : FnOk P w K mg base CX0 5 fC fdC ["book", "thing"] (spIsContent P w C)) : FnOk P w K mg base CX0 6 f fd ["self", "content"] (spNamed P w C) := by
  have G_depth_of : FnOk P w K mg base CX0 1 fO fdO ["book", "content"] (spDepth C) := ok_depth T D_depth_of.fn K_Book
  obtain ⟨tk_MOST, g_MOST⟩ := T.g_MOST
  have cl := K_Book.cl
  have n1 := K_Book.na "contents" (by simp)
  have n2 := K_Book.na "depths" (by simp)
  have n3 := K_Book.na "given" (by simp)
  refine F.ok sc_Book_named (fun vs H Q E h => ?_) (fun cdv A outer s H vs Q E hr h => ?_)
  · obtain ⟨p, dx, lc, ld, lg, a, cs, ds, c, rfl, _⟩ := h
    rfl
  · obtain ⟨p, dx, lc, ld, lg, a, cs, ds, c, rfl, B, hc, ok, hlt, q1, q2⟩ := h
    refine ⟨_,
      (pss_cons
        (ps_if (pt_not (pt_val (pe_call G_is_content (hr.mono (by omega)) (by rfl) D_is_content.g D_is_content.fn.kp D_is_content.b .nil pass0 (pa_cons (pv 0) (pa_cons (pv 1) pa_nil)))))
          pss_never
          pss_nil)
      (pss_cons
        (ps_if (pt_cmp (pc_nin hr.units (pv 1) (pe_fldK (K := K) rfl (pv 0) rfl)))
          (pss_one
            (ps_ret (pe_nget hr.units (pe_fldK (K := K) rfl (pv 0) rfl) (pv 1) (fun _ _ => rfl))))
          pss_nil)
      (pss_cons
        (ps_if (pt_cmpR op_ge (pe_callB (r := rLen K) c_len (by rfl) T.n_len (by decide +kernel) (pa_cons (pe_fldK (K := K) rfl (pv 0) rfl) pa_nil)) (pe_glob (v := .int 400) rfl g_MOST ⟨_, rfl⟩) (nomark _))
          pss_never
          pss_nil)
      (pss_cons
        (ps_nput hr.units (pe_fldK (K := K) rfl (pv 0) rfl) (pv 1) (pe_callB (r := rLen K) c_len (by rfl) T.n_len (by decide +kernel) (pa_cons (pe_fldK (K := K) rfl (pv 0) rfl) pa_nil)) rfl)
      (pss_cons
        (ps_expr (pe_bm PySem.F.plainAttrs_list PySem.F.slot_list_append PySem.F.type_list_append mt_append (pe_fldK (K := K) rfl (pv 0) rfl) (pa_cons (pv 1) pa_nil)))
      (pss_cons
        (ps_expr (pe_bm PySem.F.plainAttrs_list PySem.F.slot_list_append PySem.F.type_list_append mt_append (pe_fldK (K := K) rfl (pv 0) rfl) (pa_cons (pe_call G_depth_of (hr.mono (by omega)) (by rfl) D_depth_of.g D_depth_of.fn.kp D_depth_of.b .nil pass0 (pa_cons (pv 0) (pa_cons (pv 1) pa_nil))) pa_nil)))
      (pss_one
        (ps_ret (pe_op op_sub (pe_callB (r := rLen K) c_len (by rfl) T.n_len (by decide +kernel) (pa_cons (pe_fldK (K := K) rfl (pv 0) rfl) pa_nil)) pe_int)))))))))
      , ?_⟩
    rw [show L2.start N_Book_named [V.ref p, V.ref a] = [some (.ref p), some (.ref a)] from rfl]
    refine w_seq ?_
    walk_at "x"
    refine ⟨p, dx, lc, ld, lg, a, cs, ds, c, rfl, B, hc, ok, fun H1 k1 => ?_⟩
    have B1 := B.same k1
    have hc1 := hc.kt (KT.of k1)
    have ob1 := B1.ob
    have co1 := B1.co
    have de1 := B1.de
    walk_at "g"
    refine w_seq ?_
    walk_at "g"
    refine w_nin' B1.gi hc1.nk c.key_depth ?_
    walk_at "g"
    by_cases hin : ∀ q ∈ cs, q.2 ≠ c
    · rw [ents_none cs 0 hin, Option.isSome_none]
      walk_at "g"
      refine w_seq ?_
      walk_at "g"
      refine w_no (by rw [List.length_map]; omega) ?_
      walk_at "g"
      refine w_nput' B1.gi hc1.nk c.key_depth (by rw [entsF_len]; exact small1kl (by omega)) fun H2 d2 o2 => ?_
      have t2 : KT H1 H2 := ⟨fun b ys e => o2.get (ne_of e B1.gi.at' (fun z => nomatch z)) e, fun b _ ys e => o2.get (ne_of e B1.gi.at' (fun z => nomatch z)) e⟩
      have nlc : lc ≠ lg := ne_of co1 B1.gi.at' (fun z => nomatch z)
      have nld : ld ≠ lg := ne_of de1 B1.gi.at' (fun z => nomatch z)
      have npg : p ≠ lg := ne_of ob1 B1.gi.at' (fun z => nomatch z)
      have npc : p ≠ lc := ne_of ob1 co1 (fun z => nomatch z)
      have npd : p ≠ ld := ne_of ob1 de1 (fun z => nomatch z)
      have co2 := o2.get nlc co1
      have de2 := o2.get nld de1
      have ob2 := o2.get npg ob1
      have ep : NPut (entsF 0 cs) c.key a (V.int ((cs.map fun q => V.ref q.1).length : Int)) = entsF 0 (cs ++ [(a, c)]) := by
        unfold NPut
        rw [ents_none cs 0 hin, entsF_snoc, List.length_map, Nat.zero_add]
        rfl
      rw [ep] at d2
      walk_at "g"
      refine w_app co2 (by rw [List.length_map]; exact small1kl (by omega)) fun H3 e3 o3 => ?_
      have t3 : KT H2 H3 := KT.off o3 co2
      have de3 := o3.get B1.ne.symm de2
      have ob3 := o3.get npc ob2
      walk_at "g"
      have kt13 := t2.trans t3
      have ct3 : ∀ q ∈ cs ++ [(a, c)], CtAt H3 q.1 q.2 := fun q hq => by
        rcases List.mem_append.mp hq with h | h
        · exact (B1.ct q h).kt kt13
        · have e : q = (a, c) := by simpa using h
          subst e
          exact hc1.kt kt13
      refine ⟨p, dx, lc, ld, lg, a, ds, c, rfl, ob3, de3, hc1.kt kt13, fun es e => ?_, fun H4 k4 => ?_⟩
      · subst e
        refine ⟨ok.1, fun z hz => ?_⟩
        obtain ⟨_, c', g2, _⟩ := ok.2.1 z hz
        have := (List.getElem?_eq_some_iff.mp g2).1
        rw [B.dl]
        rwa [List.length_map] at this
      have de4 := k4 _ _ de3
      walk_at "g"
      refine w_app de4 (by rw [List.length_map, B.dl]; exact small1kl (by omega)) fun H5 e5 o5 => ?_
      have t5 : KT H4 H5 := KT.off o5 de4
      have ob5 := o5.get npd (k4 _ _ ob3)
      have co5 := o5.get B1.ne (k4 _ _ e3)
      have d5 : NDict P w H5 lg (entsF 0 (cs ++ [(a, c)])) := ((d2.kp (M := [lc]) (o3.kp (by simp)) t3 (by simpa using nlc.symm)).kp (M := []) (Kp.of k4) (KT.of k4) (by simp)).kp (M := [ld]) (o5.kp (by simp)) t5 (by simpa using nld.symm)
      have kt15 : KT H1 H5 := kt13.trans ((KT.of k4).trans t5)
      walk_at "g"
      have hlen : ((cs.map fun q => V.ref q.1) ++ [V.ref a]).length = cs.length + 1 := by rw [List.length_append, List.length_map]; rfl
      rw [hlen, show (((cs.length + 1 : Nat) : Int) - 1) = (cs.length : Int) by omega]
      refine q2 hin H5 ⟨ob5, by rw [co5, List.map_append]; rfl, by rw [e5, List.map_append]; rfl, d5, fun q hq => (ct3 q hq).kt ((KT.of k4).trans t5), ?_, by rw [List.length_append, List.length_append, B.dl]; rfl, B.ne, by rw [List.length_append]; simp only [List.length_cons, List.length_nil]; omega⟩ ?_ ((KT.of k1).trans kt15)
      · rw [List.map_append, List.nodup_append]
        refine ⟨B.nd, by simp, fun x hx y hy e => ?_⟩
        obtain ⟨z, hz, rfl⟩ := List.mem_map.mp hx
        have e' : y = c := by simpa using hy
        rw [e'] at e
        exact hin z hz e
      · intro b o hb e
        simp only [List.mem_cons, List.not_mem_nil, or_false, not_or] at hb
        exact o5.get hb.2.1 (k4 _ _ (o3.get hb.1 (o2.get hb.2.2 (k1 _ _ e))))
    · obtain ⟨z, hz, ez⟩ : ∃ q ∈ cs, q.2 = c := by
        refine Classical.byContradiction fun h => hin fun q hq e => h ⟨q, hq, e⟩
      obtain ⟨j, hj, ej⟩ := List.getElem_of_mem hz
      have hj' : cs[j]? = some (z.1, c) := by rw [List.getElem?_eq_getElem hj, ej, ← ez]
      have ev := ents_some cs 0 j B.nd hj'
      rw [Nat.zero_add] at ev
      rw [ev, Option.isSome_some]
      walk_at "g"
      refine w_nget' B1.gi hc1.nk c.key_depth ev ?_
      exact q1 j z.1 H1 hj' k1
end
/-! ### views -/
def HereAt (H : Hp) (d : Addr) (hs : List Nat) : Prop := ∃ kvs, H d = some (.dK kvs) ∧ ∀ n : Nat, (valV kvs (Sum.inl (n : Int))).isSome = decide (n ∈ hs)
structure ViewAt (P : Program) (w : World) (C CH : Addr) (H : Hp) (v dv p dx lc ld lg rw' hd : Addr) (cs : List (Addr × Ct)) (ds hs : List Nat) : Prop where
  ob : H v = some (.ins CH dv [("book", .ref p), ("row", .ref rw'), ("here", .ref hd)])
  row : H rw' = some (.lst (hs.map nV))
  here : HereAt H hd hs
  bk : BookAt P w C H p dx lc ld lg cs ds
  in' : ∀ n ∈ hs, n < cs.length
  up : hs.Pairwise (· < ·)
theorem HereAt.kp {M : List Addr} {H H' : Hp} {d : Addr} {hs : List Nat} (h : HereAt H d hs) (k : Kp M H H') (n : d ∉ M) : HereAt H' d hs := by
  obtain ⟨kvs, h1, h2⟩ := h
  exact ⟨kvs, k _ _ n h1, h2⟩
theorem ViewAt.same {P : Program} {w : World} {C CH : Addr} {H H' : Hp} {v dv p dx lc ld lg rw' hd : Addr} {cs : List (Addr × Ct)} {ds hs : List Nat} (h : ViewAt P w C CH H v dv p dx lc ld lg rw' hd cs ds hs) (k : Same H H') : ViewAt P w C CH H' v dv p dx lc ld lg rw' hd cs ds hs :=
  ⟨k _ _ h.ob, k _ _ h.row, h.here.kp (M := []) (Kp.of k) (by simp), h.bk.same k, h.in', h.up⟩
theorem ViewAt.kp {P : Program} {w : World} {C CH : Addr} {M : List Addr} {H H' : Hp} {v dv p dx lc ld lg rw' hd : Addr} {cs : List (Addr × Ct)} {ds hs : List Nat} (h : ViewAt P w C CH H v dv p dx lc ld lg rw' hd cs ds hs) (k : Kp M H H') (t : KT H H') (h1 : v ∉ M) (h2 : rw' ∉ M) (h3 : hd ∉ M) (h4 : p ∉ M) (h5 : lc ∉ M) (h6 : ld ∉ M) (h7 : lg ∉ M) : ViewAt P w C CH H' v dv p dx lc ld lg rw' hd cs ds hs :=
  ⟨k _ _ h1 h.ob, k _ _ h2 h.row, h.here.kp k h3, h.bk.kp k t h4 h5 h6 h7, h.in', h.up⟩
def spViewInit (P : Program) (w : World) (C CH : Addr) : Sp := fun vs H Q _ => ∃ (v dv p dx lc ld lg l : Addr) (cs : List (Addr × Ct)) (ds names : List Nat), vs = [.ref v, .ref p, .ref l] ∧ H v = some (.ins CH dv []) ∧ BookAt P w C H p dx lc ld lg cs ds ∧ H l = some (.lst (names.map nV)) ∧ names.length ≤ 1000 ∧ (∀ n ∈ names, n < cs.length) ∧
  ∀ (rw' hd : Addr) (hs : List Nat) (H' : Hp), H rw' = none → H hd = none → ViewAt P w C CH H' v dv p dx lc ld lg rw' hd cs ds hs → (∀ n, n ∈ hs ↔ n ∈ names) → Kp [v] H H' → Q .non H'
def spHolds (P : Program) (w : World) (C CH : Addr) : Sp := fun vs H Q _ => ∃ (v dv p dx lc ld lg rw' hd : Addr) (cs : List (Addr × Ct)) (ds hs : List Nat) (x : V) (a : String), vs = [.ref v, x] ∧ ViewAt P w C CH H v dv p dx lc ld lg rw' hd cs ds hs ∧ Ty H x a ∧ (∀ n : Nat, x = nV n → n ∈ hs → Q (.bl true) H) ∧ ((∀ n : Nat, x = nV n → n ∉ hs) → Q (.bl false) H)
def pars (cs : List (Addr × Ct)) (n : Nat) : List Nat := match cs[n]? with
  | some (_, .ver ps _ _) => ps
  | _ => []
def isV (cs : List (Addr × Ct)) (n : Nat) : Prop := ∃ a ps r s, cs[n]? = some (a, Ct.ver ps r s)
def hpar (cs : List (Addr × Ct)) (hs : List Nat) (n : Nat) : List Nat := (pars cs n).filter fun p => decide (p ∈ hs)
def edgs (cs : List (Addr × Ct)) (hs ns : List Nat) : List Nat := ns.filter fun n => decide ((hpar cs hs n).length < (pars cs n).length)
theorem isV.at {cs : List (Addr × Ct)} {n : Nat} (h : isV cs n) : ∃ a r s, cs[n]? = some (a, Ct.ver (pars cs n) r s) := by
  obtain ⟨a, ps, r, s, e⟩ := h
  refine ⟨a, r, s, ?_⟩
  unfold pars
  rw [e]
theorem isV.of {cs : List (Addr × Ct)} {n p : Nat} (h : p ∈ pars cs n) : isV cs n := by
  unfold pars at h
  split at h
  · rename_i a ps r s e
    exact ⟨a, ps, r, s, e⟩
  · cases h
/-- a version's parents are versions, few -/
structure BkOk (cs : List (Addr × Ct)) : Prop where
  par : ∀ n p, p ∈ pars cs n → isV cs p ∧ p < n
  few : ∀ n, (pars cs n).length ≤ 4
theorem isV.lt {cs : List (Addr × Ct)} {n : Nat} (h : isV cs n) : n < cs.length := by
  obtain ⟨a, ps, r, s, e⟩ := h
  exact (List.getElem?_eq_some_iff.mp e).1
theorem rise_len : ∀ (hs : List Nat) (a b : Nat), hs.Pairwise (· < ·) → (∀ n ∈ hs, a ≤ n) → (∀ n ∈ hs, n < b) → a ≤ b → hs.length + a ≤ b
  | [], a, b, _, _, _, h => by simpa using h
  | n :: r, a, b, hp, h1, h2, h => by
    rw [List.pairwise_cons] at hp
    have q1 := h1 n (by simp)
    have q2 := h2 n (by simp)
    have := rise_len r (n + 1) b hp.2 (fun m hm => hp.1 m hm) (fun m hm => h2 m (by simp [hm])) (by omega)
    rw [List.length_cons]
    omega
def natSel (p : Nat → Bool) (ns : List Nat) (i : Nat) : Option V := ns[i]?.bind fun n => if p n = true then some (nV n) else none
theorem natSel_all (p : Nat → Bool) : ∀ ns : List Nat, (List.range ns.length).filterMap (natSel p ns) = (ns.filter p).map nV
  | [] => rfl
  | n :: ns => by
    have e : (List.range (n :: ns).length).filterMap (natSel p (n :: ns)) = (natSel p (n :: ns) 0).toList ++ (List.range ns.length).filterMap (natSel p ns) := by
      rw [List.length_cons, List.range_succ_eq_map, List.filterMap_cons]
      have e2 : List.filterMap (natSel p (n :: ns)) (List.map Nat.succ (List.range ns.length)) = List.filterMap (natSel p ns) (List.range ns.length) := by
        rw [List.filterMap_map]
        rfl
      rw [e2]
      cases natSel p (n :: ns) 0 <;> rfl
    rw [e, natSel_all p ns]
    show (if p n = true then some (nV n) else none).toList ++ _ = _
    by_cases h : p n = true
    · rw [if_pos h, List.filter_cons_of_pos h]
      rfl
    · rw [if_neg h, List.filter_cons_of_neg h]
      rfl
def spHeldParents (P : Program) (w : World) (C CH : Addr) : Sp := fun vs H Q _ => ∃ (v dv p dx lc ld lg rw' hd : Addr) (cs : List (Addr × Ct)) (ds hs : List Nat) (n : Nat), vs = [.ref v, nV n] ∧ ViewAt P w C CH H v dv p dx lc ld lg rw' hd cs ds hs ∧ BkOk cs ∧ isV cs n ∧ ∀ (H' : Hp) (l : Addr), Same H H' → H l = none → H' l = some (.lst ((hpar cs hs n).map nV)) → Q (.ref l) H'
def spEdgesOf (P : Program) (w : World) (C CH : Addr) : Sp := fun vs H Q _ => ∃ (v dv p dx lc ld lg rw' hd r : Addr) (cs : List (Addr × Ct)) (ds hs ns : List Nat), vs = [.ref v, .ref r] ∧ ViewAt P w C CH H v dv p dx lc ld lg rw' hd cs ds hs ∧ BkOk cs ∧ H r = some (.tup (ns.map nV)) ∧ ns.length ≤ 1000 ∧ (∀ n ∈ ns, isV cs n) ∧ ∀ (H' : Hp) (t : Addr), Same H H' → H' t = some (.tup ((edgs cs hs ns).map nV)) → Q (.ref t) H'
section
variable {P : Program} {w : World} {K : PySem.W.Frag} {mg : Str → Option Value} {base : Heap} {C CH : Addr}
theorem ok_viewinit {f fN fI : Addr} {fd fdN fdI : FuncData} (T : Txt K mg) (F : Fun K "__init__" "Holding.__init__" s_Holding___init__ f fd) (K_Book : Kl K mg "Book" C ["contents", "depths", "given"]) (K_Holding : Kl K mg "Holding" CH ["book", "row", "here"]) (D_is_name : Df K mg "is_name" s_is_name ["book", "thing"] fN fdN) (D_is_int : DfD K mg "is_int" s_is_int ["thing", "least"] [.int 0] fI fdI) : FnOk P w K mg base CX0 3 f fd ["self", "book", "names"] (spViewInit P w C CH) := by
  have G_is_name : FnOk P w K mg base CX0 2 fN fdN ["book", "thing"] (spIsName P w C) := ok_isname T D_is_name.fn K_Book D_is_int
  have cl := K_Holding.cl
  have n1 := K_Holding.na "book" (by simp)
  have n2 := K_Holding.na "row" (by simp)
  have n3 := K_Holding.na "here" (by simp)
  refine F.ok sc_Holding___init__ (fun vs H Q E h => ?_) (fun cdv A outer s H vs Q E hr h => ?_)
  · obtain ⟨v, dv, p, dx, lc, ld, lg, l, cs, ds, names, rfl, _⟩ := h
    rfl
  · obtain ⟨v, dv, p, dx, lc, ld, lg, l, cs, ds, names, rfl, hv, B, hl, hnl, hin, q⟩ := h
    refine ⟨_,
      (pss_cons
        (ps_for PassesOwn.never rfl (pi_list (pv 2)) (pg_name (i := 3) sc_Holding___init__.nd rfl (.inl rfl))
          (pss_one
            (ps_if (pt_not (pt_val (pe_call G_is_name (hr.mono (by omega)) (by rfl) D_is_name.g D_is_name.fn.kp D_is_name.b .nil pass0 (pa_cons (pv 1) (pa_cons (pv 3) pa_nil)))))
              pss_never
              pss_nil)))
      (pss_cons
        (ps_fld (pv 0) (pv 1) rfl)
      (pss_cons
        (ps_fld (pv 0) (pe_callB (r := rSortS w) (c_sortS rfl) (by rfl) T.n_sorted (by decide +kernel) (pa_cons (pe_callTy (r := rSetL K w) (c_setL rfl) (by rfl) T.n_set (by decide +kernel) (pa_cons (pv 2) pa_nil)) pa_nil)) rfl)
      (pss_one
        (ps_fld (pv 0) (pe_dc (own := [("name", 3)]) (g := (gName 3)) rfl sc_Holding___init__.nd (pi_list (pe_fldK (K := K) rfl (pv 0) rfl)) (blkOk_by (own := [("name", 3)]) (N := N_Holding___init__) (sc := defScope s_Holding___init__) (by decide +kernel)) (fun _ _ _ _ _ => (pg_name (i := 3) sc_Holding___init__.nd rfl (.inl rfl))) (fun _ _ _ _ _ => pts_nil) (fun _ _ _ _ _ => (pv 3)) (fun _ _ _ _ _ => pe_bl)) rfl)))))
      , ?_⟩
    rw [show L2.start N_Holding___init__ [V.ref v, V.ref p, V.ref l] = [some (.ref v), some (.ref p), some (.ref l), none] from rfl]
    walk_at "x"
    refine lp_list (xs := names.map nV) (fun i σ H' => H' = H ∧ ∃ y : Option V, σ = [some (.ref v), some (.ref p), some (.ref l), y]) ⟨rfl, _, rfl⟩ (fun i σ H' _ ⟨e, _⟩ => by rw [e]; exact .of hl) ?_ ?_
    · rintro i x σ H1 hx ⟨rfl, y, rfl⟩
      obtain ⟨n, hn, rfl⟩ := map_at hx
      have hlt := hin n (List.mem_of_getElem? hn)
      walk_at "g"
      refine ⟨p, dx, lc, ld, lg, cs, ds, nV n, "int", rfl, B, .int _, fun m _ _ => ?_, fun hm => absurd hlt (hm n rfl)⟩
      walk_at "g"
      exact ⟨rfl, _, rfl⟩
    · rintro σ H1 ⟨rfl, y, rfl⟩
      walk_at "g"
      refine w_fldS' hv cl n1 (by decide) fun H2 o2 f2 => ?_
      have vl : l ≠ v := ne_of hl hv (fun z => nomatch z)
      have hl2 := f2.get vl hl
      have hl2' : H2 l = some (.lst ((names.map fun n : Nat => (n : Int)).map V.int)) := by rw [List.map_map]; exact hl2
      walk_at "g"
      refine w_setOf (.of hl2') (by rw [List.length_map]; omega) fun st c H3 hst hc e3 k3 => ?_
      walk_at "g"
      refine w_sortS e3 (by rw [List.length_map] at hc; omega) fun ys rw' H4 hup hmem hrw e4 k4 => ?_
      have k24 := Same.trans k3 k4
      have o4 := k24 _ _ o2
      obtain ⟨hs, rfl⟩ : ∃ hs : List Nat, ys = hs.map fun n : Nat => (n : Int) := by
        have : ∀ {zs : List Int}, (∀ z ∈ zs, ∃ n : Nat, z = n) → ∃ hs : List Nat, zs = hs.map fun n : Nat => (n : Int) := by
          intro zs
          induction zs with
          | nil => intro _; exact ⟨[], rfl⟩
          | cons z zs ih =>
            intro h
            obtain ⟨n, rfl⟩ := h z (by simp)
            obtain ⟨hs, rfl⟩ := ih fun y hy => h y (by simp [hy])
            exact ⟨n :: hs, rfl⟩
        refine this fun z hz => ?_
        have := (hmem z).mp hz
        obtain ⟨n, _, rfl⟩ := List.mem_map.mp (of_decide_eq_true this)
        exact ⟨n, rfl⟩
      have hm2 : ∀ n, n ∈ hs ↔ n ∈ names := fun n => by
        have h1 := hmem (n : Int)
        have a1 : (n : Int) ∈ (hs.map fun n : Nat => (n : Int)) ↔ n ∈ hs := ⟨fun h => by
          obtain ⟨m, hm, e⟩ := List.mem_map.mp h
          have : m = n := by omega
          rw [← this]; exact hm, fun h => List.mem_map.mpr ⟨n, h, rfl⟩⟩
        have a2 : (n : Int) ∈ (names.map fun n : Nat => (n : Int)) ↔ n ∈ names := ⟨fun h => by
          obtain ⟨m, hm, e⟩ := List.mem_map.mp h
          have : m = n := by omega
          rw [← this]; exact hm, fun h => List.mem_map.mpr ⟨n, h, rfl⟩⟩
        rw [← a1, h1, decide_eq_true_iff, a2]
      have hup2 : hs.Pairwise (· < ·) := by
        rw [List.pairwise_map] at hup
        exact hup.imp fun {a b} h => by omega
      have e4' : H4 rw' = some (.lst (hs.map nV)) := by rw [e4, List.map_map]; rfl
      have nrw : rw' ≠ v := by
        intro z
        subst z
        rw [k3 _ _ o2] at hrw
        cases hrw
      have hrw0 : H1 rw' = none := by
        cases e : H1 rw' with
        | none => rfl
        | some o => rw [k3 _ _ (f2.get nrw e)] at hrw; cases hrw
      walk_at "g"
      refine w_fldS' o4 cl n2 (show (1 : Nat) < 1000 by decide) fun H5 o5 f5 => ?_
      have e5 := f5.get nrw e4'
      have hslen : hs.length ≤ 1000 := by
        have := rise_len hs 0 cs.length hup2 (fun n _ => Nat.zero_le n) (fun n hn => hin n ((hm2 n).mp hn)) (Nat.zero_le _)
        have := B.few
        omega
      walk_at "g"
      refine dcp_map (walk_list (K := K) (a := rw') (xs := hs.map nV)) [] (hs.map fun n : Nat => ((Sum.inl (n : Int) : Key), V.bl true)) (by simp) (by rw [List.length_map]; omega) (fun H' k => .of (k _ _ (by simp) e5)) ?_ (by simp) ?_
      · rintro i x H6 H7 R hi k6 ⟨rfl, hx⟩ hR
        obtain ⟨n, hn, rfl⟩ := map_at hx
        refine w_name ⟨rfl, ?_⟩
        walk_at "g"
        exact hR _ _ (by rw [List.getElem?_map, hn]; rfl) Kp.refl
      · intro hd H6 hhd k6' e6
        have k6 := k6'.same
        have o6 := k6 _ _ o5
        have nhd : hd ≠ v := by
          intro z
          subst z
          rw [o5] at hhd
          cases hhd
        have hhd0 : H1 hd = none := by
          cases e : H1 hd with
          | none => rfl
          | some o => rw [f5.get nhd (k24 _ _ (f2.get nhd e))] at hhd; cases hhd
        walk_at "g"
        refine w_fldS' o6 cl n3 (show (2 : Nat) < 1000 by decide) fun H7 o7 f7 => ?_
        have K17 : Kp [v] H1 H7 := fun b o hb e => by
          have hb' : b ≠ v := by simpa using hb
          exact f7.get hb' (k6 _ _ (f5.get hb' (k24 _ _ (f2.get hb' e))))
        have T17 : KT H1 H7 := ⟨fun b ys e => K17 b _ (by simpa using ne_of e hv (fun z => nomatch z)) e, fun b _ ys e => K17 b _ (by simpa using ne_of e hv (fun z => nomatch z)) e⟩
        have hpv : p ≠ v := fun z => by
          subst z
          have := B.ob
          rw [hv] at this
          have e2 := Option.some.inj this
          injection e2 with _ _ e2
          cases e2
        have hB := B.kp K17 T17 (by simpa using hpv) (by simpa using ne_of B.co hv (fun z => nomatch z)) (by simpa using ne_of B.de hv (fun z => nomatch z)) (by simpa using ne_of B.gi.at' hv (fun z => nomatch z))
        refine q rw' hd hs H7 hrw0 hhd0 ⟨o7, f7.get nrw (k6 _ _ e5), ⟨_, f7.get nhd e6, fun n => ?_⟩, hB, fun n hn => hin n ((hm2 n).mp hn), hup2⟩ hm2 K17
        rw [valV_merge, valV_nil, Bool.eq_iff_iff]
        simp
        exact ⟨fun ⟨x, hx, e⟩ => by rw [show n = x by omega]; exact hx, fun h => ⟨n, h, rfl⟩⟩
theorem ok_holds {f fN fI : Addr} {fd fdN fdI : FuncData} (T : Txt K mg) (F : Fun K "holds" "Holding.holds" s_Holding_holds f fd) (K_Book : Kl K mg "Book" C ["contents", "depths", "given"]) (K_Holding : Kl K mg "Holding" CH ["book", "row", "here"]) (D_is_name : Df K mg "is_name" s_is_name ["book", "thing"] fN fdN) (D_is_int : DfD K mg "is_int" s_is_int ["thing", "least"] [.int 0] fI fdI) : FnOk P w K mg base CX0 3 f fd ["self", "name"] (spHolds P w C CH) := by
  have G_is_name : FnOk P w K mg base CX0 2 fN fdN ["book", "thing"] (spIsName P w C) := ok_isname T D_is_name.fn K_Book D_is_int
  have cl := K_Holding.cl
  have n1 := K_Holding.na "book" (by simp)
  have n3 := K_Holding.na "here" (by simp)
  refine F.ok sc_Holding_holds (fun vs H Q E h => ?_) (fun cdv A outer s H vs Q E hr h => ?_)
  · obtain ⟨v, dv, p, dx, lc, ld, lg, rw', hd, cs, ds, hs, x, a, rfl, _⟩ := h
    rfl
  · obtain ⟨v, dv, p, dx, lc, ld, lg, rw', hd, cs, ds, hs, x, a, rfl, W, t, q1, q2⟩ := h
    have hu := hu_of hr
    have ob := W.ob
    obtain ⟨kvs, hh, hk⟩ := W.here
    refine ⟨_,
      (pss_one
        (ps_ret (pe_and (pe_call G_is_name (hr.mono (by omega)) (by rfl) D_is_name.g D_is_name.fn.kp D_is_name.b .nil pass0 (pa_cons (pe_fldK (K := K) rfl (pv 0) rfl) (pa_cons (pv 1) pa_nil))) (pe_one (pe_cmp (pc_din hu (pv 1) (pe_fldK (K := K) rfl (pv 0) rfl)))))))
      , ?_⟩
    rw [show L2.start N_Holding_holds [V.ref v, x] = [some (.ref v), some x] from rfl]
    walk_at "x"
    refine ⟨p, dx, lc, ld, lg, cs, ds, x, a, rfl, W.bk, t, fun n hn hl => ?_, fun hn => ?_⟩
    · subst hn
      walk_at "g"
      rw [hk]
      by_cases h : n ∈ hs
      · rw [decide_eq_true h]
        exact q1 n rfl h
      · rw [decide_eq_false h]
        exact q2 fun m e => by
          have : n = m := by have : (n : Int) = m := V.int.inj e; omega
          subst this
          exact h
    · walk_at "g"
      exact q2 fun n e h => hn n e (W.in' n h)
end
/-! ### ways: walks and what lies apart -/
def WalkP (cs : List (Addr × Ct)) (hs : List Nat) (old new : Nat) (ns : List Nat) : Prop := ns[0]? = some new ∧ ns[ns.length - 1]? = some old ∧ ∀ i x y, ns[i]? = some x → ns[i + 1]? = some y → y ∈ hpar cs hs x
structure ApartP (cs : List (Addr × Ct)) (hs : List Nat) (old new : Nat) (ns : List Nat) : Prop where
  up : ns.Pairwise (· < ·)
  new' : new ∈ ns
  old' : old ∉ ns
  ver : ∀ n ∈ ns, n ∈ hs ∧ isV cs n
  cl : ∀ n ∈ ns, ∀ p ∈ hpar cs hs n, p ∈ ns
theorem dp_nats {K : PySem.W.Frag} {H : Hp} : ∀ ns : List Nat, DpAll K H (ns.map nV) (ns.map fun n : Nat => PyData.int (n : Int))
  | [] => .nil
  | n :: r => .cons (.int _) (dp_nats r)
theorem nats_eqv : ∀ ls xs : List Nat, PyData.eqvAll (ls.map fun n : Nat => PyData.int (n : Int)) (xs.map fun n : Nat => PyData.int (n : Int)) = decide (ls = xs)
  | [], [] => rfl
  | [], x :: xs => by simp [PyData.eqvAll]
  | z :: ls, [] => by simp [PyData.eqvAll]
  | z :: ls, x :: xs => by
    rw [List.map_cons, List.map_cons, PyData.eqvAll, PyData.eqv, nats_eqv ls xs]
    by_cases h1 : z = x
    · subst h1
      simp
    · have : ¬ (z : Int) = x := by omega
      simp [h1, this]
theorem nats_lay : ∀ ns : List Nat, PyData.canLayAll0 (ns.map fun n : Nat => PyData.int (n : Int)) = true ∧ PyData.depthAll (ns.map fun n : Nat => PyData.int (n : Int)) ≤ 1
  | [] => ⟨rfl, by decide⟩
  | n :: r => by
    obtain ⟨h1, h2⟩ := nats_lay r
    refine ⟨?_, ?_⟩
    · rw [List.map_cons, PyData.canLayAll0, h1, PyData.canLay0]; rfl
    · rw [List.map_cons, PyData.depthAll, PyData.depth]; omega
theorem nV_map (ns : List Nat) : ns.map nV = (ns.map fun n : Nat => (n : Int)).map V.int := by rw [List.map_map]; rfl
theorem int_mem {ns : List Nat} {n : Nat} : (n : Int) ∈ (ns.map fun n : Nat => (n : Int)) ↔ n ∈ ns := by
  constructor
  · intro h
    obtain ⟨m, hm, e⟩ := List.mem_map.mp h
    have : m = n := by omega
    rw [← this]
    exact hm
  · exact fun h => List.mem_map.mpr ⟨n, h, rfl⟩
theorem w_ninNT {K : PySem.W.Frag} {H : Hp} {Q : VK} {p : Addr} {ns : List Nat} {n : Nat} (h1 : H p = some (.tup (ns.map nV))) (h : Q (.bl (!decide (n ∈ ns))) H) : rIn K true (nV n) (.ref p) H Q := by
  refine w_ninT (vs := ns.map fun n : Nat => (n : Int)) (.of (by rw [← nV_map]; exact h1)) ?_
  rw [decide_eq_decide.mpr int_mem]
  exact h
theorem w_inNL {K : PySem.W.Frag} {H : Hp} {Q : VK} {p : Addr} {ns : List Nat} {n : Nat} (h1 : H p = some (.lst (ns.map nV))) (h : Q (.bl (decide (n ∈ ns))) H) : rIn K false (nV n) (.ref p) H Q := by
  refine w_inL (vs := ns.map fun n : Nat => (n : Int)) (.of (by rw [← nV_map]; exact h1)) ?_
  rw [decide_eq_decide.mpr int_mem]
  exact h
theorem w_ninNL {K : PySem.W.Frag} {H : Hp} {Q : VK} {p : Addr} {ns : List Nat} {n : Nat} (h1 : H p = some (.lst (ns.map nV))) (h : Q (.bl (!decide (n ∈ ns))) H) : rIn K true (nV n) (.ref p) H Q := by
  refine w_ninL (vs := ns.map fun n : Nat => (n : Int)) (.of (by rw [← nV_map]; exact h1)) ?_
  rw [decide_eq_decide.mpr int_mem]
  exact h
theorem cutV_init (xs : List V) (x : V) : cutV (xs ++ [x]) none (some (-1)) = xs := by
  have e : HT.sIx (xs ++ [x]).length (xs ++ [x]).length (some (-1)) = xs.length := by
    show (if (-1 : Int) < 0 then ((-1 : Int) + ((xs ++ [x]).length : Int)).toNat else min (-1 : Int).toNat (xs ++ [x]).length) = _
    rw [if_pos (by decide), List.length_append, List.length_cons, List.length_nil]
    omega
  unfold cutV
  rw [e, HT.sIx_none, List.drop_zero, Nat.sub_zero, List.take_left']
  rfl
def Vw (P : Program) (w : World) (C CH : Addr) (H : Hp) (v : Addr) (cs : List (Addr × Ct)) (hs : List Nat) : Prop := ∃ (dv p dx lc ld lg rw' hd : Addr) (ds : List Nat), ViewAt P w C CH H v dv p dx lc ld lg rw' hd cs ds hs
theorem Vw.same {P : Program} {w : World} {C CH : Addr} {H H' : Hp} {v : Addr} {cs : List (Addr × Ct)} {hs : List Nat} (h : Vw P w C CH H v cs hs) (k : Same H H') : Vw P w C CH H' v cs hs := by
  obtain ⟨dv, p, dx, lc, ld, lg, rw', hd, ds, W⟩ := h
  exact ⟨dv, p, dx, lc, ld, lg, rw', hd, ds, W.same k⟩
section
variable {P : Program} {w : World} {K : PySem.W.Frag} {mg : Str → Option Value} {base : Heap} {C CH : Addr}
theorem ok_heldparents {f fP fG fN fI fH : Addr} {fd fdP fdG fdN fdI fdH : FuncData} (T : Txt K mg) (F : Fun K "held_parents" "held_parents" s_held_parents f fd) (K_Book : Kl K mg "Book" C ["contents", "depths", "given"]) (K_Holding : Kl K mg "Holding" CH ["book", "row", "here"]) (D_Book_parts : DfM K C "parts" "Book.parts" s_Book_parts ["self", "name"] fP fdP) (D_Book_thing : DfM K C "thing" "Book.thing" s_Book_thing ["self", "name"] fG fdG) (D_Holding_holds : DfM K CH "holds" "Holding.holds" s_Holding_holds ["self", "name"] fH fdH) (D_is_name : Df K mg "is_name" s_is_name ["book", "thing"] fN fdN) (D_is_int : DfD K mg "is_int" s_is_int ["thing", "least"] [.int 0] fI fdI) : FnOk P w K mg base CX0 5 f fd ["view", "version"] (spHeldParents P w C CH) := by
  have G_Book_parts : FnOk P w K mg base CX0 4 fP fdP ["self", "name"] (spPartsV P w C) := ok_partsV T D_Book_parts.fn K_Book D_Book_thing D_is_name D_is_int
  have G_Holding_holds : FnOk P w K mg base CX0 3 fH fdH ["self", "name"] (spHolds P w C CH) := ok_holds T D_Holding_holds.fn K_Book K_Holding D_is_name D_is_int
  have cl := K_Holding.cl
  have n1 := K_Holding.na "book" (by simp)
  refine F.ok sc_held_parents (fun vs H Q E h => ?_) (fun cdv A outer s H vs Q E hr h => ?_)
  · obtain ⟨v, dv, p, dx, lc, ld, lg, rw', hd, cs, ds, hs, n, rfl, _⟩ := h
    rfl
  · obtain ⟨v, dv, p, dx, lc, ld, lg, rw', hd, cs, ds, hs, n, rfl, W, ok, iv, q⟩ := h
    have ob := W.ob
    have obB := W.bk.ob
    have few := ok.few n
    obtain ⟨a, r, sst, hcs⟩ := iv.at
    refine ⟨_,
      (pss_one
        (ps_ret (pe_lc (own := [("parent", 2)]) (g := (gName 2)) rfl sc_held_parents.nd (pi_tup (pe_slice sl_tupA (pe_meth (pe_fldK (K := K) rfl (pv 0) rfl) K_Book.cl D_Book_parts.m G_Book_parts (hr.mono (by omega)) D_Book_parts.b .nil pass0 (pa_cons (pv 1) pa_nil)) po_none (po_some (pe_un un_neg pe_int)))) (blkOk_by (own := [("parent", 2)]) (N := N_held_parents) (sc := defScope s_held_parents) (by decide +kernel)) (fun _ _ _ _ _ => (pg_name (i := 2) sc_held_parents.nd rfl (.inl rfl))) (fun _ _ _ _ _ => (pts_one (pt_val (pe_meth (pv 0) K_Holding.cl D_Holding_holds.m G_Holding_holds (hr.mono (by omega)) D_Holding_holds.b .nil pass0 (pa_cons (pv 2) pa_nil))))) (fun _ _ _ _ _ => (pv 2)))))
      , ?_⟩
    rw [show L2.start N_held_parents [V.ref v, nV n] = [some (.ref v), some (.int (n : Int)), none] from rfl]
    walk_at "x"
    refine ⟨p, dx, lc, ld, lg, cs, ds, n, a, pars cs n, r, sst, rfl, W.bk, hcs, by omega, fun H1 t k1 e1 => ?_⟩
    walk_at "g"
    refine w_slAt e1 fun t2 H2 e2 k2 => ?_
    have ecut : cutV ((pars cs n ++ [r]).map nV) none (some (-1)) = (pars cs n).map nV := by
      rw [List.map_append]
      exact cutV_init _ _
    rw [ecut] at e2
    have k12 := Same.trans k1 k2
    have W2 := W.same k12
    walk_at "g"
    refine lcp_sel (walk_tup (K := K) (a := t2) (xs := (pars cs n).map nV)) [] (natSel (fun p => decide (p ∈ hs)) (pars cs n)) (by rw [List.length_map]; omega) (fun H' k => .of (k _ _ (by simp) e2)) ?_ (by simp) ?_
    · rintro i x H3 H4 R R0 hi k3 ⟨rfl, hx⟩ hR hR0
      obtain ⟨m, hm, rfl⟩ := map_at hx
      have W3 := W2.same k3.same
      have ob3 := W3.ob
      refine w_name ⟨rfl, ?_⟩
      walk_at "g"
      refine ⟨v, dv, p, dx, lc, ld, lg, rw', hd, cs, ds, hs, nV m, "int", rfl, W3, .int _, fun m' e hin => ?_, fun hn => ?_⟩
      · have : m' = m := by have : (m : Int) = m' := V.int.inj e; omega
        subst this
        walk_at "g"
        exact hR _ _ (by unfold natSel; rw [hm]; show (if decide (m' ∈ hs) = true then _ else _) = _; rw [if_pos (decide_eq_true hin)]) Kp.refl
      · walk_at "g"
        exact hR0 _ (by unfold natSel; rw [hm]; show (if decide (m ∈ hs) = true then _ else _) = _; rw [if_neg (by simpa using hn m rfl)]) Kp.refl
    · intro L H3 hL k3 eL
      walk_at "g"
      rw [List.length_map, natSel_all] at eL
      exact q _ _ (Same.trans k12 k3.same) (k12.free hL) eL
theorem ok_edgesof {f fO fP fG fN fI fH : Addr} {fd fdO fdP fdG fdN fdI fdH : FuncData} (T : Txt K mg) (F : Fun K "edges_of" "edges_of" s_edges_of f fd) (K_Book : Kl K mg "Book" C ["contents", "depths", "given"]) (K_Holding : Kl K mg "Holding" CH ["book", "row", "here"]) (D_held_parents : Df K mg "held_parents" s_held_parents ["view", "version"] fO fdO) (D_Book_parts : DfM K C "parts" "Book.parts" s_Book_parts ["self", "name"] fP fdP) (D_Book_thing : DfM K C "thing" "Book.thing" s_Book_thing ["self", "name"] fG fdG) (D_Holding_holds : DfM K CH "holds" "Holding.holds" s_Holding_holds ["self", "name"] fH fdH) (D_is_name : Df K mg "is_name" s_is_name ["book", "thing"] fN fdN) (D_is_int : DfD K mg "is_int" s_is_int ["thing", "least"] [.int 0] fI fdI) : FnOk P w K mg base CX0 6 f fd ["view", "versions"] (spEdgesOf P w C CH) := by
  have G_held_parents : FnOk P w K mg base CX0 5 fO fdO ["view", "version"] (spHeldParents P w C CH) := ok_heldparents T D_held_parents.fn K_Book K_Holding D_Book_parts D_Book_thing D_Holding_holds D_is_name D_is_int
  have G_Book_parts : FnOk P w K mg base CX0 4 fP fdP ["self", "name"] (spPartsV P w C) := ok_partsV T D_Book_parts.fn K_Book D_Book_thing D_is_name D_is_int
  have cl := K_Holding.cl
  have n1 := K_Holding.na "book" (by simp)
  refine F.ok sc_edges_of (fun vs H Q E h => ?_) (fun cdv A outer s H vs Q E hr h => ?_)
  · obtain ⟨v, dv, p, dx, lc, ld, lg, rw', hd, r, cs, ds, hs, ns, rfl, _⟩ := h
    rfl
  · obtain ⟨v, dv, p, dx, lc, ld, lg, rw', hd, r, cs, ds, hs, ns, rfl, W, ok, er, hl, hv, q⟩ := h
    refine ⟨_,
      (pss_cons
        (ps_set (i := 2) sc_edges_of.nd rfl (.inl rfl) (pe_lst pa_nil))
      (pss_cons
        (ps_for PassesOwn.never rfl (pi_tup (pv 1)) (pg_name (i := 3) sc_edges_of.nd rfl (.inl rfl))
          (pss_one
            (ps_if (pt_cmpR op_lt (pe_callB (r := rLen K) c_len (by rfl) T.n_len (by decide +kernel) (pa_cons (pe_call G_held_parents (hr.mono (by omega)) (by rfl) D_held_parents.g D_held_parents.fn.kp D_held_parents.b .nil pass0 (pa_cons (pv 0) (pa_cons (pv 3) pa_nil))) pa_nil)) (pe_op op_sub (pe_callB (r := rLen K) c_len (by rfl) T.n_len (by decide +kernel) (pa_cons (pe_meth (pe_fldK (K := K) rfl (pv 0) rfl) K_Book.cl D_Book_parts.m G_Book_parts (hr.mono (by omega)) D_Book_parts.b .nil pass0 (pa_cons (pv 3) pa_nil)) pa_nil)) pe_int) (nomark _))
              (pss_one
                (ps_expr (pe_bm PySem.F.plainAttrs_list PySem.F.slot_list_append PySem.F.type_list_append mt_append (pv 2) (pa_cons (pv 3) pa_nil))))
              pss_nil)))
      (pss_one
        (ps_ret (pe_callTy (r := rTupOf K) c_tupOf (by rfl) T.n_tuple (by decide +kernel) (pa_cons (pv 2) pa_nil))))))
      , ?_⟩
    rw [show L2.start N_edges_of [V.ref v, V.ref r] = [some (.ref v), some (.ref r), none, none] from rfl]
    walk_at "x"
    refine w_new fun L H0 hL e0 k0 => ?_
    walk_at "g"
    refine w_itT' (.of (k0 _ _ er)) ?_
    refine lp_tup (xs := ns.map nV) (fun i σ H' => Kp [L] H0 H' ∧ H' L = some (.lst ((edgs cs hs (ns.take i)).map nV)) ∧ ∃ y : Option V, σ = [some (.ref v), some (.ref r), some (.ref L), y]) ⟨Kp.refl, e0, _, rfl⟩ (fun i σ H' _ ⟨k, _⟩ => .of (k _ _ (by simpa using (ne_of_none er hL)) (k0 _ _ er))) ?_ ?_
    · rintro i x σ H1 hx ⟨k1, e1, y, rfl⟩
      obtain ⟨n, hn, rfl⟩ := map_at hx
      have s1 : Same H H1 := fun b o e => k1 _ _ (by simpa using ne_of_none e hL) (k0 _ _ e)
      have iv := hv n (List.mem_of_getElem? hn)
      have W1 := W.same s1
      have few := ok.few n
      obtain ⟨a, rt, sst, hcs⟩ := iv.at
      have etake : ns.take (i + 1) = ns.take i ++ [n] := by rw [List.take_add_one, hn]; rfl
      walk_at "g"
      refine ⟨v, dv, p, dx, lc, ld, lg, rw', hd, cs, ds, hs, n, rfl, W1, ok, iv, fun H2 l k2 _ e2 => ?_⟩
      have W2 := W1.same k2
      have ob2 := W2.ob
      have obB2 := W2.bk.ob
      walk_at "g"
      refine ⟨p, dx, lc, ld, lg, cs, ds, n, a, pars cs n, rt, sst, rfl, W2.bk, hcs, by omega, fun H3 t k3 e3 => ?_⟩
      have e1' := k3 _ _ (k2 _ _ e1)
      have k13 : Kp [L] H0 H3 := k1.trans (Kp.of (Same.trans k2 k3))
      walk_at "g"
      by_cases hlt : (hpar cs hs n).length < (pars cs n).length
      · refine w_yes (by simp only [List.length_map, List.length_append, List.length_cons, List.length_nil]; omega) ?_
        walk_at "g"
        refine w_app e1' (by rw [List.length_map]; exact small1kl (Nat.le_trans (List.length_filter_le _ _) (by rw [List.length_take]; omega))) fun H4 e4 o4 => ?_
        walk_at "g"
        refine ⟨k13.trans (o4.kp (by simp)), ?_, _, rfl⟩
        rw [e4, etake]
        unfold edgs
        rw [List.filter_append, List.filter_cons_of_pos (by simpa using hlt), List.map_append]
        rfl
      · refine w_no (by simp only [List.length_map, List.length_append, List.length_cons, List.length_nil]; omega) ?_
        walk_at "g"
        refine ⟨k13, ?_, _, rfl⟩
        rw [e1', etake]
        unfold edgs
        rw [List.filter_append, List.filter_cons_of_neg (by simpa using hlt), List.filter_nil, List.append_nil]
    · rintro σ H1 ⟨k1, e1, y, rfl⟩
      have s1 : Same H H1 := fun b o e => k1 _ _ (by simpa using ne_of_none e hL) (k0 _ _ e)
      rw [List.length_map, List.take_length] at e1
      walk_at "g"
      refine w_tupL (.of e1) fun t H2 ht e2 k2 => ?_
      exact q _ _ (Same.trans s1 k2) e2
end
/-- what a way paper is: a walk, or what lies apart with its edges -/
def WayX (cs : List (Addr × Ct)) (hs : List Nat) (old new : Nat) (H : Hp) (x : V) : Prop :=
  (∃ (p r : Addr) (ns : List Nat), x = .ref p ∧ H p = some (.tup [.str "ahead", .ref r]) ∧ H r = some (.tup (ns.map nV)) ∧ WalkP cs hs old new ns) ∨
  (∃ (p r : Addr) (ns : List Nat) (y : V), x = .ref p ∧ H p = some (.tup [.str "apart", .ref r, y]) ∧ H r = some (.tup (ns.map nV)) ∧ ApartP cs hs old new ns ∧ NatsV H y (edgs cs hs ns))
theorem atI_m1 {ns : List Nat} (h : 0 < ns.length) : atI (ns.map nV) (-1) = some (.int ((ns[ns.length - 1] : Nat) : Int)) := by
  have hne : ns ≠ [] := fun e => by rw [e] at h; cases h
  have e : ns.map nV = ns.dropLast.map nV ++ [nV (ns[ns.length - 1])] := by
    rw [← List.getLast_eq_getElem hne]
    conv => lhs; rw [← List.dropLast_concat_getLast hne]
    rw [List.map_append]
    rfl
  rw [e]
  exact atI_last _ _
theorem natsV_same {H H' : Hp} {x : V} {ns ms : List Nat} (h : NatsV H x ns) (h' : NatsV H' x ms) (k : Same H H') : ns = ms := by
  obtain ⟨a, rfl, e⟩ := h
  obtain ⟨b, e2, e'⟩ := h'
  cases e2
  have := k _ _ e
  rw [this] at e'
  have e3 := Option.some.inj e'
  injection e3 with e3
  exact nV_inj e3
theorem lit_ap1 : ¬ ((Str.ofString "ahead") = "apart") := by decide +kernel
/-! ### data whose texts are short and hold no sign number 37 -/
def TxtOk (B : Nat) (z : Str) : Prop := z.length ≤ B ∧ ∀ c ∈ z.cps.toList, c ≠ 37
inductive DatX (B : Nat) (H : Hp) : V → Prop where
  | leaf {x : V} {a : String} (t : Ty H x a) (h : a ≠ "tuple") (z : ∀ z, x = .str z → TxtOk B z) : DatX B H x
  | tup {p : Addr} {xs : List V} (e : H p = some (.tup xs)) (l : xs.length ≤ B) (h : ∀ y ∈ xs, DatX B H y) : DatX B H (.ref p)
theorem DatX.int {B : Nat} {H : Hp} {i : Int} : DatX B H (.int i) := .leaf (.int i) (by decide) fun z e => by cases e
theorem DatX.txt {B : Nat} {H : Hp} {z : Str} (h : TxtOk B z) : DatX B H (.str z) := .leaf (.str z) (by decide) fun z' e => by cases e; exact h
theorem DatX.ty {B : Nat} {H : Hp} {x : V} (h : DatX B H x) : ∃ a, Ty H x a := by
  cases h with
  | leaf t _ _ => exact ⟨_, t⟩
  | tup e _ _ => exact ⟨_, .tup e⟩
theorem DatX.kd {B : Nat} {H H' : Hp} {x : V} (h : DatX B H x) (k : KD H H') : DatX B H' x := by
  induction h with
  | leaf t h z => exact .leaf (t.kd k) h z
  | tup e l _ ih => exact .tup (k.t _ _ e) l fun y hy => ih y hy
theorem DatX.mono {B C : Nat} (hB : B ≤ C) {H : Hp} {x : V} (h : DatX B H x) : DatX C H x := by
  induction h with
  | leaf t h z => exact .leaf t h fun z' e => ⟨Nat.le_trans (z z' e).1 hB, (z z' e).2⟩
  | tup e l _ ih => exact .tup e (Nat.le_trans l hB) fun y hy => ih y hy
theorem DatX.cases {B : Nat} {H : Hp} {x : V} (h : DatX B H x) : (∃ a, Ty H x a ∧ a ≠ "tuple") ∨ ∃ (p : Addr) (xs : List V), x = .ref p ∧ H p = some (.tup xs) ∧ xs.length ≤ B ∧ ∀ y ∈ xs, DatX B H y := by
  cases h with
  | leaf t h _ => exact .inl ⟨_, t, h⟩
  | tup e l h => exact .inr ⟨_, _, rfl, e, l, h⟩
section
variable {K : PySem.W.Frag} {H : Hp} {Q : VK}
end
def spWholeG : Sp := fun vs H Q _ => ∃ (x : V) (a : String), vs = [x] ∧ Ty H x a ∧ Q (.bl (decide (a = "int"))) H
/-! is it an int, is it a tuple of rising ints: of a thing of any kind (@F@) -/
section
variable {P : Program} {w : World} {K : PySem.W.Frag} {mg : Str → Option Value} {base : Heap}
theorem ok_law_intG {f : Addr} {fd : FuncData} (T : Txt K mg) (F : Fun K "_law_int" "_law_int" s_law_int f fd) : FnOk P w K mg base CX0 1 f fd ["_law_thing"] spWholeG := by
  refine F.ok sc_law_int (fun vs H Q E h => ?_) (fun cdv A outer s H vs Q E hr h => ?_)
  · obtain ⟨x, a, rfl, _⟩ := h
    rfl
  · obtain ⟨x, a, rfl, t, q⟩ := h
    refine ⟨_,
      (pss_one
        (ps_ret (pe_and (pe_callB (r := rIsi K) call_isi (by rfl) T.n_isinstance (by decide +kernel) (pa_cons (pv 0) (pa_cons (pe_bltn (v := .ty "int") (u := .type "int") (by rfl) T.n_int (by decide +kernel) rfl) pa_nil))) (pe_one (pe_not (pe_callB (r := rIsi K) call_isi (by rfl) T.n_isinstance (by decide +kernel) (pa_cons (pv 0) (pa_cons (pe_bltn (v := .ty "bool") (u := .type "bool") (by rfl) T.n_bool (by decide +kernel) rfl) pa_nil))))))))
      , ?_⟩
    rw [show L2.start N_law_int [x] = [some x] from rfl]
    walk_at "x"
    refine w_isInt t ?_
    walk_at "g"
    refine w_itB (fun hb => ?_) (fun hb => ?_)
    · walk_at "g"
      refine w_isBool t ?_
      walk_at "g"
      by_cases e : a = "bool"
      · rw [decide_eq_true e]
        rw [decide_eq_false (fun z : a = "int" => by rw [z] at e; exact absurd e (by decide))] at q
        exact q
      · rw [decide_eq_false e]
        rw [decide_eq_false e, Bool.or_false] at hb
        rw [hb] at q
        exact q
    · walk_at "g"
      rw [decide_eq_false (fun z : a = "int" => by rw [decide_eq_true z] at hb; cases hb)] at q
      exact q
end
def addK (ks : List Int) (x : Int) : List Int := if x ∈ ks then ks else ks ++ [x]
theorem mem_addK {ks : List Int} {x y : Int} : y ∈ addK ks x ↔ y ∈ ks ∨ y = x := by
  unfold addK
  by_cases h : x ∈ ks
  · rw [if_pos h]
    constructor
    · exact .inl
    · rintro (a | rfl)
      · exact a
      · exact h
  · rw [if_neg h]
    simp
theorem nd_addK {ks : List Int} {x : Int} (h : ks.Nodup) : (addK ks x).Nodup := by
  unfold addK
  by_cases e : x ∈ ks
  · rw [if_pos e]; exact h
  · rw [if_neg e]
    exact List.nodup_append.mpr ⟨h, by simp, fun a ha b hb => by
      have : b = x := by simpa using hb
      subst this
      exact fun z => e (z ▸ ha)⟩
theorem putK_keys {fk : List (Key × V)} {ks : List Int} {x : Int} {v : V} (h : fk.map (·.1) = ks.map (Sum.inl : Int → Key)) : (putK fk (Sum.inl x) v).map (·.1) = (addK ks x).map (Sum.inl : Int → Key) := by
  have he : (fk.any fun kv => decide (kv.1 = (Sum.inl x : Key))) = true ↔ x ∈ ks := by
    rw [List.any_eq_true]
    constructor
    · rintro ⟨kv, hk, e⟩
      have m : (Sum.inl x : Key) ∈ ks.map Sum.inl := by
        rw [← h, ← of_decide_eq_true e]
        exact List.mem_map_of_mem hk
      obtain ⟨y, hy, e2⟩ := List.mem_map.mp m
      exact Sum.inl.inj e2 ▸ hy
    · intro hx
      have m : (Sum.inl x : Key) ∈ fk.map (·.1) := by
        rw [h]
        exact List.mem_map_of_mem hx
      obtain ⟨kv, hk, e⟩ := List.mem_map.mp m
      exact ⟨kv, hk, decide_eq_true e⟩
  unfold putK addK
  by_cases e : x ∈ ks
  · rw [if_pos (he.mpr e), if_pos e, ← h, List.map_map]
    apply List.map_congr_left
    intro kv _
    show (if kv.1 = Sum.inl x then (kv.1, v) else kv).1 = kv.1
    by_cases q : kv.1 = (Sum.inl x : Key)
    · rw [if_pos q]
    · rw [if_neg q]
  · rw [if_neg (fun z => e (he.mp z)), if_neg e, List.map_append, List.map_append, h]
    rfl
theorem nodup_le : ∀ (ks vs : List Int), ks.Nodup → (∀ x ∈ ks, x ∈ vs) → ks.length ≤ vs.length
  | [], _, _, _ => Nat.zero_le _
  | k :: ks, vs, h, hs => by
    rw [List.nodup_cons] at h
    have hk := hs k (by simp)
    have ih := nodup_le ks (vs.erase k) h.2 fun x hx => (List.mem_erase_of_ne (fun z => h.1 (by rw [← z]; exact hx))).mpr (hs x (by simp [hx]))
    rw [List.length_erase_of_mem hk] at ih
    have : 0 < vs.length := List.length_pos_of_mem hk
    rw [List.length_cons]
    omega
structure FoundAt (H : Hp) (f : Addr) (ks : List Int) : Prop where
  at' : ∃ fk, H f = some (.dK fk) ∧ fk.map (·.1) = ks.map (Sum.inl : Int → Key)
  nd : ks.Nodup
theorem FoundAt.put {H1 : Hp} {f : Addr} {ks : List Int} {fk : List (Key × V)} {x : Int} {v : V} (hk : fk.map (·.1) = ks.map (Sum.inl : Int → Key)) (nd : ks.Nodup) (e : H1 f = some (.dK (putK fk (Sum.inl x) v))) : FoundAt H1 f (addK ks x) := ⟨⟨_, e, putK_keys hk⟩, nd_addK nd⟩
theorem val_keys {kvs : List (Key × V)} {ks : List Int} (h : kvs.map (·.1) = ks.map (Sum.inl : Int → Key)) (x : Int) : (valV kvs (Sum.inl x)).isSome = decide (x ∈ ks) := by
  rw [Bool.eq_iff_iff, decide_eq_true_iff]
  constructor
  · intro z
    obtain ⟨v, e⟩ := Option.isSome_iff_exists.mp z
    have m := valV_in e
    rw [h] at m
    obtain ⟨y, hy, e2⟩ := List.mem_map.mp m
    exact Sum.inl.inj e2 ▸ hy
  · intro z
    cases e : valV kvs (Sum.inl x) with
    | some v => rfl
    | none => exact absurd (by rw [h]; exact List.mem_map_of_mem z) (valV_not e)
theorem Deck.kxK {H H' : Hp} {d c : Addr} {n m : Nat} (D : Deck H d c n) (D' : Deck H' d c m) (k : Kp [d] H H') : KX d H H' := by
  obtain ⟨⟨xs, e⟩, _⟩ := D.at
  obtain ⟨⟨xs', e'⟩, _⟩ := D'.at
  refine ⟨⟨KT.kp k (by simp [e]), fun b ys h => ?_, fun b ys h => ?_⟩, k⟩
  · by_cases hb : b = d
    · subst hb
      exact ⟨_, e'⟩
    · exact ⟨_, k _ _ (by simpa using hb) h⟩
  · exact ⟨_, k _ _ (by simpa using ne_of h e (fun z => nomatch z)) h⟩
theorem w_bm0D {K : PySem.W.Frag} {σ : L2.St} {H : Hp} {Q : VK} {r : V → List V → Hp → VK → Prop} {to : TE} (h : to σ H fun x H1 => tyV K "dict" x H1 ∧ r x [] H1 Q) : tBM0 K "dict" r to σ H Q := h
theorem w_tyDK {K : PySem.W.Frag} {H : Hp} {p : Addr} {kvs : List (Key × V)} {A : Prop} (h1 : H p = some (.dK kvs)) (h : A) : tyV K "dict" (.ref p) H ∧ A := ⟨.inr (.inr (.inl ⟨rfl, .inl ⟨_, h1⟩⟩)), h⟩
def spLabel : Sp := fun vs H Q _ => ∃ (d c : Addr) (n : Nat), vs = [.ref d] ∧ Deck H d c n ∧ n + 12 ≤ MOSTD ∧ ∀ H' z, Deck H' d c (n + 12) → Kp [d] H H' → KT H H' → LabOk z → Q (.str z) H'
theorem chs_of {S : List Nat} {ys : List V} (h : ∀ y ∈ ys, ∃ ch : Nat, y = .str ⟨#[ch]⟩ ∧ ch ∈ S) : ∃ zs : List Nat, ys = (zs.map fun ch => (⟨#[ch]⟩ : Str)).map V.str ∧ ∀ ch ∈ zs, ch ∈ S := by
  induction ys with
  | nil => exact ⟨[], rfl, by simp⟩
  | cons y ys ih =>
    obtain ⟨ch, rfl, hch⟩ := h y (by simp)
    obtain ⟨zs, rfl, hz⟩ := ih fun y hy => h y (by simp [hy])
    exact ⟨ch :: zs, rfl, fun c hc => by
      rcases List.mem_cons.mp hc with rfl | hc
      · exact hch
      · exact hz c hc⟩
theorem chs_sum (l : List Nat) : (l.map fun ch => ((⟨#[ch]⟩ : Str)).length).sum = l.length := by
  induction l with
  | nil => rfl
  | cons x l ih =>
    rw [List.map_cons, List.sum_cons, ih, List.length_cons]
    show 1 + l.length = _
    omega
theorem chs_flat (l : List Nat) : ((l.map fun ch => (⟨#[ch]⟩ : Str)).map fun y => y.cps.toList).flatten = l := by
  induction l with
  | nil => rfl
  | cons x l ih =>
    rw [List.map_cons, List.map_cons, List.flatten_cons, ih]
    rfl
abbrev LTR : Str := Str.ofString "abcdefghijklmnopqrstuvwxyz"
theorem w_dputS {H : Hp} {a : Addr} {kvs : List (Key × V)} {z : Str} {v : V} {R : Hp → Prop} (e : H a = some (.dK kvs)) (hl : kvs.length < sizeLine) (h : ∀ H1, H1 a = some (.dK (putK kvs (Sum.inr z) v)) → Off a H H1 → R H1) : rDPut (.ref a) (.str z) v H R :=
  ⟨a, _, rfl, DPut.k (k := Sum.inr z) e hl, h _ upd_same fun x hx => upd_ne hx⟩

section
variable {P : Program} {w : World} {K : PySem.W.Frag} {mg : Str → Option Value} {base : Heap}
theorem ok_label {f fM fD : Addr} {fd fdM fdD : FuncData} (T : Txt K mg) (F : Fun K "_law_label" "_law_label" s_law_label f fd) (D_law_mixed : Df K mg "_law_mixed" s_law_mixed ["_law_cell", "_law_turn"] fM fdM) (D_law_draw : Df K mg "_law_draw" s_law_draw ["_law_deck_here", "_law_many"] fD fdD) : FnOk P w K mg base CX0 3 f fd ["_law_deck_here"] spLabel := by
  have G_law_draw : FnOk P w K mg base CX0 2 fD fdD ["_law_deck_here", "_law_many"] spDraw := ok_draw T D_law_draw.fn D_law_mixed
  refine F.ok sc_law_label (fun vs H Q E h => ?_) (fun cdv A outer s H vs Q E hr h => ?_)
  · obtain ⟨d, c, n, rfl, _⟩ := h
    rfl
  · obtain ⟨d, c, n, rfl, D0, hn, q⟩ := h
    refine ⟨_,
      (pss_cons
        (ps_if (pt_cmpR op_gt (pe_call G_law_draw (hr.mono (by omega)) (by rfl) D_law_draw.g D_law_draw.fn.kp D_law_draw.b .nil pass0 (pa_cons (pv 0) (pa_cons pe_int pa_nil))) pe_int (nomark _))
          (pss_one
            (ps_ret (pe_ix ix_str pe_str (pe_call G_law_draw (hr.mono (by omega)) (by rfl) D_law_draw.g D_law_draw.fn.kp D_law_draw.b .nil pass0 (pa_cons (pv 0) (pa_cons pe_int pa_nil))) (fun _ _ => rfl))))
          pss_nil)
      (pss_cons
        (ps_set (i := 1) sc_law_label.nd rfl (.inr rfl) pe_str)
      (pss_one
        (ps_ret (p_join pe_str (pe_lc (own := [("_law_k", 2)]) (g := (gName 2)) rfl sc_law_label.nd (pi_range1 (by rfl) T.n_range (pa_cons (pe_op op_add pe_int (pe_call G_law_draw (hr.mono (by omega)) (by rfl) D_law_draw.g D_law_draw.fn.kp D_law_draw.b .nil pass0 (pa_cons (pv 0) (pa_cons pe_int pa_nil)))) pa_nil)) (blkOk_by (own := [("_law_k", 2)]) (N := N_law_label) (sc := defScope s_law_label) (by decide +kernel)) (fun _ _ _ _ _ => (pg_name (i := 2) sc_law_label.nd rfl (.inl rfl))) (fun _ _ _ _ _ => pts_nil) (fun _ _ _ _ _ => (pe_ix ix_str (pv 1) (pe_call G_law_draw (hr.mono (by omega)) (by rfl) D_law_draw.g D_law_draw.fn.kp D_law_draw.b .nil pass0 (pa_cons (pv 0) (pa_cons pe_int pa_nil))) (fun _ _ => rfl)))))))))
      , ?_⟩
    rw [show L2.start N_law_label [V.ref d] = [some (.ref d), none, none] from rfl]
    refine w_seq ?_
    walk_at "x"
    refine w_draw D0 (by omega) (by decide) (by decide) fun r H1 hr1 D1 o1 => ?_
    walk_at "g"
    refine w_ite (fun h => ?_) (fun h => ?_)
    · walk_at "g"
      refine w_draw D1 (by omega) (by decide) (by decide) fun r2 H2 hr2 D2 o2 => ?_
      have hl : r2 < (Str.ofString "abcd").cps.toList.length := by
        have : (Str.ofString "abcd").cps.toList.length = 4 := by decide +kernel
        omega
      have ech : atI (Str.ofString "abcd").cps.toList (r2 : Int) = some (Str.ofString "abcd").cps.toList[r2] := atI_nat (List.getElem?_eq_getElem hl)
      walk_at "g"
      refine w_ixS (by decide +kernel) ech ?_
      walk_at "g"
      have k2 : Kp [d] H H2 := (o1.kp (by simp)).trans (o2.kp (by simp))
      refine q H2 _ (D2.mono (by omega)) k2 ((D0.kx D1 o1).trans (D1.kx D2 o2)).t ⟨Nat.le_refl 1, (show (1 : Nat) ≤ 8 by decide), fun ch hch => ?_⟩
      have hm : (Str.ofString "abcd").cps.toList[r2] ∈ (Str.ofString "abcd").cps.toList := List.getElem_mem hl
      have e : ch = (Str.ofString "abcd").cps.toList[r2] := by simpa using hch
      rw [← e] at hm
      have hsub : ∀ x ∈ (Str.ofString "abcd").cps.toList, x ∈ LTR.cps.toList := by decide +kernel
      exact hsub ch hm
    · walk_at "g"
      refine w_draw D1 (by omega) (by decide) (by decide) fun r2 H2 hr2 D2 o2 => ?_
      obtain ⟨⟨dx2, ed2⟩, _⟩ := D2.at
      walk_at "g"
      refine lcp_gen (walk_range (lo := 0) (n := (1 + (r2 : Int)).toNat)) [d] (fun i y _ => ∃ ch : Nat, y = .str ⟨#[ch]⟩ ∧ ch ∈ LTR.cps.toList) (fun i H' => Deck H' d c (n + 2 + i)) (by omega) (fun _ _ _ _ _ h => h) (fun D hD i H1' o z => z.mut (D2.ne1 hD).1 (D2.ne1 hD).2) (fun _ _ _ _ => trivial) D2 ?_ (by intro b hb; have e : b = d := (by simpa using hb); subst e; exact ⟨_, ed2⟩) ?_
      · rintro i x H3 H4 R hi k3 t3 D3 ⟨rfl, rfl⟩ hR
        refine w_name ⟨rfl, ?_⟩
        walk_at "g"
        refine w_draw D3 (by unfold MOSTD at *; omega) (by decide) (by decide) fun r4 H5 hr4 D5 o5 => ?_
        obtain ⟨⟨dx3, ed3⟩, _⟩ := D3.at
        have hl : r4 < LTR.cps.toList.length := by
          have : LTR.cps.toList.length = 26 := by decide +kernel
          omega
        have ech : atI LTR.cps.toList (r4 : Int) = some LTR.cps.toList[r4] := atI_nat (List.getElem?_eq_getElem hl)
        walk_at "g"
        refine w_ixS (by decide +kernel) ech ?_
        exact hR _ _ ⟨_, rfl, List.getElem_mem hl⟩ (o5.kp (by simp)) (KT.off o5 ed3) D5
      · intro L H3 ys hyl hyp hL k3 t3 D3 eL
        obtain ⟨zs, hzs, hzc⟩ := chs_of (S := LTR.cps.toList) (ys := ys) fun y hy => by
          obtain ⟨i, hi, e⟩ := List.getElem_of_mem hy
          exact hyp i y (by rw [List.getElem?_eq_getElem hi, e])
        have hzl : zs.length = (1 + (r2 : Int)).toNat := by rw [← hyl, hzs]; simp
        subst hzs
        walk_at "g"
        refine w_joinL (.of eL) ?_ ?_
        · rw [List.map_map, List.length_map]
          have := chs_sum zs
          show (zs.map fun ch => ((⟨#[ch]⟩ : Str)).length).sum + zs.length * 0 ≤ _
          omega
        · have ec := join_cps (zs.map fun ch => (⟨#[ch]⟩ : Str))
          rw [chs_flat] at ec
          have hlen : (Txt.join (Str.ofString "") (zs.map fun ch => (⟨#[ch]⟩ : Str))).length = zs.length := by
            show (Txt.join (Str.ofString "") (zs.map fun ch => (⟨#[ch]⟩ : Str))).cps.size = _
            rw [← Array.length_toList, ec]
          have k03 := ((o1.kp (M := [d]) (by simp)).trans ((o2.kp (by simp)).trans k3))
          refine q H3 _ (D3.mono (by omega)) k03 (D0.kxK D3 k03).t ⟨by omega, by omega, fun ch hch => ?_⟩
          rw [ec] at hch
          exact hzc ch hch
end
/-! ### contents as plain data -/
def Ct.data : Ct → PyData
  | .leaf rows => .tuple [.str "leaf", .tuple (rows.map .str)]
  | .tree es => .tuple [.str "tree", .tuple (es.map fun e => .tuple [.str e.1, .int (e.2 : Int)])]
  | .ver ps root stamp => .tuple [.str "version", .tuple (ps.map fun n : Nat => .int (n : Int)), .int (root : Int), .int (stamp : Int)]
def Ct.txts : Ct → Prop
  | .leaf rows => ∀ z ∈ rows, PyData.strOk z = true
  | .tree es => ∀ e ∈ es, PyData.strOk e.1 = true
  | .ver _ _ _ => True
theorem dp_txts {K : PySem.W.Frag} {H : Hp} : ∀ ls : List Str, DpAll K H (ls.map V.str) (ls.map .str)
  | [] => .nil
  | z :: r => .cons (.str z) (dp_txts r)
theorem dp_ents {K : PySem.W.Frag} {H : Hp} : ∀ qs : List (Addr × Str × Nat), (∀ q ∈ qs, H q.1 = some (.tup [.str q.2.1, nV q.2.2])) → DpAll K H (qs.map fun q => .ref q.1) ((qs.map (·.2)).map fun e => .tuple [.str e.1, .int (e.2 : Int)])
  | [], _ => .nil
  | q :: r, h => .cons (.tup (.of (h q (by simp))) (.cons (.str _) (.cons (.int _) .nil))) (dp_ents r fun z hz => h z (by simp [hz]))
theorem CtAt.dp {K : PySem.W.Frag} {H : Hp} {a : Addr} {c : Ct} (h : CtAt H a c) : Dp K H (.ref a) c.data := by
  cases c with
  | leaf rows =>
    obtain ⟨r, h1, h2⟩ := h
    exact .tup (.of h1) (.cons (.str _) (.cons (.tup (.of h2) (dp_txts rows)) .nil))
  | tree es =>
    obtain ⟨r, qs, h1, h2, rfl, h4⟩ := h
    exact .tup (.of h1) (.cons (.str _) (.cons (.tup (.of h2) (dp_ents qs h4)) .nil))
  | ver ps root stamp =>
    obtain ⟨r, h1, h2⟩ := h
    exact .tup (.of h1) (.cons (.str _) (.cons (.tup (.of h2) (dp_nats ps)) (.cons (.int _) (.cons (.int _) .nil))))
theorem txts_eqv : ∀ ls xs : List Str, PyData.eqvAll (ls.map .str) (xs.map .str) = true ↔ ls = xs
  | [], [] => by simp [PyData.eqvAll]
  | [], x :: xs => by simp [PyData.eqvAll]
  | z :: ls, [] => by simp [PyData.eqvAll]
  | z :: ls, x :: xs => by
    rw [List.map_cons, List.map_cons, PyData.eqvAll, PyData.eqv, Bool.and_eq_true_iff, txts_eqv ls xs, beq_iff_eq, List.cons.injEq]
theorem ents_eqv : ∀ ls xs : List (Str × Nat), PyData.eqvAll (ls.map fun e => .tuple [.str e.1, .int (e.2 : Int)]) (xs.map fun e => .tuple [.str e.1, .int (e.2 : Int)]) = true ↔ ls = xs
  | [], [] => by simp [PyData.eqvAll]
  | [], x :: xs => by simp [PyData.eqvAll]
  | z :: ls, [] => by simp [PyData.eqvAll]
  | (z, n) :: ls, (x, m) :: xs => by
    rw [List.map_cons, List.map_cons, PyData.eqvAll, PyData.eqv, Bool.and_eq_true_iff, ents_eqv ls xs, List.cons.injEq, Prod.mk.injEq]
    simp only [PyData.eqvAll, PyData.eqv, Bool.and_true, Bool.and_eq_true, beq_iff_eq]
    constructor
    · rintro ⟨⟨h1, h2⟩, h3⟩
      exact ⟨⟨h1, by omega⟩, h3⟩
    · rintro ⟨⟨h1, h2⟩, h3⟩
      exact ⟨⟨h1, by omega⟩, h3⟩
theorem Ct.eqv_iff (c d : Ct) : PyData.eqv c.data d.data = true ↔ c = d := by
  cases c with
  | leaf r =>
    cases d with
    | leaf r' => simp [Ct.data, PyData.eqv, PyData.eqvAll, txts_eqv]
    | tree e' => simp [Ct.data, PyData.eqv, PyData.eqvAll, lit_ne1]
    | ver a b c => simp [Ct.data, PyData.eqv, PyData.eqvAll]
  | tree e =>
    cases d with
    | leaf r' => simp [Ct.data, PyData.eqv, PyData.eqvAll, lit_ne4]
    | tree e' => simp [Ct.data, PyData.eqv, PyData.eqvAll, ents_eqv]
    | ver a b c => simp [Ct.data, PyData.eqv, PyData.eqvAll]
  | ver a b c =>
    cases d with
    | leaf r' => simp [Ct.data, PyData.eqv, PyData.eqvAll]
    | tree e' => simp [Ct.data, PyData.eqv, PyData.eqvAll]
    | ver a' b' c' =>
      simp only [Ct.data, PyData.eqv, PyData.eqvAll, nats_eqv, Bool.and_true, Bool.and_eq_true, beq_iff_eq, decide_eq_true_iff, Ct.ver.injEq, true_and, beq_self_eq_true]
      constructor
      · rintro ⟨h1, h2, h3⟩
        exact ⟨h1, by omega, by omega⟩
      · rintro ⟨h1, h2, h3⟩
        exact ⟨h1, by omega, by omega⟩
theorem lay_txts : ∀ {ls : List Str}, (∀ z ∈ ls, PyData.strOk z = true) → PyData.canLayAll0 (ls.map .str) = true ∧ PyData.depthAll (ls.map .str) = 0
  | [], _ => ⟨rfl, rfl⟩
  | z :: ls, h => by
    obtain ⟨h1, h2⟩ := lay_txts (ls := ls) fun x hx => h x (by simp [hx])
    have hz := h z (by simp)
    simp only [List.map_cons, PyData.canLayAll0, PyData.depthAll, PyData.canLay0, PyData.depth, h1, h2, hz]
    exact ⟨rfl, rfl⟩
theorem lay_ents : ∀ {es : List (Str × Nat)}, (∀ e ∈ es, PyData.strOk e.1 = true) → PyData.canLayAll0 (es.map fun e => .tuple [.str e.1, .int (e.2 : Int)]) = true ∧ PyData.depthAll (es.map fun e => .tuple [.str e.1, .int (e.2 : Int)]) ≤ 1
  | [], _ => ⟨rfl, by decide⟩
  | z :: ls, h => by
    obtain ⟨h1, h2⟩ := lay_ents (es := ls) fun x hx => h x (by simp [hx])
    have hz := h z (by simp)
    rw [List.map_cons, PyData.canLayAll0, PyData.depthAll, h1]
    simp only [PyData.canLay0, PyData.canLayAll0, PyData.depth, PyData.depthAll, hz]
    exact ⟨rfl, by omega⟩
theorem Ct.lay {c : Ct} (h : c.txts) : PyData.canLay0 c.data = true ∧ PyData.depth c.data ≤ 4 := by
  have w1 : PyData.strOk (Str.ofString "leaf") = true := by decide +kernel
  have w2 : PyData.strOk (Str.ofString "tree") = true := by decide +kernel
  have w3 : PyData.strOk (Str.ofString "version") = true := by decide +kernel
  cases c with
  | leaf rows =>
    obtain ⟨h1, h2⟩ := lay_txts h
    simp only [Ct.data, PyData.canLay0, PyData.canLayAll0, PyData.depth, PyData.depthAll, h1, h2, w1]
    exact ⟨rfl, by decide⟩
  | tree es =>
    obtain ⟨h1, h2⟩ := lay_ents h
    simp only [Ct.data, PyData.canLay0, PyData.canLayAll0, PyData.depth, PyData.depthAll, h1, w2]
    exact ⟨rfl, by omega⟩
  | ver ps r s =>
    obtain ⟨h1, h2⟩ := nats_lay ps
    simp only [Ct.data, PyData.canLay0, PyData.canLayAll0, PyData.depth, PyData.depthAll, h1, w3]
    exact ⟨rfl, by omega⟩
theorem Ct.shaped {c : Ct} (h : c.txts) : SeqAt.shaped c.data = true := by
  obtain ⟨h1, h2⟩ := Ct.lay h
  unfold SeqAt.shaped
  rw [Bool.and_eq_true_iff]
  exact ⟨h1, decide_eq_true (by omega)⟩
theorem cts_lay : ∀ {cs : List Ct}, (∀ c ∈ cs, c.txts) → PyData.canLayAll0 (cs.map Ct.data) = true ∧ PyData.depthAll (cs.map Ct.data) ≤ 4
  | [], _ => ⟨rfl, by decide⟩
  | c :: cs, h => by
    obtain ⟨h1, h2⟩ := cts_lay (cs := cs) fun x hx => h x (by simp [hx])
    obtain ⟨g1, g2⟩ := Ct.lay (h c (by simp))
    rw [List.map_cons, PyData.canLayAll0, PyData.depthAll, h1, g1]
    exact ⟨rfl, by omega⟩
theorem cts_shaped {cs : List Ct} (h : ∀ c ∈ cs, c.txts) : SeqAt.shaped (.list (cs.map Ct.data)) = true := by
  obtain ⟨h1, h2⟩ := cts_lay h
  unfold SeqAt.shaped
  rw [Bool.and_eq_true_iff]
  refine ⟨by rw [PyData.canLay0]; exact h1, decide_eq_true ?_⟩
  rw [PyData.depth]
  omega
/-- the law's own list of contents -/
structure ThAt (H : Hp) (th : Addr) (cs : List (Addr × Ct)) : Prop where
  at' : H th = some (.lst (cs.map fun q => .ref q.1))
  ct : ∀ q ∈ cs, CtAt H q.1 q.2
theorem ThAt.kp {M : List Addr} {H H' : Hp} {th : Addr} {cs : List (Addr × Ct)} (h : ThAt H th cs) (k : Kp M H H') (t : KT H H') (n : th ∉ M) : ThAt H' th cs := ⟨k _ _ n h.at', fun q hq => (h.ct q hq).kt t⟩
theorem ThAt.same {H H' : Hp} {th : Addr} {cs : List (Addr × Ct)} (h : ThAt H th cs) (k : Same H H') : ThAt H' th cs := h.kp (M := []) (Kp.of k) (KT.of k) (by simp)
theorem dp_cts {K : PySem.W.Frag} {H : Hp} : ∀ cs : List (Addr × Ct), (∀ q ∈ cs, CtAt H q.1 q.2) → DpAll K H (cs.map fun q => .ref q.1) ((cs.map (·.2)).map Ct.data)
  | [], _ => .nil
  | q :: r, h => .cons (h q (by simp)).dp (dp_cts r fun z hz => h z (by simp [hz]))
theorem ThAt.dp {K : PySem.W.Frag} {H : Hp} {th : Addr} {cs : List (Addr × Ct)} (h : ThAt H th cs) : Dp K H (.ref th) (.list ((cs.map (·.2)).map Ct.data)) := .lst (.of h.at') (dp_cts cs h.ct)
/-! ### dicts of names -/
def FAt (H : Hp) (f : Addr) (F : Nat → Prop) : Prop := ∃ (fk : List (Key × V)) (ks : List Int), H f = some (.dK fk) ∧ fk.map (·.1) = ks.map (Sum.inl : Int → Key) ∧ ks.Nodup ∧ (∀ k ∈ ks, 0 ≤ k ∧ k < 1000) ∧ ∀ n : Nat, (n : Int) ∈ ks ↔ F n
theorem FAt.kp {M : List Addr} {H H' : Hp} {f : Addr} {F : Nat → Prop} (h : FAt H f F) (k : Kp M H H') (n : f ∉ M) : FAt H' f F := by
  obtain ⟨fk, ks, h1, h2⟩ := h
  exact ⟨fk, ks, k _ _ n h1, h2⟩
theorem FAt.same {H H' : Hp} {f : Addr} {F : Nat → Prop} (h : FAt H f F) (k : Same H H') : FAt H' f F := h.kp (M := []) (Kp.of k) (by simp)
theorem FAt.iff {H : Hp} {f : Addr} {F G : Nat → Prop} (h : FAt H f F) (e : ∀ n, F n ↔ G n) : FAt H f G := by
  obtain ⟨fk, ks, h1, h2, h3, h4, h5⟩ := h
  exact ⟨fk, ks, h1, h2, h3, h4, fun n => (h5 n).trans (e n)⟩
theorem FAt.obj {H : Hp} {f : Addr} {F : Nat → Prop} (h : FAt H f F) : ∃ fk, H f = some (.dK fk) := by
  obtain ⟨fk, ks, h1, _⟩ := h
  exact ⟨fk, h1⟩
theorem few_keys {ks : List Int} (nd : ks.Nodup) (h : ∀ k ∈ ks, 0 ≤ k ∧ k < 1000) : ks.length ≤ 1000 := by
  have := nodup_le ks ((List.range 1000).map fun n : Nat => (n : Int)) nd fun k hk => by
    obtain ⟨h1, h2⟩ := h k hk
    exact List.mem_map.mpr ⟨k.toNat, List.mem_range.mpr (by omega), by omega⟩
  rwa [List.length_map, List.length_range] at this
theorem w_fput {H : Hp} {f : Addr} {F : Nat → Prop} {n : Nat} {v : V} {R : Hp → Prop} (h1 : FAt H f F) (hn : n < 1000) (h : ∀ H1, FAt H1 f (fun m => F m ∨ m = n) → Off f H H1 → R H1) : rDPut (.ref f) (nV n) v H R := by
  obtain ⟨fk, ks, e, hk, nd, hb, hm⟩ := h1
  have hfl : fk.length = ks.length := by rw [← List.length_map (f := (·.1)), hk, List.length_map]
  have := few_keys nd hb
  refine w_dputI e (by rw [hfl]; exact small1kl this) fun H1 e1 o1 => h H1 ⟨_, _, e1, putK_keys hk, nd_addK nd, fun k hk' => ?_, fun m => ?_⟩ o1
  · rcases mem_addK.mp hk' with h | h
    · exact hb k h
    · omega
  · rw [mem_addK, hm]
    constructor
    · rintro (h | h)
      · exact .inl h
      · exact .inr (by omega)
    · rintro (h | h)
      · exact .inl h
      · exact .inr (by omega)
theorem w_fin {H : Hp} {f : Addr} {F : Nat → Prop} {i : Int} {Q : VK} (h1 : FAt H f F) (hy : ∀ n : Nat, i = n → F n → Q (.bl true) H) (hn : (∀ n : Nat, i = n → ¬ F n) → Q (.bl false) H) : rDIn (.ref f) (.int i) H Q := by
  obtain ⟨fk, ks, e, hk, nd, hb, hm⟩ := h1
  refine w_dinI e ?_
  rw [val_keys hk]
  by_cases h : i ∈ ks
  · rw [decide_eq_true h]
    obtain ⟨g1, g2⟩ := hb i h
    have e1 : i = ((i.toNat : Nat) : Int) := by omega
    exact hy i.toNat e1 ((hm i.toNat).mp (by rw [← e1]; exact h))
  · rw [decide_eq_false h]
    exact hn fun n e hF => h (by rw [e]; exact (hm n).mpr hF)
theorem w_fin' {H : Hp} {f : Addr} {F : Nat → Prop} {n : Nat} {Q : VK} (h1 : FAt H f F) (hy : F n → Q (.bl true) H) (hn : ¬ F n → Q (.bl false) H) : rDIn (.ref f) (nV n) H Q :=
  w_fin h1 (fun m e h => hy (by rw [show n = m by omega]; exact h)) fun h => hn (h n rfl)
theorem w_fnin {H : Hp} {f : Addr} {F : Nat → Prop} {i : Int} {Q : VK} (h1 : FAt H f F) (hy : ∀ n : Nat, i = n → F n → Q (.bl false) H) (hn : (∀ n : Nat, i = n → ¬ F n) → Q (.bl true) H) : rDNotIn (.ref f) (.int i) H Q := by
  obtain ⟨fk, ks, e, hk, nd, hb, hm⟩ := h1
  refine w_dnotinI e ?_
  rw [val_keys hk]
  by_cases h : i ∈ ks
  · rw [decide_eq_true h]
    obtain ⟨g1, g2⟩ := hb i h
    have e1 : i = ((i.toNat : Nat) : Int) := by omega
    exact hy i.toNat e1 ((hm i.toNat).mp (by rw [← e1]; exact h))
  · rw [decide_eq_false h]
    exact hn fun n e hF => h (by rw [e]; exact (hm n).mpr hF)
theorem ints_nats : ∀ {zs : List Int}, (∀ z ∈ zs, 0 ≤ z) → ∃ hs : List Nat, zs = hs.map fun n : Nat => (n : Int)
  | [], _ => ⟨[], rfl⟩
  | z :: zs, h => by
    obtain ⟨hs, rfl⟩ := ints_nats (zs := zs) fun y hy => h y (by simp [hy])
    exact ⟨z.toNat :: hs, by rw [List.map_cons, show ((z.toNat : Nat) : Int) = z by have := h z (by simp); omega]⟩
theorem lt_of_le_nd : ∀ {zs : List Int}, zs.Pairwise (· ≤ ·) → zs.Nodup → zs.Pairwise (· < ·)
  | [], _, _ => .nil
  | z :: zs, h, nd => by
    rw [List.pairwise_cons] at h ⊢
    rw [List.nodup_cons] at nd
    exact ⟨fun y hy => by
      have := h.1 y hy
      have : z ≠ y := fun e => nd.1 (by rw [e]; exact hy)
      omega, lt_of_le_nd h.2 nd.2⟩
theorem w_fsort {H : Hp} {f : Addr} {F : Nat → Prop} {Q : VK} (h1 : FAt H f F) (h : ∀ (ns : List Nat) p H1, ns.Pairwise (· < ·) → (∀ n, n ∈ ns ↔ F n) → ns.length ≤ 1000 → H p = none → H1 p = some (.lst (ns.map nV)) → Same H H1 → Q (.ref p) H1) : rSortA [.ref f] H Q := by
  obtain ⟨fk, ks, e, hk, nd, hb, hm⟩ := h1
  have fw := few_keys nd hb
  refine w_sortA e hk (by omega) fun ys p H1 hp hle hnone e1 k1 => ?_
  obtain ⟨ns, rfl⟩ := ints_nats (zs := ys) fun z hz => (hb z (hp.mem_iff.mp hz)).1
  have hlt := lt_of_le_nd hle (hp.nodup_iff.mpr nd)
  refine h ns p H1 ?_ (fun n => ?_) ?_ hnone (by rw [e1, nV_map]) k1
  · rw [List.pairwise_map] at hlt
    exact hlt.imp fun {a b} h => by omega
  · rw [← int_mem, hp.mem_iff, hm]
  · have := hp.length_eq
    rw [List.length_map] at this
    omega
theorem KX.offN {d L : Addr} {H H1 H2 : Hp} (k : KX d H H1) (o : Off L H1 H2) (h : H L = none) : KX d H H2 where
  t := ⟨fun b xs e => o.get (ne_of_none e h) (k.t b xs e), fun b u xs e => o.get (ne_of_none e h) (k.t.f b u xs e)⟩
  l := fun b xs e => by
    obtain ⟨ys, e1⟩ := k.l b xs e
    exact ⟨ys, o.get (ne_of_none e h) e1⟩
  d := fun b xs e => by
    obtain ⟨ys, e1⟩ := k.d b xs e
    exact ⟨ys, o.get (ne_of_none e h) e1⟩
  p := fun b u hb e => o.get (ne_of_none e h) (k.p b u hb e)
def spGive : Sp := fun vs H Q _ => ∃ (th a : Addr) (cs : List (Addr × Ct)) (c : Ct), vs = [.ref th, .ref a] ∧ ThAt H th cs ∧ (cs.map (·.2)).Nodup ∧ CtAt H a c ∧ cs.length < 1000 ∧ (∀ q ∈ cs, q.2.txts) ∧ c.txts ∧
  (∀ j b, cs[j]? = some (b, c) → Q (nV j) H) ∧ ((∀ q ∈ cs, q.2 ≠ c) → ∀ H', ThAt H' th (cs ++ [(a, c)]) → Off th H H' → Q (nV cs.length) H')
def spSome : Sp := fun vs H Q _ => ∃ (d c l : Addr) (n m : Nat) (names : List Nat), vs = [.ref d, .ref l, nV m] ∧ Deck H d c n ∧ n + m ≤ MOSTD ∧ H l = some (.lst (names.map nV)) ∧ l ≠ d ∧ l ≠ c ∧ names.length ≤ 1000 ∧ m ≤ 1000 ∧
  ∀ (H' : Hp) (t : Addr) (ns : List Nat), Deck H' d c (n + m) → KX d H H' → H' t = some (.tup (ns.map nV)) → ns.Pairwise (· < ·) → ns.length ≤ m → (∀ x ∈ ns, x ∈ names) → Q (.ref t) H'
def dsOf (cs : List Ct) : List Nat := cs.foldl (fun ds c => ds ++ [depOf ds c]) []
theorem dsOf_snoc (cs : List Ct) (c : Ct) : dsOf (cs ++ [c]) = dsOf cs ++ [depOf (dsOf cs) c] := by
  unfold dsOf
  rw [List.foldl_append]
  rfl
/-- every content is good behind those ahead of it -/
def ScnOk (cs : List Ct) : Prop := ∀ i c, cs[i]? = some c → CtOk (cs.take i) (dsOf (cs.take i)) c
def spLBook (P : Program) (w : World) (C : Addr) : Sp := fun vs H Q _ => ∃ (th : Addr) (cs : List (Addr × Ct)), vs = [.ref th] ∧ ThAt H th cs ∧ ScnOk (cs.map (·.2)) ∧ (cs.map (·.2)).Nodup ∧ cs.length ≤ 400 ∧
  ∀ H' p dx lc ld lg ds, H p = none → H lc = none → H ld = none → H lg = none → BookAt P w C H' p dx lc ld lg cs ds → Same H H' → Q (.ref p) H'
def spLHere : Sp := fun vs H Q _ => ∃ (l : Addr) (hs : List Nat), vs = [.ref l] ∧ H l = some (.lst (hs.map nV)) ∧ (∀ n ∈ hs, n < 1000) ∧ ∀ H' f, H f = none → Same H H' → FAt H' f (fun n => n ∈ hs) → Q (.ref f) H'
def spLParents : Sp := fun vs H Q _ => ∃ (th f : Addr) (cs : List (Addr × Ct)) (hs : List Nat) (n : Nat), vs = [.ref th, .ref f, nV n] ∧ ThAt H th cs ∧ FAt H f (fun n => n ∈ hs) ∧ isV cs n ∧ (pars cs n).length ≤ 1000 ∧ ∀ H' l, Same H H' → H l = none → H' l = some (.lst ((hpar cs hs n).map nV)) → Q (.ref l) H'
def spLVersions : Sp := fun vs H Q _ => ∃ (th f : Addr) (cs : List (Addr × Ct)) (hs : List Nat), vs = [.ref th, .ref f] ∧ ThAt H th cs ∧ FAt H f (fun n => n ∈ hs) ∧ (∀ n ∈ hs, n < cs.length) ∧ hs.length ≤ 1000 ∧
  ∀ (H' : Hp) (l : Addr) (vsn : List Nat), Same H H' → H l = none → H' l = some (.lst (vsn.map nV)) → vsn.Pairwise (· < ·) → (∀ n, n ∈ vsn ↔ n ∈ hs ∧ isV cs n) → vsn.length ≤ 1000 → Q (.ref l) H'
def spLBrims : Sp := fun vs H Q _ => ∃ (th f r : Addr) (cs : List (Addr × Ct)) (hs ns : List Nat), vs = [.ref th, .ref f, .ref r] ∧ ThAt H th cs ∧ FAt H f (fun n => n ∈ hs) ∧ H r = some (.lst (ns.map nV)) ∧ ns.length ≤ 1000 ∧ (∀ n ∈ ns, isV cs n) ∧ (∀ n, (pars cs n).length ≤ 1000) ∧ ∀ H' t, Same H H' → H t = none → H' t = some (.tup ((edgs cs hs ns).map nV)) → Q (.ref t) H'
theorem nodup_at {α : Type} {l : List α} (nd : l.Nodup) {i j : Nat} {hi : i < l.length} {hj : j < l.length} (h : l[i] = l[j]) : i = j := by
  refine Classical.byContradiction fun hne => ?_
  rcases Nat.lt_or_gt_of_ne hne with g | g
  · exact List.pairwise_iff_getElem.mp nd i j hi hj g h
  · exact List.pairwise_iff_getElem.mp nd j i hj hi g h.symm
theorem word_isV {cs : List (Addr × Ct)} {n : Nat} {q : Addr × Ct} (h : cs[n]? = some q) : q.2.word = "version" ↔ isV cs n := by
  obtain ⟨a, c⟩ := q
  constructor
  · intro hw
    cases c with
    | leaf _ => exact absurd hw lit_ne2
    | tree _ => exact absurd hw lit_ne3
    | ver ps r s => exact ⟨a, ps, r, s, h⟩
  · rintro ⟨a', ps, r, s, e⟩
    rw [h] at e
    cases e
    rfl
section
variable {P : Program} {w : World} {K : PySem.W.Frag} {mg : Str → Option Value} {base : Heap} {C : Addr}
theorem ok_give {f : Addr} {fd : FuncData} (T : Txt K mg) (F : Fun K "_law_give" "_law_give" s_law_give f fd) : FnOk P w K mg base CX0 1 f fd ["_law_things", "_law_content"] spGive := by
  refine F.ok sc_law_give (fun vs H Q E h => ?_) (fun cdv A outer s H vs Q E hr h => ?_)
  · obtain ⟨th, a, cs, c, rfl, _⟩ := h
    rfl
  · obtain ⟨th, a, cs, c, rfl, ht, nd, hc, hl, ho, hco, q1, q2⟩ := h
    have hth := ht.at'
    have hlay : ∀ d ∈ cs.map (·.2), d.txts := fun d hd => by
      obtain ⟨q, hq, rfl⟩ := List.mem_map.mp hd
      exact ho q hq
    refine ⟨_,
      (pss_cons
        (ps_if (pt_cmpR (r := rInD K) (op_inD (Nat.lt_of_le_of_lt (Nat.add_le_add_left (show 65 ≤ 100 by decide) _) (room100 hr))) (pv 1) (pv 0) rfl)
          (pss_one
            (ps_ret (pe_bm PySem.F.plainAttrs_list PySem.F.slot_list_index PySem.F.type_list_index (mt_indexD (Nat.lt_of_le_of_lt (Nat.add_le_add_left (show 65 ≤ 100 by decide) _) (room100 hr))) (pv 0) (pa_cons (pv 1) pa_nil))))
          pss_nil)
      (pss_cons
        (ps_expr (pe_bm PySem.F.plainAttrs_list PySem.F.slot_list_append PySem.F.type_list_append mt_append (pv 0) (pa_cons (pv 1) pa_nil)))
      (pss_one
        (ps_ret (pe_op op_sub (pe_callB (r := rLen K) c_len (by rfl) T.n_len (by decide +kernel) (pa_cons (pv 0) pa_nil)) pe_int)))))
      , ?_⟩
    rw [show L2.start N_law_give [V.ref th, V.ref a] = [some (.ref th), some (.ref a)] from rfl]
    refine w_seq ?_
    walk_at "x"
    refine ⟨c.data, _, hc.dp, ht.dp, Ct.shaped hco, cts_shaped hlay, ?_⟩
    walk_at "g"
    by_cases hin : ∀ q ∈ cs, q.2 ≠ c
    · have e : ((cs.map (·.2)).map Ct.data).any (fun z => PyData.eqv z c.data) = false := by
        rw [Bool.eq_false_iff]
        intro h
        rw [List.any_eq_true] at h
        obtain ⟨z, hz, e⟩ := h
        obtain ⟨d, hd, rfl⟩ := List.mem_map.mp hz
        obtain ⟨q, hq, rfl⟩ := List.mem_map.mp hd
        exact hin q hq ((Ct.eqv_iff _ _).mp e)
      rw [e]
      walk_at "g"
      refine w_app ht.at' (by rw [List.length_map]; exact small1kl (by omega)) fun H1 e1 o1 => ?_
      walk_at "g"
      rw [show (((cs.map fun q => V.ref q.1) ++ [V.ref a]).length : Int) - 1 = (cs.length : Int) by rw [List.length_append, List.length_map]; simp]
      refine q2 hin H1 ⟨by rw [e1, List.map_append]; rfl, fun q hq => ?_⟩ o1
      have t1 : KT H H1 := KT.off o1 ht.at'
      rcases List.mem_append.mp hq with h | h
      · exact (ht.ct q h).kt t1
      · have e : q = (a, c) := by simpa using h
        subst e
        exact hc.kt t1
    · obtain ⟨z, hz, ez⟩ : ∃ q ∈ cs, q.2 = c := by
        refine Classical.byContradiction fun h => hin fun q hq e => h ⟨q, hq, e⟩
      obtain ⟨j, hj, ej⟩ := List.getElem_of_mem hz
      have hj' : cs[j]? = some (z.1, c) := by rw [List.getElem?_eq_getElem hj, ej, ← ez]
      have e : ((cs.map (·.2)).map Ct.data).any (fun z => PyData.eqv z c.data) = true := by
        rw [List.any_eq_true]
        exact ⟨c.data, List.mem_map.mpr ⟨c, List.mem_map.mpr ⟨z, hz, ez⟩, rfl⟩, (Ct.eqv_iff _ _).mpr rfl⟩
      rw [e]
      walk_at "g"
      refine ⟨th, .ref a, c.data, _, j, c.data, rfl, rfl, ht.dp, hc.dp, cts_shaped hlay, Ct.shaped hco, by rw [List.getElem?_map, List.getElem?_map, hj']; rfl, (Ct.eqv_iff _ _).mpr rfl, fun m z' hm hz' => ?_, ?_⟩
      · rw [List.getElem?_map, List.getElem?_map] at hz'
        have hmj : m < cs.length := by omega
        rw [List.getElem?_eq_getElem hmj] at hz'
        have e2 : (cs[m]).2.data = z' := Option.some.inj hz'
        rw [← e2, Bool.eq_false_iff]
        intro h
        have e3 := (Ct.eqv_iff _ _).mp h
        have e4 : cs[j] = (z.1, c) := by
          have := List.getElem?_eq_getElem hj
          rw [hj'] at this
          exact (Option.some.inj this).symm
        have h1 : (cs.map (·.2))[m]'(by rw [List.length_map]; omega) = (cs.map (·.2))[j]'(by rw [List.length_map]; omega) := by
          rw [List.getElem_map, List.getElem_map, e3, e4]
        have := nodup_at nd h1
        omega
      · walk_at "g"
        exact q1 j z.1 hj'
theorem ok_some {f fM fD : Addr} {fd fdM fdD : FuncData} (T : Txt K mg) (F : Fun K "_law_some" "_law_some" s_law_some f fd) (D_law_mixed : Df K mg "_law_mixed" s_law_mixed ["_law_cell", "_law_turn"] fM fdM)
    (D_law_draw : Df K mg "_law_draw" s_law_draw ["_law_deck_here", "_law_many"] fD fdD) : FnOk P w K mg base CX0 3 f fd ["_law_deck_here", "_law_names", "_law_count"] spSome := by
  have G_law_draw : FnOk P w K mg base CX0 2 fD fdD ["_law_deck_here", "_law_many"] spDraw := ok_draw T D_law_draw.fn D_law_mixed
  refine F.ok sc_law_some (fun vs H Q E h => ?_) (fun cdv A outer s H vs Q E hr h => ?_)
  · obtain ⟨d, c, l, n, m, names, rfl, _⟩ := h
    rfl
  · obtain ⟨d, c, l, n, m, names, rfl, D0, hn, hl, ld, lc, hnl, hm, q⟩ := h
    refine ⟨_,
      (pss_cons
        (ps_set (i := 3) sc_law_some.nd rfl (.inl rfl) (pe_lst pa_nil))
      (pss_cons
        (ps_for PassesOwn.never rfl (pi_range1 (by rfl) T.n_range (pa_cons (pe_callB (c_min2 rfl) (by rfl) T.n_min (by decide +kernel) (pa_cons (pv 2) (pa_cons (pe_callB (r := rLen K) c_len (by rfl) T.n_len (by decide +kernel) (pa_cons (pv 1) pa_nil)) pa_nil))) pa_nil)) (pg_name (i := 4) sc_law_some.nd rfl (.inl rfl))
          (pss_one
            (ps_expr (pe_bm PySem.F.plainAttrs_list PySem.F.slot_list_append PySem.F.type_list_append mt_append (pv 3) (pa_cons (pe_ix (r := rIxL K) ix_list (pv 1) (pe_call G_law_draw (hr.mono (by omega)) (by rfl) D_law_draw.g D_law_draw.fn.kp D_law_draw.b .nil pass0 (pa_cons (pv 0) (pa_cons (pe_callB (r := rLen K) c_len (by rfl) T.n_len (by decide +kernel) (pa_cons (pv 1) pa_nil)) pa_nil))) (fun _ _ => rfl)) pa_nil)))))
      (pss_one
        (ps_ret (pe_callTy (r := rTupOf K) c_tupOf (by rfl) T.n_tuple (by decide +kernel) (pa_cons (pe_callB (r := rSortS w) (c_sortS rfl) (by rfl) T.n_sorted (by decide +kernel) (pa_cons (pe_callTy (r := rSetL K w) (c_setL rfl) (by rfl) T.n_set (by decide +kernel) (pa_cons (pv 3) pa_nil)) pa_nil)) pa_nil))))))
      , ?_⟩
    rw [show L2.start N_law_some [V.ref d, V.ref l, nV m] = [some (.ref d), some (.ref l), some (.int (m : Int)), none, none] from rfl]
    walk_at "x"
    refine w_new fun L H1 hL e1 k1 => ?_
    have D1 : Deck H1 d c n := D0.kp (M := []) (Kp.of k1) (by simp) (by simp)
    have hl1 := k1 _ _ hl
    obtain ⟨Ld, Lc⟩ := D0.ne1 hL
    have Ll : l ≠ L := ne_of_none hl hL
    walk_at "g"
    try refine w_rng1' (by simp only [List.length_map]; omega) (by simp only [List.length_map]; omega) ?_
    refine lp_range (fun i σ H' => ∃ (y : Option V) (dr : List Nat), σ = [some (.ref d), some (.ref l), some (.int (m : Int)), some (.ref L), y] ∧ Deck H' d c (n + i) ∧ KX d H H' ∧ H' L = some (.lst (dr.map nV)) ∧ dr.length = i ∧ ∀ x ∈ dr, x ∈ names) ⟨_, [], rfl, D1, KX.of k1, e1, rfl, by simp⟩ ?_ ?_
    · rintro i σ H2 hi ⟨y, dr, rfl, D2, k2, e2, hdl, hdr⟩
      have hi2 : i < m ∧ 0 < names.length := by
        simp only [List.length_map] at hi
        omega
      have hl2 := k2.p _ _ (by simpa using ld) hl
      walk_at "g"
      refine w_draw D2 (by omega) (by rw [List.length_map]; omega) (by rw [List.length_map]; omega) fun r H3 hr3 D3 o3 => ?_
      have hr4 : r < names.length := by rw [List.length_map] at hr3; omega
      have e3 := o3.get Ld e2
      have hl3 := o3.get ld hl2
      have at1 : atI (names.map nV) (r : Int) = some (.int ((names[r] : Nat) : Int)) := atI_nat (nV_at hr4)
      walk_at "g"
      refine w_app e3 (by rw [List.length_map]; exact small1kl (by omega)) fun H4 e4 o4 => ?_
      walk_at "g"
      refine ⟨_, dr ++ [names[r]], rfl, (D3.kp (M := [L]) (o4.kp (by simp)) (by simpa using Ld.symm) (by simpa using Lc.symm)).mono (by omega), (k2.trans (D2.kx D3 o3)).offN o4 hL, by rw [e4, List.map_append]; rfl, by rw [List.length_append, hdl]; rfl, fun x hx => ?_⟩
      rcases List.mem_append.mp hx with h | h
      · exact hdr x h
      · have : x = names[r] := by simpa using h
        rw [this]
        exact List.getElem_mem hr4
    · rintro σ H2 ⟨y, dr, rfl, D2, k2, e2, hdl, hdr⟩
      have hlm : dr.length ≤ m := by
        simp only [List.length_map] at hdl
        omega
      have e2' : H2 L = some (.lst ((dr.map fun n : Nat => (n : Int)).map V.int)) := by rw [e2, nV_map]
      walk_at "g"
      refine w_setOf (.of e2') (by rw [List.length_map]; omega) fun st c3 H3 hst hc e3 k3 => ?_
      walk_at "g"
      refine w_sortS e3 (by rw [List.length_map] at hc; omega) fun ys rw' H4 hup hmem hrw e4 k4 => ?_
      obtain ⟨ns, rfl⟩ := ints_nats (zs := ys) fun z hz => by
        have := of_decide_eq_true ((hmem z).mp hz)
        obtain ⟨n, _, rfl⟩ := List.mem_map.mp this
        omega
      have hmem2 : ∀ x ∈ ns, x ∈ dr := fun x hx => int_mem.mp (of_decide_eq_true ((hmem x).mp (int_mem.mpr hx)))
      have hup2 : ns.Pairwise (· < ·) := by
        rw [List.pairwise_map] at hup
        exact hup.imp fun {a b} h => by omega
      have hlen := nodup_le (ns.map fun n : Nat => (n : Int)) (dr.map fun n : Nat => (n : Int)) (hup.imp fun {a b} h => Int.ne_of_lt h) fun x hx => of_decide_eq_true ((hmem x).mp hx)
      rw [List.length_map, List.length_map] at hlen
      walk_at "g"
      refine w_tupL (.of e4) fun t H5 ht e5 k5 => ?_
      have k25 := Same.trans k3 (Same.trans k4 k5)
      refine q H5 t ns ((D2.kp (M := []) (Kp.of k25) (by simp) (by simp)).mono ?_) (k2.trans (KX.of k25)) (by rw [e5, nV_map]) hup2 (by omega) fun x hx => hdr x (hmem2 x hx)
      simp only [List.length_map] at hdl ⊢
      omega
theorem ok_lbook {f fI fN : Addr} {fd fdI fdN : FuncData} (T : Txt K mg) (F : Fun K "_law_book" "_law_book" s_law_book f fd) (K_Book : Kl K mg "Book" C ["contents", "depths", "given"]) (M_Book : Mk K C fI)
    (D_Book___init__ : DfM K C "__init__" "Book.__init__" s_Book___init__ ["self"] fI fdI) (D_Book_named : DfM K C "named" "Book.named" s_Book_named ["self", "content"] fN fdN) (G_Book_named : FnOk P w K mg base CX0 6 fN fdN ["self", "content"] (spNamed P w C)) : FnOk P w K mg base CX0 7 f fd ["_law_things"] (spLBook P w C) := by
  have G_Book___init__ : FnOk P w K mg base CX0 1 fI fdI ["self"] (spBookInit P w C) := ok_bookinit T D_Book___init__.fn K_Book
  refine F.ok sc_law_book (fun vs H Q E h => ?_) (fun cdv A outer s H vs Q E hr h => ?_)
  · obtain ⟨th, cs, rfl, _⟩ := h
    rfl
  · obtain ⟨th, cs, rfl, ht, hok, nd, hlen, q⟩ := h
    refine ⟨_,
      (pss_cons
        (ps_set (i := 1) sc_law_book.nd rfl (.inl rfl) (pe_make0 M_Book G_Book___init__ (hr.mono (by omega)) (by rfl) K_Book.g D_Book___init__.b .nil pass0))
      (pss_cons
        (ps_for PassesOwn.never rfl (pi_list (pv 0)) (pg_name (i := 2) sc_law_book.nd rfl (.inl rfl))
          (pss_one
            (ps_expr (pe_meth (pv 1) K_Book.cl D_Book_named.m G_Book_named (hr.mono (by omega)) D_Book_named.b .nil pass0 (pa_cons (pv 2) pa_nil)))))
      (pss_one
        (ps_ret (pv 1)))))
      , ?_⟩
    rw [show L2.start N_law_book [V.ref th] = [some (.ref th), none, none] from rfl]
    walk_at "x"
    refine w_make' fun p dx H1 hp hdx hne e1 k1 => ?_
    refine ⟨p, dx, rfl, e1, fun lc ld lg H2 hlc hld hlg B2 k2 => ⟨rfl, ?_⟩⟩
    have hlc0 := k1.free hlc
    have hld0 := k1.free hld
    have hlg0 := k1.free hlg
    have s2 : Same H H2 := fun b o e => k2 _ _ (by simpa using ne_of_none e hp) (k1 _ _ e)
    walk_at "g"
    refine w_itL' (.of (s2 _ _ ht.at')) ?_
    refine lp_list (xs := cs.map fun q => V.ref q.1) (fun i σ H' => (∃ y : Option V, σ = [some (.ref th), some (.ref p), y]) ∧ Same H H' ∧ BookAt P w C H' p dx lc ld lg (cs.take i) (dsOf ((cs.take i).map (·.2)))) ⟨⟨_, rfl⟩, s2, B2⟩ (fun i σ H' _ h => .of (h.2.1 _ _ ht.at')) ?_ ?_
    · rintro i x σ H3 hx ⟨⟨y, rfl⟩, s3, B3⟩
      obtain ⟨qc, hq, rfl⟩ := map_at hx
      have hi := (List.getElem?_eq_some_iff.mp hq).1
      have ob3 := B3.ob
      have etake : cs.take (i + 1) = cs.take i ++ [qc] := by rw [List.take_add_one, hq]; rfl
      have hlt : (cs.take i).length < 400 := by rw [List.length_take]; omega
      walk_at "g"
      refine ⟨p, dx, lc, ld, lg, qc.1, cs.take i, _, qc.2, rfl, B3, (ht.ct qc (List.mem_of_getElem? hq)).kt (KT.of s3), ?_, hlt, fun j b H4 hj k4 => ?_, fun hn H4 B4 k4 t4 => ?_⟩
      · have := hok i qc.2 (by rw [List.getElem?_map, hq]; rfl)
        rwa [← List.map_take] at this
      · exfalso
        have hj1 := (List.getElem?_eq_some_iff.mp hj).1
        rw [List.length_take] at hj1
        have hj2 : cs[j]? = some (b, qc.2) := by
          rw [List.getElem?_take] at hj
          rwa [if_pos (by omega)] at hj
        have h1 : (cs.map (·.2))[j]? = some qc.2 := by rw [List.getElem?_map, hj2]; rfl
        have h2 : (cs.map (·.2))[i]? = some qc.2 := by rw [List.getElem?_map, hq]; rfl
        obtain ⟨g1, g1'⟩ := List.getElem?_eq_some_iff.mp h1
        obtain ⟨g2, g2'⟩ := List.getElem?_eq_some_iff.mp h2
        have := nodup_at nd (g1'.trans g2'.symm)
        omega
      · walk_at "g"
        refine ⟨⟨_, rfl⟩, fun b o e => k4 _ _ ?_ (s3 _ _ e), ?_⟩
        · simp only [List.mem_cons, List.not_mem_nil, or_false, not_or]
          exact ⟨ne_of_none e hlc0, ne_of_none e hld0, ne_of_none e hlg0⟩
        · rw [etake, List.map_append, List.map_cons, List.map_nil, dsOf_snoc]
          exact B4
    · rintro σ H3 ⟨⟨y, rfl⟩, s3, B3⟩
      rw [List.length_map, List.take_length] at B3
      walk_at "g"
      exact q H3 p dx lc ld lg _ hp hlc0 hld0 hlg0 B3 s3
theorem ok_lhere {f : Addr} {fd : FuncData} (T : Txt K mg) (F : Fun K "_law_here" "_law_here" s_law_here f fd) : FnOk P w K mg base CX0 1 f fd ["_law_names"] spLHere := by
  refine F.ok sc_law_here (fun vs H Q E h => ?_) (fun cdv A outer s H vs Q E hr h => ?_)
  · obtain ⟨l, hs, rfl, _⟩ := h
    rfl
  · obtain ⟨l, hs, rfl, hl, hb, q⟩ := h
    have hu := hu_of hr
    refine ⟨_,
      (pss_cons
        (ps_set (i := 1) sc_law_here.nd rfl (.inl rfl) pe_dnewK)
      (pss_cons
        (ps_for PassesOwn.never rfl (pi_list (pv 0)) (pg_name (i := 2) sc_law_here.nd rfl (.inl rfl))
          (pss_one
            (ps_dput hu (pv 1) (pv 2) pe_bl rfl)))
      (pss_one
        (ps_ret (pv 1)))))
      , ?_⟩
    rw [show L2.start N_law_here [V.ref l] = [some (.ref l), none, none] from rfl]
    walk_at "x"
    refine w_new fun f H1 hf e1 k1 => ?_
    have F1 : FAt H1 f (fun n => n ∈ hs.take 0) := ⟨[], [], e1, rfl, .nil, by simp, by simp⟩
    walk_at "g"
    refine w_itL' (.of (k1 _ _ hl)) ?_
    refine lp_list (xs := hs.map nV) (fun i σ H' => (∃ y : Option V, σ = [some (.ref l), some (.ref f), y]) ∧ Kp [f] H1 H' ∧ FAt H' f (fun n => n ∈ hs.take i)) ⟨⟨_, rfl⟩, Kp.refl, F1⟩ (fun i σ H' _ h => .of (h.2.1 _ _ (by simpa using ne_of_none hl hf) (k1 _ _ hl))) ?_ ?_
    · rintro i x σ H2 hx ⟨⟨y, rfl⟩, k2, F2⟩
      obtain ⟨n, hn, rfl⟩ := map_at hx
      walk_at "g"
      refine w_fput F2 (hb n (List.mem_of_getElem? hn)) fun H3 F3 o3 => ?_
      walk_at "g"
      refine ⟨⟨_, rfl⟩, k2.trans (o3.kp (by simp)), F3.iff fun m => ?_⟩
      rw [List.take_add_one, hn]
      simp
    · rintro σ H2 ⟨⟨y, rfl⟩, k2, F2⟩
      walk_at "g"
      rw [List.length_map, List.take_length] at F2
      exact q H2 f hf (fun b o e => k2 _ _ (by simpa using ne_of_none e hf) (k1 _ _ e)) F2
theorem ok_lparents {f : Addr} {fd : FuncData} (T : Txt K mg) (F : Fun K "_law_parents" "_law_parents" s_law_parents f fd) : FnOk P w K mg base CX0 1 f fd ["_law_things", "_law_here_here", "_law_version"] spLParents := by
  refine F.ok sc_law_parents (fun vs H Q E h => ?_) (fun cdv A outer s H vs Q E hr h => ?_)
  · obtain ⟨th, f, cs, hs, n, rfl, _⟩ := h
    rfl
  · obtain ⟨th, f, cs, hs, n, rfl, ht, hf, iv, hpl, q⟩ := h
    have hu := hu_of hr
    have hth := ht.at'
    obtain ⟨a, r, sst, hcs⟩ := iv.at
    obtain ⟨r', h1, h2⟩ := ht.ct _ (List.mem_of_getElem? hcs)
    have at1 : atI (cs.map fun q => V.ref q.1) (n : Int) = some (.ref a) := atI_nat (by rw [List.getElem?_map, hcs]; rfl)
    refine ⟨_,
      (pss_one
        (ps_ret (pe_lc (own := [("_law_name", 3)]) (g := (gName 3)) rfl sc_law_parents.nd (pi_tup (pe_ix (r := rIxT K) ix_tup (pe_ix (r := rIxL K) ix_list (pv 0) (pv 2) (fun _ _ => rfl)) pe_int (fun _ _ => rfl))) (blkOk_by (own := [("_law_name", 3)]) (N := N_law_parents) (sc := defScope s_law_parents) (by decide +kernel)) (fun _ _ _ _ _ => (pg_name (i := 3) sc_law_parents.nd rfl (.inl rfl))) (fun _ _ _ _ _ => (pts_one (pt_cmp (pc_din hu (pv 3) (pv 1))))) (fun _ _ _ _ _ => (pv 3)))))
      , ?_⟩
    rw [show L2.start N_law_parents [V.ref th, V.ref f, nV n] = [some (.ref th), some (.ref f), some (.int (n : Int)), none] from rfl]
    walk_at "x"
    refine lcp_sel (walk_tup (K := K) (a := r') (xs := (pars cs n).map nV)) [] (natSel (fun p => decide (p ∈ hs)) (pars cs n)) (by rw [List.length_map]; omega) (fun H' k => .of (k _ _ (by simp) h2)) ?_ (by simp) ?_
    · rintro i x H3 H4 R R0 hi k3 ⟨rfl, hx⟩ hR hR0
      obtain ⟨m, hm, rfl⟩ := map_at hx
      have hf3 := hf.same k3.same
      refine w_name ⟨rfl, ?_⟩
      walk_at "g"
      refine w_fin' hf3 (fun hin => ?_) fun hn => ?_
      · walk_at "g"
        exact hR _ _ (by unfold natSel; rw [hm]; show (if decide (m ∈ hs) = true then _ else _) = _; rw [if_pos (decide_eq_true hin)]) Kp.refl
      · walk_at "g"
        exact hR0 _ (by unfold natSel; rw [hm]; show (if decide (m ∈ hs) = true then _ else _) = _; rw [if_neg (by simpa using hn)]) Kp.refl
    · intro L H3 hL k3 eL
      walk_at "g"
      rw [List.length_map, natSel_all] at eL
      exact q _ _ k3.same hL eL
theorem ok_lversions {f : Addr} {fd : FuncData} (T : Txt K mg) (F : Fun K "_law_versions" "_law_versions" s_law_versions f fd) : FnOk P w K mg base CX0 1 f fd ["_law_things", "_law_here_here"] spLVersions := by
  refine F.ok sc_law_versions (fun vs H Q E h => ?_) (fun cdv A outer s H vs Q E hr h => ?_)
  · obtain ⟨th, f, cs, hs, rfl, _⟩ := h
    rfl
  · obtain ⟨th, f, cs, hs, rfl, ht, hf, hin, hl, q⟩ := h
    refine ⟨_,
      (pss_one
        (ps_ret (pe_lc (own := [("_law_name", 2)]) (g := (gName 2)) rfl sc_law_versions.nd (pi_list (pe_callB (c_sortA rfl) (by rfl) T.n_sorted (by decide +kernel) (pa_cons (pv 1) pa_nil))) (blkOk_by (own := [("_law_name", 2)]) (N := N_law_versions) (sc := defScope s_law_versions) (by decide +kernel)) (fun _ _ _ _ _ => (pg_name (i := 2) sc_law_versions.nd rfl (.inl rfl))) (fun _ _ _ _ _ => (pts_one (pt_cmpR op_eq (pe_ix (r := rIxT K) ix_tup (pe_ix (r := rIxL K) ix_list (pv 0) (pv 2) (fun _ _ => rfl)) pe_int (fun _ _ => rfl)) pe_str (nomark _)))) (fun _ _ _ _ _ => (pv 2)))))
      , ?_⟩
    rw [show L2.start N_law_versions [V.ref th, V.ref f] = [some (.ref th), some (.ref f), none] from rfl]
    walk_at "x"
    refine w_fsort hf fun ns p H1 hup hmem hnl hp e1 k1 => ?_
    have hth := k1 _ _ ht.at'
    walk_at "g"
    refine lcp_sel (walk_list (K := K) (a := p) (xs := ns.map nV)) [] (natSel (fun n => decide ((cs.getD n (0, .leaf [])).2.word = "version")) ns) (by rw [List.length_map]; omega) (fun H' k => .of (k _ _ (by simp) e1)) ?_ (by simp) ?_
    · rintro i x H3 H4 R R0 hi k3 ⟨rfl, hx⟩ hR hR0
      obtain ⟨m, hm, rfl⟩ := map_at hx
      have hlt := hin m ((hmem m).mp (List.mem_of_getElem? hm))
      have hth3 := k3.same _ _ hth
      have at1 : atI (cs.map fun q => V.ref q.1) (m : Int) = some (.ref (cs[m]).1) := atI_nat (by rw [List.getElem?_map, List.getElem?_eq_getElem hlt]; rfl)
      obtain ⟨xs, hh⟩ := ((ht.ct _ (List.getElem_mem hlt)).kt (KT.of (Same.trans k1 k3.same))).head
      have at0 : atI (V.str (cs[m]).2.word :: xs) 0 = some (.str (cs[m]).2.word) := atI_nat (j := 0) rfl
      have eg : cs.getD m (0, .leaf []) = cs[m] := by rw [List.getD_eq_getElem?_getD, List.getElem?_eq_getElem hlt]; rfl
      refine w_name ⟨rfl, ?_⟩
      walk_at "g"
      by_cases hw : (cs[m]).2.word = "version"
      · rw [decide_eq_true hw]
        walk_at "g"
        exact hR _ _ (by unfold natSel; rw [hm]; show (if decide _ = true then _ else _) = _; rw [if_pos (decide_eq_true (by rw [eg]; exact hw))]) Kp.refl
      · rw [decide_eq_false hw]
        walk_at "g"
        exact hR0 _ (by unfold natSel; rw [hm]; show (if decide _ = true then _ else _) = _; rw [if_neg (by rw [eg]; simpa using hw)]) Kp.refl
    · intro L H3 hL k3 eL
      walk_at "g"
      rw [List.length_map, natSel_all] at eL
      refine q _ _ _ (Same.trans k1 k3.same) (k1.free hL) eL (hup.filter _) (fun n => ?_) (Nat.le_trans (List.length_filter_le _ _) hnl)
      rw [List.mem_filter, hmem]
      constructor
      · rintro ⟨h1, h2⟩
        have hlt := hin n h1
        have eg : cs.getD n (0, .leaf []) = cs[n] := by rw [List.getD_eq_getElem?_getD, List.getElem?_eq_getElem hlt]; rfl
        have := of_decide_eq_true h2
        rw [eg] at this
        exact ⟨h1, (word_isV (List.getElem?_eq_getElem hlt)).mp this⟩
      · rintro ⟨h1, h2⟩
        have hlt := hin n h1
        have eg : cs.getD n (0, .leaf []) = cs[n] := by rw [List.getD_eq_getElem?_getD, List.getElem?_eq_getElem hlt]; rfl
        exact ⟨h1, decide_eq_true (by rw [eg]; exact (word_isV (List.getElem?_eq_getElem hlt)).mpr h2)⟩
theorem ok_lbrims {f fP : Addr} {fd fdP : FuncData} (T : Txt K mg) (F : Fun K "_law_brims" "_law_brims" s_law_brims f fd) (D_law_parents : Df K mg "_law_parents" s_law_parents ["_law_things", "_law_here_here", "_law_version"] fP fdP) : FnOk P w K mg base CX0 2 f fd ["_law_things", "_law_here_here", "_law_versions_here"] spLBrims := by
  have G_law_parents : FnOk P w K mg base CX0 1 fP fdP ["_law_things", "_law_here_here", "_law_version"] spLParents := ok_lparents T D_law_parents.fn
  refine F.ok sc_law_brims (fun vs H Q E h => ?_) (fun cdv A outer s H vs Q E hr h => ?_)
  · obtain ⟨th, f, r, cs, hs, ns, rfl, _⟩ := h
    rfl
  · obtain ⟨th, f, r, cs, hs, ns, rfl, ht, hf, er, hl, hv, hpl, q⟩ := h
    refine ⟨_,
      (pss_one
        (ps_ret (pe_callTy (r := rTupOf K) c_tupOf (by rfl) T.n_tuple (by decide +kernel) (pa_cons (pe_lc (own := [("_law_name", 3)]) (g := (gName 3)) rfl sc_law_brims.nd (pi_list (pv 2)) (blkOk_by (own := [("_law_name", 3)]) (N := N_law_brims) (sc := defScope s_law_brims) (by decide +kernel)) (fun _ _ _ _ _ => (pg_name (i := 3) sc_law_brims.nd rfl (.inl rfl))) (fun _ _ _ _ _ => (pts_one (pt_cmpR op_lt (pe_callB (r := rLen K) c_len (by rfl) T.n_len (by decide +kernel) (pa_cons (pe_call G_law_parents (hr.mono (by omega)) (by rfl) D_law_parents.g D_law_parents.fn.kp D_law_parents.b .nil pass0 (pa_cons (pv 0) (pa_cons (pv 1) (pa_cons (pv 3) pa_nil)))) pa_nil)) (pe_callB (r := rLen K) c_len (by rfl) T.n_len (by decide +kernel) (pa_cons (pe_ix (r := rIxT K) ix_tup (pe_ix (r := rIxL K) ix_list (pv 0) (pv 3) (fun _ _ => rfl)) pe_int (fun _ _ => rfl)) pa_nil)) (nomark _)))) (fun _ _ _ _ _ => (pv 3))) pa_nil))))
      , ?_⟩
    rw [show L2.start N_law_brims [V.ref th, V.ref f, V.ref r] = [some (.ref th), some (.ref f), some (.ref r), none] from rfl]
    walk_at "x"
    refine lcp_sel (walk_list (K := K) (a := r) (xs := ns.map nV)) [] (natSel (fun n => decide ((hpar cs hs n).length < (pars cs n).length)) ns) (by rw [List.length_map]; omega) (fun H' k => .of (k _ _ (by simp) er)) ?_ (by simp) ?_
    · rintro i x H3 H4 R R0 hi k3 ⟨rfl, hx⟩ hR hR0
      obtain ⟨m, hm, rfl⟩ := map_at hx
      have iv := hv m (List.mem_of_getElem? hm)
      have ht3 := ht.same k3.same
      have hf3 := hf.same k3.same
      refine w_name ⟨rfl, ?_⟩
      walk_at "g"
      refine ⟨th, f, cs, hs, m, rfl, ht3, hf3, iv, hpl m, fun H5 l k5 hl5 e5 => ?_⟩
      have ht5 := ht3.same k5
      have hth5 := ht5.at'
      obtain ⟨a, r2, sst, hcs⟩ := iv.at
      obtain ⟨r', h1, h2⟩ := ht5.ct _ (List.mem_of_getElem? hcs)
      have at1 : atI (cs.map fun q => V.ref q.1) (m : Int) = some (.ref a) := atI_nat (by rw [List.getElem?_map, hcs]; rfl)
      walk_at "g"
      by_cases hlt : (hpar cs hs m).length < (pars cs m).length
      · refine w_yes (by simp only [List.length_map]; omega) ?_
        walk_at "g"
        exact hR _ _ (by unfold natSel; rw [hm]; show (if decide _ = true then _ else _) = _; rw [if_pos (decide_eq_true hlt)]) (Kp.of k5)
      · refine w_no (by simp only [List.length_map]; omega) ?_
        walk_at "g"
        exact hR0 _ (by unfold natSel; rw [hm]; show (if decide _ = true then _ else _) = _; rw [if_neg (by simpa using hlt)]) (Kp.of k5)
    · intro L H3 hL k3 eL
      walk_at "g"
      rw [List.length_map, natSel_all] at eL
      refine w_tupL (.of eL) fun t H4 ht4 e4 k4 => ?_
      exact q _ _ (Same.trans k3.same k4) (k3.same.free ht4) e4
end
/-! ### what is reached by held parents -/
inductive Rch (cs : List (Addr × Ct)) (hs : List Nat) (n : Nat) : Nat → Prop
  | refl : Rch cs hs n n
  | step {b c : Nat} (h : Rch cs hs n b) (e : c ∈ hpar cs hs b) : Rch cs hs n c
theorem Rch.left {cs : List (Addr × Ct)} {hs : List Nat} {a b c : Nat} (e : b ∈ hpar cs hs a) (h : Rch cs hs b c) : Rch cs hs a c := by
  induction h with
  | refl => exact .step .refl e
  | step _ e2 ih => exact .step ih e2
theorem Rch.first {cs : List (Addr × Ct)} {hs : List Nat} {a c : Nat} (h : Rch cs hs a c) : a = c ∨ ∃ b ∈ hpar cs hs a, Rch cs hs b c := by
  induction h with
  | refl => exact .inl rfl
  | step h e ih =>
    rename_i b c
    rcases ih with rfl | ⟨x, hx, hxb⟩
    · exact .inr ⟨c, e, .refl⟩
    · exact .inr ⟨x, hx, .step hxb e⟩
theorem hpar_par {cs : List (Addr × Ct)} {hs : List Nat} {n p : Nat} (h : p ∈ hpar cs hs n) : p ∈ pars cs n ∧ p ∈ hs := by
  obtain ⟨h1, h2⟩ := List.mem_filter.mp h
  exact ⟨h1, of_decide_eq_true h2⟩
theorem Rch.isV {cs : List (Addr × Ct)} {hs : List Nat} (ok : BkOk cs) {a c : Nat} (h : Rch cs hs a c) (iv : isV cs a) : FW.isV cs c ∧ c ≤ a := by
  induction h with
  | refl => exact ⟨iv, Nat.le_refl _⟩
  | step h e ih =>
    have := ok.par _ _ (hpar_par e).1
    exact ⟨this.1, by omega⟩
def rRng3 (vs : List V) (H : Hp) (R : It → Hp → Prop) : Prop := ∃ (i j c : Int) (n : Nat), vs = [.int i, .int j, .int c] ∧ RgC i j c n ∧ R (Itc i c n) H
theorem w_rng3 {σ : L2.St} {H : Hp} {t : TA} {R : It → Hp → Prop} (h : t σ H fun vs H1 => rRng3 vs H1 R) : iRng3 t σ H R := h
theorem w_rngD {i : Int} {H : Hp} {R : It → Hp → Prop} (h1 : 0 ≤ i) (h2 : i < 2 ^ 62) (h : R (Itc i (-1) (i + 1).toNat) H) : rRng3 [.int i, .int (-1), .int (-1)] H R :=
  ⟨i, -1, -1, _, rfl, by have := RgC.neg (i := i) (j := -1) (by omega) h2 (by decide) (by decide); rwa [show i - -1 = i + 1 by omega] at this, h⟩
theorem lp_rangeD {nx bk ct : L2.St → Hp → Prop} {rt : VK} {σ : L2.St} {H : Hp} {lo : Int} {n : Nat} {g : TG} {tb : TS} (Pv : Nat → L2.St → Hp → Prop) (h0 : Pv 0 σ H)
    (hs : ∀ i σ H, i < n → Pv i σ H → g (.int (lo - (i : Nat))) σ H fun σ2 H2 => tb ⟨Pv (i + 1), rt, nx, Pv (i + 1)⟩ σ2 H2) (hd : ∀ σ H, Pv n σ H → nx σ H) : Lp (Itc lo (-1) n) g tb ⟨nx, rt, bk, ct⟩ σ H :=
  for_rangeC (D := ⟨nx, rt, bk, ct⟩) Pv h0 (fun i σ H hi p => by rw [show lo + ((i : Nat) : Int) * -1 = lo - ((i : Nat) : Int) by omega]; exact hs i σ H hi p) hd
def spLLower : Sp := fun vs H Q _ => ∃ (th f : Addr) (cs : List (Addr × Ct)) (hs : List Nat) (n : Nat), vs = [.ref th, .ref f, nV n] ∧ ThAt H th cs ∧ FAt H f (fun n => n ∈ hs) ∧ BkOk cs ∧ isV cs n ∧ cs.length ≤ 1000 ∧
  ∀ (H' : Hp) (l : Addr) (L : List Nat), Same H H' → H l = none → H' l = some (.lst (L.map nV)) → L.Pairwise (· < ·) → (∀ m, m ∈ L ↔ Rch cs hs n m) → L.length ≤ 1000 → Q (.ref l) H'
section
variable {P : Program} {w : World} {K : PySem.W.Frag} {mg : Str → Option Value} {base : Heap} {C : Addr}
theorem ok_llower {f fP : Addr} {fd fdP : FuncData} (T : Txt K mg) (F : Fun K "_law_lower" "_law_lower" s_law_lower f fd) (D_law_parents : Df K mg "_law_parents" s_law_parents ["_law_things", "_law_here_here", "_law_version"] fP fdP) : FnOk P w K mg base CX0 2 f fd ["_law_things", "_law_here_here", "_law_version"] spLLower := by
  have G_law_parents : FnOk P w K mg base CX0 1 fP fdP ["_law_things", "_law_here_here", "_law_version"] spLParents := ok_lparents T D_law_parents.fn
  refine F.ok sc_law_lower (fun vs H Q E h => ?_) (fun cdv A outer s H vs Q E hr h => ?_)
  · obtain ⟨th, f, cs, hs, n, rfl, _⟩ := h
    rfl
  · obtain ⟨th, f, cs, hs, n, rfl, ht, hf, ok, iv, hcl, q⟩ := h
    have hu := hu_of hr
    have hn := iv.lt
    refine ⟨_,
      (pss_cons
        (ps_set (i := 3) sc_law_lower.nd rfl (.inl rfl) (pe_disp (pps_cons (pv 2) pe_bl pps_nil) (by rfl) (by rfl) (fun z => by cases z) (by decide)))
      (pss_cons
        (ps_for PassesOwn.never rfl (pi_range3 (by rfl) T.n_range (pa_cons (pv 2) (pa_cons (pe_un un_neg pe_int) (pa_cons (pe_un un_neg pe_int) pa_nil)))) (pg_name (i := 4) sc_law_lower.nd rfl (.inl rfl))
          (pss_one
            (ps_if (pt_cmp (pc_din hu (pv 4) (pv 3)))
              (pss_one
                (ps_for PassesOwn.never rfl (pi_list (pe_call G_law_parents (hr.mono (by omega)) (by rfl) D_law_parents.g D_law_parents.fn.kp D_law_parents.b .nil pass0 (pa_cons (pv 0) (pa_cons (pv 1) (pa_cons (pv 4) pa_nil))))) (pg_name (i := 5) sc_law_lower.nd rfl (.inl rfl))
                  (pss_one
                    (ps_dput hu (pv 3) (pv 5) pe_bl rfl))))
              pss_nil)))
      (pss_one
        (ps_ret (pe_callB (c_sortA rfl) (by rfl) T.n_sorted (by decide +kernel) (pa_cons (pv 3) pa_nil))))))
      , ?_⟩
    rw [show L2.start N_law_lower [V.ref th, V.ref f, nV n] = [some (.ref th), some (.ref f), some (.int (n : Int)), none, none, none] from rfl]
    walk_at "x"
    refine w_disp fun fo H1 hfo e1 k1 => ?_
    walk_at "g"
    refine w_dispE [(Sum.inl (n : Int), .bl true)] e1 rfl (show (1 : Nat) ≤ 15 by decide) fun H2 e2 o2 => ?_
    have s2 : Same H H2 := fun b o e => o2.get (ne_of_none e hfo) (k1 _ _ e)
    have F2 : FAt H2 fo (fun m => m = n) := ⟨_, [(n : Int)], e2, rfl, by simp, fun k hk => by
      have : k = n := by simpa using hk
      omega, fun m => by simp; omega⟩
    walk_at "g"
    refine w_rng3 ?_
    walk_at "g"
    refine w_rngD (by omega) (by omega) ?_
    refine lp_rangeD (fun i σ H' => (∃ y1 y2 : Option V, σ = [some (.ref th), some (.ref f), some (.int (n : Int)), some (.ref fo), y1, y2]) ∧ Same H H' ∧ ∃ F : Nat → Prop, FAt H' fo F ∧ F n ∧ (∀ m, F m → Rch cs hs n m) ∧ ∀ m, F m → n < m + i → ∀ p ∈ hpar cs hs m, F p) ⟨⟨_, _, rfl⟩, s2, _, F2, rfl, fun m e => by rw [e]; exact .refl, fun m e h => by omega⟩ ?_ ?_
    · rintro i σ H3 hi ⟨⟨y1, y2, rfl⟩, s3, F, F3, hFn, hFR, hFc⟩
      have hi' : i ≤ n := by omega
      obtain ⟨k, hk⟩ : ∃ k : Nat, n = k + i := ⟨n - i, by omega⟩
      rw [show ((n : Int) - (i : Nat)) = ((k : Nat) : Int) by omega]
      walk_at "g"
      refine w_fin' F3 (fun hFk => ?_) fun hFk => ?_
      · have ivk := ((hFR k hFk).isV ok iv).1
        walk_at "g"
        refine ⟨th, f, cs, hs, k, rfl, ht.same s3, hf.same s3, ivk, by have := ok.few k; omega, fun H4 l k4 hl4 e4 => ?_⟩
        have F4 := F3.same k4
        have s4 := Same.trans s3 k4
        have hlfo : l ≠ fo := by
          intro z
          subst z
          obtain ⟨fk, e⟩ := F3.obj
          rw [hl4] at e
          cases e
        walk_at "g"
        refine lp_list (xs := (hpar cs hs k).map nV) (fun j σ H' => (∃ y2 : Option V, σ = [some (.ref th), some (.ref f), some (.int (n : Int)), some (.ref fo), some (.int (k : Int)), y2]) ∧ Kp [fo] H4 H' ∧ FAt H' fo (fun m => F m ∨ m ∈ (hpar cs hs k).take j)) ⟨⟨_, rfl⟩, Kp.refl, F4.iff (by simp)⟩ (fun j σ H' _ h => .of (h.2.1 _ _ (by simpa using hlfo) e4)) ?_ ?_
        · rintro j x σ H5 hx ⟨⟨y2, rfl⟩, k5, F5⟩
          obtain ⟨p, hp, rfl⟩ := map_at hx
          have hpk := (ok.par k p (hpar_par (List.mem_of_getElem? hp)).1).2
          walk_at "g"
          refine w_fput F5 (by omega) fun H6 F6 o6 => ?_
          walk_at "g"
          refine ⟨⟨_, rfl⟩, k5.trans (o6.kp (by simp)), F6.iff fun m => ?_⟩
          rw [List.take_add_one, hp]
          simp [or_assoc]
        · rintro σ H5 ⟨⟨y2, rfl⟩, k5, F5⟩
          rw [List.length_map, List.take_length] at F5
          walk_at "g"
          refine ⟨⟨_, _, rfl⟩, fun b o e => k5 _ _ (by simpa using ne_of_none e hfo) (s4 _ _ e), _, F5, .inl hFn, ?_, ?_⟩
          · rintro m (hm | hm)
            · exact hFR m hm
            · exact .step (hFR k hFk) hm
          · rintro m (hm | hm) hlt p hp
            · by_cases hmk : m = k
              · subst hmk
                exact .inr hp
              · exact .inl (hFc m hm (by omega) p hp)
            · have := (ok.par k m (hpar_par hm).1).2
              omega
      · walk_at "g"
        refine ⟨⟨_, _, rfl⟩, s3, F, F3, hFn, hFR, fun m hm hlt => hFc m hm ?_⟩
        have : m ≠ k := fun e => hFk (by rw [← e]; exact hm)
        omega
    · rintro σ H3 ⟨⟨y1, y2, rfl⟩, s3, F, F3, hFn, hFR, hFc⟩
      walk_at "g"
      refine w_fsort F3 fun L l H4 hup hmem hll hl e4 k4 => ?_
      refine q H4 l L (Same.trans s3 k4) (s3.free hl) e4 hup (fun m => (hmem m).trans ⟨hFR m, fun h => ?_⟩) hll
      induction h with
      | refl => exact hFn
      | step _ e ih => exact hFc _ ih (by omega) _ e
end
/-! ### _law_same: any data beside a row of names -/
def spSameI : Sp := fun vs H Q _ => ∃ (y : V) (n : Nat) (a : String), vs = [y, nV n] ∧ Ty H y a ∧ (y = nV n → ∀ H', Same H H' → Q (.bl true) H') ∧ (¬ y = nV n → ∀ H', Same H H' → Q (.bl false) H')
def spSameN : Sp := fun vs H Q _ => ∃ (x : V) (t : Addr) (ns : List Nat) (B : Nat), vs = [x, .ref t] ∧ DatT B H x ∧ B ≤ 1000 ∧ H t = some (.tup (ns.map nV)) ∧ ns.length ≤ 1000 ∧ (NatsV H x ns → ∀ H', Same H H' → Q (.bl true) H') ∧ (¬ NatsV H x ns → ∀ H', Same H H' → Q (.bl false) H')
theorem WalkP.hs {cs : List (Addr × Ct)} {hs : List Nat} {old new : Nat} {ns : List Nat} (h : WalkP cs hs old new ns) (hn : new ∈ hs) : ∀ n ∈ ns, n ∈ hs := by
  intro n hm
  obtain ⟨i, hi, rfl⟩ := List.getElem_of_mem hm
  cases i with
  | zero =>
    have := h.1
    rw [List.getElem?_eq_getElem hi] at this
    rw [Option.some.inj this]
    exact hn
  | succ i => exact (hpar_par (h.2.2 i _ _ (List.getElem?_eq_getElem (by omega)) (List.getElem?_eq_getElem hi))).2
def LWalk (cs : List (Addr × Ct)) (hs : List Nat) (was goes : Nat) (H : Hp) (x : V) : Prop := ∃ ns, NatsV H x ns ∧ WalkP cs hs was goes ns
def LApart (cs : List (Addr × Ct)) (hs : List Nat) (was goes : Nat) (H : Hp) (x y : V) : Prop := ∃ ns, NatsV H x ns ∧ ApartP cs hs was goes ns ∧ NatsV H y (edgs cs hs ns)
structure LScn (H : Hp) (th f : Addr) (cs : List (Addr × Ct)) (hs : List Nat) : Prop where
  th' : ThAt H th cs
  he : FAt H f (fun n => n ∈ hs)
  in' : ∀ n ∈ hs, n < cs.length
  ok : BkOk cs
  few : cs.length ≤ 999
theorem LScn.same {H H' : Hp} {th f : Addr} {cs : List (Addr × Ct)} {hs : List Nat} (h : LScn H th f cs hs) (k : Same H H') : LScn H' th f cs hs := ⟨h.th'.same k, h.he.same k, h.in', h.ok, h.few⟩
def spLIsWalk : Sp := fun vs H Q _ => ∃ (th f : Addr) (cs : List (Addr × Ct)) (hs : List Nat) (was goes : Nat) (x : V) (B : Nat), vs = [.ref th, .ref f, nV was, nV goes, x] ∧ LScn H th f cs hs ∧ goes ∈ hs ∧ DatT B H x ∧ B ≤ 1000 ∧ (LWalk cs hs was goes H x → ∀ H', Same H H' → Q (.bl true) H') ∧ (¬ LWalk cs hs was goes H x → ∀ H', Same H H' → Q (.bl false) H')
def spLIsApart : Sp := fun vs H Q _ => ∃ (th f p : Addr) (cs : List (Addr × Ct)) (hs : List Nat) (was goes : Nat) (x0 x1 x2 : V) (B : Nat), vs = [.ref th, .ref f, nV was, nV goes, .ref p] ∧ LScn H th f cs hs ∧ H p = some (.tup [x0, x1, x2]) ∧ DatT B H x1 ∧ DatT B H x2 ∧ B ≤ 1000 ∧ (LApart cs hs was goes H x1 x2 → ∀ H', Same H H' → Q (.bl true) H') ∧ (¬ LApart cs hs was goes H x1 x2 → ∀ H', Same H H' → Q (.bl false) H')
def spLIsWay : Sp := fun vs H Q _ => ∃ (th f : Addr) (cs : List (Addr × Ct)) (hs : List Nat) (was goes : Nat) (x : V) (B : Nat), vs = [.ref th, .ref f, nV was, nV goes, x] ∧ LScn H th f cs hs ∧ goes ∈ hs ∧ DatT B H x ∧ B ≤ 1000 ∧ (WayX cs hs was goes H x → ∀ H', Same H H' → Q (.bl true) H') ∧ (¬ WayX cs hs was goes H x → ∀ H', Same H H' → Q (.bl false) H')
section
variable {P : Program} {w : World} {K : PySem.W.Frag} {mg : Str → Option Value} {base : Heap} {C : Addr}
theorem ok_liswalk {f fI : Addr} {fd fdI : FuncData} (T : Txt K mg) (F : Fun K "_law_is_walk" "_law_is_walk" s_law_is_walk f fd) (D_law_int : Df K mg "_law_int" s_law_int ["_law_thing"] fI fdI) : FnOk P w K mg base CX0 2 f fd ["_law_things", "_law_here_here", "_law_was_here", "_law_goes_here", "_law_versions_here"] spLIsWalk := by
  have G_law_int : FnOk P w K mg base CX0 1 fI fdI ["_law_thing"] spWholeG := ok_law_intG T D_law_int.fn
  refine F.ok sc_law_is_walk (fun vs H Q E h => ?_) (fun cdv A outer s H vs Q E hr h => ?_)
  · obtain ⟨th, f, cs, hs, was, goes, x, B, rfl, _⟩ := h
    rfl
  · obtain ⟨th, f, cs, hs, was, goes, x, B, rfl, S, hg, hx, hB, q1, q2⟩ := h
    have hu := hu_of hr
    have hth := S.th'.at'
    have ss : Same H H := fun _ _ z => z
    refine ⟨_,
      (pss_cons
        (ps_if (PW.pt (pw_or (pt_not (pt_val (pe_callB (r := rIsi K) call_isi (by rfl) T.n_isinstance (by decide +kernel) (pa_cons (pv 4) (pa_cons (pe_bltn (v := .ty "tuple") (u := .type "tuple") (by rfl) T.n_tuple (by decide +kernel) rfl) pa_nil))))) (pw_or1 (pt_cmpR op_eq (pe_callB (r := rLen K) c_len (by rfl) T.n_len (by decide +kernel) (pa_cons (pv 4) pa_nil)) pe_int (nomark _)))))
          (pss_one
            (ps_ret pe_bl))
          pss_nil)
      (pss_cons
        (ps_for PassesOwn.never rfl (pi_tup (pv 4)) (pg_name (i := 5) sc_law_is_walk.nd rfl (.inl rfl))
          (pss_one
            (ps_if (PW.pt (pw_or (pt_not (pt_val (pe_call G_law_int (hr.mono (by omega)) (by rfl) D_law_int.g D_law_int.fn.kp D_law_int.b .nil pass0 (pa_cons (pv 5) pa_nil)))) (pw_or1 (pt_cmp (pc_dnotin hu (pv 5) (pv 1))))))
              (pss_one
                (ps_ret pe_bl))
              pss_nil)))
      (pss_cons
        (ps_if (PW.pt (pw_or (pt_cmpR op_ne (pe_ix (r := rIxT K) ix_tup (pv 4) pe_int (fun _ _ => rfl)) (pv 3) (nomark _)) (pw_or1 (pt_cmpR op_ne (pe_ix (r := rIxT K) ix_tup (pv 4) (pe_un un_neg pe_int) (fun _ _ => rfl)) (pv 2) (nomark _)))))
          (pss_one
            (ps_ret pe_bl))
          pss_nil)
      (pss_cons
        (ps_for PassesOwn.never rfl (pi_range2 (by rfl) T.n_range (pa_cons pe_int (pa_cons (pe_callB (r := rLen K) c_len (by rfl) T.n_len (by decide +kernel) (pa_cons (pv 4) pa_nil)) pa_nil))) (pg_name (i := 6) sc_law_is_walk.nd rfl (.inl rfl))
          (pss_one
            (ps_if (PW.pt (pw_or (pt_cmpR op_ne (pe_ix (r := rIxT K) ix_tup (pe_ix (r := rIxL K) ix_list (pv 0) (pe_ix (r := rIxT K) ix_tup (pv 4) (pe_op op_sub (pv 6) pe_int) (fun _ _ => rfl)) (fun _ _ => rfl)) pe_int (fun _ _ => rfl)) pe_str (nomark _)) (pw_or1 (pt_cmpR (r := rIn K true) op_notIn_seq (pe_ix (r := rIxT K) ix_tup (pv 4) (pv 6) (fun _ _ => rfl)) (pe_ix (r := rIxT K) ix_tup (pe_ix (r := rIxL K) ix_list (pv 0) (pe_ix (r := rIxT K) ix_tup (pv 4) (pe_op op_sub (pv 6) pe_int) (fun _ _ => rfl)) (fun _ _ => rfl)) pe_int (fun _ _ => rfl)) rfl))))
              (pss_one
                (ps_ret pe_bl))
              pss_nil)))
      (pss_one
        (ps_ret pe_bl))))))
      , ?_⟩
    rw [show L2.start N_law_is_walk [V.ref th, V.ref f, nV was, nV goes, x] = [some (.ref th), some (.ref f), some (.int (was : Int)), some (.int (goes : Int)), some x, none, none] from rfl]
    refine w_seq ?_
    walk_at "x"
    rcases hx.cases with ⟨ay, ty, hne⟩ | ⟨a, xs, rfl, ea, hxB, hxs⟩
    · refine w_isTup ty ?_
      rw [decide_eq_false hne]
      walk_at "g"
      refine q2 ?_ _ ss
      rintro ⟨ns, ⟨a, rfl, h⟩, _⟩
      exact hne (ty.ofTup h)
    walk_at "g"
    by_cases h0 : xs.length = 0
    · refine w_yes (by omega) ?_
      walk_at "g"
      refine q2 ?_ _ ss
      rintro ⟨ns, ⟨a', e, h⟩, hw⟩
      cases e
      rw [ea] at h
      have e2 := Option.some.inj h
      injection e2 with e2
      rw [e2, List.length_map] at h0
      have := (List.getElem?_eq_some_iff.mp hw.1).1
      omega
    refine w_no (by omega) ?_
    walk_at "g"
    refine lp_tup (xs := xs) (fun i σ H' => H' = H ∧ (∃ y1 : Option V, σ = [some (.ref th), some (.ref f), some (.int (was : Int)), some (.int (goes : Int)), some (.ref a), y1, none]) ∧ ∀ y ∈ xs.take i, ∃ n ∈ hs, y = nV n) ⟨rfl, ⟨_, rfl⟩, by simp⟩ (fun i σ H' _ p => by rw [p.1]; exact .of ea) ?_ ?_
    · rintro i y σ H2 hy ⟨rfl, ⟨y1, rfl⟩, hall⟩
      have hym := List.mem_of_getElem? hy
      obtain ⟨ay, ty⟩ := (hxs y hym).ty
      have no : ∀ {A : Prop}, (∀ n ∈ hs, y ≠ nV n) → LWalk cs hs was goes H2 (.ref a) → A := fun hno h => by
        obtain ⟨ns, ⟨a', e, h'⟩, hw⟩ := h
        cases e
        rw [ea] at h'
        have e2 := Option.some.inj h'
        injection e2 with e2
        rw [e2] at hym
        obtain ⟨n, hn, rfl⟩ := List.mem_map.mp hym
        exact absurd rfl (hno n (hw.hs hg n hn))
      walk_at "g"
      refine ⟨y, ay, rfl, ty, ?_⟩
      by_cases ha : ay = "int"
      · rw [decide_eq_true ha]
        obtain ⟨k, rfl⟩ := ty.isInt ha
        walk_at "g"
        refine w_fnin S.he (fun n e hn => ?_) fun hn => ?_
        · subst e
          walk_at "g"
          refine ⟨rfl, ⟨_, rfl⟩, fun z hz => ?_⟩
          rw [List.take_add_one, hy] at hz
          rcases List.mem_append.mp hz with hz | hz
          · exact hall z hz
          · have : z = nV n := by simpa using hz
            exact ⟨n, hn, this⟩
        · walk_at "g"
          exact q2 (no fun n hn' e => hn n (V.int.inj e) hn') _ ss
      · rw [decide_eq_false ha]
        walk_at "g"
        exact q2 (no fun n hn' e => ha (by subst e; exact ty.ofInt)) _ ss
    · rintro σ H2 ⟨rfl, ⟨y1, rfl⟩, hall⟩
      rw [List.take_length] at hall
      obtain ⟨ns, rfl⟩ := nats_of fun y hy => by
        obtain ⟨n, _, e⟩ := hall y hy
        exact ⟨n, e⟩
      have hin : ∀ n ∈ ns, n ∈ hs := fun n hn => by
        obtain ⟨m, hm, e⟩ := hall (nV n) (List.mem_map_of_mem hn)
        have : (n : Int) = m := V.int.inj e
        rw [show n = m by omega]
        exact hm
      rw [List.length_map] at h0 hxB
      have hpos : 0 < ns.length := by omega
      have at0 : atI (ns.map nV) 0 = some (.int ((ns[0] : Nat) : Int)) := atI_nat (j := 0) (nV_at hpos)
      have at1 := atI_m1 hpos
      have det : ∀ {A : Prop}, (¬ WalkP cs hs was goes ns) → LWalk cs hs was goes H2 (.ref a) → A := fun hno h => by
        obtain ⟨ms, hms, hw⟩ := h
        exact absurd (by rw [natsV_same (ns := ns) ⟨a, rfl, ea⟩ hms (fun _ _ e => e)]; exact hw) hno
      refine w_seq ?_
      walk_at "g"
      by_cases hh : ns[0] = goes
      · rw [decide_eq_true (show ((ns[0] : Nat) : Int) = goes by omega)]
        walk_at "g"
        by_cases hl : ns[ns.length - 1] = was
        · rw [decide_eq_true (show ((ns[ns.length - 1] : Nat) : Int) = was by omega)]
          walk_at "g"
          try refine w_rng2' (by simp only [List.length_map]; omega) ?_
          refine lp_range (fun i σ H' => H' = H2 ∧ (∃ y1 y2 : Option V, σ = [some (.ref th), some (.ref f), some (.int (was : Int)), some (.int (goes : Int)), some (.ref a), y1, y2]) ∧ ∀ j, j < i → ∀ x y, ns[j]? = some x → ns[j + 1]? = some y → y ∈ hpar cs hs x) ⟨rfl, ⟨_, _, rfl⟩, fun j hj => absurd hj (Nat.not_lt_zero _)⟩ ?_ ?_
          · rintro i σ H3 hi ⟨rfl, ⟨y1, y2, rfl⟩, hadj⟩
            have hi1 : i + 1 < ns.length := by
              simp only [List.length_map] at hi
              omega
            have g1 := List.getElem?_eq_getElem (show i < ns.length by omega)
            have g2 := List.getElem?_eq_getElem hi1
            have a1 : atI (ns.map nV) (1 + (i : Int) - 1) = some (.int ((ns[i] : Nat) : Int)) := by
              rw [show (1 : Int) + (i : Int) - 1 = ((i : Nat) : Int) by omega]
              exact atI_nat (nV_at (by omega))
            have a2 : atI (ns.map nV) (1 + (i : Int)) = some (nV ns[i + 1]) := by
              rw [show (1 : Int) + (i : Int) = ((i + 1 : Nat) : Int) by omega]
              exact atI_nat (nV_at hi1)
            have hni := hin ns[i] (List.getElem_mem (by omega))
            have hlt := S.in' _ hni
            have a3 : atI (cs.map fun q => V.ref q.1) ((ns[i] : Nat) : Int) = some (.ref (cs[ns[i]]).1) := atI_nat (by rw [List.getElem?_map, List.getElem?_eq_getElem hlt]; rfl)
            have hct := S.th'.ct _ (List.getElem_mem hlt)
            obtain ⟨rest, hh'⟩ := hct.head
            have a4 : atI (V.str (cs[ns[i]]).2.word :: rest) 0 = some (.str (cs[ns[i]]).2.word) := atI_nat (j := 0) rfl
            walk_at "g"
            by_cases hw : (cs[ns[i]]).2.word = "version"
            · rw [decide_eq_true hw]
              have iv := (word_isV (List.getElem?_eq_getElem hlt)).mp hw
              obtain ⟨aa, rr, sst, hcs⟩ := iv.at
              have ecs : cs[ns[i]] = (aa, Ct.ver (pars cs ns[i]) rr sst) := by
                have := List.getElem?_eq_getElem hlt
                rw [hcs] at this
                exact (Option.some.inj this).symm
              rw [ecs] at hct a3
              obtain ⟨r', h1, h2⟩ := hct
              have a5 : atI [V.str "version", V.ref r', nV rr, nV sst] 1 = some (.ref r') := atI_nat (j := 1) rfl
              walk_at "g"
              refine w_ninNT h2 ?_
              walk_at "g"
              by_cases hp : ns[i + 1] ∈ pars cs ns[i]
              · rw [decide_eq_true hp]
                walk_at "g"
                refine ⟨rfl, ⟨_, _, rfl⟩, fun j hj x y hx' hy' => ?_⟩
                by_cases hji : j < i
                · exact hadj j hji x y hx' hy'
                · have : j = i := by omega
                  subst this
                  rw [g1] at hx'
                  rw [g2] at hy'
                  cases hx'
                  cases hy'
                  exact List.mem_filter.mpr ⟨hp, decide_eq_true (hin _ (List.getElem_mem hi1))⟩
              · rw [decide_eq_false hp]
                walk_at "g"
                exact q2 (det fun h => hp (hpar_par (h.2.2 i _ _ g1 g2)).1) _ ss
            · rw [decide_eq_false hw]
              walk_at "g"
              exact q2 (det fun h => hw ((word_isV (List.getElem?_eq_getElem hlt)).mpr (isV.of (hpar_par (h.2.2 i _ _ g1 g2)).1))) _ ss
          · rintro σ H3 ⟨rfl, _, hadj⟩
            walk_at "g"
            refine q1 ⟨ns, ⟨a, rfl, ea⟩, by rw [List.getElem?_eq_getElem hpos, hh], by rw [List.getElem?_eq_getElem (by omega), hl], fun i x y hx' hy' => hadj i ?_ x y hx' hy'⟩ _ ss
            have := (List.getElem?_eq_some_iff.mp hy').1
            simp only [List.length_map]
            omega
        · rw [decide_eq_false (show ¬ ((ns[ns.length - 1] : Nat) : Int) = was by omega)]
          walk_at "g"
          exact q2 (det fun h => hl (by have := h.2.1; rw [List.getElem?_eq_getElem (by omega)] at this; exact Option.some.inj this)) _ ss
      · rw [decide_eq_false (show ¬ ((ns[0] : Nat) : Int) = goes by omega)]
        walk_at "g"
        exact q2 (det fun h => hh (by have := h.1; rw [List.getElem?_eq_getElem hpos] at this; exact Option.some.inj this)) _ ss
end
/-! ### the scene of the laws of ways -/
theorem w_lstRg {σ : L2.St} {H : Hp} {Q : VK} {te : L2.St → Hp → (Int → Int → Hp → Prop) → Prop} (h : te σ H fun a b H1 => RgOk a b ∧ Nw (.lst (rgV a b)) H1 Q) : tLstRg te σ H Q := h
def rRg1 (x : V) (H : Hp) (R : Int → Int → Hp → Prop) : Prop := ∃ n, x = .int n ∧ R 0 n H
theorem w_rg1 {σ : L2.St} {H : Hp} {ta : TE} {R : Int → Int → Hp → Prop} (h : ta σ H fun x H1 => rRg1 x H1 R) : tRg1 ta σ H R := h
theorem w_rg1' {H : Hp} {j : Int} {R : Int → Int → Hp → Prop} (h : R 0 j H) : rRg1 (.int j) H R := ⟨j, rfl, h⟩
local macro_rules | `(tactic| walk_at "s") => `(tactic| first
  | with_reducible refine w_lstRg ?_
  | with_reducible refine w_rg1 ?_
  | with_reducible refine w_rg1' ?_
  )
theorem rgV_nat {i j : Int} (a b : Nat) (hi : i = a) (hj : j = b) : rgV i j = ((List.range (b - a)).map fun k => a + k).map nV := by
  unfold rgV
  rw [List.map_map, show (j - i).toNat = b - a by omega]
  refine List.map_congr_left fun k _ => ?_
  show V.int (i + (k : Nat)) = V.int ((a + k : Nat) : Int)
  rw [show i + (k : Nat) = ((a + k : Nat) : Int) by omega]
structure ScnV (cs : List Ct) : Prop where
  c0 : cs[0]? = some (.leaf [])
  c1 : ∃ es : List (Str × Nat), cs[1]? = some (.tree es) ∧ (es = [] ∨ es = [((Str.ofString "a"), 0)])
  vs : ∀ i c, 2 ≤ i → cs[i]? = some c → ∃ ps s, c = .ver ps 1 s ∧ ps.Pairwise (· < ·) ∧ ps.length ≤ 3 ∧ (∀ p ∈ ps, 2 ≤ p ∧ p < i) ∧ s ≤ 10 ^ 18
  nd : cs.Nodup
theorem lab_a : LabOk "a" := ⟨by decide +kernel, by decide +kernel, by decide +kernel⟩
theorem ScnV.ok {cs : List Ct} (h : ScnV cs) : ScnOk cs := by
  intro i c hc
  have hi := (List.getElem?_eq_some_iff.mp hc).1
  match i, hc, hi with
  | 0, hc, hi =>
    rw [h.c0] at hc
    cases hc
    exact ⟨by decide, by simp⟩
  | 1, hc, hi =>
    obtain ⟨es, e1, he⟩ := h.c1
    rw [e1] at hc
    cases hc
    have e : cs.take 1 = [Ct.leaf []] := by rw [List.take_add_one, h.c0]; rfl
    rw [e]
    rcases he with rfl | rfl
    · exact ⟨by decide, (fun e he => by cases he), .nil, by decide⟩
    refine ⟨by decide, fun e he => ?_, List.pairwise_singleton _ _, by decide⟩
    have : e = ((Str.ofString "a"), 0) := by simpa using he
    subst this
    exact ⟨lab_a, _, rfl, lit_ne2⟩
  | i + 2, hc, hi =>
    obtain ⟨ps, s, rfl, h1, h2, h3, h4⟩ := h.vs (i + 2) c (by omega) hc
    obtain ⟨es, e1, _⟩ := h.c1
    refine ⟨h1, by omega, fun p hp => ?_, ⟨_, by rw [List.getElem?_take, if_pos (by omega)]; exact e1, rfl⟩, h4⟩
    obtain ⟨g1, g2⟩ := h3 p hp
    have hpl : p < cs.length := by omega
    obtain ⟨ps', s', e, _⟩ := h.vs p cs[p] g1 (List.getElem?_eq_getElem hpl)
    exact ⟨_, by rw [List.getElem?_take, if_pos g2]; exact List.getElem?_eq_getElem hpl, by rw [e]; rfl⟩
theorem ScnV.txts {cs : List Ct} (h : ScnV cs) : ∀ c ∈ cs, c.txts := by
  intro c hc
  obtain ⟨i, hi, rfl⟩ := List.getElem_of_mem hc
  have hg := List.getElem?_eq_getElem hi
  revert hg
  generalize cs[i] = c
  intro hg
  match i, hg with
  | 0, hg =>
    rw [h.c0] at hg
    rw [← Option.some.inj hg]
    exact fun z hz => by cases hz
  | 1, hg =>
    obtain ⟨es, e1, hes⟩ := h.c1
    rw [e1] at hg
    rw [← Option.some.inj hg]
    rcases hes with rfl | rfl
    · exact fun z hz => by cases hz
    intro e he
    have : e = ((Str.ofString "a"), 0) := by simpa using he
    subst this
    decide +kernel
  | i + 2, hg =>
    obtain ⟨ps, s, e, _⟩ := h.vs (i + 2) _ (by omega) hg
    rw [e]
    trivial
theorem ScnV.ver {cs : List (Addr × Ct)} (h : ScnV (cs.map (·.2))) {i : Nat} (h2 : 2 ≤ i) (hi : i < cs.length) : isV cs i := by
  have hg : (cs.map (·.2))[i]? = some (cs[i]).2 := by rw [List.getElem?_map, List.getElem?_eq_getElem hi]; rfl
  obtain ⟨ps, s, e, _⟩ := h.vs i _ h2 hg
  exact ⟨(cs[i]).1, ps, 1, s, by rw [List.getElem?_eq_getElem hi, ← e]⟩
theorem ScnV.isV_iff {cs : List (Addr × Ct)} (h : ScnV (cs.map (·.2))) {i : Nat} (iv : isV cs i) : 2 ≤ i := by
  obtain ⟨a, ps, r, s, e⟩ := iv
  match i, e with
  | 0, e =>
    have := h.c0
    rw [List.getElem?_map, e] at this
    cases this
  | 1, e =>
    obtain ⟨es, this, _⟩ := h.c1
    rw [List.getElem?_map, e] at this
    cases this
  | i + 2, _ => omega
theorem ScnV.bk {cs : List (Addr × Ct)} (h : ScnV (cs.map (·.2))) : BkOk cs := by
  have key : ∀ n, (pars cs n = [] ∨ ((pars cs n).length ≤ 3 ∧ n < cs.length ∧ ∀ p ∈ pars cs n, 2 ≤ p ∧ p < n)) := fun n => by
    by_cases iv : isV cs n
    · have h2 := h.isV_iff iv
      obtain ⟨a, r, s, e⟩ := iv.at
      obtain ⟨ps, s', e2, _, h3, h4, _⟩ := h.vs n _ h2 (by rw [List.getElem?_map, e]; rfl)
      have e3 : pars cs n = ps := by injection e2
      rw [e3]
      exact .inr ⟨h3, iv.lt, h4⟩
    · cases e : pars cs n with
      | nil => exact .inl rfl
      | cons p r => exact absurd (isV.of (p := p) (by rw [e]; simp)) iv
  refine ⟨fun n p hp => ?_, fun n => ?_⟩
  · rcases key n with e | ⟨_, h2, h3⟩
    · rw [e] at hp
      cases hp
    · obtain ⟨g1, g2⟩ := h3 p hp
      exact ⟨h.ver g1 (by omega), g2⟩
  · rcases key n with e | ⟨h1, _⟩
    · rw [e]; decide
    · omega
def spLScene : Sp := fun vs H Q _ => ∃ (d c : Addr) (n m : Nat), vs = [.ref d, nV m] ∧ Deck H d c n ∧ 1 ≤ m ∧ m ≤ 300 ∧ n + 8 * m + 12 ≤ MOSTD ∧
  ∀ (H' : Hp) (t th hl : Addr) (cs : List (Addr × Ct)) (hs : List Nat), Deck H' d c (n + 8 * m + 12) → KX d H H' → H th = none → H hl = none → H' t = some (.tup [.ref th, .ref hl]) → ThAt H' th cs → H' hl = some (.lst (hs.map nV)) → ScnV (cs.map (·.2)) → 3 ≤ cs.length → cs.length ≤ m + 2 → hs.Pairwise (· < ·) → (∀ n ∈ hs, n < cs.length) → (∃ n ∈ hs, 2 ≤ n) → Q (.ref t) H'
section
variable {P : Program} {w : World} {K : PySem.W.Frag} {mg : Str → Option Value} {base : Heap} {C : Addr}
theorem ok_lscene {f fM fD fS fG : Addr} {fd fdM fdD fdS fdG : FuncData} (T : Txt K mg) (F : Fun K "_law_scene" "_law_scene" s_law_scene f fd) (D_law_mixed : Df K mg "_law_mixed" s_law_mixed ["_law_cell", "_law_turn"] fM fdM)
    (D_law_draw : Df K mg "_law_draw" s_law_draw ["_law_deck_here", "_law_many"] fD fdD) (D_law_some : Df K mg "_law_some" s_law_some ["_law_deck_here", "_law_names", "_law_count"] fS fdS) (D_law_give : Df K mg "_law_give" s_law_give ["_law_things", "_law_content"] fG fdG) : FnOk P w K mg base CX0 4 f fd ["_law_deck_here", "_law_most"] spLScene := by
  have G_law_draw : FnOk P w K mg base CX0 2 fD fdD ["_law_deck_here", "_law_many"] spDraw := ok_draw T D_law_draw.fn D_law_mixed
  have G_law_some : FnOk P w K mg base CX0 3 fS fdS ["_law_deck_here", "_law_names", "_law_count"] spSome := ok_some T D_law_some.fn D_law_mixed D_law_draw
  have G_law_give : FnOk P w K mg base CX0 1 fG fdG ["_law_things", "_law_content"] spGive := ok_give T D_law_give.fn
  refine F.ok sc_law_scene (fun vs H Q E h => ?_) (fun cdv A outer s H vs Q E hr h => ?_)
  · obtain ⟨d, c, n, m, rfl, _⟩ := h
    rfl
  · obtain ⟨d, c, n, m, rfl, D0, hm1, hm2, hn, q⟩ := h
    refine ⟨_,
      (pss_cons
        (ps_set (i := 2) sc_law_scene.nd rfl (.inl rfl) (pe_call G_law_draw (hr.mono (by omega)) (by rfl) D_law_draw.g D_law_draw.fn.kp D_law_draw.b .nil pass0 (pa_cons (pv 0) (pa_cons pe_int pa_nil))))
      (pss_cons
        (ps_set (i := 3) sc_law_scene.nd rfl (.inr rfl) (pe_lst (pa_cons (pe_tup (pa_cons pe_str (pa_cons (pe_tup pa_nil) pa_nil))) (pa_cons (pe_tup (pa_cons pe_str (pa_cons (pe_tup (pa_cons (pe_tup (pa_cons pe_str (pa_cons pe_int pa_nil))) pa_nil)) pa_nil))) pa_nil))))
      (pss_cons
        (ps_for PassesOwn.never rfl (pi_range1 (by rfl) T.n_range (pa_cons (pe_op op_add pe_int (pe_call G_law_draw (hr.mono (by omega)) (by rfl) D_law_draw.g D_law_draw.fn.kp D_law_draw.b .nil pass0 (pa_cons (pv 0) (pa_cons (pv 1) pa_nil)))) pa_nil)) (pg_name (i := 4) sc_law_scene.nd rfl (.inl rfl))
          (pss_cons
            (ps_set (i := 5) sc_law_scene.nd rfl (.inl rfl) (pe_call G_law_some (hr.mono (by omega)) (by rfl) D_law_some.g D_law_some.fn.kp D_law_some.b .nil pass0 (pa_cons (pv 0) (pa_cons (pe_listRg rfl (by rfl) T.n_list (prg_2 (by rfl) T.n_range pe_int (pe_callB (r := rLen K) c_len (by rfl) T.n_len (by decide +kernel) (pa_cons (pv 3) pa_nil)))) (pa_cons (pe_call G_law_draw (hr.mono (by omega)) (by rfl) D_law_draw.g D_law_draw.fn.kp D_law_draw.b .nil pass0 (pa_cons (pv 0) (pa_cons pe_int pa_nil))) pa_nil)))))
          (pss_one
            (ps_expr (pe_call G_law_give (hr.mono (by omega)) (by rfl) D_law_give.g D_law_give.fn.kp D_law_give.b .nil pass0 (pa_cons (pv 3) (pa_cons (pe_tup (pa_cons pe_str (pa_cons (pv 5) (pa_cons pe_int (pa_cons (pe_call G_law_draw (hr.mono (by omega)) (by rfl) D_law_draw.g D_law_draw.fn.kp D_law_draw.b .nil pass0 (pa_cons (pv 0) (pa_cons (pe_op op_add (pe_op op_pow pe_int pe_int) pe_int) pa_nil))) pa_nil))))) pa_nil)))))))
      (pss_cons
        (ps_set (i := 6) sc_law_scene.nd rfl (.inl rfl) (pe_listRg rfl (by rfl) T.n_list (prg_1 (by rfl) T.n_range (pe_callB (r := rLen K) c_len (by rfl) T.n_len (by decide +kernel) (pa_cons (pv 3) pa_nil)))))
      (pss_cons
        (ps_if (pt_cmpR op_eq (pv 2) pe_int (nomark _))
          (pss_one
            (ps_setLc (i := 7) (own := [("_law_name", 9)]) (g := (gName 9)) rfl sc_law_scene.nd rfl rfl (sw_true rfl rfl rfl (by decide +kernel)) (pi_list (pv 6)) (blkOk_by (own := [("_law_name", 9)]) (N := N_law_scene) (sc := defScope s_law_scene) (by decide +kernel)) (fun _ _ _ _ _ => (pg_name (i := 9) sc_law_scene.nd rfl (.inl rfl))) (fun _ _ _ _ _ => (pts_one (pt_cmpR op_eq (pe_call G_law_draw (hr.mono (by omega)) (by rfl) D_law_draw.g D_law_draw.fn.kp D_law_draw.b .nil pass0 (pa_cons (pv 0) (pa_cons pe_int pa_nil))) pe_int (nomark _)))) (fun _ _ _ _ _ => (pv 9))))
          (pss_cons
            (ps_set (i := 8) sc_law_scene.nd rfl (.inr rfl) (pe_lc (own := [("_law_k", 4)]) (g := (gName 4)) rfl sc_law_scene.nd (pi_range1 (by rfl) T.n_range (pa_cons (pe_call G_law_draw (hr.mono (by omega)) (by rfl) D_law_draw.g D_law_draw.fn.kp D_law_draw.b .nil pass0 (pa_cons (pv 0) (pa_cons pe_int pa_nil))) pa_nil)) (blkOk_by (own := [("_law_k", 4)]) (N := N_law_scene) (sc := defScope s_law_scene) (by decide +kernel)) (fun _ _ _ _ _ => (pg_name (i := 4) sc_law_scene.nd rfl (.inl rfl))) (fun _ _ _ _ _ => pts_nil) (fun _ _ _ _ _ => (pe_call G_law_draw (hr.mono (by omega)) (by rfl) D_law_draw.g D_law_draw.fn.kp D_law_draw.b .nil pass0 (pa_cons (pv 0) (pa_cons (pe_op op_mul pe_int (pe_callB (r := rLen K) c_len (by rfl) T.n_len (by decide +kernel) (pa_cons (pv 3) pa_nil))) pa_nil))))))
          (pss_one
            (ps_setLc (i := 7) (own := [("_law_name", 9)]) (g := (gName 9)) rfl sc_law_scene.nd rfl rfl (sw_true rfl rfl rfl (by decide +kernel)) (pi_list (pv 6)) (blkOk_by (own := [("_law_name", 9)]) (N := N_law_scene) (sc := defScope s_law_scene) (by decide +kernel)) (fun _ _ _ _ _ => (pg_name (i := 9) sc_law_scene.nd rfl (.inl rfl))) (fun _ _ _ _ _ => (pts_one (pt_cmpR (r := rIn K true) op_notIn_seq (pv 9) (pv 8) rfl))) (fun _ _ _ _ _ => (pv 9))))))
      (pss_cons
        (ps_expr (pe_bm PySem.F.plainAttrs_list PySem.F.slot_list_append PySem.F.type_list_append mt_append (pv 7) (pa_cons (pe_op op_add pe_int (pe_call G_law_draw (hr.mono (by omega)) (by rfl) D_law_draw.g D_law_draw.fn.kp D_law_draw.b .nil pass0 (pa_cons (pv 0) (pa_cons (pe_op op_sub (pe_callB (r := rLen K) c_len (by rfl) T.n_len (by decide +kernel) (pa_cons (pv 3) pa_nil)) pe_int) pa_nil)))) pa_nil)))
      (pss_one
        (ps_ret (pe_tup (pa_cons (pv 3) (pa_cons (pe_callB (r := rSortS w) (c_sortS rfl) (by rfl) T.n_sorted (by decide +kernel) (pa_cons (pe_callTy (r := rSetL K w) (c_setL rfl) (by rfl) T.n_set (by decide +kernel) (pa_cons (pv 7) pa_nil)) pa_nil)) pa_nil)))))))))))
      , ?_⟩
    rw [show L2.start N_law_scene [V.ref d, nV m] = [some (.ref d), some (.int (m : Int)), none, none, none, none, none, none, none, none] from rfl]
    walk_at "x"
    refine w_draw D0 (by omega) (by decide) (by decide) fun pick H1 hpick D1 o1 => ?_
    have x1 := D0.kx D1 o1
    walk_at "g"
    refine w_new fun r0 H2 hr0 e2 k2 => ?_
    walk_at "g"
    refine w_new fun a0 H3 ha0 e3 k3 => ?_
    walk_at "g"
    refine w_new fun en H4 hen e4 k4 => ?_
    walk_at "g"
    refine w_new fun r1 H5 hr1 e5 k5 => ?_
    walk_at "g"
    refine w_new fun a1 H6 ha1 e6 k6 => ?_
    walk_at "g"
    refine w_new fun th H7 hth e7 k7 => ?_
    have k16 := Same.trans k2 (Same.trans k3 (Same.trans k4 (Same.trans k5 k6)))
    have k17 := Same.trans k16 k7
    have x7 : KX d H H7 := x1.trans (KX.of k17)
    have D7 : Deck H7 d c (n + 1) := D1.kp (M := []) (Kp.of k17) (by simp) (by simp)
    have hth1 : H1 th = none := k16.free hth
    have hth0 : H th = none := by
      cases e : H th with
      | none => rfl
      | some o =>
        by_cases htd : th = d
        · obtain ⟨⟨xs, e'⟩, _⟩ := D1.at
          rw [htd, e'] at hth1
          cases hth1
        · rw [o1.get htd e] at hth1
          cases hth1
    obtain ⟨thd, thc⟩ := D0.ne1 hth0
    have T7 : ThAt H7 th [(a0, Ct.leaf []), (a1, Ct.tree [("a", 0)])] := by
      refine ⟨e7, fun q hq => ?_⟩
      have hq' : q = (a0, Ct.leaf []) ∨ q = (a1, Ct.tree [("a", 0)]) := by simpa using hq
      rcases hq' with rfl | rfl
      · exact ⟨r0, k7 _ _ (k6 _ _ (k5 _ _ (k4 _ _ e3))), k7 _ _ (k6 _ _ (k5 _ _ (k4 _ _ (k3 _ _ e2))))⟩
      · exact ⟨r1, [(en, "a", 0)], k7 _ _ e6, k7 _ _ (k6 _ _ e5), rfl, fun z hz => by
          have : z = (en, (Str.ofString "a"), 0) := by simpa using hz
          subst this
          exact k7 _ _ (k6 _ _ (k5 _ _ e4))⟩
    have V7 : ScnV ([(a0, Ct.leaf []), (a1, Ct.tree [("a", 0)])].map (·.2)) := ⟨rfl, ⟨_, rfl, .inr rfl⟩, fun i c h2 hi => by
      have := (List.getElem?_eq_some_iff.mp hi).1
      simp only [List.length_map, List.length_cons, List.length_nil] at this
      omega, by simp⟩
    walk_at "g"
    refine w_draw D7 (by omega) (by omega) (by omega) fun many H8 hmany D8 o8 => ?_
    have x8 := x7.trans (D7.kx D8 o8)
    have T8 : ThAt H8 th _ := T7.kp (D7.kx D8 o8).p (D7.kx D8 o8).t (by simpa using thd)
    walk_at "g"
    try refine w_rng1' (by omega) (by omega) ?_
    refine lp_range (fun i σ H' => (∃ y1 y2 : Option V, σ = [some (.ref d), some (.int (m : Int)), some (.int (pick : Int)), some (.ref th), y1, y2, none, none, none, none]) ∧ KX d H H' ∧ Deck H' d c (n + 2 + 5 * i) ∧ ∃ cs : List (Addr × Ct), ThAt H' th cs ∧ ScnV (cs.map (·.2)) ∧ 2 ≤ cs.length ∧ cs.length ≤ 2 + i ∧ (1 ≤ i → 3 ≤ cs.length)) ⟨⟨_, _, rfl⟩, x8, D8, _, T8, V7, by simp, by simp, fun h => absurd h (by decide)⟩ ?_ ?_
    · rintro i σ H9 hi ⟨⟨y1, y2, rfl⟩, x9, D9, cs, T9, V9, hc2, hc3, hc4⟩
      have him : i ≤ 300 ∧ i < m := by omega
      have hth9 := T9.at'
      walk_at "g"
      have erg := rgV_nat (i := 2) (j := ((cs.map fun q => V.ref q.1).length : Int)) 2 cs.length rfl (by rw [List.length_map])
      refine ⟨⟨by omega, by omega, by omega, by rw [List.length_map]; omega, by rw [List.length_map]; omega⟩, ?_⟩
      refine w_new fun ln H10 hln e10 k10 => ?_
      rw [erg] at e10
      have D10 : Deck H10 d c (n + 2 + 5 * i) := D9.kp (M := []) (Kp.of k10) (by simp) (by simp)
      have hln9 : H9 ln = none := hln
      obtain ⟨lnd, lnc⟩ := D9.ne1 hln9
      walk_at "g"
      refine w_draw D10 (by omega) (by decide) (by decide) fun cnt H11 hcnt D11 o11 => ?_
      have e11 := o11.get lnd e10
      walk_at "g"
      refine ⟨d, c, ln, _, cnt, _, rfl, D11, by omega, e11, lnd, lnc, by rw [List.length_map, List.length_range]; omega, by omega, fun H12 tp ps D12 x12 e12 hup hpl hpm => ?_⟩
      have x9_12 : KX d H9 H12 := ((KX.of k10).trans (D10.kx D11 o11)).trans x12
      have T12 : ThAt H12 th cs := T9.kp x9_12.p x9_12.t (by simpa using thd)
      walk_at "g"
      refine w_draw D12 (by omega) (by decide) (by decide) fun st H13 hst D13 o13 => ?_
      have h18 : (10 : Int) ^ Int.toNat 18 = 1000000000000000000 := by decide
      have hst2 : st ≤ 10 ^ 18 := by
        have : (st : Int) < (10 : Int) ^ Int.toNat 18 + 1 := hst
        rw [h18] at this
        omega
      have x13 := D12.kx D13 o13
      have e13 := x13.t _ _ e12
      have T13 : ThAt H13 th cs := T12.kp x13.p x13.t (by simpa using thd)
      walk_at "g"
      refine w_new fun av H14 hav e14 k14 => ?_
      have T14 := T13.same k14
      have D14 : Deck H14 d c _ := D13.kp (M := []) (Kp.of k14) (by simp) (by simp)
      have x9_14 : KX d H9 H14 := (x9_12.trans x13).trans (KX.of k14)
      have hps : ∀ p ∈ ps, 2 ≤ p ∧ p < cs.length := fun p hp => by
        obtain ⟨k, hk, e⟩ := List.mem_map.mp (hpm p hp)
        rw [List.mem_range] at hk
        omega
      walk_at "g"
      refine ⟨th, av, cs, .ver ps 1 st, rfl, T14, V9.nd, ⟨tp, e14, k14 _ _ e13⟩, by omega, fun q hq => V9.txts _ (List.mem_map_of_mem hq), trivial, fun j b hj => ?_, fun hno H15 T15 o15 => ?_⟩
      · walk_at "g"
        refine ⟨⟨_, _, rfl⟩, x9.trans x9_14, D14.mono (by omega), cs, T14, V9, hc2, by omega, fun _ => ?_⟩
        have hj3 := (List.getElem?_eq_some_iff.mp hj).1
        match j, hj with
        | 0, hj =>
          have := V9.c0
          rw [List.getElem?_map, hj] at this
          cases this
        | 1, hj =>
          obtain ⟨es, this, _⟩ := V9.c1
          rw [List.getElem?_map, hj] at this
          cases this
        | j + 2, hj => omega
      · walk_at "g"
        refine ⟨⟨_, _, rfl⟩, (x9.trans x9_14).offN o15 hth0, (D14.kp (M := [th]) (o15.kp (by simp)) (by simpa using thd.symm) (by simpa using thc.symm)).mono (by omega), _, T15, ?_, by rw [List.length_append]; omega, by rw [List.length_append]; simp only [List.length_cons, List.length_nil]; omega, fun _ => by rw [List.length_append]; simp only [List.length_cons, List.length_nil]; omega⟩
        rw [List.map_append, List.map_cons, List.map_nil]
        have hl1 : (cs.map (·.2)).length = cs.length := List.length_map _
        refine ⟨by rw [List.getElem?_append_left (by omega)]; exact V9.c0, by obtain ⟨es, g1, g2⟩ := V9.c1; exact ⟨es, by rw [List.getElem?_append_left (by omega)]; exact g1, g2⟩, fun j c' hj2 hj => ?_, ?_⟩
        · by_cases hjl : j < cs.length
          · rw [List.getElem?_append_left (by omega)] at hj
            exact V9.vs j c' hj2 hj
          · have hj' := (List.getElem?_eq_some_iff.mp hj).1
            rw [List.length_append, hl1] at hj'
            simp only [List.length_cons, List.length_nil] at hj'
            have ej : j = cs.length := by omega
            rw [List.getElem?_append_right (by omega), hl1, ej, Nat.sub_self] at hj
            have : c' = .ver ps 1 st := by simpa using hj.symm
            exact ⟨ps, st, this, hup, by omega, fun p hp => by have := hps p hp; omega, hst2⟩
        · rw [List.nodup_append]
          refine ⟨V9.nd, by simp, fun x hx y hy e => ?_⟩
          obtain ⟨z, hz, rfl⟩ := List.mem_map.mp hx
          have e' : y = .ver ps 1 st := by simpa using hy
          rw [e'] at e
          exact hno z hz e
    · rintro σ H9 ⟨⟨y1, y2, rfl⟩, x9, D9, cs, T9, V9, hc2, hc3, hc4⟩
      have hi9 : ((1 : Int) + (many : Int)).toNat = many + 1 := by omega
      rw [hi9] at D9 hc3 hc4
      have hcl : 3 ≤ cs.length := hc4 (by omega)
      have hmany2 : many < m := by omega
      have hth9 := T9.at'
      walk_at "g"
      have erg := rgV_nat (i := 0) (j := ((cs.map fun q => V.ref q.1).length : Int)) 0 cs.length rfl (by rw [List.length_map])
      refine ⟨⟨by omega, by omega, by omega, by rw [List.length_map]; omega, by rw [List.length_map]; omega⟩, ?_⟩
      refine w_new fun ln H10 hln e10 k10 => ?_
      rw [erg] at e10
      generalize hnm : ((List.range (cs.length - 0)).map fun k => 0 + k) = nm at e10
      have hnml : nm.length = cs.length := by rw [← hnm, List.length_map, List.length_range]; omega
      have hnmm : ∀ x ∈ nm, x < cs.length := fun x hx => by
        rw [← hnm] at hx
        obtain ⟨k, hk, e⟩ := List.mem_map.mp hx
        rw [List.mem_range] at hk
        omega
      have D10 : Deck H10 d c _ := D9.kp (M := []) (Kp.of k10) (by simp) (by simp)
      have hln9 : H9 ln = none := hln
      obtain ⟨lnd, lnc⟩ := D9.ne1 hln9
      have T10 := T9.same k10
      have x10 : KX d H H10 := x9.trans (KX.of k10)
      walk_at "g"
      refine w_seqJ (fun σ' H' => ∃ (hd : Addr) (y8 : Option V) (hv : List Nat), σ' = [some (.ref d), some (.int (m : Int)), some (.int (pick : Int)), some (.ref th), y1, y2, some (.ref ln), some (.ref hd), y8, none] ∧ KX d H10 H' ∧ H10 hd = none ∧ Deck H' d c (n + 2 + 5 * (many + 1) + cs.length + 4) ∧ H' hd = some (.lst (hv.map nV)) ∧ hv.length ≤ cs.length ∧ ∀ x ∈ hv, x < cs.length) ?_ ?_
      · rintro σ' H11 ⟨hd, y8, hv, rfl, x11, hhd, D11, e11, hvl, hvm⟩
        have T11 : ThAt H11 th cs := T10.kp x11.p x11.t (by simpa using thd)
        have hth11 := T11.at'
        obtain ⟨hdd, hdc⟩ := D10.ne1 hhd
        walk_at "g"
        refine w_draw D11 (by omega) (by rw [List.length_map]; omega) (by rw [List.length_map]; omega) fun r H12 hr12 D12 o12 => ?_
        rw [List.length_map] at hr12
        have e12 := o12.get hdd e11
        have x12 := x11.trans (D11.kx D12 o12)
        walk_at "g"
        refine w_app e12 (by rw [List.length_map]; exact small1kl (by omega)) fun H13 e13 o13 => ?_
        have hdT : H10 hd = none := hhd
        have x13 : KX d H10 H13 := x12.offN o13 hhd
        have D13 : Deck H13 d c _ := D12.kp (M := [hd]) (o13.kp (by simp)) (by simpa using hdd.symm) (by simpa using hdc.symm)
        have e13' : H13 hd = some (.lst (((hv ++ [2 + r]).map fun n : Nat => (n : Int)).map V.int)) := by
          rw [e13, ← nV_map, List.map_append, List.map_cons, List.map_nil]
          rw [show (nV (2 + r)) = V.int (2 + (r : Int)) by show V.int ((2 + r : Nat) : Int) = _; rw [show ((2 + r : Nat) : Int) = 2 + (r : Int) by omega]]
        walk_at "g"
        refine w_setOf (.of e13') (by rw [List.length_map, List.length_append]; simp only [List.length_cons, List.length_nil]; omega) fun st c3 H14 hst hc e14 k14 => ?_
        walk_at "g"
        refine w_sortS e14 (by rw [List.length_map, List.length_append] at hc; simp only [List.length_cons, List.length_nil] at hc; omega) fun ys hl H15 hup hmem hhl e15 k15 => ?_
        obtain ⟨hs, rfl⟩ := ints_nats (zs := ys) fun z hz => by
          have := of_decide_eq_true ((hmem z).mp hz)
          obtain ⟨n, _, rfl⟩ := List.mem_map.mp this
          omega
        have hmem2 : ∀ x, x ∈ hs ↔ x ∈ hv ++ [2 + r] := fun x => by
          rw [← int_mem, hmem x, decide_eq_true_iff, int_mem]
        have hup2 : hs.Pairwise (· < ·) := by
          rw [List.pairwise_map] at hup
          exact hup.imp fun {a b} h => by omega
        walk_at "g"
        refine w_new fun t H16 ht e16 k16' => ?_
        have k1316 := Same.trans k14 (Same.trans k15 k16')
        have x16 : KX d H10 H16 := x13.trans (KX.of k1316)
        have T16 : ThAt H16 th cs := T10.kp x16.p x16.t (by simpa using thd)
        have hhl13 : H13 hl = none := k14.free hhl
        have hhl0 : H hl = none := by
          cases e : H hl with
          | none => rfl
          | some o =>
            by_cases hld : hl = d
            · obtain ⟨⟨xs, e'⟩, _⟩ := D13.at
              rw [hld, e'] at hhl13
              cases hhl13
            · rw [(x10.trans x13).p _ _ (by simpa using hld) e] at hhl13
              cases hhl13
        refine q H16 t th hl cs hs ((D13.kp (M := []) (Kp.of k1316) (by simp) (by simp)).mono (by omega)) (x10.trans x16) hth0 hhl0 e16 T16 (by rw [k16' _ _ e15, nV_map]) V9 hcl (by omega) hup2 (fun x hx => ?_) ⟨2 + r, (hmem2 _).mpr (by simp), by omega⟩
        rcases List.mem_append.mp ((hmem2 x).mp hx) with h | h
        · exact hvm x h
        · have : x = 2 + r := by simpa using h
          omega
      · intro U hU
        walk_at "g"
        refine w_ite (fun h0 => ?_) (fun h0 => ?_)
        · walk_at "g"
          refine lcp_some (walk_list (K := K) (a := ln) (xs := nm.map nV)) [d] (fun y => ∃ x : Nat, x < cs.length ∧ y = nV x) (fun i H' => Deck H' d c (n + 2 + 5 * (many + 1) + i) ∧ KX d H10 H') (by rw [List.length_map]; omega) (fun D hD i H1' o z => ⟨z.1.mut (D10.ne1 hD).1 (D10.ne1 hD).2, z.2.offN (fun x hx => upd_ne hx) hD⟩) (fun i H' k _ => .of (k _ _ (by simpa using lnd) e10)) ⟨D10, KX.refl⟩ ?_ (fun b hb => by
            have : b = d := by simpa using hb
            subst this
            obtain ⟨⟨xs, e'⟩, _⟩ := D10.at
            exact ⟨_, e'⟩) ?_
          · rintro i y H11 H12 R R0 hi k11 ⟨D11, x11⟩ ⟨rfl, hy⟩ hR hR0
            obtain ⟨x, hx, rfl⟩ := map_at hy
            rw [List.length_map] at hi
            refine w_name ⟨rfl, ?_⟩
            walk_at "g"
            refine w_draw D11 (by omega) (by decide) (by decide) fun r H13 hr13 D13 o13 => ?_
            have x13 := x11.trans (D11.kx D13 o13)
            walk_at "g"
            refine w_ite (fun h1 => ?_) (fun h1 => ?_)
            · walk_at "g"
              exact hR _ _ ⟨x, hnmm x (List.mem_of_getElem? hx), rfl⟩ (o13.kp (by simp)) ⟨D13, x13⟩
            · exact hR0 _ (o13.kp (by simp)) ⟨D13, x13⟩
          · intro D H11 ys hyl hyp hD k11 ⟨D11, x11⟩ eD
            walk_at "g"
            obtain ⟨hv, rfl⟩ := nats_of fun y hy => by
              obtain ⟨x, _, e⟩ := hyp y hy
              exact ⟨x, e⟩
            refine hU _ _ ⟨D, _, hv, rfl, x11, hD, D11.mono (by rw [List.length_map]; omega), eD, by rw [List.length_map, List.length_map] at hyl; omega, fun x hx => ?_⟩
            obtain ⟨x', hx', e⟩ := hyp (nV x) (List.mem_map_of_mem hx)
            have : (x : Int) = x' := V.int.inj e
            omega
        · walk_at "g"
          refine w_draw D10 (by omega) (by decide) (by decide) fun r H11 hr11 D11 o11 => ?_
          have x11 := D10.kx D11 o11
          have T11 : ThAt H11 th cs := T10.kp x11.p x11.t (by simpa using thd)
          have hth11 := T11.at'
          walk_at "g"
          try refine w_rng1' (by omega) (by omega) ?_
          refine lcp_gen (walk_range (lo := 0) (n := ((r : Int)).toNat)) [d] (fun i y _ => ∃ x : Nat, y = nV x) (fun i H' => Deck H' d c (n + 2 + 5 * (many + 1) + 1 + i) ∧ KX d H11 H') (by omega) (fun _ _ _ _ _ h => h) (fun D hD i H1' o z => ⟨z.1.mut (D11.ne1 hD).1 (D11.ne1 hD).2, z.2.offN (fun x hx => upd_ne hx) hD⟩) (fun _ _ _ _ => trivial) ⟨D11, KX.refl⟩ ?_ (fun b hb => by
            have : b = d := by simpa using hb
            subst this
            obtain ⟨⟨xs, e'⟩, _⟩ := D11.at
            exact ⟨_, e'⟩) ?_
          · rintro i y H12 H13 R hi k12 t12 ⟨D12, x12⟩ ⟨rfl, rfl⟩ hR
            have T12 := T11.kp (M := [d]) x12.p x12.t (by simpa using thd)
            have hth12 := T12.at'
            refine w_name ⟨rfl, ?_⟩
            walk_at "g"
            refine w_draw D12 (by omega) (by rw [List.length_map]; omega) (by rw [List.length_map]; omega) fun r2 H14 hr14 D14 o14 => ?_
            exact hR _ _ ⟨r2, rfl⟩ (o14.kp (by simp)) (D12.kx D14 o14).t ⟨D14, x12.trans (D12.kx D14 o14)⟩
          · intro L H12 ys hyl hyp hL k12 t12 ⟨D12, x12⟩ eL
            obtain ⟨gl, rfl⟩ := nats_of fun y hy => by
              obtain ⟨i, hi, e⟩ := List.getElem_of_mem hy
              exact hyp i y (by rw [List.getElem?_eq_getElem hi, e])
            have x1012 := x11.trans x12
            have e12 := x1012.p _ _ (by simpa using lnd) e10
            walk_at "g"
            refine lcp_some (walk_list (K := K) (a := ln) (xs := nm.map nV)) [] (fun y => ∃ x : Nat, x < cs.length ∧ y = nV x) (fun i H' => True) (by rw [List.length_map]; omega) (fun D hD i H1' o z => trivial) (fun i H' k _ => .of (k _ _ (by simp) e12)) trivial ?_ (by simp) ?_
            · rintro i y H13 H14 R R0 hi k13 _ ⟨rfl, hy⟩ hR hR0
              obtain ⟨x, hx, rfl⟩ := map_at hy
              have eL13 := k13.same _ _ eL
              refine w_name ⟨rfl, ?_⟩
              walk_at "g"
              refine w_ninNL eL13 ?_
              walk_at "g"
              by_cases hxg : x ∈ gl
              rotate_left
              · rw [decide_eq_false hxg]
                walk_at "g"
                exact hR _ _ ⟨x, hnmm x (List.mem_of_getElem? hx), rfl⟩ Kp.refl trivial
              · rw [decide_eq_true hxg]
                walk_at "g"
                exact hR0 _ Kp.refl trivial
            · intro D H13 ys hyl2 hyp2 hD k13 _ eD
              walk_at "g"
              obtain ⟨hv, rfl⟩ := nats_of fun y hy => by
                obtain ⟨x, _, e⟩ := hyp2 y hy
                exact ⟨x, e⟩
              have hD10 : H10 D = none := by
                cases e : H10 D with
                | none => rfl
                | some o =>
                  by_cases hDd : D = d
                  · obtain ⟨⟨xs, e'⟩, _⟩ := D12.at
                    rw [hDd, e'] at hD
                    cases hD
                  · rw [x1012.p _ _ (by simpa using hDd) e] at hD
                    cases hD
              refine hU _ _ ⟨D, _, hv, rfl, x1012.trans (KX.of k13.same), hD10, (D12.kp (M := []) k13 (by simp) (by simp)).mono (by omega), eD, by rw [List.length_map, List.length_map] at hyl2; omega, fun x hx => ?_⟩
              obtain ⟨x', hx', e⟩ := hyp2 (nV x) (List.mem_map_of_mem hx)
              have : (x : Int) = x' := V.int.inj e
              omega
end
/-! ### way -/
def AbAt (H : Hp) (ab : Addr) (cs : List (Addr × Ct)) (hs : List Nat) (new c : Nat) (F : Nat → Prop) : Prop := ∃ (fk : List (Key × V)) (ks : List Int), H ab = some (.dK fk) ∧ fk.map (·.1) = ks.map (Sum.inl : Int → Key) ∧ ks.Nodup ∧ (∀ k ∈ ks, 0 ≤ k ∧ k < 1000) ∧ (∀ n : Nat, (n : Int) ∈ ks ↔ F n) ∧ ks.length = c ∧
  valV fk (Sum.inl (new : Int)) = some .non ∧ ∀ p, F p → p ≠ new → ∃ v, F v ∧ valV fk (Sum.inl (p : Int)) = some (nV v) ∧ p ∈ hpar cs hs v
theorem AbAt.f {H : Hp} {ab : Addr} {cs : List (Addr × Ct)} {hs : List Nat} {new c : Nat} {F : Nat → Prop} (h : AbAt H ab cs hs new c F) : FAt H ab F := by
  obtain ⟨fk, ks, h1, h2, h3, h4, h5, _⟩ := h
  exact ⟨fk, ks, h1, h2, h3, h4, h5⟩
theorem AbAt.kp {M : List Addr} {H H' : Hp} {ab : Addr} {cs : List (Addr × Ct)} {hs : List Nat} {new c : Nat} {F : Nat → Prop} (h : AbAt H ab cs hs new c F) (k : Kp M H H') (n : ab ∉ M) : AbAt H' ab cs hs new c F := by
  obtain ⟨fk, ks, h1, h2⟩ := h
  exact ⟨fk, ks, k _ _ n h1, h2⟩
theorem AbAt.few {H : Hp} {ab : Addr} {cs : List (Addr × Ct)} {hs : List Nat} {new c : Nat} {F : Nat → Prop} (h : AbAt H ab cs hs new c F) : c ≤ 1000 := by
  obtain ⟨fk, ks, h1, h2, h3, h4, h5, h6, _⟩ := h
  rw [← h6]
  exact few_keys h3 h4
theorem w_abput {H : Hp} {ab : Addr} {cs : List (Addr × Ct)} {hs : List Nat} {new c p v : Nat} {F : Nat → Prop} {R : Hp → Prop} (h1 : AbAt H ab cs hs new c F) (hp : p < 1000) (hF : ¬ F p) (hv : F v) (hpar' : p ∈ hpar cs hs v) (h : ∀ H1, AbAt H1 ab cs hs new (c + 1) (fun m => F m ∨ m = p) → Off ab H H1 → R H1) : rDPut (.ref ab) (nV p) (nV v) H R := by
  obtain ⟨fk, ks, e, hk, nd, hb, hm, hc, hn, hval⟩ := h1
  have hfl : fk.length = ks.length := by rw [← List.length_map (f := (·.1)), hk, List.length_map]
  have := few_keys nd hb
  have hpk : ¬ (p : Int) ∈ ks := fun z => hF ((hm p).mp z)
  have hadd : addK ks (p : Int) = ks ++ [(p : Int)] := by unfold addK; rw [if_neg hpk]
  have hnk : (new : Int) ∈ ks := by
    refine Classical.byContradiction fun z => ?_
    have := val_keys hk (new : Int)
    rw [hn, decide_eq_false z] at this
    cases this
  have hnew : new ≠ p := fun z => hpk (by rw [← z]; exact hnk)
  refine w_dputI e (by rw [hfl]; exact small1kl this) fun H1 e1 o1 => h H1 ⟨_, _, e1, putK_keys hk, nd_addK nd, fun k hk' => ?_, fun m => ?_, ?_, ?_, fun m hm' hmn => ?_⟩ o1
  · rcases mem_addK.mp hk' with h | h
    · exact hb k h
    · omega
  · rw [mem_addK, hm]
    constructor
    · rintro (h | h)
      · exact .inl h
      · exact .inr (by omega)
    · rintro (h | h)
      · exact .inl h
      · exact .inr (by omega)
  · rw [hadd, List.length_append, hc]
    rfl
  · rw [valV_put, if_neg (fun z => hnew (by have := Sum.inl.inj z; omega))]
    exact hn
  · rw [valV_put]
    by_cases hmp : m = p
    · subst hmp
      exact ⟨v, .inl hv, by rw [if_pos rfl], hpar'⟩
    · rcases hm' with hm' | hm'
      · obtain ⟨u, hu, h2, h3⟩ := hval m hm' hmn
        exact ⟨u, .inl hu, by rw [if_neg (fun z => hmp (by have := Sum.inl.inj z; omega))]; exact h2, h3⟩
      · exact absurd hm' hmp
theorem WalkP.one {cs : List (Addr × Ct)} {hs : List Nat} {n : Nat} : WalkP cs hs n n [n] := ⟨rfl, rfl, fun i x y _ hy => by simp at hy⟩
theorem WalkP.up {cs : List (Addr × Ct)} {hs : List Nat} {old y v : Nat} {ns : List Nat} (h : WalkP cs hs old y ns) (e : y ∈ hpar cs hs v) : WalkP cs hs old v (v :: ns) := by
  obtain ⟨h1, h2, h3⟩ := h
  have hpos := (List.getElem?_eq_some_iff.mp h1).1
  refine ⟨rfl, ?_, fun i a b ha hb => ?_⟩
  · rw [List.length_cons, Nat.add_sub_cancel]
    cases ns with
    | nil => simp at hpos
    | cons z r =>
      rw [List.length_cons] at h2 ⊢
      rw [List.getElem?_cons_succ]
      exact h2
  · cases i with
    | zero =>
      have e1 : v = a := by simpa using ha
      have e2 : ns[0]? = some b := by simpa using hb
      rw [h1] at e2
      cases e2
      rw [← e1]
      exact e
    | succ i => exact h3 i a b (by simpa using ha) (by simpa using hb)
theorem w_neNilN {K : PySem.W.Frag} {H : Hp} {Q : VK} {a z : Addr} {ns : List Nat} (h1 : H a = some (.lst (ns.map nV))) (h2 : H z = some (.lst [])) (h : Q (.bl (!decide (ns = []))) H) : rNeD K (.ref a) (.ref z) H Q := by
  refine ⟨.list (ns.map fun n : Nat => PyData.int (n : Int)), .list [], .lst (.of h1) (dp_nats ns), .lst (.of h2) .nil, ?_, by decide, ?_⟩
  · obtain ⟨g1, g2⟩ := nats_lay ns
    unfold SeqAt.shaped
    rw [Bool.and_eq_true_iff]
    refine ⟨by rw [PyData.canLay0]; exact g1, decide_eq_true ?_⟩
    rw [PyData.depth]
    omega
  · have e : PyData.eqv (.list (ns.map fun n : Nat => PyData.int (n : Int))) (.list []) = decide (ns = []) := by
      rw [PyData.eqv]
      exact nats_eqv ns []
    rw [e]
    exact h
def spWay (P : Program) (w : World) (C CH : Addr) : Sp := fun vs H Q _ => ∃ (v : Addr) (cs : List (Addr × Ct)) (hs : List Nat) (old new : Nat), vs = [.ref v, nV old, nV new] ∧ Vw P w C CH H v cs hs ∧ BkOk cs ∧ isV cs new ∧ cs.length ≤ 999 ∧
  (Rch cs hs new old → ∀ (H' : Hp) (t r : Addr) (ns : List Nat), Same H H' → H' t = some (.tup [.str "ahead", .ref r]) → H' r = some (.tup (ns.map nV)) → WalkP cs hs old new ns → ns.length ≤ 1000 → Q (.ref t) H') ∧
  (¬ Rch cs hs new old → ∀ (H' : Hp) (t r e : Addr) (ns : List Nat), Same H H' → H' t = some (.tup [.str "apart", .ref r, .ref e]) → H' r = some (.tup (ns.map nV)) → H' e = some (.tup ((edgs cs hs ns).map nV)) → ns.Pairwise (· < ·) → (∀ n, n ∈ ns ↔ Rch cs hs new n) → ns.length ≤ 1000 → Q (.ref t) H')
section
variable {P : Program} {w : World} {K : PySem.W.Frag} {mg : Str → Option Value} {base : Heap} {C CH : Addr}
theorem ok_way {f fO fE : Addr} {fd fdO fdE : FuncData} (T : Txt K mg) (F : Fun K "way" "way" s_way f fd) (D_held_parents : Df K mg "held_parents" s_held_parents ["view", "version"] fO fdO) (G_held_parents : FnOk P w K mg base CX0 5 fO fdO ["view", "version"] (spHeldParents P w C CH))
    (D_edges_of : Df K mg "edges_of" s_edges_of ["view", "versions"] fE fdE) (G_edges_of : FnOk P w K mg base CX0 6 fE fdE ["view", "versions"] (spEdgesOf P w C CH)) : FnOk P w K mg base CX0 7 f fd ["view", "old", "new"] (spWay P w C CH) := by
  refine F.ok sc_way (fun vs H Q E h => ?_) (fun cdv A outer s H vs Q E hr h => ?_)
  · obtain ⟨v, cs, hs, old, new, rfl, _⟩ := h
    rfl
  · obtain ⟨v, cs, hs, old, new, rfl, W, ok, iv, hcl, q1, q2⟩ := h
    have hu := hu_of hr
    have hnl := iv.lt
    refine ⟨_,
      (pss_cons
        (ps_set (i := 3) sc_way.nd rfl (.inl rfl) (pe_disp (pps_cons (pv 2) pe_non pps_nil) (by rfl) (by rfl) (fun z => by cases z) (by decide)))
      (pss_cons
        (ps_set (i := 4) sc_way.nd rfl (.inl rfl) (pe_lst (pa_cons (pv 2) pa_nil)))
      (pss_cons
        (ps_while PassesOwn.never (pt_cmpR (r := rNeD K) (op_neD hr.units) (pv 4) (pe_lst pa_nil) (nomark _))
          (pss_cons
            (ps_set (i := 5) sc_way.nd rfl (.inl rfl) (pe_bm0 PySem.F.plainAttrs_list PySem.F.slot_list_pop PySem.F.type_list_pop mt_pop (pv 4)))
          (pss_one
            (ps_for PassesOwn.never rfl (pi_list (pe_call G_held_parents (hr.mono (by omega)) (by rfl) D_held_parents.g D_held_parents.fn.kp D_held_parents.b .nil pass0 (pa_cons (pv 0) (pa_cons (pv 5) pa_nil)))) (pg_name (i := 6) sc_way.nd rfl (.inl rfl))
              (pss_one
                (ps_if (pt_cmp (pc_dnotin hu (pv 6) (pv 3)))
                  (pss_cons
                    (ps_dput hu (pv 3) (pv 6) (pv 5) rfl)
                  (pss_one
                    (ps_expr (pe_bm PySem.F.plainAttrs_list PySem.F.slot_list_append PySem.F.type_list_append mt_append (pv 4) (pa_cons (pv 6) pa_nil)))))
                  pss_nil))))))
      (pss_cons
        (ps_if (pt_cmp (pc_dnotin hu (pv 1) (pv 3)))
          (pss_cons
            (ps_set (i := 7) sc_way.nd rfl (.inl rfl) (pe_callTy (r := rTupOf K) c_tupOf (by rfl) T.n_tuple (by decide +kernel) (pa_cons (pe_callB (c_sortA rfl) (by rfl) T.n_sorted (by decide +kernel) (pa_cons (pv 3) pa_nil)) pa_nil)))
          (pss_one
            (ps_ret (pe_tup (pa_cons pe_str (pa_cons (pv 7) (pa_cons (pe_call G_edges_of (hr.mono (by omega)) (by rfl) D_edges_of.g D_edges_of.fn.kp D_edges_of.b .nil pass0 (pa_cons (pv 0) (pa_cons (pv 7) pa_nil))) pa_nil)))))))
          pss_nil)
      (pss_cons
        (ps_set (i := 8) sc_way.nd rfl (.inl rfl) (pe_lst pa_nil))
      (pss_cons
        (ps_set (i := 5) sc_way.nd rfl (.inl rfl) (pv 1))
      (pss_cons
        (ps_while PassesOwn.never (pt_cmpR o_notN (pv 5) pe_non (nomark _))
          (pss_cons
            (ps_expr (pe_bm PySem.F.plainAttrs_list PySem.F.slot_list_append PySem.F.type_list_append mt_append (pv 8) (pa_cons (pv 5) pa_nil)))
          (pss_one
            (ps_set (i := 5) sc_way.nd rfl (.inl rfl) (pe_dget hu (pv 3) (pv 5) (fun _ _ => rfl))))))
      (pss_one
        (ps_ret (pe_tup (pa_cons pe_str (pa_cons (pe_callTy (r := rTupOf K) c_tupOf (by rfl) T.n_tuple (by decide +kernel) (pa_cons (pe_revL (pv 8) (pe_un un_neg pe_int)) pa_nil)) pa_nil))))))))))))
      , ?_⟩
    rw [show L2.start N_way [V.ref v, nV old, nV new] = [some (.ref v), some (.int (old : Int)), some (.int (new : Int)), none, none, none, none, none, none] from rfl]
    walk_at "x"
    refine w_disp fun ab H1 hab e1 k1 => ?_
    walk_at "g"
    refine w_dispE [(Sum.inl (new : Int), .non)] e1 rfl (show (1 : Nat) ≤ 15 by decide) fun H2 e2 o2 => ?_
    have s2 : Same H H2 := fun b o e => o2.get (ne_of_none e hab) (k1 _ _ e)
    walk_at "g"
    refine w_new fun rw' H3 hrw e3 k3 => ?_
    have s3 := Same.trans s2 k3
    have hrw0 : H rw' = none := s2.free hrw
    have nrw : rw' ≠ ab := (ne_of_none e2 hrw).symm
    have A3 : AbAt H3 ab cs hs new 1 (fun m => m = new) := ⟨_, [(new : Int)], k3 _ _ e2, rfl, by simp, fun k hk => by
      have : k = new := by simpa using hk
      omega, fun m => by simp; omega, rfl, valV_pos rfl, fun p hp hne => absurd hp hne⟩
    walk_at "g"
    refine w_whileN (fun m σ H' => ∃ (y5 y6 : Option V) (c : Nat) (F : Nat → Prop) (rs : List Nat), σ = [some (.ref v), some (.int (old : Int)), some (.int (new : Int)), some (.ref ab), some (.ref rw'), y5, y6, none, none] ∧ Same H H' ∧ AbAt H' ab cs hs new c F ∧ H' rw' = some (.lst (rs.map nV)) ∧ F new ∧ (∀ n, F n → Rch cs hs new n) ∧ (∀ n ∈ rs, F n) ∧ (∀ n, F n → n ∈ rs ∨ ∀ p ∈ hpar cs hs n, F p) ∧ m = 2 * (1000 - c) + rs.length ∧ m ≤ 2000) (2 * (1000 - 1) + 1) ⟨_, _, 1, _, [new], rfl, s3, A3, e3, rfl, fun n e => by rw [e]; exact .refl, fun n hn => by simpa using hn, fun n e => .inl (by simp [e]), rfl, by omega⟩ ?_
    rintro m σ H4 ⟨y5, y6, c, F, rs, rfl, s4, A4, e4, hFn, hFR, hrs, hcl4, hm, hrc⟩
    walk_at "g"
    refine w_new fun z H5 hz ez k5 => ?_
    have s5 := Same.trans s4 k5
    have A5 := A4.kp (M := []) (Kp.of k5) (by simp)
    have e5 := k5 _ _ e4
    refine w_neNilN e5 ez ?_
    walk_at "g"
    by_cases hrs0 : rs = []
    rotate_left
    · obtain ⟨rs', x, rfl⟩ : ∃ rs' x, rs = rs' ++ [x] := ⟨rs.dropLast, rs.getLast hrs0, (List.dropLast_concat_getLast hrs0).symm⟩
      rw [decide_eq_false hrs0]
      walk_at "g"
      refine w_turn ?_
      have hFx := hrs x (by simp)
      rw [List.map_append] at e5
      walk_at "g"
      refine w_pop e5 fun H6 e6 o6 => ?_
      have s6 : Same H H6 := fun b o e => o6.get (ne_of_none e hrw0) (s5 _ _ e)
      have A6 := A5.kp (M := [rw']) (o6.kp (by simp)) (by simpa using nrw.symm)
      have ivx := ((hFR x hFx).isV ok iv)
      obtain ⟨dv, p, dx, lc, ld, lg, rw2, hd, ds, W6⟩ := W.same s6
      walk_at "g"
      refine ⟨v, dv, p, dx, lc, ld, lg, rw2, hd, cs, ds, hs, x, rfl, W6, ok, ivx.1, fun H7 l k7 hl7 e7 => ?_⟩
      have A7 := A6.kp (M := []) (Kp.of k7) (by simp)
      have e7r := k7 _ _ e6
      have s7 := Same.trans s6 k7
      have lne1 : l ≠ rw' := (ne_of_none e6 hl7).symm
      have lne2 : l ≠ ab := by
        obtain ⟨fk, efk⟩ := A6.f.obj
        exact (ne_of_none efk hl7).symm
      rw [List.length_append, List.length_cons, List.length_nil] at hm
      walk_at "g"
      refine lp_list (xs := (hpar cs hs x).map nV) (fun j σ H' => ∃ (y6 : Option V) (c' : Nat) (F' : Nat → Prop) (rs2 : List Nat), σ = [some (.ref v), some (.int (old : Int)), some (.int (new : Int)), some (.ref ab), some (.ref rw'), some (.int (x : Int)), y6, none, none] ∧ Kp [ab, rw'] H7 H' ∧ AbAt H' ab cs hs new c' F' ∧ H' rw' = some (.lst (rs2.map nV)) ∧ (∀ n, F n → F' n) ∧ (∀ n, F' n → Rch cs hs new n) ∧ (∀ p ∈ (hpar cs hs x).take j, F' p) ∧ (∀ n ∈ rs2, F' n) ∧ (∀ n, F' n → F n ∨ n ∈ rs2) ∧ (∀ n ∈ rs', n ∈ rs2) ∧ 2 * (1000 - c') + rs2.length ≤ 2 * (1000 - c) + rs'.length) ⟨_, c, F, rs', rfl, Kp.refl, A7, e7r, fun _ h => h, hFR, by simp, fun n hn => hrs n (by simp [hn]), fun n h => .inl h, fun n h => h, Nat.le_refl _⟩ (fun j σ H' _ ⟨_, _, _, _, _, k, _⟩ => .of (k _ _ (by simp only [List.mem_cons, List.not_mem_nil, or_false, not_or]; exact ⟨lne2, lne1⟩) e7)) ?_ ?_
      · rintro j y σ H8 hy ⟨y6, c', F', rs2, rfl, k8, A8, e8, h81, h82, h83, h84, h85, h86, h87⟩
        obtain ⟨p, hp, rfl⟩ := map_at hy
        have hpm := List.mem_of_getElem? hp
        have hpx := (ok.par x p (hpar_par hpm).1)
        have hpl := hpx.1.lt
        walk_at "g"
        refine w_fnin A8.f (fun p' e hF => ?_) fun hF => ?_
        · have : p' = p := by omega
          subst this
          walk_at "g"
          refine ⟨_, c', F', rs2, rfl, k8, A8, e8, h81, h82, fun z hz => ?_, h84, h85, h86, h87⟩
          rw [List.take_add_one, hp] at hz
          rcases List.mem_append.mp hz with hz | hz
          · exact h83 z hz
          · have : z = p' := by simpa using hz
            rw [this]
            exact hF
        · have hFp : ¬ F' p := hF p rfl
          walk_at "g"
          refine w_abput A8 (by omega) hFp (h81 x hFx) hpm fun H9 A9 o9 => ?_
          have e9 := o9.get nrw e8
          have hc9 := A9.few
          walk_at "g"
          refine w_app e9 (by rw [List.length_map]; exact Nat.lt_of_le_of_lt (show rs2.length ≤ 2000 by omega) (by decide)) fun H10 e10 o10 => ?_
          have A10 := A9.kp (M := [rw']) (o10.kp (by simp)) (by simpa using nrw.symm)
          walk_at "g"
          refine ⟨_, c' + 1, _, rs2 ++ [p], rfl, k8.trans ((o9.kp (by simp)).trans (o10.kp (by simp))), A10, by rw [e10, List.map_append]; rfl, fun n h => .inl (h81 n h), ?_, fun z hz => ?_, fun n hn => ?_, ?_, fun n hn => by simp [h86 n hn], by rw [List.length_append, List.length_cons, List.length_nil]; omega⟩
          · rintro n (h | h)
            · exact h82 n h
            · rw [h]
              exact .step (hFR x hFx) hpm
          · rw [List.take_add_one, hp] at hz
            rcases List.mem_append.mp hz with hz | hz
            · exact .inl (h83 z hz)
            · exact .inr (by simpa using hz)
          · rcases List.mem_append.mp hn with hn | hn
            · exact .inl (h84 n hn)
            · exact .inr (by simpa using hn)
          · rintro n (h | h)
            · rcases h85 n h with h | h
              · exact .inl h
              · exact .inr (by simp [h])
            · exact .inr (by simp [h])
      · rintro σ H8 ⟨y6, c', F', rs2, rfl, k8, A8, e8, h81, h82, h83, h84, h85, h86, h87⟩
        rw [List.length_map, List.take_length] at h83
        walk_at "g"
        have s8 : Same H H8 := fun b o e => k8 _ _ (by simp only [List.mem_cons, List.not_mem_nil, or_false, not_or]; exact ⟨ne_of_none e hab, ne_of_none e hrw0⟩) (s7 _ _ e)
        refine ⟨2 * (1000 - c') + rs2.length, by omega, _, _, c', F', rs2, rfl, s8, A8, e8, h81 new hFn, h82, h84, fun n hn => ?_, rfl, by omega⟩
        rcases h85 n hn with h | h
        · rcases hcl4 n h with h | h
          · rcases List.mem_append.mp h with h | h
            · exact .inl (h86 n h)
            · have : n = x := by simpa using h
              rw [this]
              exact .inr h83
          · exact .inr fun p hp => h81 p (h p hp)
        · exact .inl h
    · subst hrs0
      have FR : ∀ n, F n ↔ Rch cs hs new n := fun n => ⟨hFR n, fun h => by
        induction h with
        | refl => exact hFn
        | step _ e ih => exact (hcl4 _ ih).elim (fun z => by cases z) fun z => z _ e⟩
      rw [decide_eq_true rfl]
      walk_at "g"
      refine w_seq ?_
      walk_at "g"
      refine w_fnin A5.f (fun old' e hF => ?_) fun hF => ?_
      · have : old' = old := by omega
        subst this
        walk_at "g"
        refine w_new fun wk H6 hwk e6 k6 => ?_
        have s6 := Same.trans s5 k6
        have hwk0 : H wk = none := s5.free hwk
        have A6 := A5.kp (M := []) (Kp.of k6) (by simp)
        have nwk : wk ≠ ab := by
          obtain ⟨fk, efk⟩ := A5.f.obj
          exact (ne_of_none efk hwk).symm
        obtain ⟨fk, ks, efk, hk, nd, hb, hmk, hc, hval0, hval⟩ := A6
        walk_at "g"
        refine w_whileN (fun m σ H' => ∃ (y5 y6 : V) (z6 : Option V) (ns : List Nat), σ = [some (.ref v), some (.int (old' : Int)), some (.int (new : Int)), some (.ref ab), some (.ref rw'), some y5, z6, none, some (.ref wk)] ∧ Same H H' ∧ H' ab = some (.dK fk) ∧ H' wk = some (.lst (ns.reverse.map nV)) ∧ ((∃ x, y5 = nV x ∧ F x ∧ ((ns = [] ∧ x = old') ∨ ∃ y, y ∈ hpar cs hs x ∧ WalkP cs hs old' y ns) ∧ m = new + 1 - x ∧ ns.length ≤ x) ∨ (y5 = .non ∧ WalkP cs hs old' new ns ∧ ns.length ≤ new + 1))) (new + 1 - old') ⟨_, .non, _, [], rfl, s6, efk, e6, .inl ⟨old', rfl, hF, .inl ⟨rfl, rfl⟩, rfl, by simp⟩⟩ ?_
        rintro m σ H7 ⟨y5, y6, z6, ns, rfl, s7, e7, e7w, hst⟩
        walk_at "g"
        rcases hst with ⟨x, rfl, hFx, hch, hm7, hnl7⟩ | ⟨rfl, hw, hnl7⟩
        · have hxn := ((hFR x hFx).isV ok iv).2
          rw [decide_eq_false (show ¬ (nV x = V.non) from fun z => nomatch z)]
          walk_at "g"
          refine w_turn ?_
          have hw2 : WalkP cs hs old' x (x :: ns) := by
            rcases hch with ⟨rfl, rfl⟩ | ⟨y, hy, hw⟩
            · exact .one
            · exact hw.up hy
          walk_at "g"
          refine w_app e7w (by rw [List.length_map, List.length_reverse]; exact small1kl (by omega)) fun H8 e8 o8 => ?_
          have s8 : Same H H8 := fun b o e => o8.get (ne_of_none e hwk0) (s7 _ _ e)
          have e8a := o8.get nwk.symm e7
          have e8w : H8 wk = some (.lst ((x :: ns).reverse.map nV)) := by rw [e8, List.reverse_cons, List.map_append]; rfl
          by_cases hxnew : x = new
          · subst hxnew
            walk_at "g"
            exact ⟨0, by omega, _, .non, _, x :: ns, rfl, s8, e8a, e8w, .inr ⟨rfl, hw2, by rw [List.length_cons]; omega⟩⟩
          · obtain ⟨u, hu, hvu, hpu⟩ := hval x hFx hxnew
            have hxu := (ok.par u x (hpar_par hpu).1).2
            have hun := ((hFR u hu).isV ok iv).2
            walk_at "g"
            exact ⟨new + 1 - u, by omega, _, .non, _, x :: ns, rfl, s8, e8a, e8w, .inl ⟨u, rfl, hu, .inr ⟨x, hpu, hw2⟩, rfl, by rw [List.length_cons]; omega⟩⟩
        · rw [decide_eq_true rfl]
          walk_at "g"
          refine w_revL' e7w fun rv H8 hrv e8 k8 => ?_
          rw [← List.map_reverse, List.reverse_reverse] at e8
          walk_at "g"
          refine w_tupL (.of e8) fun tw H9 htw e9 k9 => ?_
          walk_at "g"
          refine w_new fun t H10 ht e10 k10 => ?_
          exact q1 ((FR old').mp hF) H10 t tw ns (Same.trans s7 (Same.trans k8 (Same.trans k9 k10))) e10 (k10 _ _ e9) hw (by omega)
      · have hnR : ¬ Rch cs hs new old := fun h => hF old rfl ((FR old).mpr h)
        walk_at "g"
        refine w_fsort A5.f fun L l H6 hup hmem hll hl e6 k6 => ?_
        walk_at "g"
        refine w_tupL (.of e6) fun tl H7 htl e7 k7 => ?_
        have s7 := Same.trans s5 (Same.trans k6 k7)
        have hLR : ∀ n, n ∈ L ↔ Rch cs hs new n := fun n => (hmem n).trans (FR n)
        obtain ⟨dv, p, dx, lc, ld, lg, rw2, hd, ds, W7⟩ := W.same s7
        walk_at "g"
        refine ⟨v, dv, p, dx, lc, ld, lg, rw2, hd, tl, cs, ds, hs, L, rfl, W7, ok, e7, hll, fun n hn => (((hLR n).mp hn).isV ok iv).1, fun H8 te k8 e8 => ?_⟩
        walk_at "g"
        refine w_new fun t H9 ht e9 k9 => ?_
        exact q2 hnR H9 t tl te L (Same.trans s7 (Same.trans k8 k9)) e9 (k9 _ _ (k8 _ _ e7)) (k9 _ _ e8) hup hLR hll
end
/-! ### ways told -/
theorem rise_ext : ∀ {xs ys : List Nat}, xs.Pairwise (· < ·) → ys.Pairwise (· < ·) → (∀ n, n ∈ xs ↔ n ∈ ys) → xs = ys
  | [], [], _, _, _ => rfl
  | [], y :: ys, _, _, h => absurd ((h y).mpr (by simp)) (by simp)
  | x :: xs, [], _, _, h => absurd ((h x).mp (by simp)) (by simp)
  | x :: xs, y :: ys, hx, hy, h => by
    rw [List.pairwise_cons] at hx hy
    have e : x = y := by
      rcases List.mem_cons.mp ((h x).mp (by simp)) with e | h1
      · exact e
      · rcases List.mem_cons.mp ((h y).mpr (by simp)) with e | h2
        · exact e.symm
        · have := hx.1 y h2
          have := hy.1 x h1
          omega
    subst e
    rw [rise_ext hx.2 hy.2 fun n => ?_]
    constructor
    · intro hn
      rcases List.mem_cons.mp ((h n).mp (by simp [hn])) with e | h1
      · have := hx.1 n hn
        omega
      · exact h1
    · intro hn
      rcases List.mem_cons.mp ((h n).mpr (by simp [hn])) with e | h1
      · have := hy.1 n hn
        omega
      · exact h1
def AheadW (H : Hp) (cs : List (Addr × Ct)) (hs : List Nat) (was goes : Nat) (t : Addr) : Prop := ∃ (r : Addr) (ns : List Nat), H t = some (.tup [.str "ahead", .ref r]) ∧ H r = some (.tup (ns.map nV)) ∧ WalkP cs hs was goes ns ∧ ns.length ≤ 1000
def ApartW (H : Hp) (cs : List (Addr × Ct)) (hs : List Nat) (goes : Nat) (t : Addr) (ns : List Nat) : Prop := ∃ (r e : Addr), H t = some (.tup [.str "apart", .ref r, .ref e]) ∧ H r = some (.tup (ns.map nV)) ∧ H e = some (.tup ((edgs cs hs ns).map nV)) ∧ ns.Pairwise (· < ·) ∧ (∀ n, n ∈ ns ↔ Rch cs hs goes n) ∧ ns.length ≤ 1000
theorem AheadW.same {H H' : Hp} {cs : List (Addr × Ct)} {hs : List Nat} {was goes : Nat} {t : Addr} (h : AheadW H cs hs was goes t) (k : Same H H') : AheadW H' cs hs was goes t := by
  obtain ⟨r, ns, h1, h2, h3⟩ := h
  exact ⟨r, ns, k _ _ h1, k _ _ h2, h3⟩
theorem ApartW.same {H H' : Hp} {cs : List (Addr × Ct)} {hs : List Nat} {goes : Nat} {t : Addr} {ns : List Nat} (h : ApartW H cs hs goes t ns) (k : Same H H') : ApartW H' cs hs goes t ns := by
  obtain ⟨r, e, h1, h2, h3, h4⟩ := h
  exact ⟨r, e, k _ _ h1, k _ _ h2, k _ _ h3, h4⟩
theorem datT_nats {B : Nat} {H : Hp} {a : Addr} {ns : List Nat} (h : H a = some (.tup (ns.map nV))) (hl : ns.length ≤ B) : DatT B H (.ref a) := .tup h (by rw [List.length_map]; exact hl) fun y hy => by
  obtain ⟨n, _, rfl⟩ := List.mem_map.mp hy
  exact .leaf (.int _) (by decide) fun z e => by cases e
theorem datT_word {B : Nat} {H : Hp} {z : Str} (h : z.length ≤ B) : DatT B H (.str z) := .leaf (.str _) (by decide) fun z' e => by cases e; exact h
theorem len_ahead : (Str.ofString "ahead").length ≤ 1000 := by decide +kernel
theorem len_apart : (Str.ofString "apart").length ≤ 1000 := by decide +kernel
theorem AheadW.dat {H : Hp} {cs : List (Addr × Ct)} {hs : List Nat} {was goes : Nat} {t : Addr} (h : AheadW H cs hs was goes t) : DatT 1000 H (.ref t) := by
  obtain ⟨r, ns, h1, h2, _, h4⟩ := h
  refine .tup h1 (by simp only [List.length_cons, List.length_nil]; omega) fun y hy => ?_
  have hy' : y = .str "ahead" ∨ y = .ref r := by simpa using hy
  rcases hy' with rfl | rfl
  · exact datT_word len_ahead
  · exact datT_nats h2 h4
theorem ApartW.dat {H : Hp} {cs : List (Addr × Ct)} {hs : List Nat} {goes : Nat} {t : Addr} {ns : List Nat} (h : ApartW H cs hs goes t ns) : DatT 1000 H (.ref t) := by
  obtain ⟨r, e, h1, h2, h3, _, _, h6⟩ := h
  refine .tup h1 (by simp only [List.length_cons, List.length_nil]; omega) fun y hy => ?_
  have hy' : y = .str "apart" ∨ y = .ref r ∨ y = .ref e := by simpa using hy
  rcases hy' with rfl | rfl | rfl
  · exact datT_word len_apart
  · exact datT_nats h2 h6
  · exact datT_nats h3 (Nat.le_trans (List.length_filter_le _ _) h6)
theorem Rch.held {cs : List (Addr × Ct)} {hs : List Nat} {a c : Nat} (h : Rch cs hs a c) (ha : a ∈ hs) : c ∈ hs := by
  cases h with
  | refl => exact ha
  | step _ e => exact (hpar_par e).2
theorem Rch.mono {cs : List (Addr × Ct)} {hs hs' : List Nat} (hsub : ∀ n ∈ hs, n ∈ hs') {a c : Nat} (h : Rch cs hs a c) : Rch cs hs' a c := by
  induction h with
  | refl => exact .refl
  | step _ e ih =>
    obtain ⟨e1, e2⟩ := hpar_par e
    exact .step ih (List.mem_filter.mpr ⟨e1, decide_eq_true (hsub _ e2)⟩)
def spLTold : Sp := fun vs H Q _ => ∃ (th f t : Addr) (cs : List (Addr × Ct)) (hs : List Nat) (was goes : Nat), vs = [.ref th, .ref f, nV was, nV goes, .ref t] ∧ LScn H th f cs hs ∧ goes ∈ hs ∧ isV cs goes ∧ ((Rch cs hs goes was ∧ AheadW H cs hs was goes t) ∨ (¬ Rch cs hs goes was ∧ ∃ ns, ApartW H cs hs goes t ns)) ∧ ∀ H', Same H H' → Q (.bl true) H'
section
variable {P : Program} {w : World} {K : PySem.W.Frag} {mg : Str → Option Value} {base : Heap} {C CH : Addr}
theorem ok_ltold {f fI fS fB fP fL fW : Addr} {fd fdI fdS fdB fdP fdL fdW : FuncData} (T : Txt K mg) (F : Fun K "_law_way_told" "_law_way_told" s_law_way_told f fd) (D_law_int : Df K mg "_law_int" s_law_int ["_law_thing"] fI fdI) (D_law_same : Df K mg "_law_same" s_law_same ["_law_found", "_law_due"] fS fdS)
    (D_law_brims : Df K mg "_law_brims" s_law_brims ["_law_things", "_law_here_here", "_law_versions_here"] fB fdB) (D_law_parents : Df K mg "_law_parents" s_law_parents ["_law_things", "_law_here_here", "_law_version"] fP fdP)
    (D_law_lower : Df K mg "_law_lower" s_law_lower ["_law_things", "_law_here_here", "_law_version"] fL fdL) (D_law_is_walk : Df K mg "_law_is_walk" s_law_is_walk ["_law_things", "_law_here_here", "_law_was_here", "_law_goes_here", "_law_versions_here"] fW fdW) : FnOk P w K mg base CX0 5 f fd ["_law_things", "_law_here_here", "_law_was_here", "_law_goes_here", "_law_thing"] spLTold := by
  have G_law_same : FnOk P w K mg base CX0 4 fS fdS ["_law_found", "_law_due"] (spSame 2) := ok_same T D_law_same D_law_int 2
  have G_law_brims : FnOk P w K mg base CX0 2 fB fdB ["_law_things", "_law_here_here", "_law_versions_here"] spLBrims := ok_lbrims T D_law_brims.fn D_law_parents
  have G_law_lower : FnOk P w K mg base CX0 2 fL fdL ["_law_things", "_law_here_here", "_law_version"] spLLower := ok_llower T D_law_lower.fn D_law_parents
  have G_law_is_walk : FnOk P w K mg base CX0 2 fW fdW ["_law_things", "_law_here_here", "_law_was_here", "_law_goes_here", "_law_versions_here"] spLIsWalk := ok_liswalk T D_law_is_walk.fn D_law_int
  refine F.ok sc_law_way_told (fun vs H Q E h => ?_) (fun cdv A outer s H vs Q E hr h => ?_)
  · obtain ⟨th, f, t, cs, hs, was, goes, rfl, _⟩ := h
    rfl
  · obtain ⟨th, f, t, cs, hs, was, goes, rfl, S, hg, iv, hT, q⟩ := h
    refine ⟨_,
      (pss_cons
        (ps_set (i := 5) sc_law_way_told.nd rfl (.inl rfl) (pe_call G_law_lower (hr.mono (by omega)) (by rfl) D_law_lower.g D_law_lower.fn.kp D_law_lower.b .nil pass0 (pa_cons (pv 0) (pa_cons (pv 1) (pa_cons (pv 3) pa_nil)))))
      (pss_cons
        (ps_if (pt_cmpR (r := rIn K false) op_in_seq (pv 2) (pv 5) rfl)
          (pss_cons
            (ps_if (PW.pt (pw_or (pt_not (pt_val (pe_callB (r := rIsi K) call_isi (by rfl) T.n_isinstance (by decide +kernel) (pa_cons (pv 4) (pa_cons (pe_bltn (v := .ty "tuple") (u := .type "tuple") (by rfl) T.n_tuple (by decide +kernel) rfl) pa_nil))))) (pw_or (pt_cmpR op_ne (pe_callB (r := rLen K) c_len (by rfl) T.n_len (by decide +kernel) (pa_cons (pv 4) pa_nil)) pe_int (nomark _)) (pw_or1 (pt_not (pt_val (pe_call G_law_same (hr.mono (by omega)) (by rfl) D_law_same.g D_law_same.fn.kp D_law_same.b .nil pass0 (pa_cons (pe_ix (r := rIxT K) ix_tup (pv 4) pe_int (fun _ _ => rfl)) (pa_cons pe_str pa_nil)))))))))
              (pss_one
                (ps_ret pe_bl))
              pss_nil)
          (pss_one
            (ps_ret (pe_call G_law_is_walk (hr.mono (by omega)) (by rfl) D_law_is_walk.g D_law_is_walk.fn.kp D_law_is_walk.b .nil pass0 (pa_cons (pv 0) (pa_cons (pv 1) (pa_cons (pv 2) (pa_cons (pv 3) (pa_cons (pe_ix (r := rIxT K) ix_tup (pv 4) pe_int (fun _ _ => rfl)) pa_nil)))))))))
          pss_nil)
      (pss_one
        (ps_ret (pe_call G_law_same (hr.mono (by omega)) (by rfl) D_law_same.g D_law_same.fn.kp D_law_same.b .nil pass0 (pa_cons (pv 4) (pa_cons (pe_tup (pa_cons pe_str (pa_cons (pe_callTy (r := rTupOf K) c_tupOf (by rfl) T.n_tuple (by decide +kernel) (pa_cons (pv 5) pa_nil)) (pa_cons (pe_call G_law_brims (hr.mono (by omega)) (by rfl) D_law_brims.g D_law_brims.fn.kp D_law_brims.b .nil pass0 (pa_cons (pv 0) (pa_cons (pv 1) (pa_cons (pv 5) pa_nil)))) pa_nil)))) pa_nil)))))))
      , ?_⟩
    rw [show L2.start N_law_way_told [V.ref th, V.ref f, nV was, nV goes, V.ref t] = [some (.ref th), some (.ref f), some (.int (was : Int)), some (.int (goes : Int)), some (.ref t), none] from rfl]
    walk_at "x"
    refine ⟨th, f, cs, hs, goes, rfl, S.th', S.he, S.ok, iv, by have := S.few; omega, fun H1 l L k1 hl1 e1 hup hm hll => ?_⟩
    have S1 := S.same k1
    walk_at "g"
    refine w_seq ?_
    walk_at "g"
    refine w_inNL e1 ?_
    walk_at "g"
    rcases hT with ⟨hR, hA⟩ | ⟨hR, ns, hA⟩
    · rw [decide_eq_true ((hm was).mpr hR)]
      obtain ⟨r, ns, h1, h2, h3, h4⟩ := hA.same k1
      have at0 : atI [V.str "ahead", V.ref r] 0 = some (.str "ahead") := atI_nat (j := 0) rfl
      have at1 : atI [V.str "ahead", V.ref r] 1 = some (.ref r) := atI_nat (j := 1) rfl
      walk_at "g"
      refine w_seq ?_
      walk_at "g"
      rw [decide_eq_true (show ((([V.str "ahead", V.ref r] : List V).length : Nat) : Int) = 2 from rfl)]
      walk_at "g"
      refine ⟨_, _, rfl, .inl ⟨rfl, trivial⟩, fun H2 k2 => ?_⟩
      have S2 := S1.same k2
      have h1' := k2 _ _ h1
      walk_at "g"
      refine ⟨th, f, cs, hs, was, goes, .ref r, 1000, rfl, S2, hg, datT_nats (k2 _ _ h2) h4, by omega, fun _ H3 k3 => q _ (Same.trans k1 (Same.trans k2 k3)), fun hno => absurd ⟨ns, ⟨r, rfl, k2 _ _ h2⟩, h3⟩ hno⟩
    · rw [decide_eq_false (fun z => hR ((hm was).mp z))]
      obtain ⟨r, e, h1, h2, h3, h4, h5, h6⟩ := hA.same k1
      have eL : L = ns := rise_ext hup h4 fun n => (hm n).trans (h5 n).symm
      subst eL
      walk_at "g"
      refine w_tupL (.of e1) fun r2 H2 hr2 e2 k2 => ?_
      have S2 := S1.same k2
      walk_at "g"
      refine ⟨th, f, l, cs, hs, L, rfl, S2.th', S2.he, k2 _ _ e1, hll, fun n hn => (((hm n).mp hn).isV S.ok iv).1, fun n => by have := S.ok.few n; omega, fun H3 tb k3 htb e3 => ?_⟩
      walk_at "g"
      refine w_new fun t2 H4 ht2 e4 k4 => ?_
      have k14 := Same.trans k2 (Same.trans k3 k4)
      walk_at "g"
      refine ⟨_, _, rfl, .inr (.inl ⟨t, t2, _, _, rfl, rfl, .inl ⟨k14 _ _ h1, e4⟩, rfl, by simp only [List.length_cons, List.length_nil]; omega, fun i a b ha hb => ?_⟩), fun H5 k5 => q _ (Same.trans k1 (Same.trans k14 k5))⟩
      match i, ha, hb with
      | 0, ha, hb =>
        cases ha
        cases hb
        exact .inl ⟨rfl, trivial⟩
      | 1, ha, hb =>
        cases ha
        cases hb
        refine SD.tups (xs := L.map fun n : Nat => (n : Int)) (by rw [← nV_map]; exact k14 _ _ h2) (by rw [← nV_map]; exact k4 _ _ (k3 _ _ e2)) (by rw [List.length_map]; omega)
      | 2, ha, hb =>
        cases ha
        cases hb
        have hle : (edgs cs hs L).length ≤ L.length := List.length_filter_le _ _
        refine SD.tups (xs := (edgs cs hs L).map fun n : Nat => (n : Int)) (by rw [← nV_map]; exact k14 _ _ h3) (by rw [← nV_map]; exact k4 _ _ e3) (by rw [List.length_map]; omega)
      | i + 3, ha, hb => simp at ha
end
/-! ### stores, versions and edges of views -/
def isVb (cs : List (Addr × Ct)) (n : Nat) : Bool := decide ((cs.getD n (0, .leaf [])).2.word = "version")
def vers (cs : List (Addr × Ct)) (hs : List Nat) : List Nat := hs.filter (isVb cs)
def edgB (cs : List (Addr × Ct)) (hs : List Nat) (n : Nat) : Bool := !((pars cs n).all fun p => decide (p ∈ hs))
def vedg (cs : List (Addr × Ct)) (hs : List Nat) : List Nat := (vers cs hs).filter (edgB cs hs)
structure StAt (CS : Addr) (H : Hp) (s dy p hd : Addr) (rs : List (Str × V)) (k : Nat) (F : Nat → Prop) : Prop where
  ob : H s = some (.ins CS dy (("book", .ref p) :: ("here", .ref hd) :: ("turns", nV k) :: rs))
  here : FAt H hd F
  ne : hd ≠ s
theorem StAt.kp {CS : Addr} {M : List Addr} {H H' : Hp} {s dy p hd : Addr} {rs : List (Str × V)} {k : Nat} {F : Nat → Prop} (h : StAt CS H s dy p hd rs k F) (kp : Kp M H H') (h1 : s ∉ M) (h2 : hd ∉ M) : StAt CS H' s dy p hd rs k F := ⟨kp _ _ h1 h.ob, h.here.kp kp h2, h.ne⟩
theorem StAt.same {CS : Addr} {H H' : Hp} {s dy p hd : Addr} {rs : List (Str × V)} {k : Nat} {F : Nat → Prop} (h : StAt CS H s dy p hd rs k F) (kp : Same H H') : StAt CS H' s dy p hd rs k F := h.kp (M := []) (Kp.of kp) (by simp) (by simp)
def spStoreInit (CS : Addr) : Sp := fun vs H Q _ => ∃ (s dy p : Addr), vs = [.ref s, .ref p] ∧ H s = some (.ins CS dy []) ∧ ∀ (hd : Addr) (H' : Hp), H hd = none → StAt CS H' s dy p hd [] 0 (fun _ => False) → Kp [s] H H' → Q .non H'
def spPut (P : Program) (w : World) (C CS : Addr) : Sp := fun vs H Q _ => ∃ (s dy p dx lc ld lg hd : Addr) (cs : List (Addr × Ct)) (ds : List Nat) (rs : List (Str × V)) (k n : Nat) (F : Nat → Prop), vs = [.ref s, nV n] ∧ rs.length ≤ 900 ∧ StAt CS H s dy p hd rs k F ∧ BookAt P w C H p dx lc ld lg cs ds ∧ n < cs.length ∧ (F n → Q (.bl false) H) ∧ (¬ F n → ∀ H', StAt CS H' s dy p hd rs (k + 1) (fun m => F m ∨ m = n) → Kp [s, hd] H H' → KT H H' → Q (.bl true) H')
def spHeld (CS : Addr) : Sp := fun vs H Q _ => ∃ (s dy p hd : Addr) (rs : List (Str × V)) (k : Nat) (F : Nat → Prop), vs = [.ref s] ∧ StAt CS H s dy p hd rs k F ∧ ∀ (ns : List Nat) (l : Addr) (H' : Hp), ns.Pairwise (· < ·) → (∀ n, n ∈ ns ↔ F n) → ns.length ≤ 1000 → H l = none → H' l = some (.lst (ns.map nV)) → Same H H' → Q (.ref l) H'
def spView (P : Program) (w : World) (C CH CS : Addr) : Sp := fun vs H Q _ => ∃ (s dy p dx lc ld lg hd : Addr) (cs : List (Addr × Ct)) (ds : List Nat) (rs : List (Str × V)) (k : Nat) (F : Nat → Prop), vs = [.ref s] ∧ rs.lookup (Str.ofString "held") = none ∧ StAt CS H s dy p hd rs k F ∧ BookAt P w C H p dx lc ld lg cs ds ∧ (∀ n, F n → n < cs.length) ∧
  ∀ (v dv rw' hv : Addr) (hs : List Nat) (H' : Hp), H v = none → H rw' = none → H hv = none → ViewAt P w C CH H' v dv p dx lc ld lg rw' hv cs ds hs → (∀ n, n ∈ hs ↔ F n) → Same H H' → Q (.ref v) H'
theorem ViewAt.len {P : Program} {w : World} {C CH : Addr} {H : Hp} {v dv p dx lc ld lg rw' hd : Addr} {cs : List (Addr × Ct)} {ds hs : List Nat} (W : ViewAt P w C CH H v dv p dx lc ld lg rw' hd cs ds hs) : hs.length ≤ 400 := by
  have := rise_len hs 0 cs.length W.up (fun n _ => Nat.zero_le n) W.in' (Nat.zero_le _)
  have := W.bk.few
  omega
section
variable {P : Program} {w : World} {K : PySem.W.Frag} {mg : Str → Option Value} {base : Heap} {C CH CS : Addr}
theorem ok_storeinit {f : Addr} {fd : FuncData} (T : Txt K mg) (F : Fun K "__init__" "Store.__init__" s_Store___init__ f fd) (K_Store : Kf K CS ["book", "here", "turns"]) : FnOk P w K mg base CX0 1 f fd ["self", "book"] (spStoreInit CS) := by
  have cl := K_Store.cl
  have n1 := K_Store.na "book" (by simp)
  have n2 := K_Store.na "here" (by simp)
  have n3 := K_Store.na "turns" (by simp)
  refine F.ok sc_Store___init__ (fun vs H Q E h => ?_) (fun cdv A outer s H vs Q E hr h => ?_)
  · obtain ⟨s, dy, p, rfl, _⟩ := h
    rfl
  · obtain ⟨s, dy, p, rfl, hs, q⟩ := h
    refine ⟨_,
      (pss_cons
        (ps_fld (pv 0) (pv 1) rfl)
      (pss_cons
        (ps_fld (pv 0) pe_dnewK rfl)
      (pss_one
        (ps_fld (pv 0) pe_int rfl))))
      , ?_⟩
    rw [show L2.start N_Store___init__ [V.ref s, V.ref p] = [some (.ref s), some (.ref p)] from rfl]
    walk_at "x"
    refine w_fldS' hs cl n1 (by decide) fun H1 o1 f1 => ?_
    walk_at "g"
    refine w_new fun hd H2 hhd e2 k2 => ?_
    have o2 := k2 _ _ o1
    have nhd : hd ≠ s := (ne_of_none o1 hhd).symm
    have hhd0 : H hd = none := by rw [← f1 hd nhd]; exact hhd
    walk_at "g"
    refine w_fldS' o2 cl n2 (show (1 : Nat) < 1000 by decide) fun H3 o3 f3 => ?_
    walk_at "g"
    refine w_fldS' o3 cl n3 (show (2 : Nat) < 1000 by decide) fun H4 o4 f4 => ?_
    refine q hd H4 hhd0 ⟨o4, ⟨[], [], f4.get nhd (f3.get nhd e2), rfl, .nil, by simp, by simp⟩, nhd⟩ fun b o hb e => ?_
    have hb' : b ≠ s := by simpa using hb
    exact f4.get hb' (f3.get hb' (k2 _ _ (f1.get hb' e)))
theorem w_fldAug {σ : L2.St} {H : Hp} {nx bk ct : L2.St → Hp → Prop} {rt : VK} {ta tv : TE} {f : Str} {u : TS} {rd : V → V → Hp → VK → Prop} (h : sFldAug K ta tv rd f ⟨u ⟨nx, rt, bk, ct⟩, rt, bk, ct⟩ σ H) : tSeq (sFldAug K ta tv rd f) u ⟨nx, rt, bk, ct⟩ σ H := h
theorem ok_put {f fN fI : Addr} {fd fdN fdI : FuncData} (T : Txt K mg) (F : Fun K "put" "Store.put" s_Store_put f fd) (K_Book : Kl K mg "Book" C ["contents", "depths", "given"]) (K_Store : Kf K CS ["book", "here", "turns"]) (D_is_name : Df K mg "is_name" s_is_name ["book", "thing"] fN fdN) (D_is_int : DfD K mg "is_int" s_is_int ["thing", "least"] [.int 0] fI fdI) : FnOk P w K mg base CX0 3 f fd ["self", "name"] (spPut P w C CS) := by
  have G_is_name : FnOk P w K mg base CX0 2 fN fdN ["book", "thing"] (spIsName P w C) := ok_isname T D_is_name.fn K_Book D_is_int
  have cl := K_Store.cl
  have n1 := K_Store.na "book" (by simp)
  have n2 := K_Store.na "here" (by simp)
  have n3 := K_Store.na "turns" (by simp)
  refine F.ok sc_Store_put (fun vs H Q E h => ?_) (fun cdv A outer s H vs Q E hr h => ?_)
  · obtain ⟨s, dy, p, dx, lc, ld, lg, hd, cs, ds, rs, k, n, F, rfl, _⟩ := h
    rfl
  · obtain ⟨s, dy, p, dx, lc, ld, lg, hd, cs, ds, rs, k, n, F, rfl, hrs, S, B, hn, q1, q2⟩ := h
    have hu := hu_of hr
    have ob := S.ob
    refine ⟨_,
      (pss_cons
        (ps_if (pt_not (pt_val (pe_call G_is_name (hr.mono (by omega)) (by rfl) D_is_name.g D_is_name.fn.kp D_is_name.b .nil pass0 (pa_cons (pe_fldK (K := K) rfl (pv 0) rfl) (pa_cons (pv 1) pa_nil)))))
          pss_never
          pss_nil)
      (pss_cons
        (ps_if (pt_cmp (pc_din hu (pv 1) (pe_fldK (K := K) rfl (pv 0) rfl)))
          (pss_one
            (ps_ret pe_bl))
          pss_nil)
      (pss_cons
        (ps_dput hu (pe_fldK (K := K) rfl (pv 0) rfl) (pv 1) pe_bl rfl)
      (pss_cons
        (ps_fldaug (pv 0) pe_int in_add)
      (pss_one
        (ps_ret pe_bl))))))
      , ?_⟩
    rw [show L2.start N_Store_put [V.ref s, nV n] = [some (.ref s), some (.int (n : Int))] from rfl]
    refine w_seq ?_
    walk_at "x"
    refine ⟨p, dx, lc, ld, lg, cs, ds, nV n, "int", rfl, B, .int _, fun m _ _ => ?_, fun hm => absurd hn (hm n rfl)⟩
    walk_at "g"
    refine w_seq ?_
    walk_at "g"
    have hcs : n < 1000 := by have := B.few; omega
    refine w_fin' S.here (fun hin => ?_) fun hno => ?_
    · walk_at "g"
      exact q1 hin
    · walk_at "g"
      refine w_fput S.here hcs fun H1 F1 o1 => ?_
      have ob1 := o1.get S.ne.symm ob
      walk_at "g"
      refine w_fldAug ?_
      unfold sFldAug
      walk_at "g"
      refine ⟨s, CS, dy, _, nV k, rfl, ob1, cl, n3, rfl, ?_⟩
      walk_at "g"
      refine ⟨(k : Int), 1, rfl, rfl, dy, _, ob1, by simp only [List.length_cons]; omega, ?_⟩
      walk_at "g"
      obtain ⟨fk, hfk⟩ := S.here.obj
      refine q2 hno _ ⟨upd_same, F1.kp (M := [s]) (Kp.mut (by simp)) (by simpa using S.ne), S.ne⟩ ((o1.kp (by simp)).trans (Kp.mut (by simp))) ⟨fun b xs e => ?_, fun b u xs e => ?_⟩ <;>
      (rw [upd_ne (ne_of e ob (fun z => nomatch z))]
       exact o1.get (ne_of e hfk (fun z => nomatch z)) e)
theorem ok_held {f : Addr} {fd : FuncData} (T : Txt K mg) (F : Fun K "held" "Store.held" s_Store_held f fd) (K_Store : Kf K CS ["book", "here", "turns"]) : FnOk P w K mg base CX0 1 f fd ["self"] (spHeld CS) := by
  have cl := K_Store.cl
  have n2 := K_Store.na "here" (by simp)
  refine F.ok sc_Store_held (fun vs H Q E h => ?_) (fun cdv A outer s H vs Q E hr h => ?_)
  · obtain ⟨s, dy, p, hd, rs, k, F, rfl, _⟩ := h
    rfl
  · obtain ⟨s, dy, p, hd, rs, k, F, rfl, S, q⟩ := h
    have ob := S.ob
    refine ⟨_,
      (pss_one
        (ps_ret (pe_callB (c_sortA rfl) (by rfl) T.n_sorted (by decide +kernel) (pa_cons (pe_fldK (K := K) rfl (pv 0) rfl) pa_nil))))
      , ?_⟩
    rw [show L2.start N_Store_held [V.ref s] = [some (.ref s)] from rfl]
    walk_at "x"
    refine w_fsort S.here fun ns l H1 hup hmem hnl hl e1 k1 => ?_
    exact q ns l H1 hup hmem hnl hl e1 k1
theorem ok_view {f fH fV fN fI : Addr} {fd fdH fdV fdN fdI : FuncData} (T : Txt K mg) (F : Fun K "view" "Store.view" s_Store_view f fd) (K_Book : Kl K mg "Book" C ["contents", "depths", "given"]) (K_Holding : Kl K mg "Holding" CH ["book", "row", "here"]) (M_Holding : Mk K CH fV) (K_Store : Kf K CS ["book", "here", "turns"]) (D_Store_held : DfM K CS "held" "Store.held" s_Store_held ["self"] fH fdH) (D_Holding___init__ : DfM K CH "__init__" "Holding.__init__" s_Holding___init__ ["self", "book", "names"] fV fdV) (D_is_name : Df K mg "is_name" s_is_name ["book", "thing"] fN fdN) (D_is_int : DfD K mg "is_int" s_is_int ["thing", "least"] [.int 0] fI fdI) : FnOk P w K mg base CX0 5 f fd ["self"] (spView P w C CH CS) := by
  have G_Store_held : FnOk P w K mg base CX0 1 fH fdH ["self"] (spHeld CS) := ok_held T D_Store_held.fn K_Store
  have G_Holding___init__ : FnOk P w K mg base CX0 3 fV fdV ["self", "book", "names"] (spViewInit P w C CH) := ok_viewinit T D_Holding___init__.fn K_Book K_Holding D_is_name D_is_int
  have cl := K_Store.cl
  have n1 := K_Store.na "book" (by simp)
  refine F.ok sc_Store_view (fun vs H Q E h => ?_) (fun cdv A outer s H vs Q E hr h => ?_)
  · obtain ⟨s, dy, p, dx, lc, ld, lg, hd, cs, ds, rs, k, F, rfl, _⟩ := h
    rfl
  · obtain ⟨s, dy, p, dx, lc, ld, lg, hd, cs, ds, rs, k, F, rfl, hrs, S, B, hF, q⟩ := h
    have ob := S.ob
    refine ⟨_,
      (pss_one
        (ps_ret (pe_make M_Holding G_Holding___init__ (hr.mono (by omega)) (by rfl) K_Holding.g D_Holding___init__.b .nil pass0 (pa_cons (pe_fldK (K := K) rfl (pv 0) rfl) (pa_cons (pe_meth0 (pv 0) K_Store.cl D_Store_held.m G_Store_held (hr.mono (by omega)) D_Store_held.b .nil pass0) pa_nil)))))
      , ?_⟩
    rw [show L2.start N_Store_view [V.ref s] = [some (.ref s)] from rfl]
    walk_at "x"
    refine w_meth' ob hrs ?_
    walk_at "g"
    refine ⟨s, dy, p, hd, rs, k, F, rfl, S, fun ns l H1 hup hmem hnl hl e1 k1 => ?_⟩
    walk_at "g"
    refine w_make' fun v dv H2 hv hdv hne e2 k2 => ?_
    have k12 := Same.trans k1 k2
    refine ⟨v, dv, p, dx, lc, ld, lg, l, cs, ds, ns, rfl, e2, B.same k12, k2 _ _ e1, hnl, fun n hn => hF n ((hmem n).mp hn), fun rw' hv' hs H3 hrw hhv W hm k3 => ⟨rfl, ?_⟩⟩
    have s3 : Same H H3 := fun b o e => k3 _ _ (by simpa using ne_of_none (k1 _ _ e) hv) (k12 _ _ e)
    exact q v dv rw' hv' hs H3 (k1.free hv) (k12.free hrw) (k12.free hhv) W (fun n => (hm n).trans (hmem n)) s3
end
local macro_rules | `(tactic| walk_at "s") => `(tactic| first
  | with_reducible refine w_dnewT ?_
  | with_reducible refine w_valsT ?_
  | with_reducible refine w_vals ?_
  | with_reducible refine w_itemsT ?_
  | with_reducible refine w_dpopT ?_
  | with_reducible refine w_dpop1 ?_
  | ((with_reducible refine' w_isDT ?h1 ?_); (case h1 => assumption))
  | ((with_reducible refine' w_valsT' ?h1 ?_); (case h1 => assumption))
  | ((with_reducible refine' w_vals' ?h1 ?_); (case h1 => assumption))
  | ((with_reducible refine' w_itemsT' ?h1 ?_); (case h1 => assumption))
  | ((with_reducible refine' w_keysT' ?h1 ?_); (case h1 => assumption))
  )
/-! ### houses -/
def hrs (a1 a2 a3 a4 : Addr) : List (Str × V) := [("stands", .ref a1), ("lately", .ref a2), ("others", .ref a3), ("pinned", .ref a4)]
structure HsAt (CU : Addr) (H : Hp) (s dy p hd a1 a2 a3 a4 : Addr) (k : Nat) (F : Nat → Prop) : Prop where
  st : StAt CU H s dy p hd (hrs a1 a2 a3 a4) k F
  h1 : H a1 = some (.dK [])
  h2 : H a2 = some (.lst [])
  h3 : H a3 = some (.dK [])
  h4 : H a4 = some (.lst [])
local macro_rules | `(tactic| walk_at "s") => `(tactic| first
  | with_reducible refine w_clsF ?_
  )
def spHouseInit (CU : Addr) : Sp := fun vs H Q _ => ∃ (s dy p : Addr), vs = [.ref s, .ref p] ∧ H s = some (.ins CU dy []) ∧ ∀ (hd a1 a2 a3 a4 : Addr) (H' : Hp), H hd = none → H a1 = none → H a2 = none → H a3 = none → H a4 = none → HsAt CU H' s dy p hd a1 a2 a3 a4 0 (fun _ => False) → (hd ≠ a1 ∧ hd ≠ a2 ∧ hd ≠ a3 ∧ hd ≠ a4) → (s ≠ a1 ∧ s ≠ a2 ∧ s ≠ a3 ∧ s ≠ a4 ∧ a1 ≠ a2) → Kp [s] H H' → Q .non H'
def spLHouse (P : Program) (w : World) (C CU : Addr) : Sp := fun vs H Q _ => ∃ (p dx lc ld lg l : Addr) (cs : List (Addr × Ct)) (ds hs : List Nat), vs = [.ref p, .ref l] ∧ BookAt P w C H p dx lc ld lg cs ds ∧ H l = some (.lst (hs.map nV)) ∧ (∀ n ∈ hs, n < cs.length) ∧ hs.length ≤ 400 ∧
  ∀ (s dy hd a1 a2 a3 a4 : Addr) (k : Nat) (H' : Hp), H s = none → H hd = none → H a1 = none → H a2 = none → H a3 = none → H a4 = none → HsAt CU H' s dy p hd a1 a2 a3 a4 k (fun n => n ∈ hs) → (hd ≠ a1 ∧ hd ≠ a2 ∧ hd ≠ a3 ∧ hd ≠ a4) → (s ≠ a1 ∧ s ≠ a2 ∧ s ≠ a3 ∧ s ≠ a4 ∧ a1 ≠ a2) → (hs.Nodup → k = hs.length) → Same H H' → Q (.ref s) H'
section
variable {P : Program} {w : World} {K : PySem.W.Frag} {mg : Str → Option Value} {base : Heap} {C CH CS CU : Addr}
theorem house_kf (K_House : Kl K mg "House" CU ["book", "here", "turns", "stands", "lately", "others", "pinned"]) : Kf K CU ["book", "here", "turns"] := ⟨K_House.cl, fun f hf => K_House.na f (by
  simp only [List.mem_cons, List.not_mem_nil, or_false] at hf ⊢
  rcases hf with h | h | h
  · exact .inl h
  · exact .inr (.inl h)
  · exact .inr (.inr (.inl h)))⟩
theorem ok_houseinit {f fS : Addr} {fd fdS : FuncData} (T : Txt K mg) (F : Fun K "__init__" "House.__init__" s_House___init__ f fd) (K_Store : Kl K mg "Store" CS ["book", "here", "turns"]) (K_House : Kl K mg "House" CU ["book", "here", "turns", "stands", "lately", "others", "pinned"]) (D_Store___init__ : DfM K CS "__init__" "Store.__init__" s_Store___init__ ["self", "book"] fS fdS)
    (R_Store : ClX.CRead K CS (.type "type")) (V_Store___init__ : ClX.CVal K CS (.type "type") "__init__" (.ref fS) (.ref fS)) : FnOk P w K mg base CX0 2 f fd ["self", "book"] (spHouseInit CU) := by
  have G_Store___init__ : FnOk P w K mg base CX0 1 fS fdS ["self", "book"] (spStoreInit CU) := ok_storeinit T D_Store___init__.fn (house_kf K_House)
  let C_Store := CS
  have cl := K_House.cl
  have n1 := K_House.na "stands" (by simp)
  have n2 := K_House.na "lately" (by simp)
  have n3 := K_House.na "others" (by simp)
  have n4 := K_House.na "pinned" (by simp)
  refine F.ok sc_House___init__ (fun vs H Q E h => ?_) (fun cdv A outer s H vs Q E hr h => ?_)
  · obtain ⟨s, dy, p, rfl, _⟩ := h
    rfl
  · obtain ⟨s, dy, p, rfl, hs, q⟩ := h
    refine ⟨_,
      (pss_cons
        (ps_expr (pe_clsF (pe_glob (v := .ref C_Store) rfl K_Store.g rfl) R_Store V_Store___init__ D_Store___init__.fn.kp G_Store___init__ (hr.mono (by omega)) D_Store___init__.b .nil pass0 (pa_cons (pv 0) (pa_cons (pv 1) pa_nil))))
      (pss_cons
        (ps_fld (pv 0) pe_dnewK rfl)
      (pss_cons
        (ps_fld (pv 0) (pe_lst pa_nil) rfl)
      (pss_cons
        (ps_fld (pv 0) pe_dnewK rfl)
      (pss_one
        (ps_fld (pv 0) (pe_lst pa_nil) rfl))))))
      , ?_⟩
    rw [show L2.start N_House___init__ [V.ref s, V.ref p] = [some (.ref s), some (.ref p)] from rfl]
    walk_at "x"
    refine ⟨s, dy, p, rfl, hs, fun hd H1 hhd S1 k1 => ?_⟩
    have o1 := S1.ob
    obtain ⟨fk, efk⟩ := S1.here.obj
    have nh := S1.ne
    walk_at "g"
    refine w_new fun a1 H2 ha1 e2 k2 => ?_
    have o2 := k2 _ _ o1
    have m1 : a1 ≠ s := (ne_of_none o1 ha1).symm
    have p1 : a1 ≠ hd := (ne_of_none efk ha1).symm
    walk_at "g"
    refine w_fldS' o2 cl n1 (show (3 : Nat) < 1000 by decide) fun H3 o3 f3 => ?_
    walk_at "g"
    refine w_new fun a2 H4 ha2 e4 k4 => ?_
    have o4 := k4 _ _ o3
    have m2 : a2 ≠ s := (ne_of_none o3 ha2).symm
    have p2 : a2 ≠ hd := (ne_of_none (f3.get nh (k2 _ _ efk)) ha2).symm
    walk_at "g"
    refine w_fldS' o4 cl n2 (show (4 : Nat) < 1000 by decide) fun H5 o5 f5 => ?_
    walk_at "g"
    refine w_new fun a3 H6 ha3 e6 k6 => ?_
    have o6 := k6 _ _ o5
    have m3 : a3 ≠ s := (ne_of_none o5 ha3).symm
    have p3 : a3 ≠ hd := (ne_of_none (f5.get nh (k4 _ _ (f3.get nh (k2 _ _ efk)))) ha3).symm
    walk_at "g"
    refine w_fldS' o6 cl n3 (show (5 : Nat) < 1000 by decide) fun H7 o7 f7 => ?_
    walk_at "g"
    refine w_new fun a4 H8 ha4 e8 k8 => ?_
    have o8 := k8 _ _ o7
    have m4 : a4 ≠ s := (ne_of_none o7 ha4).symm
    have p4 : a4 ≠ hd := (ne_of_none (f7.get nh (k6 _ _ (f5.get nh (k4 _ _ (f3.get nh (k2 _ _ efk)))))) ha4).symm
    walk_at "g"
    refine w_fldS' o8 cl n4 (show (6 : Nat) < 1000 by decide) fun H9 o9 f9 => ?_
    have t12 : ∀ b o, b ≠ s → H1 b = some o → H3 b = some o := fun b o hb e => f3.get hb (k2 _ _ e)
    have t15 : ∀ b o, b ≠ s → H1 b = some o → H5 b = some o := fun b o hb e => f5.get hb (k4 _ _ (t12 b o hb e))
    have t17 : ∀ b o, b ≠ s → H1 b = some o → H7 b = some o := fun b o hb e => f7.get hb (k6 _ _ (t15 b o hb e))
    have t19 : ∀ b o, b ≠ s → H1 b = some o → H9 b = some o := fun b o hb e => f9.get hb (k8 _ _ (t17 b o hb e))
    have free : ∀ {a : Addr} {H' : Hp}, a ≠ s → (∀ b o, b ≠ s → H1 b = some o → H' b = some o) → H' a = none → H a = none := fun {a H'} ha t hn => by
      cases e : H a with
      | none => rfl
      | some o =>
        rw [t a o ha (k1 _ _ (by simpa using ha) e)] at hn
        cases hn
    refine q hd a1 a2 a3 a4 H9 hhd (free m1 (fun _ _ _ e => e) ha1) (free m2 t12 ha2) (free m3 t15 ha3) (free m4 t17 ha4) ⟨⟨o9, ?_, nh⟩, ?_, ?_, ?_, ?_⟩ ⟨p1.symm, p2.symm, p3.symm, p4.symm⟩ ⟨m1.symm, m2.symm, m3.symm, m4.symm, ne_of_none (f3.get m1 e2) ha2⟩ fun b o hb e => ?_
    · exact S1.here.kp (M := [s]) (fun b o hb e => t19 b o (by simpa using hb) e) (by simpa using nh)
    · exact f9.get m1 (k8 _ _ (f7.get m1 (k6 _ _ (f5.get m1 (k4 _ _ (f3.get m1 e2))))))
    · exact f9.get m2 (k8 _ _ (f7.get m2 (k6 _ _ (f5.get m2 e4))))
    · exact f9.get m3 (k8 _ _ (f7.get m3 e6))
    · exact f9.get m4 e8
    · have hb' : b ≠ s := by simpa using hb
      exact t19 b o hb' (k1 _ _ hb e)
theorem ok_lhouse {f fS fU fP fN fI : Addr} {fd fdS fdU fdP fdN fdI : FuncData} (T : Txt K mg) (F : Fun K "_law_house" "_law_house" s_law_house f fd) (K_Book : Kl K mg "Book" C ["contents", "depths", "given"]) (K_Store : Kl K mg "Store" CS ["book", "here", "turns"]) (K_House : Kl K mg "House" CU ["book", "here", "turns", "stands", "lately", "others", "pinned"]) (M_House : Mk K CU fU) (D_Store___init__ : DfM K CS "__init__" "Store.__init__" s_Store___init__ ["self", "book"] fS fdS)
    (D_House___init__ : DfM K CU "__init__" "House.__init__" s_House___init__ ["self", "book"] fU fdU) (D_Store_put : DfM K CS "put" "Store.put" s_Store_put ["self", "name"] fP fdP) (I_House_put : Meth K CU "put" fP) (D_is_name : Df K mg "is_name" s_is_name ["book", "thing"] fN fdN) (D_is_int : DfD K mg "is_int" s_is_int ["thing", "least"] [.int 0] fI fdI)
    (R_Store : ClX.CRead K CS (.type "type")) (V_Store___init__ : ClX.CVal K CS (.type "type") "__init__" (.ref fS) (.ref fS)) : FnOk P w K mg base CX0 5 f fd ["_law_book_here", "_law_held"] (spLHouse P w C CU) := by
  have G_House___init__ : FnOk P w K mg base CX0 2 fU fdU ["self", "book"] (spHouseInit CU) := ok_houseinit T D_House___init__.fn K_Store K_House D_Store___init__ R_Store V_Store___init__
  have G_House_put : FnOk P w K mg base CX0 3 fP fdP ["self", "name"] (spPut P w C CU) := ok_put T D_Store_put.fn K_Book (house_kf K_House) D_is_name D_is_int
  refine F.ok sc_law_house (fun vs H Q E h => ?_) (fun cdv A outer s H vs Q E hr h => ?_)
  · obtain ⟨p, dx, lc, ld, lg, l, cs, ds, hs, rfl, _⟩ := h
    rfl
  · obtain ⟨p, dx, lc, ld, lg, l, cs, ds, hs, rfl, B, hl, hin, hlen, q⟩ := h
    refine ⟨_,
      (pss_cons
        (ps_set (i := 2) sc_law_house.nd rfl (.inl rfl) (pe_make M_House G_House___init__ (hr.mono (by omega)) (by rfl) K_House.g D_House___init__.b .nil pass0 (pa_cons (pv 0) pa_nil)))
      (pss_cons
        (ps_for PassesOwn.never rfl (pi_list (pv 1)) (pg_name (i := 3) sc_law_house.nd rfl (.inl rfl))
          (pss_one
            (ps_expr (pe_meth (pv 2) K_House.cl I_House_put G_House_put (hr.mono (by omega)) D_Store_put.b .nil pass0 (pa_cons (pv 3) pa_nil)))))
      (pss_one
        (ps_ret (pv 2)))))
      , ?_⟩
    rw [show L2.start N_law_house [V.ref p, V.ref l] = [some (.ref p), some (.ref l), none, none] from rfl]
    walk_at "x"
    refine w_make' fun s dy H1 hs0 hdy hne e1 k1 => ?_
    refine ⟨s, dy, p, rfl, e1, fun hd a1 a2 a3 a4 H2 hhd h1 h2 h3 h4 S2 nh ns k2 => ⟨rfl, ?_⟩⟩
    have s2 : Same H H2 := fun b o e => k2 _ _ (by simpa using ne_of_none e hs0) (k1 _ _ e)
    have hhd0 := k1.free hhd
    walk_at "g"
    try refine w_itL' (.of (s2 _ _ hl)) ?_
    refine lp_list (xs := hs.map nV) (fun i σ H' => (∃ y : Option V, σ = [some (.ref p), some (.ref l), some (.ref s), y]) ∧ Same H H' ∧ Kp [s, hd] H2 H' ∧ ∃ k, (hs.Nodup → k = i) ∧ HsAt CU H' s dy p hd a1 a2 a3 a4 k (fun m => m ∈ hs.take i)) ⟨⟨_, rfl⟩, s2, Kp.refl, 0, fun _ => rfl, ⟨S2.st.ob, S2.st.here.iff (fun n => by simp), S2.st.ne⟩, S2.h1, S2.h2, S2.h3, S2.h4⟩ (fun i σ H' _ h => .of (h.2.1 _ _ hl)) ?_ ?_
    · rintro i x σ H3 hx ⟨⟨y, rfl⟩, s3, k3, k, hkn, S3⟩
      obtain ⟨m, hm, rfl⟩ := map_at hx
      have ob3 := S3.st.ob
      have etk : hs.take (i + 1) = hs.take i ++ [m] := by rw [List.take_add_one, hm]; rfl
      walk_at "g"
      refine ⟨s, dy, p, dx, lc, ld, lg, hd, cs, ds, hrs a1 a2 a3 a4, k, m, _, rfl, (show (4 : Nat) ≤ 900 by decide), S3.st, B.same s3, hin m (List.mem_of_getElem? hm), fun h => ?_, fun _ H4 S4 k4 t4 => ?_⟩
      · walk_at "g"
        refine ⟨⟨_, rfl⟩, s3, k3, k, fun nd => absurd h (fun hh => by obtain ⟨j, hj, e⟩ := List.mem_iff_getElem.mp hh; rw [List.length_take] at hj; rw [List.getElem_take] at e; obtain ⟨hlt, e2⟩ := List.getElem?_eq_some_iff.mp hm; have := nodup_at nd (e.trans e2.symm); omega), ⟨S3.st.ob, S3.st.here.iff fun n => ?_, S3.st.ne⟩, S3.h1, S3.h2, S3.h3, S3.h4⟩
        rw [etk]
        simp only [List.mem_append, List.mem_cons, List.not_mem_nil, or_false]
        constructor
        · exact .inl
        · rintro (h1 | rfl)
          · exact h1
          · exact h
      · walk_at "g"
        have out : ∀ {a : Addr}, hd ≠ a → s ≠ a → a ∉ [s, hd] := fun {a} g1 g2 => by
          simp only [List.mem_cons, List.not_mem_nil, or_false, not_or]
          exact ⟨g2.symm, g1.symm⟩
        refine ⟨⟨_, rfl⟩, fun b o e => k4 _ _ ?_ (s3 _ _ e), k3.trans k4, k + 1, fun nd => by rw [hkn nd], ⟨S4.ob, S4.here.iff fun n => ?_, S4.ne⟩, k4 _ _ (out nh.1 ns.1) S3.h1, k4 _ _ (out nh.2.1 ns.2.1) S3.h2, k4 _ _ (out nh.2.2.1 ns.2.2.1) S3.h3, k4 _ _ (out nh.2.2.2 ns.2.2.2.1) S3.h4⟩
        · simp only [List.mem_cons, List.not_mem_nil, or_false, not_or]
          exact ⟨ne_of_none e hs0, ne_of_none e hhd0⟩
        · rw [etk]
          simp only [List.mem_append, List.mem_cons, List.not_mem_nil, or_false]
    · rintro σ H3 ⟨⟨y, rfl⟩, s3, k3, k, hkn, S3⟩
      rw [List.length_map] at hkn
      rw [List.length_map, List.take_length] at S3
      walk_at "g"
      exact q s dy hd a1 a2 a3 a4 k H3 hs0 hhd0 (k1.free h1) (k1.free h2) (k1.free h3) (k1.free h4) S3 nh ns hkn s3
end
def spChanges (CS : Addr) : Sp := fun vs H Q _ => ∃ (s dy p hd : Addr) (rs : List (Str × V)) (k : Nat) (F : Nat → Prop), vs = [.ref s] ∧ StAt CS H s dy p hd rs k F ∧ Q (nV k) H
section
variable {P : Program} {w : World} {K : PySem.W.Frag} {mg : Str → Option Value} {base : Heap} {C CH CS CU : Addr}
theorem ok_changes {f : Addr} {fd : FuncData} (T : Txt K mg) (F : Fun K "changes" "Store.changes" s_Store_changes f fd) (K_Store : Kf K CS ["book", "here", "turns"]) : FnOk P w K mg base CX0 1 f fd ["self"] (spChanges CS) := by
  have cl := K_Store.cl
  have n3 := K_Store.na "turns" (by simp)
  refine F.ok sc_Store_changes (fun vs H Q E h => ?_) (fun cdv A outer s H vs Q E hr h => ?_)
  · obtain ⟨s, dy, p, hd, rs, k, F, rfl, _⟩ := h
    rfl
  · obtain ⟨s, dy, p, hd, rs, k, F, rfl, S, q⟩ := h
    have ob := S.ob
    refine ⟨_,
      (pss_one
        (ps_ret (pe_fldK (K := K) rfl (pv 0) rfl)))
      , ?_⟩
    rw [show L2.start N_Store_changes [V.ref s] = [some (.ref s)] from rfl]
    walk_at "x"
    exact q
end
local macro_rules | `(tactic| walk_at "s") => `(tactic| first
  | with_reducible refine w_dnewT ?_
  | with_reducible refine w_valsT ?_
  | with_reducible refine w_vals ?_
  | with_reducible refine w_itemsT ?_
  | with_reducible refine w_dpopT ?_
  | with_reducible refine w_dpop1 ?_
  | ((with_reducible refine' w_isDT ?h1 ?_); (case h1 => assumption))
  | ((with_reducible refine' w_valsT' ?h1 ?_); (case h1 => assumption))
  | ((with_reducible refine' w_vals' ?h1 ?_); (case h1 => assumption))
  | ((with_reducible refine' w_itemsT' ?h1 ?_); (case h1 => assumption))
  | ((with_reducible refine' w_keysT' ?h1 ?_); (case h1 => assumption))
  )
/-! ### pins: what is refused -/
theorem mk1_sameR {K : PySem.W.Frag} {C : Addr} {f : Str} {x : V} {H : Hp} {Qx : XK} {a : Addr} (ha : H a = none) (h : ∀ d H', Same H H' → H d = none → H' d = some (.xd [(f, x)]) → Qx (.ref C) (some d) H') :
    spInit1 K C f [.ref a, x] (upd H a (exo a C none)) (fun v H2 => v = .non ∧ ∃ (d : Addr) (fs : List (Str × V)), H2 a = some (exo a C (some d)) ∧ H2 d = some (exd d fs) ∧ H d = none ∧ Qx (.ref C) (some d) (upd (del H2 a) d (.xd fs))) (fun _ _ _ => False) := by
  refine ⟨a, x, rfl, upd_same, fun dx hd hne => ⟨rfl, dx, _, upd_same, ?_, (upd_none hd).1, h dx _ (fun b o e => ?_) (upd_none hd).1 upd_same⟩⟩
  · rw [upd_ne hne, upd_same]
  · have n1 : b ≠ dx := ne_of_none e (upd_none hd).1
    have n2 : b ≠ a := ne_of_none e ha
    rw [upd_ne n1, del_ne n2, upd_ne n2, upd_ne n1, upd_ne n2]
    exact e
/-- NoName of x is raised -/
def NoNm (CN : Addr) (H : Hp) (E : XK) (x : V) : Prop := ∀ (d : Addr) (H' : Hp), Same H H' → H d = none → H' d = some (.xd [("name", x)]) → E (.ref CN) (some d) H'
section
variable {P : Program} {w : World} {K : PySem.W.Frag} {mg : Str → Option Value} {base : Heap}
theorem ok_nninit {f C : Addr} {fd : FuncData} (F : Fun K "__init__" "NoName.__init__" s_NoName___init__ f fd) (XT : OexC K C) (n1 : PySem.W.findIn K (.ref C) "name" = some none) : FnOk P w K mg base CX0 1 f fd ["self", "name"] (spInit1 K C "name") := by
  refine F.ok sc_NoName___init__ (fun vs H Q E h => ?_) (fun cdv A outer s H vs Q E hr h => ?_)
  · obtain ⟨a, x, rfl, _⟩ := h
    rfl
  · obtain ⟨a, x, rfl, e, q⟩ := h
    refine ⟨_,
      (pss_one
        (ps_ost (pv 0) (pv 1)))
      , ?_⟩
    rw [show L2.start N_NoName___init__ [V.ref a, x] = [some (.ref a), some x] from rfl]
    refine w_ost ?_
    walk_at "x"
    exact ⟨a, C, rfl, XT, n1, .inl ⟨e, fun dx hd hne => q dx hd hne⟩⟩
theorem ok_lkinit {f C : Addr} {fd : FuncData} (F : Fun K "__init__" "Lack.__init__" s_Lack___init__ f fd) (XT : OexC K C) (n1 : PySem.W.findIn K (.ref C) "name" = some none) : FnOk P w K mg base CX0 1 f fd ["self", "name"] (spInit1 K C "name") := by
  refine F.ok sc_Lack___init__ (fun vs H Q E h => ?_) (fun cdv A outer s H vs Q E hr h => ?_)
  · obtain ⟨a, x, rfl, _⟩ := h
    rfl
  · obtain ⟨a, x, rfl, e, q⟩ := h
    refine ⟨_,
      (pss_one
        (ps_ost (pv 0) (pv 1)))
      , ?_⟩
    rw [show L2.start N_Lack___init__ [V.ref a, x] = [some (.ref a), some x] from rfl]
    refine w_ost ?_
    walk_at "x"
    exact ⟨a, C, rfl, XT, n1, .inl ⟨e, fun dx hd hne => q dx hd hne⟩⟩
end
inductive Rf where
  | ok
  | nn (i : Int)
  | lk (i : Int)
  | lg
def RfO (CN CL CG : Addr) (H : Hp) (E : XK) (q : Prop) : Rf → Prop
  | .ok => q
  | .nn i => NoNm CN H E (.int i)
  | .lk i => NoNm CL H E (.int i)
  | .lg => E (.ref CG) none H
def spHHolds (P : Program) (w : World) (C CS : Addr) : Sp := fun vs H Q _ => ∃ (s dy p dx lc ld lg hd : Addr) (cs : List (Addr × Ct)) (ds : List Nat) (rs : List (Str × V)) (k : Nat) (x : V) (a : String) (F : Nat → Prop), vs = [.ref s, x] ∧ StAt CS H s dy p hd rs k F ∧ BookAt P w C H p dx lc ld lg cs ds ∧ Ty H x a ∧ ((∃ n : Nat, x = nV n ∧ n < cs.length ∧ F n) → Q (.bl true) H) ∧ ((∀ n : Nat, x = nV n → n < cs.length → ¬ F n) → Q (.bl false) H)
def spMarks (CU : Addr) : Sp := fun vs H Q _ => ∃ (s dy p hd a1 a2 a3 a4 : Addr) (k : Nat) (F : Nat → Prop) (ms : List (Str × Int)), vs = [.ref s] ∧ StAt CU H s dy p hd (hrs a1 a2 a3 a4) k F ∧ H a1 = some (.dK (kvTI ms)) ∧ (ms.map (·.1)).Nodup ∧
  ∀ (H' : Hp) (l : Addr) (ts : List TI), Same H H' → H l = none → H' l = some (.lst (ts.map fun t => .ref t.1)) → (∀ t ∈ ts, H' t.1 = some (.tup [.str t.2.1, .int t.2.2])) → (ts.map (·.2)).Perm ms → ts.Pairwise (fun x y => txLt x.2.1 y.2.1) → Q (.ref l) H'
section
variable {P : Program} {w : World} {K : PySem.W.Frag} {mg : Str → Option Value} {base : Heap} {C CH CS CU CP : Addr}
theorem ok_hholds {f fN fI : Addr} {fd fdN fdI : FuncData} (T : Txt K mg) (F : Fun K "holds" "Store.holds" s_Store_holds f fd) (K_Book : Kl K mg "Book" C ["contents", "depths", "given"]) (K_Store : Kf K CS ["book", "here", "turns"]) (D_is_name : Df K mg "is_name" s_is_name ["book", "thing"] fN fdN) (D_is_int : DfD K mg "is_int" s_is_int ["thing", "least"] [.int 0] fI fdI) : FnOk P w K mg base CX0 3 f fd ["self", "name"] (spHHolds P w C CS) := by
  have G_is_name : FnOk P w K mg base CX0 2 fN fdN ["book", "thing"] (spIsName P w C) := ok_isname T D_is_name.fn K_Book D_is_int
  have cl := K_Store.cl
  have n1 := K_Store.na "book" (by simp)
  have n2 := K_Store.na "here" (by simp)
  refine F.ok sc_Store_holds (fun vs H Q E h => ?_) (fun cdv A outer s H vs Q E hr h => ?_)
  · obtain ⟨s, dy, p, dx, lc, ld, lg, hd, cs, ds, rs, k, x, a, F, rfl, _⟩ := h
    rfl
  · obtain ⟨s, dy, p, dx, lc, ld, lg, hd, cs, ds, rs, k, x, a, F, rfl, S, B, ty, q1, q2⟩ := h
    have hu := hu_of hr
    have ob := S.ob
    refine ⟨_,
      (pss_one
        (ps_ret (pe_and (pe_call G_is_name (hr.mono (by omega)) (by rfl) D_is_name.g D_is_name.fn.kp D_is_name.b .nil pass0 (pa_cons (pe_fldK (K := K) rfl (pv 0) rfl) (pa_cons (pv 1) pa_nil))) (pe_one (pe_cmp (pc_din hu (pv 1) (pe_fldK (K := K) rfl (pv 0) rfl)))))))
      , ?_⟩
    rw [show L2.start N_Store_holds [V.ref s, x] = [some (.ref s), some x] from rfl]
    walk_at "x"
    refine ⟨p, dx, lc, ld, lg, cs, ds, x, a, rfl, B, ty, fun n e hn => ?_, fun hn => ?_⟩
    · subst e
      walk_at "g"
      refine w_fin' S.here (fun hin => ?_) fun hno => ?_
      · exact q1 ⟨n, rfl, hn, hin⟩
      · exact q2 fun m e _ => by
          have : n = m := by have : (n : Int) = m := V.int.inj e; omega
          subst this
          exact hno
    · walk_at "g"
      exact q2 fun n e h => absurd h (hn n e)
theorem ok_marks {f : Addr} {fd : FuncData} (T : Txt K mg) (F : Fun K "marks" "House.marks" s_House_marks f fd) (K_House : Kl K mg "House" CU ["book", "here", "turns", "stands", "lately", "others", "pinned"]) : FnOk P w K mg base CX0 1 f fd ["self"] (spMarks CU) := by
  have cl := K_House.cl
  have n4 := K_House.na "stands" (by simp)
  refine F.ok sc_House_marks (fun vs H Q E h => ?_) (fun cdv A outer s H vs Q E hr h => ?_)
  · obtain ⟨s, dy, p, hd, a1, a2, a3, a4, k, F, ms, rfl, _⟩ := h
    rfl
  · obtain ⟨s, dy, p, hd, a1, a2, a3, a4, k, F, ms, rfl, S, e1, nd, q⟩ := h
    have hu := hu_of hr
    have ob := S.ob
    refine ⟨_,
      (pss_one
        (ps_ret (pe_callB (r := rSortI) (c_sortI rfl hr.units) (by rfl) T.n_sorted (by decide +kernel) (pa_cons (pe_bm0 PySem.F.plainAttrs_dict PySem.F.slot_dict_items PySem.F.type_dict_items mt_itemsK (pe_fldK (K := K) rfl (pv 0) rfl)) pa_nil))))
      , ?_⟩
    rw [show L2.start N_House_marks [V.ref s] = [some (.ref s)] from rfl]
    walk_at "x"
    refine w_bm0D ?_
    walk_at "g"
    refine w_tyDK e1 ?_
    refine w_itemsK e1 fun v H2 hv2 e2 k2 => ?_
    walk_at "g"
    refine w_sortI e2 (k2 _ _ e1) nd fun H3 l ts k3 hl e3 hts hperm hsrt => ?_
    exact q H3 l ts (Same.trans k2 k3) (k2.free hl) e3 hts hperm hsrt
end
open Classical in
/-- what must_have says of a version -/
noncomputable def dueV (cs : List (Addr × Ct)) (F : Nat → Prop) (i : Int) : Rf :=
  if ∃ n : Nat, i = n ∧ isV cs n then (if F i.toNat then .ok else .lk i) else .nn i
def spMustHave (P : Program) (w : World) (C CU CN CL : Addr) : Sp := fun vs H Q E => ∃ (s dy p dx lc ld lg hd a1 a2 a3 a4 : Addr) (cs : List (Addr × Ct)) (ds : List Nat) (k : Nat) (F : Nat → Prop) (i : Int), vs = [.ref s, .int i] ∧ StAt CU H s dy p hd (hrs a1 a2 a3 a4) k F ∧ BookAt P w C H p dx lc ld lg cs ds ∧ RfO CN CL CN H E (Q .non H) (dueV cs F i)
section
variable {P : Program} {w : World} {K : PySem.W.Frag} {mg : Str → Option Value} {base : Heap} {C CH CS CU CP : Addr}
theorem ok_musthave {f fK fH fG fN fI fE fL C_NoName C_Lack : Addr} {fd fdK fdH fdG fdN fdI fdE fdL : FuncData} (T : Txt K mg) (F : Fun K "must_have" "House.must_have" s_House_must_have f fd) (K_Book : Kl K mg "Book" C ["contents", "depths", "given"]) (K_House : Kl K mg "House" CU ["book", "here", "turns", "stands", "lately", "others", "pinned"]) (D_is_kind : Df K mg "is_kind" s_is_kind ["book", "thing", "kind"] fK fdK) (D_Store_holds : DfM K CS "holds" "Store.holds" s_Store_holds ["self", "name"] fH fdH) (I_House_holds : Meth K CU "holds" fH) (D_Book_thing : DfM K C "thing" "Book.thing" s_Book_thing ["self", "name"] fG fdG) (D_is_name : Df K mg "is_name" s_is_name ["book", "thing"] fN fdN) (D_is_int : DfD K mg "is_int" s_is_int ["thing", "least"] [.int 0] fI fdI) (G_is_kind : FnOk P w K mg base CX0 3 fK fdK ["book", "thing", "kind"] (spIsKind P w C))
    (FE : Fun K "__init__" "NoName.__init__" s_NoName___init__ fE fdE) (X_NoName : ExnI K mg "NoName" C_NoName fE fdE ["self", "name"] ["name"]) (FL : Fun K "__init__" "Lack.__init__" s_Lack___init__ fL fdL) (X_Lack : ExnI K mg "Lack" C_Lack fL fdL ["self", "name"] ["name"]) : FnOk P w K mg base (L2.CX P w) 5 f fd ["self", "version"] (spMustHave P w C CU C_NoName C_Lack) := by
  have G_House_holds : FnOk P w K mg base CX0 3 fH fdH ["self", "name"] (spHHolds P w C CU) := ok_hholds T D_Store_holds.fn K_Book (house_kf K_House) D_is_name D_is_int
  have G_NoName___init__ : FnOk P w K mg base CX0 1 fE fdE ["self", "name"] (spInit1 K C_NoName "name") := ok_nninit FE X_NoName.T (X_NoName.nf "name" (by simp))
  have G_Lack___init__ : FnOk P w K mg base CX0 1 fL fdL ["self", "name"] (spInit1 K C_Lack "name") := ok_lkinit FL X_Lack.T (X_Lack.nf "name" (by simp))
  have cl := K_House.cl
  have n1 := K_House.na "book" (by simp)
  refine F.okX sc_House_must_have (fun vs H Q E h => ?_) (fun cdv A outer s H vs Q E hr h => ?_)
  · obtain ⟨s, dy, p, dx, lc, ld, lg, hd, a1, a2, a3, a4, cs, ds, k, F, i, rfl, _⟩ := h
    rfl
  · obtain ⟨s, dy, p, dx, lc, ld, lg, hd, a1, a2, a3, a4, cs, ds, k, F, i, rfl, S, B, q⟩ := h
    have ob := S.ob
    refine ⟨_,
      (pss_cons
        (ps_if (pt_not (pt_val (pe_call G_is_kind (hr.mono (by omega)) (by rfl) D_is_kind.g D_is_kind.fn.kp D_is_kind.b .nil pass0 (pa_cons (pe_fldK (K := K) rfl (pv 0) rfl) (pa_cons (pv 1) (pa_cons pe_str pa_nil))))))
          (pss_one
            (ps_raise rfl (takes_of rfl rfl rfl rfl) (pmk_oex X_NoName.T X_NoName.i X_NoName.t G_NoName___init__ (hr.mono (by omega)) X_NoName.b .nil pass0 (by rfl) X_NoName.g (pa_cons (pv 1) pa_nil))))
          pss_nil)
      (pss_one
        (ps_if (pt_not (pt_val (pe_meth (pv 0) K_House.cl I_House_holds G_House_holds (hr.mono (by omega)) D_Store_holds.b .nil pass0 (pa_cons (pv 1) pa_nil))))
          (pss_one
            (ps_raise rfl (takes_of rfl rfl rfl rfl) (pmk_oex X_Lack.T X_Lack.i X_Lack.t G_Lack___init__ (hr.mono (by omega)) X_Lack.b .nil pass0 (by rfl) X_Lack.g (pa_cons (pv 1) pa_nil))))
          pss_nil)))
      , ?_⟩
    rw [show L2.start N_House_must_have [V.ref s, V.int i] = [some (.ref s), some (.int i)] from rfl]
    refine w_seq ?_
    walk_at "x"
    have bad : (¬ ∃ n : Nat, i = n ∧ isV cs n) → NoNm C_NoName H E (.int i) := fun h => by
      unfold dueV at q
      rw [if_neg h] at q
      exact q
    refine ⟨p, dx, lc, ld, lg, cs, ds, .int i, "int", "version", rfl, B, .int _, fun n qc en hn => ?_, fun hno => ?_⟩
    · have ei : i = (n : Int) := V.int.inj en
      subst ei
      by_cases hw : qc.2.word = "version"
      · rw [decide_eq_true hw]
        have iv := (word_isV hn).mp hw
        have hx : ∃ m : Nat, ((n : Int)) = m ∧ isV cs m := ⟨n, rfl, iv⟩
        unfold dueV at q
        rw [if_pos hx, Int.toNat_natCast] at q
        walk_at "g"
        refine ⟨s, dy, p, dx, lc, ld, lg, hd, cs, ds, hrs a1 a2 a3 a4, k, .int (n : Int), "int", F, rfl, S, B, .int _, fun ⟨m, em, hm, hF⟩ => ?_, fun hno => ?_⟩
        · have : m = n := by have := V.int.inj em; omega
          subst this
          rw [if_pos hF] at q
          walk_at "g"
          exact q
        · have hF : ¬ F n := hno n rfl iv.lt
          rw [if_neg hF] at q
          walk_at "g"
          refine w_mkO ?_
          walk_at "g"
          exact ⟨by simp, fun a ha => mk1_sameR ha fun d H4 k4 hd e4 => q d H4 k4 hd e4⟩
      · rw [decide_eq_false hw]
        walk_at "g"
        refine w_mkO ?_
        walk_at "g"
        refine ⟨by simp, fun a ha => mk1_sameR ha fun d H4 k4 hd e4 => bad ?_ d H4 k4 hd e4⟩
        rintro ⟨m, em, iv⟩
        have : m = n := by omega
        subst this
        exact hw ((word_isV hn).mpr iv)
    · walk_at "g"
      refine w_mkO ?_
      walk_at "g"
      refine ⟨by simp, fun a ha => mk1_sameR ha fun d H4 k4 hd e4 => bad ?_ d H4 k4 hd e4⟩
      rintro ⟨m, em, iv⟩
      exact hno m (by rw [em]) iv.lt
end
/-! ### marks, moves -/
local macro_rules | `(tactic| walk_at "s") => `(tactic| first
  | with_reducible refine w_dpop1 ?_
  | with_reducible refine w_methNS ?_
  | with_reducible refine w_methN ?_
  )
theorem KT.offI {a C d : Addr} {H H1 : Hp} {fs : List (Str × V)} (o : Off a H H1) (e : H a = some (.ins C d fs)) : KT H H1 := ⟨fun b xs h => o.get (ne_of h e (fun z => nomatch z)) h, fun b u xs h => o.get (ne_of h e (fun z => nomatch z)) h⟩
theorem KT.offD {a : Addr} {H H1 : Hp} {kvs : List (Key × V)} (o : Off a H H1) (e : H a = some (.dK kvs)) : KT H H1 := ⟨fun b xs h => o.get (ne_of h e (fun z => nomatch z)) h, fun b u xs h => o.get (ne_of h e (fun z => nomatch z)) h⟩
def mkK (ms : List (Str × Nat)) : List (Key × V) := ms.map fun q => ((Sum.inr q.1 : Key), nV q.2)
theorem mkK_val (fs : List (Str × Nat)) (q : Str) : valV (mkK fs) (Sum.inr q : Key) = (fs.lookup q).map nV := by
  induction fs with
  | nil => rfl
  | cons p r ih =>
    unfold mkK valV at ih ⊢
    rw [List.map_cons, List.find?_cons]
    by_cases h : q = p.1
    · subst h
      have e1 : List.lookup p.1 (p :: r) = some p.2 := by
        rw [show p = (p.1, p.2) from rfl, List.lookup_cons_self]
      rw [e1]
      simp
    · have e2 : List.lookup q (p :: r) = List.lookup q r := by
        rw [show p = (p.1, p.2) from rfl, List.lookup_cons]
        have : (q == p.1) = false := by simpa using h
        rw [this]
      rw [e2, ← ih]
      have : ¬ ((Sum.inr p.1 : Key) = Sum.inr q) := fun e => h (Sum.inr.inj e).symm
      simp [this]
def putMs (fs : List (Str × Nat)) (q : Str) (n : Nat) : List (Str × Nat) := if (fs.any fun p => decide (p.1 = q)) = true then fs.map (fun p => if p.1 = q then (p.1, n) else p) else fs ++ [(q, n)]
def dropMs (fs : List (Str × Nat)) (q : Str) : List (Str × Nat) := fs.filter fun p => decide (p.1 ≠ q)
theorem ksI {p q : Str} : (Sum.inr p : Key) = Sum.inr q ↔ p = q := ⟨Sum.inr.inj, fun e => by rw [e]⟩
theorem mkK_put (fs : List (Str × Nat)) (q : Str) (n : Nat) : putK (mkK fs) (Sum.inr q : Key) (nV n) = mkK (putMs fs q n) := by
  unfold putK putMs
  have e : ((mkK fs).any fun kv => decide (kv.1 = Sum.inr q)) = (fs.any fun p => decide (p.1 = q)) := by
    unfold mkK
    rw [List.any_map]
    congr 1
    funext p
    show decide ((Sum.inr p.1 : Key) = Sum.inr q) = decide (p.1 = q)
    rw [decide_eq_decide]
    exact ksI
  rw [e]
  by_cases h : (fs.any fun p => decide (p.1 = q)) = true
  · rw [if_pos h, if_pos h]
    unfold mkK
    rw [List.map_map, List.map_map]
    refine List.map_congr_left fun p hp => ?_
    show (if (Sum.inr p.1 : Key) = Sum.inr q then ((Sum.inr p.1 : Key), nV n) else ((Sum.inr p.1 : Key), nV p.2)) = _
    by_cases hq : p.1 = q
    · rw [if_pos (ksI.mpr hq)]
      show _ = ((Sum.inr (if p.1 = q then (p.1, n) else p).1 : Key), nV (if p.1 = q then (p.1, n) else p).2)
      rw [if_pos hq]
    · rw [if_neg (fun e => hq (ksI.mp e))]
      show _ = ((Sum.inr (if p.1 = q then (p.1, n) else p).1 : Key), nV (if p.1 = q then (p.1, n) else p).2)
      rw [if_neg hq]
  · rw [if_neg h, if_neg h]
    unfold mkK
    rw [List.map_append]
    rfl
theorem mkK_drop (fs : List (Str × Nat)) (q : Str) : dropK (mkK fs) (Sum.inr q : Key) = mkK (dropMs fs q) := by
  unfold dropK dropMs mkK
  rw [List.filter_map]
  congr 1
  refine List.filter_congr fun p _ => ?_
  show decide ((Sum.inr p.1 : Key) ≠ Sum.inr q) = decide (p.1 ≠ q)
  rw [decide_eq_decide]
  exact not_congr ksI
theorem putMs_keys (fs : List (Str × Nat)) (q : Str) (n : Nat) : (putMs fs q n).map (·.1) = if (fs.any fun p => decide (p.1 = q)) = true then fs.map (·.1) else fs.map (·.1) ++ [q] := by
  unfold putMs
  by_cases h : (fs.any fun p => decide (p.1 = q)) = true
  · rw [if_pos h, if_pos h, List.map_map]
    refine List.map_congr_left fun p _ => ?_
    show (if p.1 = q then (p.1, n) else p).1 = p.1
    split <;> rfl
  · rw [if_neg h, if_neg h, List.map_append]
    rfl
theorem putMs_nd {fs : List (Str × Nat)} (nd : (fs.map (·.1)).Nodup) (q : Str) (n : Nat) : ((putMs fs q n).map (·.1)).Nodup := by
  rw [putMs_keys]
  by_cases h : (fs.any fun p => decide (p.1 = q)) = true
  · rw [if_pos h]; exact nd
  · rw [if_neg h, List.nodup_append]
    refine ⟨nd, by simp, fun x hx y hy e => h ?_⟩
    obtain ⟨p, hp, rfl⟩ := List.mem_map.mp hx
    rw [List.any_eq_true]
    exact ⟨p, hp, decide_eq_true (by rw [e]; simpa using hy)⟩
theorem putMs_len (fs : List (Str × Nat)) (q : Str) (n : Nat) : (putMs fs q n).length ≤ fs.length + 1 := by
  unfold putMs
  split
  · rw [List.length_map]; omega
  · rw [List.length_append]; simp
theorem dropMs_nd {fs : List (Str × Nat)} (nd : (fs.map (·.1)).Nodup) (q : Str) : ((dropMs fs q).map (·.1)).Nodup := nd.sublist (List.Sublist.map _ List.filter_sublist)
theorem dropMs_none {fs : List (Str × Nat)} {q : Str} (h : fs.lookup q = none) : dropMs fs q = fs := by
  unfold dropMs
  rw [List.filter_eq_self]
  intro p hp
  refine decide_eq_true fun e => ?_
  rw [List.lookup_eq_none_iff] at h
  have := h p hp
  rw [e] at this
  simp at this
theorem small9 {n : Nat} (h : n ≤ 9000) : n ≤ sizeLine := Nat.le_trans h (by decide)
theorem putMs_mem {ms : List (Str × Nat)} {z : Str} {n : Nat} {q : Str × Nat} (h : q ∈ putMs ms z n) : q = (z, n) ∨ q ∈ ms := by
  unfold putMs at h
  split at h
  · obtain ⟨p, hp, rfl⟩ := List.mem_map.mp h
    by_cases e : p.1 = z
    · rw [if_pos e]
      exact .inl (by rw [e])
    · rw [if_neg e]
      exact .inr hp
  · rcases List.mem_append.mp h with g | g
    · exact .inr g
    · exact .inl (by simpa using g)
theorem kvTI_mk (ms : List (Str × Nat)) : kvTI (ms.map fun q => (q.1, (q.2 : Int))) = mkK ms := by
  unfold kvTI mkK
  rw [List.map_map]
  rfl
/-- C(..) with these fields is raised, nothing else is touched -/
def RsX (C : Addr) (fs : List (Str × V)) (H : Hp) (E : XK) : Prop := ∀ (d : Addr) (H' : Hp), Same H H' → H d = none → H' d = some (.xd fs) → E (.ref C) (some d) H'
def oV : Option Nat → V
  | none => .non
  | some n => nV n
def iV : Option Int → V
  | none => .non
  | some i => .int i
structure Mv where
  mark : Str
  old : Option Nat
  new : Option Nat
  back : Bool
def MvAt (H : Hp) (a : Addr) (m : Mv) : Prop := H a = some (.tup [.str m.mark, oV m.old, oV m.new, .bl m.back])
def lookM (ms : List (Str × Nat)) : V → Option Nat
  | .str z => ms.lookup z
  | _ => none
def IsLab (x : V) : Prop := ∃ z, x = .str z ∧ LabOk z
def last50 {α : Type} (l : List α) : List α := l.drop (l.length - 50)
def putM (ms : List (Str × Nat)) (z : Str) : Option Nat → List (Str × Nat)
  | none => dropMs ms z
  | some n => putMs ms z n
inductive Md where
  | nm | nn | lk | st | na0 | na1 | ok
open Classical in
/-- what move says -/
noncomputable def dueM (cs : List (Addr × Ct)) (hs : List Nat) (ms : List (Str × Nat)) (x : V) (old : Option Nat) (new : Option Int) (back : Bool) : Md :=
  if ¬ IsLab x then .nm
  else if ∃ i, new = some i ∧ ¬ ∃ n : Nat, i = n ∧ isV cs n then .nn
  else if ∃ i, new = some i ∧ ¬ i.toNat ∈ hs then .lk
  else if lookM ms x ≠ old then .st
  else if back = false ∧ new = none then .na0
  else if back = false ∧ ∃ o i, old = some o ∧ new = some i ∧ ¬ Rch cs hs i.toNat o then .na1
  else .ok
def ToldW (H : Hp) (cs : List (Addr × Ct)) (hs : List Nat) (was goes : Nat) (t : Addr) : Prop := (Rch cs hs goes was ∧ AheadW H cs hs was goes t) ∨ (¬ Rch cs hs goes was ∧ ∃ ns, ApartW H cs hs goes t ns)
/-- a house with marks and a trail -/
structure HoAt (P : Program) (w : World) (C CU : Addr) (H : Hp) (s dy p dx lc ld lg hd a1 a2 a3 a4 : Addr) (cs : List (Addr × Ct)) (ds : List Nat) (k : Nat) (hs : List Nat) (ms : List (Str × Nat)) (ls : List (Addr × Mv)) : Prop where
  st : StAt CU H s dy p hd (hrs a1 a2 a3 a4) k (fun n => n ∈ hs)
  bk : BookAt P w C H p dx lc ld lg cs ds
  e1 : H a1 = some (.dK (mkK ms))
  nd : (ms.map (·.1)).Nodup
  mo : ∀ q ∈ ms, LabOk q.1 ∧ isV cs q.2 ∧ q.2 ∈ hs
  e2 : H a2 = some (.lst (ls.map fun q => V.ref q.1))
  lt : ∀ q ∈ ls, MvAt H q.1 q.2
  up : hs.Pairwise (· < ·)
  in' : ∀ n ∈ hs, n < cs.length
theorem HoAt.kp {P : Program} {w : World} {C CU : Addr} {M : List Addr} {H H' : Hp} {s dy p dx lc ld lg hd a1 a2 a3 a4 : Addr} {cs : List (Addr × Ct)} {ds : List Nat} {k : Nat} {hs : List Nat} {ms : List (Str × Nat)} {ls : List (Addr × Mv)} (h : HoAt P w C CU H s dy p dx lc ld lg hd a1 a2 a3 a4 cs ds k hs ms ls) (kp : Kp M H H') (t : KT H H') (n1 : s ∉ M) (n2 : hd ∉ M) (n3 : p ∉ M) (n4 : lc ∉ M) (n5 : ld ∉ M) (n6 : lg ∉ M) (n7 : a1 ∉ M) (n8 : a2 ∉ M) : HoAt P w C CU H' s dy p dx lc ld lg hd a1 a2 a3 a4 cs ds k hs ms ls :=
  ⟨h.st.kp kp n1 n2, h.bk.kp kp t n3 n4 n5 n6, kp _ _ n7 h.e1, h.nd, h.mo, kp _ _ n8 h.e2, fun q hq => t _ _ (h.lt q hq), h.up, h.in'⟩
theorem HoAt.same {P : Program} {w : World} {C CU : Addr} {H H' : Hp} {s dy p dx lc ld lg hd a1 a2 a3 a4 : Addr} {cs : List (Addr × Ct)} {ds : List Nat} {k : Nat} {hs : List Nat} {ms : List (Str × Nat)} {ls : List (Addr × Mv)} (h : HoAt P w C CU H s dy p dx lc ld lg hd a1 a2 a3 a4 cs ds k hs ms ls) (kp : Same H H') : HoAt P w C CU H' s dy p dx lc ld lg hd a1 a2 a3 a4 cs ds k hs ms ls :=
  h.kp (M := []) (Kp.of kp) (KT.of kp) (by simp) (by simp) (by simp) (by simp) (by simp) (by simp) (by simp) (by simp)
theorem dueM_nm {cs : List (Addr × Ct)} {hs : List Nat} {ms : List (Str × Nat)} {x : V} {old : Option Nat} {new : Option Int} {back : Bool} (h : ¬ IsLab x) : dueM cs hs ms x old new back = .nm := if_pos h
theorem dueM_nn {cs : List (Addr × Ct)} {hs : List Nat} {ms : List (Str × Nat)} {x : V} {old : Option Nat} {i : Int} {back : Bool} (h : IsLab x) (h1 : ¬ ∃ n : Nat, i = n ∧ isV cs n) : dueM cs hs ms x old (some i) back = .nn := by
  unfold dueM
  rw [if_neg (fun z => z h), if_pos ⟨i, rfl, h1⟩]
theorem dueM_lk {cs : List (Addr × Ct)} {hs : List Nat} {ms : List (Str × Nat)} {x : V} {old : Option Nat} {i : Int} {back : Bool} (h : IsLab x) (h1 : ∃ n : Nat, i = n ∧ isV cs n) (h2 : ¬ i.toNat ∈ hs) : dueM cs hs ms x old (some i) back = .lk := by
  unfold dueM
  rw [if_neg (fun z => z h), if_neg (fun ⟨j, e, z⟩ => z (by cases e; exact h1)), if_pos ⟨i, rfl, h2⟩]
/-- the new version is one that is held, if there is one -/
def GoodN (cs : List (Addr × Ct)) (hs : List Nat) (new : Option Int) : Prop := ∀ i, new = some i → ∃ n : Nat, i = n ∧ isV cs n ∧ n ∈ hs
open Classical in
theorem dueM_g {cs : List (Addr × Ct)} {hs : List Nat} {ms : List (Str × Nat)} {x : V} {old : Option Nat} {new : Option Int} {back : Bool} (h : IsLab x) (g : GoodN cs hs new) : dueM cs hs ms x old new back = (if lookM ms x ≠ old then .st
  else if back = false ∧ new = none then .na0
  else if back = false ∧ ∃ o i, old = some o ∧ new = some i ∧ ¬ Rch cs hs i.toNat o then .na1
  else .ok) := by
  unfold dueM
  rw [if_neg (fun z => z h), if_neg (fun ⟨j, e, z⟩ => z (by obtain ⟨n, e1, e2, _⟩ := g j e; exact ⟨n, e1, e2⟩)), if_neg (fun ⟨j, e, z⟩ => z (by obtain ⟨n, e1, e2, e3⟩ := g j e; rw [e1]; exact e3))]
theorem dueM_st {cs : List (Addr × Ct)} {hs : List Nat} {ms : List (Str × Nat)} {x : V} {old : Option Nat} {new : Option Int} {back : Bool} (h : IsLab x) (g : GoodN cs hs new) (h1 : lookM ms x ≠ old) : dueM cs hs ms x old new back = .st := by
  rw [dueM_g h g, if_pos h1]
theorem dueM_na0 {cs : List (Addr × Ct)} {hs : List Nat} {ms : List (Str × Nat)} {x : V} {old : Option Nat} (h : IsLab x) (h1 : lookM ms x = old) : dueM cs hs ms x old none false = .na0 := by
  rw [dueM_g h (fun i e => by cases e), if_neg (fun z => z h1), if_pos ⟨rfl, rfl⟩]
theorem dueM_na1 {cs : List (Addr × Ct)} {hs : List Nat} {ms : List (Str × Nat)} {x : V} {o n : Nat} (h : IsLab x) (g : GoodN cs hs (some (n : Int))) (h1 : lookM ms x = some o) (h2 : ¬ Rch cs hs n o) : dueM cs hs ms x (some o) (some (n : Int)) false = .na1 := by
  rw [dueM_g h g, if_neg (fun z => z h1), if_neg (fun z => by cases z.2), if_pos ⟨rfl, o, _, rfl, rfl, by rw [Int.toNat_natCast]; exact h2⟩]
theorem dueM_ok {cs : List (Addr × Ct)} {hs : List Nat} {ms : List (Str × Nat)} {x : V} {old : Option Nat} {new : Option Int} {back : Bool} (h : IsLab x) (g : GoodN cs hs new) (h1 : lookM ms x = old) (h2 : back = true ∨ ∃ n : Nat, new = some (n : Int) ∧ ∀ o, old = some o → Rch cs hs n o) : dueM cs hs ms x old new back = .ok := by
  rw [dueM_g h g, if_neg (fun z => z h1), if_neg, if_neg]
  · rintro ⟨hb, o, i, e1, e2, e3⟩
    rcases h2 with h2 | ⟨n, en, h2⟩
    · rw [hb] at h2; cases h2
    · rw [en] at e2
      cases e2
      rw [Int.toNat_natCast] at e3
      exact e3 (h2 o e1)
  · rintro ⟨hb, e⟩
    rcases h2 with h2 | ⟨n, en, h2⟩
    · rw [hb] at h2; cases h2
    · rw [e] at en; cases en
def spAt (P : Program) (w : World) (C CU CM : Addr) : Sp := fun vs H Q E => ∃ (s dy p dx lc ld lg hd a1 a2 a3 a4 : Addr) (cs : List (Addr × Ct)) (ds : List Nat) (k : Nat) (hs : List Nat) (ms : List (Str × Nat)) (ls : List (Addr × Mv)) (x : V) (B : Nat), vs = [.ref s, x] ∧ HoAt P w C CU H s dy p dx lc ld lg hd a1 a2 a3 a4 cs ds k hs ms ls ∧ DatT B H x ∧ B ≤ 1000 ∧
  (∀ n, IsLab x → lookM ms x = some n → ∀ H', Same H H' → Q (nV n) H') ∧ ((¬ IsLab x ∨ lookM ms x = none) → RsX CM [("mark", x)] H E)
def spTrail (P : Program) (w : World) (C CU : Addr) : Sp := fun vs H Q _ => ∃ (s dy p dx lc ld lg hd a1 a2 a3 a4 : Addr) (cs : List (Addr × Ct)) (ds : List Nat) (k : Nat) (hs : List Nat) (ms : List (Str × Nat)) (ls : List (Addr × Mv)), vs = [.ref s] ∧ HoAt P w C CU H s dy p dx lc ld lg hd a1 a2 a3 a4 cs ds k hs ms ls ∧
  ∀ (l : Addr) (H' : Hp), H l = none → H' l = some (.lst (ls.map fun q => V.ref q.1)) → Same H H' → Q (.ref l) H'
def MvQ (P : Program) (w : World) (C CU CM CN CL CT CA : Addr) (H : Hp) (Q : VK) (E : XK) (s dy p dx lc ld lg hd a1 a3 a4 : Addr) (cs : List (Addr × Ct)) (ds : List Nat) (k : Nat) (hs : List Nat) (ms : List (Str × Nat)) (ls : List (Addr × Mv)) (x : V) (old : Option Nat) (new : Option Int) (back : Bool) : Md → Prop
  | .nm => RsX CM [("mark", x)] H E
  | .nn => RsX CN [("name", iV new)] H E
  | .lk => RsX CL [("name", iV new)] H E
  | .st => RsX CT [("there", oV (lookM ms x)), ("mark", x)] H E
  | .na0 => RsX CA [("why", .non), ("mark", x)] H E
  | .na1 => ∀ (d t : Addr) (goes : Nat) (ns : List Nat) (H' : Hp), new = some (goes : Int) → Same H H' → H d = none → H' d = some (.xd [("why", .ref t), ("mark", x)]) → ApartW H' cs hs goes t ns → E (.ref CA) (some d) H'
  | .ok => ∀ (z : Str) (nw : Option Nat) (a2' r : Addr) (y : V) (H' : Hp), x = .str z → new = nw.map (fun n : Nat => (n : Int)) → Kp [s, a1] H H' → KT H H' → H a2' = none → H r = none → HoAt P w C CU H' s dy p dx lc ld lg hd a1 a2' a3 a4 cs ds k hs (putM ms z nw) (last50 (ls ++ [(r, ⟨z, old, nw, back⟩)])) →
      (((old = none ∨ nw = none) ∧ y = .non) ∨ ∃ o n t, old = some o ∧ nw = some n ∧ y = .ref t ∧ ToldW H' cs hs o n t) → Q y H'
def spMove (P : Program) (w : World) (C CU CM CN CL CT CA : Addr) : Sp := fun vs H Q E => ∃ (s dy p dx lc ld lg hd a1 a2 a3 a4 : Addr) (cs : List (Addr × Ct)) (ds : List Nat) (k : Nat) (hs : List Nat) (ms : List (Str × Nat)) (ls : List (Addr × Mv)) (x : V) (B : Nat) (old : Option Nat) (new : Option Int) (back : Bool), vs = [.ref s, x, oV old, iV new, .bl back] ∧ HoAt P w C CU H s dy p dx lc ld lg hd a1 a2 a3 a4 cs ds k hs ms ls ∧ BkOk cs ∧ cs.length ≤ 999 ∧ a1 ≠ s ∧ hd ≠ a1 ∧ ms.length ≤ 5000 ∧ ls.length ≤ 1000 ∧ DatT B H x ∧ B ≤ 1000 ∧
  MvQ P w C CU CM CN CL CT CA H Q E s dy p dx lc ld lg hd a1 a3 a4 cs ds k hs ms ls x old new back (dueM cs hs ms x old new back)
theorem w_neO {a b : Option Nat} {H : Hp} {Q : VK} (h : Q (.bl (!decide (a = b))) H) : rNe (oV a) (oV b) H Q := by
  cases a with
  | none =>
    cases b with
    | none => exact ⟨rfl, by simpa [oV] using h⟩
    | some y => exact ⟨rfl, by simpa [oV] using h⟩
  | some x =>
    cases b with
    | none => exact ⟨rfl, by simpa [oV] using h⟩
    | some y => exact w_neI (by
        have e : decide (((x : Nat) : Int) = (y : Nat)) = decide (some x = some y) := by
          rw [decide_eq_decide]
          constructor
          · intro h; congr; omega
          · intro h; cases h; rfl
        rw [e]
        exact h)
theorem w_dget1Z {H : Hp} {Q : VK} {a : Addr} {kvs : List (Key × V)} {z : Str} (e : H a = some (.dK kvs)) (h : Q ((valV kvs (Sum.inr z)).getD .non) H) : rDGet1 a (.str z) H Q := ⟨_, DGet.k (k := Sum.inr z) e, h⟩
theorem w_dnotinZ {H : Hp} {Q : VK} {a : Addr} {kvs : List (Key × V)} {z : Str} (e : H a = some (.dK kvs)) (h : Q (.bl (!(valV kvs (Sum.inr z)).isSome)) H) : rDNotIn (.ref a) (.str z) H Q := ⟨a, _, rfl, DGet.k (k := Sum.inr z) e, h⟩
theorem w_dinZ {H : Hp} {Q : VK} {a : Addr} {kvs : List (Key × V)} {z : Str} (e : H a = some (.dK kvs)) (h : Q (.bl (valV kvs (Sum.inr z)).isSome) H) : rDIn (.ref a) (.str z) H Q := ⟨a, _, rfl, DGet.k (k := Sum.inr z) e, h⟩
theorem w_dgetZ {H : Hp} {Q : VK} {a : Addr} {kvs : List (Key × V)} {z : Str} {v : V} (e : H a = some (.dK kvs)) (e2 : valV kvs (Sum.inr z) = some v) (h : Q v H) : rDGet (.ref a) (.str z) H Q := ⟨a, v, rfl, e2 ▸ DGet.k (k := Sum.inr z) e, h⟩
theorem mkK_get (ms : List (Str × Nat)) (z : Str) : (valV (mkK ms) (Sum.inr z)).getD .non = oV (ms.lookup z) := by
  rw [mkK_val]
  cases ms.lookup z <;> rfl
theorem cut50 {α : Type} (f : α → V) (l : List α) : cutV (l.map f) (some (-50)) none = (last50 l).map f := by
  unfold cutV last50
  rw [List.map_drop]
  have e1 : HT.sIx (l.map f).length 0 (some (-50)) = l.length - 50 := by
    rw [List.length_map]
    show (if (-50 : Int) < 0 then ((-50 : Int) + (l.length : Int)).toNat else min (-50 : Int).toNat l.length) = _
    rw [if_pos (by decide)]
    omega
  have e2 : HT.sIx (l.map f).length (l.map f).length none = (l.map f).length := rfl
  rw [e1, e2]
  exact List.take_of_length_le (Nat.le_of_eq (by rw [List.length_drop]))
theorem last50_mem {α : Type} {l : List α} {x : α} (h : x ∈ last50 l) : x ∈ l := List.mem_of_mem_drop h
theorem last50_len {α : Type} (l : List α) : (last50 l).length ≤ 50 := by
  unfold last50
  rw [List.length_drop]
  omega
def spIsLabelX : Sp := fun vs H Q _ => ∃ (x : V) (B : Nat), vs = [x] ∧ DatT B H x ∧ B ≤ 1000 ∧ (∀ z, x = .str z → LabOk z → ∀ H', Same H H' → Q (.bl true) H') ∧ ((∀ z, x = .str z → ¬ LabOk z) → ∀ H', Same H H' → Q (.bl false) H')

section
variable {P : Program} {w : World} {K : PySem.W.Frag} {mg : Str → Option Value} {base : Heap} {C CH CS CU : Addr}
theorem ok_islabelX {f : Addr} {fd : FuncData} (T : Txt K mg) (F : Fun K "is_label" "is_label" s_is_label f fd) : FnOk P w K mg base CX0 1 f fd ["thing"] spIsLabelX := by
  obtain ⟨tk_LETTERS, g_LETTERS⟩ := T.g_LETTERS
  refine F.ok sc_is_label (fun vs H Q E h => ?_) (fun cdv A outer s H vs Q E hr h => ?_)
  · obtain ⟨x, B, rfl, _⟩ := h
    rfl
  · obtain ⟨x, B, rfl, hd, hB, q1, q2⟩ := h
    obtain ⟨a, t⟩ := hd.ty
    refine ⟨_,
      (pss_one
        (ps_ret (pe_and (pe_callB (r := rIsi K) call_isi (by rfl) T.n_isinstance (by decide +kernel) (pa_cons (pv 0) (pa_cons (pe_bltn (v := .ty "str") (u := .type "str") (by rfl) T.n_str (by decide +kernel) rfl) pa_nil))) (pe_and (pe_chain op_le op_le pe_int (pe_callB c_lenS (by rfl) T.n_len (by decide +kernel) (pa_cons (pv 0) pa_nil)) pe_int) (pe_one (pe_callB (r := rAll K) (cr_all rfl) (by rfl) T.n_all (by decide +kernel) (pa_cons (pe_lc (own := [("sign", 1)]) (g := (gName 1)) rfl sc_is_label.nd (pi_str (pv 0)) (blkOk_by (own := [("sign", 1)]) (N := N_is_label) (sc := defScope s_is_label) (by decide +kernel)) (fun _ _ _ _ _ => (pg_name (i := 1) sc_is_label.nd rfl (.inl rfl))) (fun _ _ _ _ _ => pts_nil) (fun _ _ _ _ _ => (pe_cmpR o_inS (pv 1) (pe_glob (v := .str "abcdefghijklmnopqrstuvwxyz") rfl g_LETTERS ⟨_, rfl⟩) rfl))) pa_nil)))))))
      , ?_⟩
    rw [show L2.start N_is_label [x] = [some x, none] from rfl]
    walk_at "x"
    refine w_isStr t ?_
    walk_at "g"
    refine w_ite (fun hs => ?_) (fun hs => ?_)
    rotate_left
    · exact q2 (fun z e => by subst e; exact absurd t.ofStr hs) H (fun _ _ z => z)
    obtain ⟨z, rfl⟩ := t.isStr hs
    have hzl := hd.len
    walk_at "g"
    refine w_lenS (Nat.le_trans hzl (Nat.le_trans hB (by decide))) ?_
    walk_at "g"
    refine w_ite (fun h1 => ?_) (fun h1 => ?_)
    rotate_left
    · walk_at "g"
      exact q2 (fun z' e hl => by cases e; exact h1 (by have := hl.1; omega)) H (fun _ _ z => z)
    walk_at "g"
    refine w_ite (fun h8 => ?_) (fun h8 => ?_)
    rotate_left
    · exact q2 (fun z' e hl => by cases e; exact h8 (by have := hl.2.1; omega)) H (fun _ _ z => z)
    walk_at "g"
    refine lcp_map (walk_str z) [] ((z.cps.toList.map fun c => decide (c ∈ LTR.cps.toList)).map V.bl) (by simp) (by show z.length ≤ 1000000; omega) (fun _ _ => trivial) ?_ (by simp) ?_
    · rintro i x H1 H2 R hi k1 ⟨rfl, c, hc, rfl⟩ hR
      refine w_name ⟨rfl, ?_⟩
      walk_at "g"
      refine hR _ _ ?_ Kp.refl
      rw [List.getElem?_map, List.getElem?_map, Array.getElem?_toList, hc]
      rfl
    · intro L H1 hL k1 eL
      walk_at "g"
      have hk := k1.same
      by_cases h : ∀ c ∈ z.cps.toList, c ∈ LTR.cps.toList
      · have e : (z.cps.toList.map fun c => decide (c ∈ LTR.cps.toList)).all id = true := by
          rw [List.all_eq_true]
          intro b hb
          obtain ⟨c, hc, rfl⟩ := List.mem_map.mp hb
          exact decide_eq_true (h c hc)
        rw [e]
        exact q1 z rfl ⟨by omega, by omega, h⟩ _ hk
      · have e : (z.cps.toList.map fun c => decide (c ∈ LTR.cps.toList)).all id = false := by
          rw [Bool.eq_false_iff]
          intro hall
          rw [List.all_eq_true] at hall
          exact h fun c hc => of_decide_eq_true (hall _ (List.mem_map_of_mem (f := fun c => decide (c ∈ LTR.cps.toList)) hc))
        rw [e]
        exact q2 (fun z' e' hl => by cases e'; exact h hl.2.2) _ hk

theorem ok_nminit {f C : Addr} {fd : FuncData} (F : Fun K "__init__" "NoMark.__init__" s_NoMark___init__ f fd) (XT : OexC K C) (n1 : PySem.W.findIn K (.ref C) "mark" = some none) : FnOk P w K mg base CX0 1 f fd ["self", "mark"] (spInit1 K C "mark") := by
  refine F.ok sc_NoMark___init__ (fun vs H Q E h => ?_) (fun cdv A outer s H vs Q E hr h => ?_)
  · obtain ⟨a, x, rfl, _⟩ := h
    rfl
  · obtain ⟨a, x, rfl, e, q⟩ := h
    refine ⟨_,
      (pss_one
        (ps_ost (pv 0) (pv 1)))
      , ?_⟩
    rw [show L2.start N_NoMark___init__ [V.ref a, x] = [some (.ref a), some x] from rfl]
    refine w_ost ?_
    walk_at "x"
    exact ⟨a, C, rfl, XT, n1, .inl ⟨e, fun dx hd hne => q dx hd hne⟩⟩
theorem ok_stinit {f C : Addr} {fd : FuncData} (F : Fun K "__init__" "Stale.__init__" s_Stale___init__ f fd) (XT : OexC K C) (n1 : PySem.W.findIn K (.ref C) "mark" = some none) (n2 : PySem.W.findIn K (.ref C) "there" = some none) : FnOk P w K mg base CX0 1 f fd ["self", "mark", "there"] (spInit2 K C "mark" "there") := by
  refine F.ok sc_Stale___init__ (fun vs H Q E h => ?_) (fun cdv A outer s H vs Q E hr h => ?_)
  · obtain ⟨a, x, y, rfl, _⟩ := h
    rfl
  · obtain ⟨a, x, y, rfl, e, q⟩ := h
    refine ⟨_,
      (pss_cons
        (ps_ost (pv 0) (pv 1))
      (pss_one
        (ps_ost (pv 0) (pv 2))))
      , ?_⟩
    rw [show L2.start N_Stale___init__ [V.ref a, x, y] = [some (.ref a), some x, some y] from rfl]
    refine w_seq ?_
    refine w_ost ?_
    walk_at "x"
    refine ⟨a, C, rfl, XT, n1, .inl ⟨e, fun dx hd hne => ?_⟩⟩
    refine w_ost ?_
    walk_at "x"
    exact ⟨a, C, rfl, XT, n2, .inr ⟨dx, [("mark", x)], upd_same, (by rw [upd_ne hne]; exact upd_same), by simp, q dx hd hne⟩⟩
theorem ok_nainit {f C : Addr} {fd : FuncData} (F : Fun K "__init__" "NotAhead.__init__" s_NotAhead___init__ f fd) (XT : OexC K C) (n1 : PySem.W.findIn K (.ref C) "mark" = some none) (n2 : PySem.W.findIn K (.ref C) "why" = some none) : FnOk P w K mg base CX0 1 f fd ["self", "mark", "why"] (spInit2 K C "mark" "why") := by
  refine F.ok sc_NotAhead___init__ (fun vs H Q E h => ?_) (fun cdv A outer s H vs Q E hr h => ?_)
  · obtain ⟨a, x, y, rfl, _⟩ := h
    rfl
  · obtain ⟨a, x, y, rfl, e, q⟩ := h
    refine ⟨_,
      (pss_cons
        (ps_ost (pv 0) (pv 1))
      (pss_one
        (ps_ost (pv 0) (pv 2))))
      , ?_⟩
    rw [show L2.start N_NotAhead___init__ [V.ref a, x, y] = [some (.ref a), some x, some y] from rfl]
    refine w_seq ?_
    refine w_ost ?_
    walk_at "x"
    refine ⟨a, C, rfl, XT, n1, .inl ⟨e, fun dx hd hne => ?_⟩⟩
    refine w_ost ?_
    walk_at "x"
    exact ⟨a, C, rfl, XT, n2, .inr ⟨dx, [("mark", x)], upd_same, (by rw [upd_ne hne]; exact upd_same), by simp, q dx hd hne⟩⟩
theorem ok_at {f fL fM C_NoMark : Addr} {fd fdL fdM : FuncData} (T : Txt K mg) (F : Fun K "at" "House.at" s_House_at f fd) (K_House : Kl K mg "House" CU ["book", "here", "turns", "stands", "lately", "others", "pinned"]) (D_is_label : Df K mg "is_label" s_is_label ["thing"] fL fdL)
    (FM : Fun K "__init__" "NoMark.__init__" s_NoMark___init__ fM fdM) (X_NoMark : ExnI K mg "NoMark" C_NoMark fM fdM ["self", "mark"] ["mark"]) : FnOk P w K mg base (L2.CX P w) 3 f fd ["self", "mark"] (spAt P w C CU C_NoMark) := by
  have G_is_label : FnOk P w K mg base CX0 1 fL fdL ["thing"] spIsLabelX := ok_islabelX T D_is_label.fn
  have G_NoMark___init__ : FnOk P w K mg base CX0 1 fM fdM ["self", "mark"] (spInit1 K C_NoMark "mark") := ok_nminit FM X_NoMark.T (X_NoMark.nf "mark" (by simp))
  have cl := K_House.cl
  have n1 := K_House.na "stands" (by simp)
  refine F.okX sc_House_at (fun vs H Q E h => ?_) (fun cdv A outer s H vs Q E hr h => ?_)
  · obtain ⟨s, dy, p, dx, lc, ld, lg, hd, a1, a2, a3, a4, cs, ds, k, hs, ms, ls, x, B, rfl, _⟩ := h
    rfl
  · obtain ⟨s, dy, p, dx, lc, ld, lg, hd, a1, a2, a3, a4, cs, ds, k, hs, ms, ls, x, B, rfl, W, dt, hB, q1, q2⟩ := h
    have hu := hu_of hr
    have ob := W.st.ob
    refine ⟨_,
      (pss_cons
        (ps_if (PW.pt (pw_or (pt_not (pt_val (pe_call G_is_label (hr.mono (by omega)) (by rfl) D_is_label.g D_is_label.fn.kp D_is_label.b .nil pass0 (pa_cons (pv 1) pa_nil)))) (pw_or1 (pt_cmp (pc_dnotin hu (pv 1) (pe_fldK (K := K) rfl (pv 0) rfl))))))
          (pss_one
            (ps_raise rfl (takes_of rfl rfl rfl rfl) (pmk_oex X_NoMark.T X_NoMark.i X_NoMark.t G_NoMark___init__ (hr.mono (by omega)) X_NoMark.b .nil pass0 (by rfl) X_NoMark.g (pa_cons (pv 1) pa_nil))))
          pss_nil)
      (pss_one
        (ps_ret (pe_dget hu (pe_fldK (K := K) rfl (pv 0) rfl) (pv 1) (fun _ _ => rfl)))))
      , ?_⟩
    rw [show L2.start N_House_at [V.ref s, x] = [some (.ref s), some x] from rfl]
    refine w_seq ?_
    walk_at "x"
    refine ⟨x, B, rfl, dt, hB, fun z ez hz H1 k1 => ?_, fun hno H1 k1 => ?_⟩
    · subst ez
      have ob1 := k1 _ _ ob
      have e11 := k1 _ _ W.e1
      walk_at "g"
      refine w_dnotinZ e11 ?_
      rw [mkK_val]
      cases hl : ms.lookup z with
      | none =>
        rw [show (!(Option.map nV (none : Option Nat)).isSome) = true from rfl]
        walk_at "g"
        refine w_mkO ?_
        walk_at "g"
        exact ⟨by simp, fun a ha => mk1_sameR ha fun d H4 k4 hd4 e4 => q2 (.inr hl) d H4 (Same.trans k1 k4) (k1.free hd4) e4⟩
      | some n =>
        rw [show (!(Option.map nV (some n)).isSome) = false from rfl]
        walk_at "g"
        refine w_dgetZ e11 (v := nV n) (by rw [mkK_val, hl]; rfl) ?_
        exact q1 n ⟨z, rfl, hz⟩ hl H1 k1
    · walk_at "g"
      refine w_mkO ?_
      walk_at "g"
      refine ⟨by simp, fun a ha => mk1_sameR ha fun d H4 k4 hd4 e4 => q2 (.inl ?_) d H4 (Same.trans k1 k4) (k1.free hd4) e4⟩
      rintro ⟨z, ez, hz⟩
      exact hno z ez hz
theorem ok_trail {f : Addr} {fd : FuncData} (T : Txt K mg) (F : Fun K "trail" "House.trail" s_House_trail f fd) (K_House : Kl K mg "House" CU ["book", "here", "turns", "stands", "lately", "others", "pinned"]) : FnOk P w K mg base CX0 1 f fd ["self"] (spTrail P w C CU) := by
  have cl := K_House.cl
  have n1 := K_House.na "lately" (by simp)
  refine F.ok sc_House_trail (fun vs H Q E h => ?_) (fun cdv A outer s H vs Q E hr h => ?_)
  · obtain ⟨s, dy, p, dx, lc, ld, lg, hd, a1, a2, a3, a4, cs, ds, k, hs, ms, ls, rfl, _⟩ := h
    rfl
  · obtain ⟨s, dy, p, dx, lc, ld, lg, hd, a1, a2, a3, a4, cs, ds, k, hs, ms, ls, rfl, W, q⟩ := h
    have ob := W.st.ob
    have e2 := W.e2
    refine ⟨_,
      (pss_one
        (ps_ret (pe_callTy (r := rListOf K) c_listOf (by rfl) T.n_list (by decide +kernel) (pa_cons (pe_fldK (K := K) rfl (pv 0) rfl) pa_nil))))
      , ?_⟩
    rw [show L2.start N_House_trail [V.ref s] = [some (.ref s)] from rfl]
    walk_at "x"
    refine w_listL (.of e2) fun l H1 hl e3 k1 => ?_
    exact q l H1 hl e3 k1
theorem ok_move {f fL fM fMH fW fV fT fA C_NoMark C_NoName C_Lack C_Stale C_NotAhead : Addr} {fd fdL fdM fdMH fdW fdV fdT fdA : FuncData} {kws : List (Str × V)} (T : Txt K mg) (F : FunD K "move" "House.move" (defArgs s_House_move) (defBody s_House_move) (defScope s_House_move) [] kws f fd) (K_House : Kl K mg "House" CU ["book", "here", "turns", "stands", "lately", "others", "pinned"]) (D_is_label : Df K mg "is_label" s_is_label ["thing"] fL fdL)
    (FM : Fun K "__init__" "NoMark.__init__" s_NoMark___init__ fM fdM) (X_NoMark : ExnI K mg "NoMark" C_NoMark fM fdM ["self", "mark"] ["mark"])
    (FT : Fun K "__init__" "Stale.__init__" s_Stale___init__ fT fdT) (X_Stale : ExnI K mg "Stale" C_Stale fT fdT ["self", "mark", "there"] ["mark", "there", "why"])
    (FA : Fun K "__init__" "NotAhead.__init__" s_NotAhead___init__ fA fdA) (X_NotAhead : ExnI K mg "NotAhead" C_NotAhead fA fdA ["self", "mark", "why"] ["mark", "why", "there"])
    (D_House_must_have : DfM K CU "must_have" "House.must_have" s_House_must_have ["self", "version"] fMH fdMH) (G_House_must_have : FnOk P w K mg base (L2.CX P w) 5 fMH fdMH ["self", "version"] (spMustHave P w C CU C_NoName C_Lack))
    (D_way : Df K mg "way" s_way ["view", "old", "new"] fW fdW) (G_way : FnOk P w K mg base CX0 7 fW fdW ["view", "old", "new"] (spWay P w C CH))
    (D_Store_view : DfM K CS "view" "Store.view" s_Store_view ["self"] fV fdV) (I_House_view : Meth K CU "view" fV) (G_House_view : FnOk P w K mg base CX0 6 fV fdV ["self"] (spView P w C CH CU)) : FnOk P w K mg base (L2.CX P w) 9 f fd ["self", "mark", "old", "new", "back"] (spMove P w C CU C_NoMark C_NoName C_Lack C_Stale C_NotAhead) := by
  have G_is_label : FnOk P w K mg base CX0 1 fL fdL ["thing"] spIsLabelX := ok_islabelX T D_is_label.fn
  have G_NoMark___init__ : FnOk P w K mg base CX0 1 fM fdM ["self", "mark"] (spInit1 K C_NoMark "mark") := ok_nminit FM X_NoMark.T (X_NoMark.nf "mark" (by simp))
  have G_Stale___init__ : FnOk P w K mg base CX0 1 fT fdT ["self", "mark", "there"] (spInit2 K C_Stale "mark" "there") := ok_stinit FT X_Stale.T (X_Stale.nf "mark" (by simp)) (X_Stale.nf "there" (by simp))
  have G_NotAhead___init__ : FnOk P w K mg base CX0 1 fA fdA ["self", "mark", "why"] (spInit2 K C_NotAhead "mark" "why") := ok_nainit FA X_NotAhead.T (X_NotAhead.nf "mark" (by simp)) (X_NotAhead.nf "why" (by simp))
  obtain ⟨tk_LAST, g_LAST⟩ := T.g_LAST
  have cl := K_House.cl
  have n1 := K_House.na "stands" (by simp)
  have n2 := K_House.na "lately" (by simp)
  refine F.ok (CX := L2.CX P w) sc_House_move (fun vs H Q E h => ?_) (fun cdv A outer s H vs Q E hr h => ?_)
  · obtain ⟨s, dy, p, dx, lc, ld, lg, hd, a1, a2, a3, a4, cs, ds, k, hs, ms, ls, x, B, old, new, back, rfl, _⟩ := h
    rfl
  · obtain ⟨s, dy, p, dx, lc, ld, lg, hd, a1, a2, a3, a4, cs, ds, k, hs, ms, ls, x, B, old, new, back, rfl, W, ok, hcl, na1s, nhd, hml, hll, dt, hB, q⟩ := h
    have hu := hu_of hr
    have ob := W.st.ob
    refine ⟨_,
      (pss_cons
        (ps_if (pt_not (pt_val (pe_call G_is_label (hr.mono (by omega)) (by rfl) D_is_label.g D_is_label.fn.kp D_is_label.b .nil pass0 (pa_cons (pv 1) pa_nil))))
          (pss_one
            (ps_raise rfl (takes_of rfl rfl rfl rfl) (pmk_oex X_NoMark.T X_NoMark.i X_NoMark.t G_NoMark___init__ (hr.mono (by omega)) X_NoMark.b .nil pass0 (by rfl) X_NoMark.g (pa_cons (pv 1) pa_nil))))
          pss_nil)
      (pss_cons
        (ps_if (pt_cmpR o_notN (pv 3) pe_non (nomark _))
          (pss_one
            (ps_expr (pe_meth (pv 0) K_House.cl D_House_must_have.m G_House_must_have (hr.mono (by omega)) D_House_must_have.b .nil (passes_call (takes_of rfl rfl rfl rfl) (fun _ _ _ _ h => h)) (pa_cons (pv 3) pa_nil))))
          pss_nil)
      (pss_cons
        (ps_set (i := 5) sc_House_move.nd rfl (.inl rfl) (pe_dget1 hu (pe_fldK (K := K) rfl (pv 0) rfl) (pv 1) ⟨rfl, rfl, rfl, rfl⟩))
      (pss_cons
        (ps_if (pt_cmpR op_ne (pv 5) (pv 2) (nomark _))
          (pss_one
            (ps_raise rfl (takes_of rfl rfl rfl rfl) (pmk_oex X_Stale.T X_Stale.i X_Stale.t G_Stale___init__ (hr.mono (by omega)) X_Stale.b .nil pass0 (by rfl) X_Stale.g (pa_cons (pv 1) (pa_cons (pv 5) pa_nil)))))
          pss_nil)
      (pss_cons
        (ps_set (i := 6) sc_House_move.nd rfl (.inl rfl) pe_non)
      (pss_cons
        (ps_if (PW.pt (pw_and (pt_cmpR o_notN (pv 2) pe_non (nomark _)) (pw_and1 (pt_cmpR o_notN (pv 3) pe_non (nomark _)))))
          (pss_one
            (ps_set (i := 6) sc_House_move.nd rfl (.inl rfl) (pe_call G_way (hr.mono (by omega)) (by rfl) D_way.g D_way.fn.kp D_way.b .nil pass0 (pa_cons (pe_meth0 (pv 0) K_House.cl I_House_view G_House_view (hr.mono (by omega)) D_Store_view.b .nil pass0) (pa_cons (pv 2) (pa_cons (pv 3) pa_nil))))))
          pss_nil)
      (pss_cons
        (ps_if (PW.pt (pw_and (pt_not (pt_val (pv 4))) (pw_and1 (PW.pt (pw_or (pt_cmpR o_isN (pv 3) pe_non (nomark _)) (pw_or1 (PW.pt (pw_and (pt_cmpR o_notN (pv 6) pe_non (nomark _)) (pw_and1 (pt_cmpR op_eq (pe_ix (r := rIxT K) ix_tup (pv 6) pe_int (fun _ _ => rfl)) pe_str (nomark _)))))))))))
          (pss_one
            (ps_raise rfl (takes_of rfl rfl rfl rfl) (pmk_oex X_NotAhead.T X_NotAhead.i X_NotAhead.t G_NotAhead___init__ (hr.mono (by omega)) X_NotAhead.b .nil pass0 (by rfl) X_NotAhead.g (pa_cons (pv 1) (pa_cons (pv 6) pa_nil)))))
          pss_nil)
      (pss_cons
        (ps_if (pt_cmpR o_notN (pv 3) pe_non (nomark _))
          (pss_one
            (ps_dput hu (pe_fldK (K := K) rfl (pv 0) rfl) (pv 1) (pv 3) rfl))
          (pss_one
            (ps_if (pt_cmpR o_notN (pv 2) pe_non (nomark _))
              (pss_one
                (ps_expr (pe_dpop1 (pe_fldK (K := K) rfl (pv 0) rfl) (pv 1) ⟨rfl, rfl, rfl, rfl⟩)))
              pss_nil)))
      (pss_cons
        (ps_fld (pv 0) (pe_slice sl_list (pe_op op_cat (pe_fldK (K := K) rfl (pv 0) rfl) (pe_lst (pa_cons (pe_tup (pa_cons (pv 1) (pa_cons (pv 2) (pa_cons (pv 3) (pa_cons (pv 4) pa_nil))))) pa_nil))) (po_some (pe_un un_neg (pe_glob (v := .int 50) rfl g_LAST ⟨_, rfl⟩))) po_none) rfl)
      (pss_one
        (ps_ret (pv 6))))))))))))
      , ?_⟩
    rw [show L2.start N_House_move [V.ref s, x, oV old, iV new, V.bl back] = [some (.ref s), some x, some (oV old), some (iV new), some (.bl back), none, none] from rfl]
    refine w_seq ?_
    walk_at "x"
    refine ⟨x, B, rfl, dt, hB, fun z ez hz H1 k1 => ?_, fun hno H1 k1 => ?_⟩
    rotate_left
    · have nl : ¬ IsLab x := fun ⟨z, ez, hz⟩ => hno z ez hz
      rw [dueM_nm nl] at q
      walk_at "g"
      refine w_mkO ?_
      walk_at "g"
      exact ⟨by simp, fun a ha => mk1_sameR ha fun d H4 k4 hd4 e4 => q d H4 (Same.trans k1 k4) (k1.free hd4) e4⟩
    subst ez
    have il : IsLab (.str z) := ⟨z, rfl, hz⟩
    have W1 := W.same k1
    have ob1 := W1.st.ob
    walk_at "g"
    refine w_seqJ (fun σ' H' => σ' = [some (.ref s), some (.str z), some (oV old), some (iV new), some (.bl back), none, none] ∧ H' = H1 ∧ GoodN cs hs new) ?_ fun U hU => ?_
    rotate_left
    · walk_at "g"
      cases new with
      | none =>
        refine w_nyes rfl ?_
        walk_at "g"
        exact hU _ _ ⟨rfl, rfl, fun i e => by cases e⟩
      | some i =>
        refine w_nno (fun e => nomatch e) ?_
        walk_at "g"
        refine ⟨s, dy, p, dx, lc, ld, lg, hd, a1, a2, a3, a4, cs, ds, k, _, i, rfl, W1.st, W1.bk, ?_⟩
        by_cases hv : ∃ n : Nat, i = n ∧ isV cs n
        · by_cases hin : i.toNat ∈ hs
          · unfold dueV
            rw [if_pos hv, if_pos hin]
            unfold RfO
            dsimp only
            refine hU _ _ ⟨rfl, rfl, fun j e => ?_⟩
            cases e
            obtain ⟨n, e1, e2⟩ := hv
            exact ⟨n, e1, e2, by rw [e1] at hin; exact hin⟩
          · rw [dueM_lk il hv hin] at q
            unfold dueV
            rw [if_pos hv, if_neg hin]
            unfold RfO
            dsimp only
            exact fun d H4 k4 hd4 e4 => q d H4 (Same.trans k1 k4) (k1.free hd4) e4
        · rw [dueM_nn il hv] at q
          unfold dueV
          rw [if_neg hv]
          unfold RfO
          dsimp only
          exact fun d H4 k4 hd4 e4 => q d H4 (Same.trans k1 k4) (k1.free hd4) e4
    rintro σ' H2 ⟨rfl, e0, hg⟩
    subst e0
    walk_at "g"
    refine w_isD W1.e1 ?_
    walk_at "g"
    refine w_dget1Z W1.e1 ?_
    rw [mkK_get]
    walk_at "g"
    refine w_seq ?_
    walk_at "g"
    refine w_neO ?_
    walk_at "g"
    by_cases hst : ms.lookup z = old
    rotate_left
    · rw [decide_eq_false hst]
      rw [dueM_st il hg hst] at q
      walk_at "g"
      refine w_mkO ?_
      walk_at "g"
      exact ⟨by simp, fun a ha => mk2_same ha fun d H4 k4 hd4 e4 => q d H4 (Same.trans k1 k4) (k1.free hd4) e4⟩
    rw [decide_eq_true hst]
    rw [hst]
    walk_at "g"
    obtain ⟨nw, rfl⟩ : ∃ nw : Option Nat, new = nw.map (fun n : Nat => (n : Int)) := by
      cases new with
      | none => exact ⟨none, rfl⟩
      | some i =>
        obtain ⟨n, e, _⟩ := hg i rfl
        exact ⟨some n, by rw [e]; rfl⟩
    have e11 := W1.e1
    refine w_seqJ (fun σ' H' => ∃ y, σ' = [some (.ref s), some (.str z), some (oV old), some (iV (nw.map fun n : Nat => (n : Int))), some (.bl back), some (oV old), some y] ∧ Same H2 H' ∧ (((old = none ∨ nw = none) ∧ y = .non) ∨ ∃ o n t, old = some o ∧ nw = some n ∧ y = .ref t ∧ ToldW H' cs hs o n t)) ?_ fun U hU => ?_
    rotate_left
    · walk_at "g"
      cases old with
      | none =>
        refine w_nyes rfl ?_
        walk_at "g"
        exact hU _ _ ⟨_, rfl, fun _ _ z => z, .inl ⟨.inl rfl, rfl⟩⟩
      | some o =>
        refine w_nno (fun e => nomatch e) ?_
        walk_at "g"
        cases nw with
        | none =>
          refine w_nyes rfl ?_
          walk_at "g"
          exact hU _ _ ⟨_, rfl, fun _ _ z => z, .inl ⟨.inr rfl, rfl⟩⟩
        | some n =>
          obtain ⟨n', en, iv, hin⟩ := hg _ rfl
          obtain rfl : n = n' := by have : (n : Int) = n' := en; omega
          refine w_nno (fun e => nomatch e) ?_
          walk_at "g"
          refine ⟨s, dy, p, dx, lc, ld, lg, hd, cs, ds, _, k, _, rfl, rfl, W1.st, W1.bk, fun m hm => W.in' m hm, fun v dv rw' hv hs' H3 hv0 hrw0 hhv0 Vv hmem k3 => ?_⟩
          obtain rfl : hs' = hs := rise_ext Vv.up W.up hmem
          walk_at "g"
          refine ⟨v, cs, hs', o, n, rfl, ⟨dv, p, dx, lc, ld, lg, rw', hv, ds, Vv⟩, ok, iv, hcl, fun hR H4 t r ns k4 e4 er hw hl => ?_, fun hR H4 t r e ns k4 e4 er ee hup hm hl => ?_⟩
          · walk_at "g"
            exact hU _ _ ⟨_, rfl, Same.trans k3 k4, .inr ⟨o, n, t, rfl, rfl, rfl, .inl ⟨hR, r, ns, e4, er, hw, hl⟩⟩⟩
          · walk_at "g"
            exact hU _ _ ⟨_, rfl, Same.trans k3 k4, .inr ⟨o, n, t, rfl, rfl, rfl, .inr ⟨hR, ns, r, e, e4, er, ee, hup, hm, hl⟩⟩⟩
    rintro σ' H3 ⟨y, rfl, k3, hy⟩
    have k13 := Same.trans k1 k3
    have W3 := W.same k13
    have ob3 := W3.st.ob
    refine w_seqJ (fun σ' H' => σ' = [some (.ref s), some (.str z), some (oV old), some (iV (nw.map fun n : Nat => (n : Int))), some (.bl back), some (oV old), some y] ∧ H' = H3 ∧ dueM cs hs ms (.str z) old (nw.map fun n : Nat => (n : Int)) back = .ok) ?_ fun U hU => ?_
    rotate_left
    · walk_at "g"
      cases back with
      | true =>
        rw [show (!true) = false from rfl, if_neg (by decide), if_neg (by decide)]
        walk_at "g"
        exact hU _ _ ⟨rfl, rfl, dueM_ok il hg hst (.inl rfl)⟩
      | false =>
        rw [show (!false) = true from rfl, if_pos rfl]
        cases nw with
        | none =>
          obtain rfl : y = .non := by
            rcases hy with ⟨_, e⟩ | ⟨o, n, t, _, e, _⟩
            · exact e
            · cases e
          rw [show (Option.map (fun n : Nat => (n : Int)) none) = (none : Option Int) from rfl, dueM_na0 il hst] at q
          walk_at "g"
          refine w_yes rfl ?_
          walk_at "g"
          refine w_mkO ?_
          walk_at "g"
          exact ⟨by simp, fun a ha => mk2_same ha fun d H4 k4 hd4 e4 => q d H4 (Same.trans k13 k4) (k13.free hd4) e4⟩
        | some n =>
          walk_at "g"
          refine w_no (fun e => nomatch e) ?_
          walk_at "g"
          rcases hy with ⟨ho, rfl⟩ | ⟨o, n', t, rfl, en, rfl, hw⟩
          · refine w_nyes rfl ?_
            walk_at "g"
            refine hU _ _ ⟨rfl, rfl, dueM_ok il hg hst (.inr ⟨n, rfl, fun o e => ?_⟩)⟩
            rcases ho with h | h
            · rw [h] at e; cases e
            · cases h
          · obtain rfl : n = n' := Option.some.inj en
            refine w_nno (fun e => nomatch e) ?_
            walk_at "g"
            rcases hw with ⟨hR, r, ns, e4, er, hwk, hl⟩ | ⟨hR, ns, r, e, e4, er, ee, hup, hm, hl⟩
            · have at0 : atI [V.str "ahead", V.ref r] 0 = some (.str "ahead") := atI_nat (j := 0) rfl
              walk_at "g"
              refine w_no (fun z => lit_ap1 z) ?_
              walk_at "g"
              exact hU _ _ ⟨rfl, rfl, dueM_ok il hg hst (.inr ⟨n, rfl, fun o' e => by cases e; exact hR⟩)⟩
            · have at0 : atI [V.str "apart", V.ref r, V.ref e] 0 = some (.str "apart") := atI_nat (j := 0) rfl
              rw [show (Option.map (fun n : Nat => (n : Int)) (some n)) = some (n : Int) from rfl, dueM_na1 il hg hst hR] at q
              walk_at "g"
              refine w_yes rfl ?_
              walk_at "g"
              refine w_mkO ?_
              walk_at "g"
              refine ⟨by simp, fun a ha => mk2_same ha fun d H4 k4 hd4 e5 => q d t n ns H4 rfl (Same.trans k13 k4) (k13.free hd4) e5 ?_⟩
              exact ⟨r, e, k4 _ _ e4, k4 _ _ er, k4 _ _ ee, hup, hm, hl⟩
    rintro σ' H4 ⟨rfl, e0, hdue⟩
    subst e0
    rw [hdue] at q
    have e13 := W3.e1
    have hmk : (mkK ms).length < sizeLine := by unfold mkK; rw [List.length_map]; exact small9 (by omega)
    refine w_seqJ (fun σ' H' => σ' = [some (.ref s), some (.str z), some (oV old), some (iV (nw.map fun n : Nat => (n : Int))), some (.bl back), some (oV old), some y] ∧ H' a1 = some (.dK (mkK (putM ms z nw))) ∧ Off a1 H4 H') ?_ fun U hU => ?_
    rotate_left
    · walk_at "g"
      cases nw with
      | some n =>
        refine w_nno (fun e => nomatch e) ?_
        walk_at "g"
        refine w_dputS (v := nV n) e13 hmk fun H5 e5 o5 => ?_
        rw [mkK_put] at e5
        exact hU _ _ ⟨rfl, e5, o5⟩
      | none =>
        refine w_nyes rfl ?_
        walk_at "g"
        cases old with
        | none =>
          refine w_nyes rfl ?_
          walk_at "g"
          refine hU _ _ ⟨rfl, ?_, fun _ _ => rfl⟩
          show _ = some (HO.dK (mkK (dropMs ms z)))
          rw [dropMs_none hst]
          exact e13
        | some o =>
          refine w_nno (fun e => nomatch e) ?_
          walk_at "g"
          refine w_dpop1' (k := Sum.inr z) e13 (v := nV o) (by rw [mkK_val, hst]; rfl) fun H5 e5 o5 => ?_
          rw [mkK_drop] at e5
          exact hU _ _ ⟨rfl, e5, o5⟩
    rintro σ' H5 ⟨rfl, e5, o5⟩
    have na21 : a2 ≠ a1 := ne_of W3.e2 e13 (fun z => nomatch z)
    have ob5 := o5.get na1s.symm ob3
    have e25 := o5.get na21 W3.e2
    have t5 : KT H4 H5 := KT.offD o5 e13
    walk_at "g"
    refine w_new fun r H6 hr6 er6 k6 => ?_
    have ob6 := k6 _ _ ob5
    walk_at "g"
    refine w_new fun l1 H7 hl7 el7 k7 => ?_
    walk_at "g"
    refine w_cat (k7 _ _ (k6 _ _ e25)) el7 (by rw [List.length_map, List.length_cons, List.length_nil]; exact Nat.le_trans (by omega) (show (1001 : Nat) ≤ sizeLine by decide)) fun l2 H8 hl8 el8 k8 => ?_
    rw [show (ls.map fun q => V.ref q.1) ++ [V.ref r] = (ls ++ [(r, (⟨z, old, nw, back⟩ : Mv))]).map fun q => V.ref q.1 by rw [List.map_append]; rfl] at el8
    walk_at "g"
    refine w_slL (.of el8) fun l3 H9 hl9 el9 k9 => ?_
    rw [cut50] at el9
    have k59 := Same.trans k6 (Same.trans k7 (Same.trans k8 k9))
    have ob9 := k59 _ _ ob5
    walk_at "g"
    refine w_fldS' ob9 cl n2 (show (7 : Nat) < 1000 by decide) fun H10 ob10 f10 => ?_
    walk_at "g"
    have f5 : ∀ {b : Addr}, b ≠ a1 → H5 b = none → H b = none := fun {b} hb hn => by
      cases e : H b with
      | none => rfl
      | some o =>
        rw [o5.get hb (k13 _ _ e)] at hn
        cases hn
    have hr5 : H r = none := f5 (fun e => by rw [e, e5] at hr6; cases hr6) hr6
    have hl5 : H5 l3 = none := (Same.trans k6 (Same.trans k7 k8)).free hl9
    have hl0 : H l3 = none := f5 (fun e => by rw [e, e5] at hl5; cases hl5) hl5
    have nl3s : l3 ≠ s := fun e => by rw [e, ob5] at hl5; cases hl5
    have kp10 : Kp [s, a1] H H10 := fun b u hb e => by
      simp only [List.mem_cons, List.not_mem_nil, or_false, not_or] at hb
      exact f10.get hb.1 (k59 _ _ (o5.get hb.2 (k13 _ _ e)))
    have kt10 : KT H H10 := (KT.of k13).trans (t5.trans ((KT.of k59).trans (KT.offI f10 ob9)))
    have out : ∀ {b : Addr} {u : HO}, H4 b = some u → (∀ fs dz, u ≠ .ins CU dz fs) → (∀ kvs, u ≠ .dK kvs) → b ∉ [s, a1] := fun {b u} e h1 h2 hb => by
      simp only [List.mem_cons, List.not_mem_nil, or_false] at hb
      rcases hb with rfl | rfl
      · rw [ob3] at e; exact h1 _ _ (Option.some.inj e).symm
      · rw [e13] at e; exact h2 _ (Option.some.inj e).symm
    have nps : p ∉ [s, a1] := fun hb => by
      simp only [List.mem_cons, List.not_mem_nil, or_false] at hb
      rcases hb with h | h
      · have e := W3.bk.ob
        rw [h, ob3] at e
        have := (HO.ins.inj (Option.some.inj e)).2.2
        exact absurd (congrArg (fun l : List (Str × V) => l.length) this) (by simp [hrs])
      · have e := W3.bk.ob
        rw [h, e13] at e
        cases e
    refine q z nw l3 r y H10 rfl rfl kp10 kt10 hl0 hr5 ⟨⟨ob10, W.st.here.kp kp10 (by simp only [List.mem_cons, List.not_mem_nil, or_false, not_or]; exact ⟨W.st.ne, nhd⟩), W.st.ne⟩, W.bk.kp kp10 kt10 nps (out W3.bk.co (fun _ _ z => nomatch z) (fun _ z => nomatch z)) (out W3.bk.de (fun _ _ z => nomatch z) (fun _ z => nomatch z)) ?_, f10.get na1s (k59 _ _ e5), ?_, ?_, f10.get nl3s el9, ?_, W.up, W.in'⟩ ?_
    · exact out W3.bk.gi.at' (fun _ _ z => nomatch z) (fun _ z => nomatch z)
    · cases nw with
      | none => exact dropMs_nd W.nd z
      | some n => exact putMs_nd W.nd z n
    · intro q' hq'
      cases nw with
      | none => exact W.mo q' (List.mem_filter.mp (show q' ∈ ms.filter (fun p => decide (p.1 ≠ z)) from hq')).1
      | some n =>
        rcases putMs_mem hq' with rfl | h
        · obtain ⟨n', en, iv, hin⟩ := hg _ rfl
          obtain rfl : n = n' := by have : (n : Int) = n' := en; omega
          exact ⟨hz, iv, hin⟩
        · exact W.mo q' h
    · intro q' hq'
      rcases List.mem_append.mp (last50_mem hq') with h | h
      · exact kt10 _ _ (W.lt q' h)
      · obtain rfl : q' = (r, ⟨z, old, nw, back⟩) := by simpa using h
        show H10 r = some (.tup [.str z, oV old, oV nw, .bl back])
        have er10 := (KT.offI f10 ob9) _ _ (k9 _ _ (k8 _ _ (k7 _ _ er6)))
        rw [er10]
        cases nw <;> rfl
    · rcases hy with h | ⟨o, n, t, h1, h2, h3, h4⟩
      · exact .inl h
      · refine .inr ⟨o, n, t, h1, h2, h3, ?_⟩
        have kk : KT H4 H10 := t5.trans ((KT.of k59).trans (KT.offI f10 ob9))
        rcases h4 with ⟨hR, r', ns, g1, g2, g3, g4⟩ | ⟨hR, ns, r', e', g1, g2, g3, g4, g5, g6⟩
        · exact .inl ⟨hR, r', ns, kk _ _ g1, kk _ _ g2, g3, g4⟩
        · exact .inr ⟨hR, ns, r', e', kk _ _ g1, kk _ _ g2, kk _ _ g3, g4, g5, g6⟩
end
/-! ### what the law says of moves -/
local macro_rules | `(tactic| walk_at "s") => `(tactic| first
  | with_reducible refine w_dpop1 ?_
  | with_reducible refine w_methNS ?_
  | with_reducible refine w_methN ?_
  )
def spLIsLab : Sp := fun vs H Q _ => ∃ (x : V) (B : Nat), vs = [x] ∧ DatT B H x ∧ B ≤ 1000 ∧ (IsLab x → Q (.bl true) H) ∧ (¬ IsLab x → Q (.bl false) H)
def spLIsVer : Sp := fun vs H Q _ => ∃ (th : Addr) (cs : List (Addr × Ct)) (i : Int), vs = [.ref th, .int i] ∧ ThAt H th cs ∧ cs.length ≤ 1000 ∧ ((∃ n : Nat, i = n ∧ isV cs n) → Q (.bl true) H) ∧ ((¬ ∃ n : Nat, i = n ∧ isV cs n) → Q (.bl false) H)

/-- what the law says that move says -/
def DueAt (H : Hp) (cs : List (Addr × Ct)) (hs : List Nat) (ms : List (Str × Nat)) (x : V) (new : Option Int) (t : Addr) : Md → Prop
  | .nm => H t = some (.tup [.str "NoMark", x])
  | .nn => H t = some (.tup [.str "NoName", iV new])
  | .lk => H t = some (.tup [.str "Lack", iV new])
  | .st => H t = some (.tup [.str "Stale", x, oV (lookM ms x)])
  | .na0 => H t = some (.tup [.str "NotAhead", x, .non])
  | .na1 => ∃ (w : Addr) (goes : Nat) (ns : List Nat), new = some (goes : Int) ∧ H t = some (.tup [.str "NotAhead", x, .ref w]) ∧ ApartW H cs hs goes w ns
  | .ok => H t = some (.tup [.str "told"])
def spLMvDue : Sp := fun vs H Q _ => ∃ (th f d : Addr) (cs : List (Addr × Ct)) (hs : List Nat) (ms : List (Str × Nat)) (x : V) (B : Nat) (old : Option Nat) (new : Option Int) (turn : Nat), vs = [.ref th, .ref f, .ref d, x, oV old, iV new, nV turn] ∧ LScn H th f cs hs ∧ H d = some (.dK (mkK ms)) ∧ DatT B H x ∧ B ≤ 1000 ∧
  ∀ H' t, Same H H' → DueAt H' cs hs ms x new t (dueM cs hs ms x old new (decide (turn = 2))) → Q (.ref t) H'
def spLSet : Sp := fun vs H Q _ => ∃ (d : Addr) (ms : List (Str × Nat)) (z : Str) (nw : Option Nat), vs = [.ref d, .str z, oV nw] ∧ H d = some (.dK (mkK ms)) ∧ ms.length ≤ 5000 ∧ ∀ H', H' d = some (.dK (mkK (putM ms z nw))) → Off d H H' → Q .non H'
section
variable {P : Program} {w : World} {K : PySem.W.Frag} {mg : Str → Option Value} {base : Heap} {C CH CS CU : Addr}
theorem ok_lislab {f : Addr} {fd : FuncData} (T : Txt K mg) (F : Fun K "_law_is_label" "_law_is_label" s_law_is_label f fd) : FnOk P w K mg base CX0 1 f fd ["_law_thing"] spLIsLab := by
  refine F.ok sc_law_is_label (fun vs H Q E h => ?_) (fun cdv A outer s H vs Q E hr h => ?_)
  · obtain ⟨x, B, rfl, _⟩ := h
    rfl
  · obtain ⟨x, B, rfl, hd, hB, q1, q2⟩ := h
    obtain ⟨a, t⟩ := hd.ty
    refine ⟨_,
      (pss_cons
        (ps_if (PW.pt (pw_or (pt_not (pt_val (pe_callB (r := rIsi K) call_isi (by rfl) T.n_isinstance (by decide +kernel) (pa_cons (pv 0) (pa_cons (pe_bltn (v := .ty "str") (u := .type "str") (by rfl) T.n_str (by decide +kernel) rfl) pa_nil))))) (pw_or (pt_cmpR op_eq (pe_callB c_lenS (by rfl) T.n_len (by decide +kernel) (pa_cons (pv 0) pa_nil)) pe_int (nomark _)) (pw_or1 (pt_cmpR op_gt (pe_callB c_lenS (by rfl) T.n_len (by decide +kernel) (pa_cons (pv 0) pa_nil)) pe_int (nomark _))))))
          (pss_one
            (ps_ret pe_bl))
          pss_nil)
      (pss_cons
        (ps_for PassesOwn.never rfl (pi_str (pv 0)) (pg_name (i := 1) sc_law_is_label.nd rfl (.inl rfl))
          (pss_one
            (ps_if (pt_cmpR op_notIn_sign (pv 1) pe_str rfl)
              (pss_one
                (ps_ret pe_bl))
              pss_nil)))
      (pss_one
        (ps_ret pe_bl))))
      , ?_⟩
    rw [show L2.start N_law_is_label [x] = [some x, none] from rfl]
    refine w_seq ?_
    walk_at "x"
    refine w_isStr t ?_
    walk_at "g"
    refine w_itN (fun hs => ?_) (fun hs => ?_)
    · walk_at "g"
      exact q2 fun ⟨z, e, _⟩ => by subst e; exact absurd t.ofStr hs
    obtain ⟨z, rfl⟩ := t.isStr hs
    have hzl := hd.len
    walk_at "g"
    refine w_lenS (Nat.le_trans hzl (Nat.le_trans hB (by decide))) ?_
    walk_at "g"
    refine w_ite (fun h0 => ?_) (fun h0 => ?_)
    · walk_at "g"
      exact q2 fun ⟨z', e, hl⟩ => by cases e; have := hl.1; omega
    walk_at "g"
    refine w_lenS (Nat.le_trans hzl (Nat.le_trans hB (by decide))) ?_
    walk_at "g"
    refine w_ite (fun h8 => ?_) (fun h8 => ?_)
    · walk_at "g"
      exact q2 fun ⟨z', e, hl⟩ => by cases e; have := hl.2.1; omega
    walk_at "g"
    refine lp_it (walk_str z) (fun i σ H' => H' = H ∧ (∃ y : Option V, σ = [some (.str z), y]) ∧ ∀ c ∈ z.cps.toList.take i, c ∈ (Str.ofString "abcdefghijklmnopqrstuvwxyz").cps.toList) ⟨rfl, ⟨_, rfl⟩, by simp⟩ (fun _ _ _ _ _ => trivial) ?_ ?_
    · rintro i x σ H1 H2 hi ⟨rfl, ⟨y, rfl⟩, hall⟩ ⟨rfl, c, hc, rfl⟩
      have hc' : z.cps.toList[i]? = some c := by rw [Array.getElem?_toList]; exact hc
      have hcm := List.mem_of_getElem? hc'
      walk_at "g"
      refine ⟨c, _, rfl, rfl, _, rfl, ?_⟩
      by_cases hm : c ∈ (Str.ofString "abcdefghijklmnopqrstuvwxyz").cps.toList
      · rw [decide_eq_true hm, if_neg (by decide)]
        walk_at "g"
        refine ⟨rfl, ⟨_, rfl⟩, fun c' h' => ?_⟩
        rw [take_at hc'] at h'
        rcases List.mem_append.mp h' with h | h
        · exact hall c' h
        · have e : c' = c := by simpa using h
          subst e
          exact hm
      · rw [decide_eq_false hm, if_pos (by decide)]
        walk_at "g"
        exact q2 fun ⟨z', e, hl⟩ => by cases e; exact hm (hl.2.2 c hcm)
    · rintro σ H1 ⟨rfl, ⟨y, rfl⟩, hall⟩
      walk_at "g"
      refine q1 ⟨z, rfl, by omega, by omega, fun c hc => hall c ?_⟩
      rw [List.take_of_length_le (by simp)]
      exact hc
theorem ok_lisver {f : Addr} {fd : FuncData} (T : Txt K mg) (F : Fun K "_law_is_version" "_law_is_version" s_law_is_version f fd) : FnOk P w K mg base CX0 1 f fd ["_law_things", "_law_name"] spLIsVer := by
  refine F.ok sc_law_is_version (fun vs H Q E h => ?_) (fun cdv A outer s H vs Q E hr h => ?_)
  · obtain ⟨th, cs, i, rfl, _⟩ := h
    rfl
  · obtain ⟨th, cs, i, rfl, Th, hcs, qy, qn⟩ := h
    have eth := Th.at'
    refine ⟨_,
      (pss_one
        (ps_ret (pe_and (pe_cmpR op_le pe_int (pv 1) (nomark _)) (pe_and (pe_cmpR op_lt (pv 1) (pe_callB (r := rLen K) c_len (by rfl) T.n_len (by decide +kernel) (pa_cons (pv 0) pa_nil)) (nomark _)) (pe_one (pe_cmpR op_eq (pe_ix (r := rIxT K) ix_tup (pe_ix (r := rIxL K) ix_list (pv 0) (pv 1) (fun _ _ => rfl)) pe_int (fun _ _ => rfl)) pe_str (nomark _)))))))
      , ?_⟩
    rw [show L2.start N_law_is_version [V.ref th, V.int i] = [some (.ref th), some (.int i)] from rfl]
    walk_at "x"
    by_cases h0 : 0 ≤ i
    · rw [decide_eq_true h0, if_pos rfl]
      walk_at "g"
      rw [List.length_map]
      by_cases h1 : i < (cs.length : Int)
      · rw [decide_eq_true h1]
        walk_at "g"
        obtain ⟨n, rfl⟩ : ∃ n : Nat, i = n := ⟨i.toNat, by omega⟩
        have hn : n < cs.length := by omega
        have at1 : atI (cs.map fun q => V.ref q.1) (n : Int) = some (.ref (cs[n]).1) := atI_nat (by rw [List.getElem?_map, List.getElem?_eq_getElem hn]; rfl)
        have hc := Th.ct cs[n] (List.getElem_mem hn)
        have hcn : cs[n]? = some cs[n] := List.getElem?_eq_getElem hn
        obtain ⟨xs, hxs⟩ := hc.head
        have at0 : atI (V.str (cs[n]).2.word :: xs) 0 = some (.str (cs[n]).2.word) := atI_nat (j := 0) rfl
        walk_at "g"
        by_cases hw : (cs[n]).2.word = "version"
        · have iv := (word_isV hcn).mp hw
          rw [hw]
          exact qy ⟨n, rfl, iv⟩
        · rw [decide_eq_false hw]
          exact qn fun ⟨m, em, iv⟩ => by
            have : m = n := by omega
            subst this
            exact hw ((word_isV hcn).mpr iv)
      · rw [decide_eq_false h1]
        walk_at "g"
        exact qn fun ⟨m, em, iv⟩ => by have := iv.lt; omega
    · rw [decide_eq_false h0, if_neg (by decide)]
      exact qn fun ⟨m, em, iv⟩ => by omega

theorem ok_lset {f : Addr} {fd : FuncData} (T : Txt K mg) (F : Fun K "_law_set" "_law_set" s_law_set f fd) : FnOk P w K mg base CX0 1 f fd ["_law_stands", "_law_mark_here", "_law_goes_here"] spLSet := by
  refine F.ok sc_law_set (fun vs H Q E h => ?_) (fun cdv A outer s H vs Q E hr h => ?_)
  · obtain ⟨d, ms, z, nw, rfl, _⟩ := h
    rfl
  · obtain ⟨d, ms, z, nw, rfl, ed, hml, q⟩ := h
    have hu := hu_of hr
    have hmk : (mkK ms).length < sizeLine := by unfold mkK; rw [List.length_map]; exact small9 (by omega)
    refine ⟨_,
      (pss_one
        (ps_if (pt_cmpR o_notN (pv 2) pe_non (nomark _))
          (pss_one
            (ps_dput hu (pv 0) (pv 1) (pv 2) rfl))
          (pss_one
            (ps_if (pt_cmp (pc_din hu (pv 1) (pv 0)))
              (pss_one
                (ps_expr (pe_dpop1 (pv 0) (pv 1) ⟨rfl, rfl, rfl, rfl⟩)))
              pss_nil))))
      , ?_⟩
    rw [show L2.start N_law_set [V.ref d, V.str z, oV nw] = [some (.ref d), some (.str z), some (oV nw)] from rfl]
    walk_at "x"
    cases nw with
    | some n =>
      refine w_nno (fun e => nomatch e) ?_
      walk_at "g"
      refine w_dputS (v := nV n) ed hmk fun H5 e5 o5 => ?_
      rw [mkK_put] at e5
      exact q _ e5 o5
    | none =>
      refine w_nyes rfl ?_
      walk_at "g"
      refine w_dinZ ed ?_
      rw [mkK_val]
      cases hl : ms.lookup z with
      | none =>
        rw [show (Option.map nV (none : Option Nat)).isSome = false from rfl]
        walk_at "g"
        refine q _ ?_ (fun _ _ => rfl)
        show _ = some (HO.dK (mkK (dropMs ms z)))
        rw [dropMs_none hl]
        exact ed
      | some o =>
        rw [show (Option.map nV (some o)).isSome = true from rfl]
        walk_at "g"
        refine w_dpop1' (k := Sum.inr z) ed (v := nV o) (by rw [mkK_val, hl]; rfl) fun H5 e5 o5 => ?_
        rw [mkK_drop] at e5
        exact q _ e5 o5
theorem ok_lmvdue {f fB fV fI fP fL fR : Addr} {fd fdB fdV fdI fdP fdL fdR : FuncData} (T : Txt K mg) (F : Fun K "_law_move_due" "_law_move_due" s_law_move_due f fd) (D_law_is_label : Df K mg "_law_is_label" s_law_is_label ["_law_thing"] fB fdB) (D_law_is_version : Df K mg "_law_is_version" s_law_is_version ["_law_things", "_law_name"] fV fdV) (D_law_parents : Df K mg "_law_parents" s_law_parents ["_law_things", "_law_here_here", "_law_version"] fP fdP) (D_law_lower : Df K mg "_law_lower" s_law_lower ["_law_things", "_law_here_here", "_law_version"] fL fdL) (D_law_brims : Df K mg "_law_brims" s_law_brims ["_law_things", "_law_here_here", "_law_versions_here"] fR fdR) : FnOk P w K mg base CX0 4 f fd ["_law_things", "_law_here_here", "_law_stands", "_law_mark_here", "_law_was_here", "_law_goes_here", "_law_turn"] spLMvDue := by
  have G_law_is_label : FnOk P w K mg base CX0 1 fB fdB ["_law_thing"] spLIsLab := ok_lislab T D_law_is_label.fn
  have G_law_is_version : FnOk P w K mg base CX0 1 fV fdV ["_law_things", "_law_name"] spLIsVer := ok_lisver T D_law_is_version.fn
  have G_law_lower : FnOk P w K mg base CX0 2 fL fdL ["_law_things", "_law_here_here", "_law_version"] spLLower := ok_llower T D_law_lower.fn D_law_parents
  have G_law_brims : FnOk P w K mg base CX0 2 fR fdR ["_law_things", "_law_here_here", "_law_versions_here"] spLBrims := ok_lbrims T D_law_brims.fn D_law_parents
  refine F.ok sc_law_move_due (fun vs H Q E h => ?_) (fun cdv A outer s H vs Q E hr h => ?_)
  · obtain ⟨th, f', d, cs, hs, ms, x, B, old, new, turn, rfl, _⟩ := h
    rfl
  · obtain ⟨th, f', d, cs, hs, ms, x, B, old, new, turn, rfl, S, ed, dt, hB, q⟩ := h
    have hu := hu_of hr
    refine ⟨_,
      (pss_cons
        (ps_if (pt_not (pt_val (pe_call G_law_is_label (hr.mono (by omega)) (by rfl) D_law_is_label.g D_law_is_label.fn.kp D_law_is_label.b .nil pass0 (pa_cons (pv 3) pa_nil))))
          (pss_one
            (ps_ret (pe_tup (pa_cons pe_str (pa_cons (pv 3) pa_nil)))))
          pss_nil)
      (pss_cons
        (ps_if (PW.pt (pw_and (pt_cmpR o_notN (pv 5) pe_non (nomark _)) (pw_and1 (pt_not (pt_val (pe_call G_law_is_version (hr.mono (by omega)) (by rfl) D_law_is_version.g D_law_is_version.fn.kp D_law_is_version.b .nil pass0 (pa_cons (pv 0) (pa_cons (pv 5) pa_nil))))))))
          (pss_one
            (ps_ret (pe_tup (pa_cons pe_str (pa_cons (pv 5) pa_nil)))))
          pss_nil)
      (pss_cons
        (ps_if (PW.pt (pw_and (pt_cmpR o_notN (pv 5) pe_non (nomark _)) (pw_and1 (pt_cmp (pc_dnotin hu (pv 5) (pv 1))))))
          (pss_one
            (ps_ret (pe_tup (pa_cons pe_str (pa_cons (pv 5) pa_nil)))))
          pss_nil)
      (pss_cons
        (ps_if (pt_cmpR op_ne (pe_dget1 hu (pv 2) (pv 3) ⟨rfl, rfl, rfl, rfl⟩) (pv 4) (nomark _))
          (pss_one
            (ps_ret (pe_tup (pa_cons pe_str (pa_cons (pv 3) (pa_cons (pe_dget1 hu (pv 2) (pv 3) ⟨rfl, rfl, rfl, rfl⟩) pa_nil))))))
          pss_nil)
      (pss_cons
        (ps_if (PW.pt (pw_and (pt_cmpR op_ne (pv 6) pe_int (nomark _)) (pw_and1 (pt_cmpR o_isN (pv 5) pe_non (nomark _)))))
          (pss_one
            (ps_ret (pe_tup (pa_cons pe_str (pa_cons (pv 3) (pa_cons pe_non pa_nil))))))
          pss_nil)
      (pss_cons
        (ps_if (PW.pt (pw_and (pt_cmpR op_ne (pv 6) pe_int (nomark _)) (pw_and1 (pt_cmpR o_notN (pv 4) pe_non (nomark _)))))
          (pss_cons
            (ps_set (i := 7) sc_law_move_due.nd rfl (.inl rfl) (pe_call G_law_lower (hr.mono (by omega)) (by rfl) D_law_lower.g D_law_lower.fn.kp D_law_lower.b .nil pass0 (pa_cons (pv 0) (pa_cons (pv 1) (pa_cons (pv 5) pa_nil)))))
          (pss_one
            (ps_if (pt_cmpR (r := rIn K true) op_notIn_seq (pv 4) (pv 7) rfl)
              (pss_one
                (ps_ret (pe_tup (pa_cons pe_str (pa_cons (pv 3) (pa_cons (pe_tup (pa_cons pe_str (pa_cons (pe_callTy (r := rTupOf K) c_tupOf (by rfl) T.n_tuple (by decide +kernel) (pa_cons (pv 7) pa_nil)) (pa_cons (pe_call G_law_brims (hr.mono (by omega)) (by rfl) D_law_brims.g D_law_brims.fn.kp D_law_brims.b .nil pass0 (pa_cons (pv 0) (pa_cons (pv 1) (pa_cons (pv 7) pa_nil)))) pa_nil)))) pa_nil))))))
              pss_nil)))
          pss_nil)
      (pss_one
        (ps_ret (pe_tup (pa_cons pe_str pa_nil))))))))))
      , ?_⟩
    rw [show L2.start N_law_move_due [V.ref th, V.ref f', V.ref d, x, oV old, iV new, nV turn] = [some (.ref th), some (.ref f'), some (.ref d), some x, some (oV old), some (iV new), some (.int (turn : Int)), none] from rfl]
    refine w_seq ?_
    walk_at "x"
    refine ⟨x, B, rfl, dt, hB, fun il => ?_, fun nl => ?_⟩
    rotate_left
    · walk_at "g"
      refine w_new fun t H3 hnt et k3 => ?_
      refine q H3 t k3 ?_
      rw [dueM_nm nl]
      exact et
    obtain ⟨z, rfl, hz⟩ := il
    have il : IsLab (.str z) := ⟨z, rfl, hz⟩
    walk_at "g"
    -- the new one
    refine w_seqJ (fun σ' H' => σ' = [some (.ref th), some (.ref f'), some (.ref d), some (.str z), some (oV old), some (iV new), some (.int (turn : Int)), none] ∧ H' = H ∧ ∀ i, new = some i → ∃ n : Nat, i = n ∧ isV cs n) ?_ fun U hU => ?_
    rotate_left
    · walk_at "g"
      cases new with
      | none =>
        refine w_nyes rfl ?_
        walk_at "g"
        exact hU _ _ ⟨rfl, rfl, fun i e => by cases e⟩
      | some i =>
        refine w_nno (fun e => nomatch e) ?_
        walk_at "g"
        refine ⟨th, cs, i, rfl, S.th', by have := S.few; omega, fun hv => ?_, fun hv => ?_⟩
        · walk_at "g"
          exact hU _ _ ⟨rfl, rfl, fun j e => by cases e; exact hv⟩
        · walk_at "g"
          refine w_new fun t H3 hnt et k3 => ?_
          refine q H3 t k3 ?_
          rw [dueM_nn il hv]
          exact et
    rintro σ' H' ⟨rfl, e0, hv⟩
    subst H'
    refine w_seqJ (fun σ' H' => σ' = [some (.ref th), some (.ref f'), some (.ref d), some (.str z), some (oV old), some (iV new), some (.int (turn : Int)), none] ∧ H' = H ∧ GoodN cs hs new) ?_ fun U hU => ?_
    rotate_left
    · walk_at "g"
      cases new with
      | none =>
        refine w_nyes rfl ?_
        walk_at "g"
        exact hU _ _ ⟨rfl, rfl, fun i e => by cases e⟩
      | some i =>
        refine w_nno (fun e => nomatch e) ?_
        walk_at "g"
        obtain ⟨n, rfl, iv⟩ := hv i rfl
        refine w_fnin S.he (fun m em hm => ?_) (fun hno => ?_)
        · walk_at "g"
          refine hU _ _ ⟨rfl, rfl, fun j e => ?_⟩
          cases e
          obtain rfl : n = m := by omega
          exact ⟨n, rfl, iv, hm⟩
        · walk_at "g"
          refine w_new fun t H3 hnt et k3 => ?_
          refine q H3 t k3 ?_
          rw [dueM_lk il ⟨n, rfl, iv⟩ (by rw [Int.toNat_natCast]; exact hno n rfl)]
          exact et
    rintro σ' H' ⟨rfl, e0, hg⟩
    subst H'
    refine w_seq ?_
    walk_at "g"
    refine w_dget1Z ed ?_
    rw [mkK_get]
    walk_at "g"
    refine w_neO ?_
    walk_at "g"
    by_cases hst : ms.lookup z = old
    rotate_left
    · rw [decide_eq_false hst]
      walk_at "g"
      refine w_dget1Z ed ?_
      rw [mkK_get]
      walk_at "g"
      refine w_new fun t H3 hnt et k3 => ?_
      refine q H3 t k3 ?_
      rw [dueM_st il hg hst]
      exact et
    rw [decide_eq_true hst]
    walk_at "g"
    by_cases ht : turn = 2
    · subst ht
      have fin : ∀ H' t, Same H H' → H' t = some (.tup [.str "told"]) → Q (.ref t) H' := fun H' t k e => q H' t k (by rw [dueM_ok il hg hst (.inl (decide_eq_true rfl))]; exact e)
      refine w_seq ?_
      walk_at "g"
      rw [show decide (((2 : Nat) : Int) = 2) = true from rfl]
      walk_at "g"
      refine w_seq ?_
      walk_at "g"
      rw [show decide (((2 : Nat) : Int) = 2) = true from rfl]
      walk_at "g"
      refine w_new fun t H3 hnt et k3 => ?_
      exact fin _ _ k3 et
    · have ht' : ¬ (turn : Int) = 2 := by omega
      rw [decide_eq_false ht] at q
      refine w_seq ?_
      walk_at "g"
      rw [decide_eq_false ht']
      walk_at "g"
      cases new with
      | none =>
        rw [if_pos (decide_eq_true (show iV none = V.non from rfl))]
        walk_at "g"
        refine w_new fun t H3 hnt et k3 => ?_
        refine q H3 t k3 ?_
        rw [dueM_na0 il hst]
        exact et
      | some i =>
        obtain ⟨n, rfl, iv, hin⟩ := hg i rfl
        rw [if_neg (by simp [iV])]
        walk_at "g"
        refine w_seq ?_
        walk_at "g"
        rw [decide_eq_false ht']
        walk_at "g"
        cases old with
        | none =>
          refine w_nyes rfl ?_
          walk_at "g"
          refine w_new fun t H3 hnt et k3 => ?_
          refine q H3 t k3 ?_
          rw [dueM_ok il hg hst (.inr ⟨n, rfl, fun o e => by cases e⟩)]
          exact et
        | some o =>
          refine w_nno (fun e => nomatch e) ?_
          walk_at "g"
          refine ⟨th, f', cs, hs, n, rfl, S.th', S.he, S.ok, iv, by have := S.few; omega, fun H1 l L k1 hl1 e1 hup hm hll => ?_⟩
          have S1 := S.same k1
          walk_at "g"
          refine w_ninNL e1 ?_
          walk_at "g"
          by_cases hR : Rch cs hs n o
          · rw [decide_eq_true ((hm o).mpr hR)]
            walk_at "g"
            refine w_new fun t H3 hnt et k3 => ?_
            refine q H3 t (Same.trans k1 k3) ?_
            rw [dueM_ok il hg hst (.inr ⟨n, rfl, fun o' e => by cases e; exact hR⟩)]
            exact et
          · rw [decide_eq_false (fun z => hR ((hm o).mp z))]
            walk_at "g"
            refine w_tupL (.of e1) fun r2 H2 hr2 e2 k2 => ?_
            have S2 := S1.same k2
            walk_at "g"
            refine ⟨th, f', l, cs, hs, L, rfl, S2.th', S2.he, k2 _ _ e1, hll, fun m hm' => (((hm m).mp hm').isV S.ok iv).1, fun m => by have := S.ok.few m; omega, fun H3 tb k3 htb e3 => ?_⟩
            walk_at "g"
            refine w_new fun t2 H4 ht2 e4 k4 => ?_
            walk_at "g"
            refine w_new fun t H5 ht e5 k5 => ?_
            refine q H5 t (Same.trans k1 (Same.trans k2 (Same.trans k3 (Same.trans k4 k5)))) ?_
            rw [dueM_na1 il hg hst hR]
            exact ⟨t2, n, L, rfl, e5, r2, tb, k5 _ _ e4, k5 _ _ (k4 _ _ (k3 _ _ e2)), k5 _ _ (k4 _ _ e3), hup, hm, hll⟩
end
local macro_rules | `(tactic| walk_at "s") => `(tactic| first
  | with_reducible refine w_dpop1 ?_
  | with_reducible refine w_methNS ?_
  | with_reducible refine w_methN ?_
  )
def spLMoved (P : Program) (w : World) (C CU : Addr) : Sp := fun vs H Q _ => ∃ (s dy p dx lc ld lg hd a1 a2 a3 a4 : Addr) (cs : List (Addr × Ct)) (ds : List Nat) (k : Nat) (hs : List Nat) (ms : List (Str × Nat)) (ls : List (Addr × Mv)) (x : V) (B : Nat) (old : Option Nat) (new : Option Int) (turn : Nat), vs = [.ref s, x, oV old, iV new, nV turn] ∧ HoAt P w C CU H s dy p dx lc ld lg hd a1 a2 a3 a4 cs ds k hs ms ls ∧ BkOk cs ∧ cs.length ≤ 999 ∧ a1 ≠ s ∧ hd ≠ a1 ∧ ms.length ≤ 5000 ∧ ls.length ≤ 1000 ∧ DatT B H x ∧ B ≤ 1000 ∧
  (dueM cs hs ms x old new (decide (turn = 2)) ≠ .ok → ∀ H' t, Same H H' → DueAt H' cs hs ms x new t (dueM cs hs ms x old new (decide (turn = 2))) → Q (.ref t) H') ∧
  (dueM cs hs ms x old new (decide (turn = 2)) = .ok → ∀ (z : Str) (nw : Option Nat) (a2' r t : Addr) (y : V) (H' : Hp), x = .str z → new = nw.map (fun n : Nat => (n : Int)) → Kp [s, a1] H H' → KT H H' → H a2' = none → H r = none → HoAt P w C CU H' s dy p dx lc ld lg hd a1 a2' a3 a4 cs ds k hs (putM ms z nw) (last50 (ls ++ [(r, ⟨z, old, nw, decide (turn = 2)⟩)])) →
      (((old = none ∨ nw = none) ∧ y = .non) ∨ ∃ o n w, old = some o ∧ nw = some n ∧ y = .ref w ∧ ToldW H' cs hs o n w) → H' t = some (.tup [.str "told", y]) → Q (.ref t) H')
def spLAt (P : Program) (w : World) (C CU : Addr) : Sp := fun vs H Q _ => ∃ (s dy p dx lc ld lg hd a1 a2 a3 a4 : Addr) (cs : List (Addr × Ct)) (ds : List Nat) (k : Nat) (hs : List Nat) (ms : List (Str × Nat)) (ls : List (Addr × Mv)) (x : V) (B : Nat), vs = [.ref s, x] ∧ HoAt P w C CU H s dy p dx lc ld lg hd a1 a2 a3 a4 cs ds k hs ms ls ∧ DatT B H x ∧ B ≤ 1000 ∧
  (∀ n, IsLab x → lookM ms x = some n → ∀ H' t, Same H H' → H' t = some (.tup [.str "told", nV n]) → Q (.ref t) H') ∧ ((¬ IsLab x ∨ lookM ms x = none) → ∀ H' t, Same H H' → H' t = some (.tup [.str "NoMark", x]) → Q (.ref t) H')
section
variable {P : Program} {w : World} {K : PySem.W.Frag} {mg : Str → Option Value} {base : Heap} {C CH CS CU : Addr}
theorem ok_lat {f fA fM C_NoMark : Addr} {fd fdA fdM : FuncData} (T : Txt K mg) (F : Fun K "_law_at" "_law_at" s_law_at f fd) (K_House : Kl K mg "House" CU ["book", "here", "turns", "stands", "lately", "others", "pinned"]) (D_House_at : DfM K CU "at" "House.at" s_House_at ["self", "mark"] fA fdA) (G_House_at : FnOk P w K mg base (L2.CX P w) 3 fA fdA ["self", "mark"] (spAt P w C CU C_NoMark))
    (X_NoMark : ExnI K mg "NoMark" C_NoMark fM fdM ["self", "mark"] ["mark"]) (xm_NoMark_NoMark : PySem.W.exmOne K (.ref C_NoMark) (.ref C_NoMark) = some true) : FnOk P w K mg base CX0 4 f fd ["_law_house_here", "_law_mark_here"] (spLAt P w C CU) := by
  have g_NoMark := X_NoMark.g
  refine F.ok sc_law_at (fun vs H Q E h => ?_) (fun cdv A outer s H vs Q E hr h => ?_)
  · obtain ⟨s, dy, p, dx, lc, ld, lg, hd, a1, a2, a3, a4, cs, ds, k, hs, ms, ls, x, B, rfl, _⟩ := h
    rfl
  · obtain ⟨s, dy, p, dx, lc, ld, lg, hd, a1, a2, a3, a4, cs, ds, k, hs, ms, ls, x, B, rfl, W, dt, hB, q1, q2⟩ := h
    refine ⟨_,
      (pss_cons
        (ps_set (i := 2) sc_law_at.nd rfl (.inl rfl) (pe_tup pa_nil))
      (pss_cons
        (p_tryAs (i := 3) rfl rfl sc_law_at.nd rfl rfl ⟨rfl, by decide, .inl g_NoMark⟩ (fun W pn xe tk po =>
          (pss_one
            (ps_set (i := 2) sc_law_at.nd rfl (.inl rfl) (pe_tup (pa_cons pe_str (pa_cons (pe_methTS (pv 0) K_House.cl D_House_at.m G_House_at (hr.mono (by omega)) D_House_at.b (fun σ => passAt tk σ) (pa_cons (pv 1) pa_nil)) pa_nil))))))
        (fun a oe cls d pn hz hf => pss_guard (P := cls = .ref C_NoMark) (fun hg =>
          (pss_one
            (ps_set (i := 2) sc_law_at.nd rfl (.inl rfl) (pe_tup (pa_cons pe_str (pa_cons (pe_xf X_NoMark.f (X_NoMark.nf "mark" (by simp)) hz hf (pv 3)) pa_nil))))))))
      (pss_one
        (ps_ret (pv 2)))))
      , ?_⟩
    rw [show L2.start N_law_at [V.ref s, x] = [some (.ref s), some x, none, none] from rfl]
    walk_at "x"
    refine w_new fun t0 H1 ht0 et0 k1 => ?_
    have W1 := W.same k1
    walk_at "g"
    refine w_seq ?_
    refine w_tryA ?_
    walk_at "g"
    refine w_methS (K := K) ?_
    walk_at "g"
    refine ⟨s, dy, _, rfl, W1.st.ob, rfl, ?_⟩
    walk_at "g"
    refine ⟨s, dy, p, dx, lc, ld, lg, hd, a1, a2, a3, a4, cs, ds, k, hs, ms, ls, x, B, rfl, W1, dt.kd (KD.of k1), hB, fun n il hl H2 k2 => ?_, fun hno d H2 k2 hd2 e2 => ?_⟩
    · walk_at "g"
      refine w_new fun t H3 ht et k3 => ?_
      walk_at "g"
      exact q1 n il hl H3 t (Same.trans k1 (Same.trans k2 k3)) et
    · refine ⟨true, xm_NoMark_NoMark, fun _ ea hea => ?_, fun z => nomatch z⟩
      refine w_guard rfl ?_
      walk_at "g"
      refine w_xf ?_
      walk_at "g"
      refine ⟨rfl, rfl, d, _, x, rfl, e2, rfl, ?_⟩
      walk_at "g"
      refine w_new fun t H3 ht et k3 => ?_
      walk_at "g"
      exact q2 hno H3 t (Same.trans k1 (Same.trans k2 k3)) et
theorem ok_lmoved {f fV fM fN fL fT fA C_NoMark C_NoName C_Lack C_Stale C_NotAhead C_HouseError : Addr} {fd fdV fdM fdN fdL fdT fdA : FuncData} {kg1 kg2 : List Value → List Value → List Value} (T : Txt K mg) (F : Fun K "_law_moved" "_law_moved" s_law_moved f fd) (K_House : Kl K mg "House" CU ["book", "here", "turns", "stands", "lately", "others", "pinned"]) (D_House_move : DfMKr K CU "move" "House.move" s_House_move ["self", "mark", "old", "new", "back"] [("back", V.bl false)] fV fdV) (G_House_move : FnOk P w K mg base (L2.CX P w) 9 fV fdV ["self", "mark", "old", "new", "back"] (spMove P w C CU C_NoMark C_NoName C_Lack C_Stale C_NotAhead))
    (KB_House_move_old_new : KBn K fdV ["self", "mark", "old", "new", "back"] 2 ["old", "new"] kg1 (fun vs zs => vs ++ (zs ++ [V.bl false]))) (KB_House_move_back_new_old : KBn K fdV ["self", "mark", "old", "new", "back"] 2 ["back", "new", "old"] kg2 (fun vs zs => vs ++ zs.reverse))
    (X_NoMark : ExnI K mg "NoMark" C_NoMark fM fdM ["self", "mark"] ["mark"]) (X_NoName : ExnI K mg "NoName" C_NoName fN fdN ["self", "name"] ["name"]) (X_Lack : ExnI K mg "Lack" C_Lack fL fdL ["self", "name"] ["name"]) (X_Stale : ExnI K mg "Stale" C_Stale fT fdT ["self", "mark", "there"] ["mark", "there", "why"]) (X_NotAhead : ExnI K mg "NotAhead" C_NotAhead fA fdA ["self", "mark", "why"] ["mark", "why", "there"]) (g_HouseError : mg "HouseError" = some (.ref C_HouseError))
    (xm_NoMark_NoMark : PySem.W.exmOne K (.ref C_NoMark) (.ref C_NoMark) = some true) (xm_NoName_NoMark : PySem.W.exmOne K (.ref C_NoName) (.ref C_NoMark) = some false) (xm_NoName_NoName : PySem.W.exmOne K (.ref C_NoName) (.ref C_NoName) = some true) (xm_Lack_NoMark : PySem.W.exmOne K (.ref C_Lack) (.ref C_NoMark) = some false) (xm_Lack_NoName : PySem.W.exmOne K (.ref C_Lack) (.ref C_NoName) = some false) (xm_Lack_Lack : PySem.W.exmOne K (.ref C_Lack) (.ref C_Lack) = some true)
    (xm_Stale_NoMark : PySem.W.exmOne K (.ref C_Stale) (.ref C_NoMark) = some false) (xm_Stale_NoName : PySem.W.exmOne K (.ref C_Stale) (.ref C_NoName) = some false) (xm_Stale_Lack : PySem.W.exmOne K (.ref C_Stale) (.ref C_Lack) = some false) (xm_Stale_HouseError : PySem.W.exmOne K (.ref C_Stale) (.ref C_HouseError) = some true)
    (xm_NotAhead_NoMark : PySem.W.exmOne K (.ref C_NotAhead) (.ref C_NoMark) = some false) (xm_NotAhead_NoName : PySem.W.exmOne K (.ref C_NotAhead) (.ref C_NoName) = some false) (xm_NotAhead_Lack : PySem.W.exmOne K (.ref C_NotAhead) (.ref C_Lack) = some false) (xm_NotAhead_HouseError : PySem.W.exmOne K (.ref C_NotAhead) (.ref C_HouseError) = some true)
    (kq_Stale_Stale : PySem.W.kitOne K (.ref C_Stale) (.ref C_Stale) = some true) (kq_Stale_NotAhead : PySem.W.kitOne K (.ref C_Stale) (.ref C_NotAhead) = some false) (kq_NotAhead_Stale : PySem.W.kitOne K (.ref C_NotAhead) (.ref C_Stale) = some false) (kq_NotAhead_NotAhead : PySem.W.kitOne K (.ref C_NotAhead) (.ref C_NotAhead) = some true) : FnOk P w K mg base CX0 10 f fd ["_law_house_here", "_law_mark_here", "_law_was_here", "_law_goes_here", "_law_turn"] (spLMoved P w C CU) := by
  have g_NoMark := X_NoMark.g
  have g_NoName := X_NoName.g
  have g_Lack := X_Lack.g
  have g_Stale := X_Stale.g
  have g_NotAhead := X_NotAhead.g
  refine F.ok sc_law_moved (fun vs H Q E h => ?_) (fun cdv A outer s H vs Q E hr h => ?_)
  · obtain ⟨s, dy, p, dx, lc, ld, lg, hd, a1, a2, a3, a4, cs, ds, k, hs, ms, ls, x, B, old, new, turn, rfl, _⟩ := h
    rfl
  · obtain ⟨s, dy, p, dx, lc, ld, lg, hd, a1, a2, a3, a4, cs, ds, k, hs, ms, ls, x, B, old, new, turn, rfl, W, ok, hcl, na1s, nhd, hml, hll, dt, hB, q1, q2⟩ := h
    refine ⟨_,
      (pss_cons
        (ps_set (i := 5) sc_law_moved.nd rfl (.inl rfl) (pe_tup pa_nil))
      (pss_cons
        (p_tryG rfl rfl sc_law_moved.nd takes0 (fun W pn xe tk po =>
          (pss_one
            (ps_if (pt_cmpR op_eq (pv 4) pe_int (nomark _))
              (pss_one
                (ps_set (i := 5) sc_law_moved.nd rfl (.inl rfl) (pe_tup (pa_cons pe_str (pa_cons (pe_methNS (pv 0) K_House.cl D_House_move.m G_House_move (hr.mono (by omega)) KB_House_move_old_new (fun σ => passAt tk σ) (pa_cons (pv 1) pa_nil) (pk_cons (pv 2) (pk_cons (pv 3) pk_nil))) pa_nil)))))
              (pss_one
                (ps_set (i := 5) sc_law_moved.nd rfl (.inl rfl) (pe_tup (pa_cons pe_str (pa_cons (pe_methNS (pv 0) K_House.cl D_House_move.m G_House_move (hr.mono (by omega)) KB_House_move_back_new_old (fun σ => passAt tk σ) (pa_cons (pv 1) pa_nil) (pk_cons (pe_cmpR op_eq (pv 4) pe_int (nomark _)) (pk_cons (pv 3) (pk_cons (pv 2) pk_nil)))) pa_nil))))))))
        (ClOk.as (i := 6) rfl rfl ⟨rfl, by decide, .inl g_NoMark⟩ (fun a oe cls d pn hz hf => pss_guard (P := cls = .ref C_NoMark) (fun hg =>
          (pss_one
            (ps_set (i := 5) sc_law_moved.nd rfl (.inl rfl) (pe_tup (pa_cons pe_str (pa_cons (pe_xf X_NoMark.f (X_NoMark.nf "mark" (by simp)) hz hf (pv 6)) pa_nil)))))))
        (ClOk.as (i := 6) rfl rfl ⟨rfl, by decide, .inl g_NoName⟩ (fun a oe cls d pn hz hf => pss_guard (P := cls = .ref C_NoName) (fun hg =>
          (pss_one
            (ps_set (i := 5) sc_law_moved.nd rfl (.inl rfl) (pe_tup (pa_cons pe_str (pa_cons (pe_xf X_NoName.f (X_NoName.nf "name" (by simp)) hz hf (pv 6)) pa_nil)))))))
        (ClOk.as (i := 6) rfl rfl ⟨rfl, by decide, .inl g_Lack⟩ (fun a oe cls d pn hz hf => pss_guard (P := cls = .ref C_Lack) (fun hg =>
          (pss_one
            (ps_set (i := 5) sc_law_moved.nd rfl (.inl rfl) (pe_tup (pa_cons pe_str (pa_cons (pe_xf X_Lack.f (X_Lack.nf "name" (by simp)) hz hf (pv 6)) pa_nil)))))))
        (ClOk.as (i := 6) rfl rfl ⟨rfl, by decide, .inl g_HouseError⟩ (fun a oe cls d pn hz hf => pss_guard2 (P := cls = .ref C_Stale) (P2 := cls = .ref C_NotAhead) (fun hg =>
          (pss_cons
            (ps_set (i := 5) sc_law_moved.nd rfl (.inl rfl) (pe_tup (pa_cons pe_str pa_nil)))
          (pss_one
            (ps_if (PW.pt (pw_and (pt_val (pe_callB (r := rIsF K C_Stale a d) (call_isF X_Stale.ec hg hz hf) (by rfl) T.n_isinstance (by decide +kernel) (pa_cons (pv 6) (pa_cons (pe_glob (v := .ref C_Stale) rfl g_Stale rfl) pa_nil)))) (pw_and1 (pt_not (pt_val (pe_callB (r := rIsF K C_Stale a d) (call_isF X_Stale.ec hg hz hf) (by rfl) T.n_isinstance (by decide +kernel) (pa_cons (pv 6) (pa_cons (pe_glob (v := .ref C_NotAhead) rfl g_NotAhead rfl) pa_nil))))))))
              (pss_one
                (ps_set (i := 5) sc_law_moved.nd rfl (.inl rfl) (pe_tup (pa_cons pe_str (pa_cons (pe_xf X_Stale.f (X_Stale.nf "mark" (by simp)) hz hf (pv 6)) (pa_cons (pe_xf X_Stale.f (X_Stale.nf "there" (by simp)) hz hf (pv 6)) pa_nil))))))
              (pss_one
                (ps_if (pt_val (pe_callB (r := rIsF K C_Stale a d) (call_isF X_Stale.ec hg hz hf) (by rfl) T.n_isinstance (by decide +kernel) (pa_cons (pv 6) (pa_cons (pe_glob (v := .ref C_NotAhead) rfl g_NotAhead rfl) pa_nil))))
                  (pss_one
                    (ps_set (i := 5) sc_law_moved.nd rfl (.inl rfl) (pe_tup (pa_cons pe_str (pa_cons (pe_xf X_Stale.f (X_Stale.nf "mark" (by simp)) hz hf (pv 6)) (pa_cons (pe_xf X_Stale.f (X_Stale.nf "why" (by simp)) hz hf (pv 6)) pa_nil))))))
                  pss_nil)))))) (fun hg =>
          (pss_cons
            (ps_set (i := 5) sc_law_moved.nd rfl (.inl rfl) (pe_tup (pa_cons pe_str pa_nil)))
          (pss_one
            (ps_if (PW.pt (pw_and (pt_val (pe_callB (r := rIsF K C_NotAhead a d) (call_isF X_NotAhead.ec hg hz hf) (by rfl) T.n_isinstance (by decide +kernel) (pa_cons (pv 6) (pa_cons (pe_glob (v := .ref C_Stale) rfl g_Stale rfl) pa_nil)))) (pw_and1 (pt_not (pt_val (pe_callB (r := rIsF K C_NotAhead a d) (call_isF X_NotAhead.ec hg hz hf) (by rfl) T.n_isinstance (by decide +kernel) (pa_cons (pv 6) (pa_cons (pe_glob (v := .ref C_NotAhead) rfl g_NotAhead rfl) pa_nil))))))))
              (pss_one
                (ps_set (i := 5) sc_law_moved.nd rfl (.inl rfl) (pe_tup (pa_cons pe_str (pa_cons (pe_xf X_NotAhead.f (X_NotAhead.nf "mark" (by simp)) hz hf (pv 6)) (pa_cons (pe_xf X_NotAhead.f (X_NotAhead.nf "there" (by simp)) hz hf (pv 6)) pa_nil))))))
              (pss_one
                (ps_if (pt_val (pe_callB (r := rIsF K C_NotAhead a d) (call_isF X_NotAhead.ec hg hz hf) (by rfl) T.n_isinstance (by decide +kernel) (pa_cons (pv 6) (pa_cons (pe_glob (v := .ref C_NotAhead) rfl g_NotAhead rfl) pa_nil))))
                  (pss_one
                    (ps_set (i := 5) sc_law_moved.nd rfl (.inl rfl) (pe_tup (pa_cons pe_str (pa_cons (pe_xf X_NotAhead.f (X_NotAhead.nf "mark" (by simp)) hz hf (pv 6)) (pa_cons (pe_xf X_NotAhead.f (X_NotAhead.nf "why" (by simp)) hz hf (pv 6)) pa_nil))))))
                  pss_nil)))))))
        ClOk.nil)))))
      (pss_one
        (ps_ret (pv 5)))))
      , ?_⟩
    rw [show L2.start N_law_moved [V.ref s, x, oV old, iV new, nV turn] = [some (.ref s), some x, some (oV old), some (iV new), some (.int (turn : Int)), none, none] from rfl]
    walk_at "x"
    refine w_new fun t0 H1 ht0 et0 k1 => ?_
    have W1 := W.same k1
    have dt1 := dt.kd (KD.of k1)
    walk_at "g"
    refine w_seq ?_
    refine w_tryG ?_
    walk_at "g"
    obtain ⟨bk, hbk⟩ : ∃ bk, bk = decide (turn = 2) := ⟨_, rfl⟩
    rw [← hbk] at q1 q2
    by_cases ht0 : turn = 0
    case' pos =>
      have hb : bk = false := by rw [hbk]; exact decide_eq_false (by omega)
      subst hb
      rw [decide_eq_true (show (turn : Int) = 0 by omega)]
      walk_at "g"
      refine ⟨s, dy, _, rfl, W1.st.ob, rfl, ?_⟩
      walk_at "g"
      refine ⟨rfl, rfl, s, dy, p, dx, lc, ld, lg, hd, a1, a2, a3, a4, cs, ds, k, hs, ms, ls, x, B, old, new, false, rfl, W1, ok, hcl, na1s, nhd, hml, hll, dt1, hB, ?_⟩
      clear hbk
      generalize hdu : dueM cs hs ms x old new false = md at q1 q2 ⊢
    case' neg =>
      rw [decide_eq_false (show ¬ (turn : Int) = 0 by omega)]
      walk_at "g"
      refine ⟨s, dy, _, rfl, W1.st.ob, rfl, ?_⟩
      walk_at "g"
      rw [show decide ((turn : Int) = 2) = bk by rw [hbk, decide_eq_decide]; omega]
      refine ⟨rfl, rfl, s, dy, p, dx, lc, ld, lg, hd, a1, a2, a3, a4, cs, ds, k, hs, ms, ls, x, B, old, new, bk, rfl, W1, ok, hcl, na1s, nhd, hml, hll, dt1, hB, ?_⟩
      clear hbk
      generalize hdu : dueM cs hs ms x old new bk = md at q1 q2 ⊢
    all_goals
      cases md with
      | ok =>
        intro z nw a2' r y H2 ex en k2 t2 ha2 hr2 W2 hy
        walk_at "g"
        refine w_new fun t H3 ht et k3 => ?_
        walk_at "g"
        refine q2 rfl z nw a2' r t y H3 ex en (fun b u hb h => k3 _ _ (k2 _ _ hb (k1 _ _ h))) ((KT.of k1).trans (t2.trans (KT.of k3))) (k1.free ha2) (k1.free hr2) (W2.same k3) ?_ et
        rcases hy with h | ⟨o, n, w', h1, h2, h3, h4⟩
        · exact .inl h
        · refine .inr ⟨o, n, w', h1, h2, h3, ?_⟩
          rcases h4 with ⟨hR, hA⟩ | ⟨hR, ns, hA⟩
          · exact .inl ⟨hR, hA.same k3⟩
          · exact .inr ⟨hR, ns, hA.same k3⟩
      | nm =>
        intro d H2 k2 hd2 e2
        refine w_clY xm_NoMark_NoMark fun ea hea => ?_
        refine w_guard rfl ?_
        walk_at "g"
        refine w_xf ?_
        walk_at "g"
        refine ⟨rfl, rfl, d, _, x, rfl, e2, rfl, ?_⟩
        walk_at "g"
        refine w_new fun t H3 ht et k3 => ?_
        walk_at "g"
        exact q1 (fun z => nomatch z) H3 t (Same.trans k1 (Same.trans k2 k3)) et
      | nn =>
        intro d H2 k2 hd2 e2
        refine w_clN xm_NoName_NoMark ?_
        refine w_clY xm_NoName_NoName fun ea hea => ?_
        refine w_guard rfl ?_
        walk_at "g"
        refine w_xf ?_
        walk_at "g"
        refine ⟨rfl, rfl, d, _, iV new, rfl, e2, rfl, ?_⟩
        walk_at "g"
        refine w_new fun t H3 ht et k3 => ?_
        walk_at "g"
        exact q1 (fun z => nomatch z) H3 t (Same.trans k1 (Same.trans k2 k3)) et
      | lk =>
        intro d H2 k2 hd2 e2
        refine w_clN xm_Lack_NoMark ?_
        refine w_clN xm_Lack_NoName ?_
        refine w_clY xm_Lack_Lack fun ea hea => ?_
        refine w_guard rfl ?_
        walk_at "g"
        refine w_xf ?_
        walk_at "g"
        refine ⟨rfl, rfl, d, _, iV new, rfl, e2, rfl, ?_⟩
        walk_at "g"
        refine w_new fun t H3 ht et k3 => ?_
        walk_at "g"
        exact q1 (fun z => nomatch z) H3 t (Same.trans k1 (Same.trans k2 k3)) et
      | st =>
        intro d H2 k2 hd2 e2
        refine w_clN xm_Stale_NoMark ?_
        refine w_clN xm_Stale_NoName ?_
        refine w_clN xm_Stale_Lack ?_
        refine w_clY xm_Stale_HouseError fun ea hea => ?_
        refine w_guard2l rfl ?_
        walk_at "g"
        refine w_new fun t3 H3 ht3 et3 k3 => ?_
        have e23 := k3 _ _ e2
        walk_at "g"
        refine w_isF e23 kq_Stale_Stale ?_
        walk_at "g"
        refine w_isF e23 kq_Stale_NotAhead ?_
        walk_at "g"
        refine w_xf ?_
        walk_at "g"
        refine ⟨rfl, rfl, d, _, x, rfl, e23, rfl, ?_⟩
        walk_at "g"
        refine w_xf ?_
        walk_at "g"
        refine ⟨rfl, rfl, d, _, oV (lookM ms x), rfl, e23, rfl, ?_⟩
        walk_at "g"
        refine w_new fun t H4 ht et k4 => ?_
        walk_at "g"
        exact q1 (fun z => nomatch z) H4 t (Same.trans k1 (Same.trans k2 (Same.trans k3 k4))) et
      | na0 =>
        intro d H2 k2 hd2 e2
        refine w_clN xm_NotAhead_NoMark ?_
        refine w_clN xm_NotAhead_NoName ?_
        refine w_clN xm_NotAhead_Lack ?_
        refine w_clY xm_NotAhead_HouseError fun ea hea => ?_
        refine w_guard2r rfl ?_
        walk_at "g"
        refine w_new fun t3 H3 ht3 et3 k3 => ?_
        have e23 := k3 _ _ e2
        walk_at "g"
        refine w_isF e23 kq_NotAhead_Stale ?_
        walk_at "g"
        refine w_isF e23 kq_NotAhead_NotAhead ?_
        walk_at "g"
        refine w_xf ?_
        walk_at "g"
        refine ⟨rfl, rfl, d, _, x, rfl, e23, rfl, ?_⟩
        walk_at "g"
        refine w_xf ?_
        walk_at "g"
        refine ⟨rfl, rfl, d, _, .non, rfl, e23, rfl, ?_⟩
        walk_at "g"
        refine w_new fun t H4 ht et k4 => ?_
        walk_at "g"
        exact q1 (fun z => nomatch z) H4 t (Same.trans k1 (Same.trans k2 (Same.trans k3 k4))) et
      | na1 =>
        intro d w' goes ns H2 en k2 hd2 e2 hA
        refine w_clN xm_NotAhead_NoMark ?_
        refine w_clN xm_NotAhead_NoName ?_
        refine w_clN xm_NotAhead_Lack ?_
        refine w_clY xm_NotAhead_HouseError fun ea hea => ?_
        refine w_guard2r rfl ?_
        walk_at "g"
        refine w_new fun t3 H3 ht3 et3 k3 => ?_
        have e23 := k3 _ _ e2
        walk_at "g"
        refine w_isF e23 kq_NotAhead_Stale ?_
        walk_at "g"
        refine w_isF e23 kq_NotAhead_NotAhead ?_
        walk_at "g"
        refine w_xf ?_
        walk_at "g"
        refine ⟨rfl, rfl, d, _, x, rfl, e23, rfl, ?_⟩
        walk_at "g"
        refine w_xf ?_
        walk_at "g"
        refine ⟨rfl, rfl, d, _, .ref w', rfl, e23, rfl, ?_⟩
        walk_at "g"
        refine w_new fun t H4 ht et k4 => ?_
        walk_at "g"
        exact q1 (fun z => nomatch z) H4 t (Same.trans k1 (Same.trans k2 (Same.trans k3 k4))) ⟨w', goes, ns, en, et, hA.same (Same.trans k3 k4)⟩
end
local macro_rules | `(tactic| walk_at "s") => `(tactic| first
  | with_reducible refine w_dpop1 ?_
  | with_reducible refine w_methNS ?_
  | with_reducible refine w_methN ?_
  )
/-- what may be handed in as a mark -/
def MkS (H : Hp) (x : V) : Prop := DatT 1000 H x ∧ SD 2 H x x
theorem MkS.kd {H H' : Hp} {x : V} (h : MkS H x) (k : Same H H') : MkS H' x := ⟨h.1.kd (KD.of k), h.2.on k⟩
theorem MkS.txt {H : Hp} {z : Str} (h : z.length ≤ 1000) : MkS H (.str z) := ⟨.leaf (.str z) (by decide) (fun z' e => by cases e; exact h), .inl ⟨rfl, trivial⟩⟩
def TIp (ts : List TI) (ms : List (Str × Nat)) : Prop := (ts.map (·.2)).Perm (ms.map fun q => (q.1, (q.2 : Int))) ∧ ts.Pairwise (fun x y => txLt x.2.1 y.2.1)
def gTI (ms : List (Str × Nat)) (z : Str) : Str × Int := (z, (((ms.lookup z).getD 0 : Nat) : Int))
theorem lookup_mem : ∀ {ms : List (Str × Nat)}, (ms.map (·.1)).Nodup → ∀ {q : Str × Nat}, q ∈ ms → ms.lookup q.1 = some q.2
  | [], _, _, h => by cases h
  | p :: r, nd, q, h => by
    rw [List.map_cons, List.nodup_cons] at nd
    rw [show p = (p.1, p.2) from rfl, List.lookup_cons]
    by_cases e : q.1 = p.1
    · rcases List.mem_cons.mp h with rfl | h
      · simp
      · exact absurd (List.mem_map.mpr ⟨q, h, e⟩) nd.1
    · have : (q.1 == p.1) = false := by simpa using e
      rw [this]
      rcases List.mem_cons.mp h with rfl | h
      · exact absurd rfl e
      · exact lookup_mem nd.2 h
def spLPairs : Sp := fun vs H Q _ => ∃ (d : Addr) (ms : List (Str × Nat)), vs = [.ref d] ∧ H d = some (.dK (mkK ms)) ∧ (ms.map (·.1)).Nodup ∧ ms.length ≤ 5000 ∧
  ∀ (ts : List TI) (l : Addr) (H' : Hp), Same H H' → H l = none → H' l = some (.lst (ts.map fun t => V.ref t.1)) → (∀ t ∈ ts, H' t.1 = some (.tup [.str t.2.1, .int t.2.2])) → TIp ts ms → Q (.ref l) H'
def spLGoes : Sp := fun vs H Q _ => ∃ (d c th l : Addr) (n : Nat) (cs : List (Addr × Ct)) (ns : List Nat), vs = [.ref d, .ref th, .ref l] ∧ Deck H d c n ∧ n + 3 ≤ MOSTD ∧ ThAt H th cs ∧ th ≠ d ∧ 1 ≤ cs.length ∧ cs.length ≤ 1000 ∧ H l = some (.lst (ns.map nV)) ∧ l ≠ d ∧ 1 ≤ ns.length ∧ ns.length ≤ 1000 ∧
  ∀ (new : Option Int) (H' : Hp), Deck H' d c (n + 3) → KX d H H' → Q (iV new) H'
def spLWas : Sp := fun vs H Q _ => ∃ (d c e l : Addr) (n : Nat) (ms : List (Str × Nat)) (x : V) (ns : List Nat), vs = [.ref d, .ref e, x, .ref l] ∧ Deck H d c n ∧ n + 2 ≤ MOSTD ∧ H e = some (.dK (mkK ms)) ∧ e ≠ d ∧ DatT 1000 H x ∧ H l = some (.lst (ns.map nV)) ∧ l ≠ d ∧ 1 ≤ ns.length ∧ ns.length ≤ 1000 ∧
  ∀ (old : Option Nat) (H' : Hp), Deck H' d c (n + 2) → KX d H H' → Q (oV old) H'
def spLMvRight : Sp := fun vs H Q _ => ∃ (th f u t : Addr) (cs : List (Addr × Ct)) (hs : List Nat) (ms : List (Str × Nat)) (x y : V) (old nw : Option Nat) (new : Option Int) (md : Md), vs = [.ref th, .ref f, oV old, iV new, .ref u, .ref t] ∧ LScn H th f cs hs ∧ MkS H x ∧ DueAt H cs hs ms x new u md ∧
  ((md ≠ .ok ∧ DueAt H cs hs ms x new t md) ∨ (md = .ok ∧ H t = some (.tup [.str "told", y]) ∧ new = nw.map (fun n : Nat => (n : Int)) ∧ GoodN cs hs new ∧ (((old = none ∨ nw = none) ∧ y = .non) ∨ ∃ o n w, old = some o ∧ nw = some n ∧ y = .ref w ∧ ToldW H cs hs o n w))) ∧ ∀ H', Same H H' → Q (.bl true) H'
theorem sc_oV (o : Option Nat) : Sc (oV o) := by cases o <;> trivial
theorem sc_iV (o : Option Int) : Sc (iV o) := by cases o <;> trivial
theorem sd_tup {n : Nat} {H : Hp} {p q : Addr} {xs ys : List V} (h1 : H p = some (.tup xs)) (h2 : H q = some (.tup ys)) (hl : xs.length = ys.length) (hm : xs.length ≤ 100000) (h : ∀ (i : Nat) (a b : V), xs[i]? = some a → ys[i]? = some b → SD n H a b) : SD (n + 1) H (.ref p) (.ref q) := .inr (.inl ⟨p, q, xs, ys, rfl, rfl, .inl ⟨h1, h2⟩, hl, hm, h⟩)
theorem SD.scal {n : Nat} {H : Hp} {x : V} (h : Sc x) : SD n H x x := by
  cases n with
  | zero => exact ⟨rfl, h⟩
  | succ n => exact .inl ⟨rfl, h⟩
theorem ApartW.sd {H : Hp} {cs : List (Addr × Ct)} {hs : List Nat} {goes : Nat} {w w' : Addr} {ns ns' : List Nat} (h : ApartW H cs hs goes w ns) (h' : ApartW H cs hs goes w' ns') : SD 2 H (.ref w) (.ref w') := by
  obtain ⟨r, e, h1, h2, h3, h4, h5, h6⟩ := h
  obtain ⟨r', e', g1, g2, g3, g4, g5, g6⟩ := h'
  obtain rfl : ns = ns' := rise_ext h4 g4 fun n => (h5 n).trans (g5 n).symm
  have hle : (edgs cs hs ns).length ≤ ns.length := List.length_filter_le _ _
  refine sd_tup h1 g1 rfl (by simp) fun i a b ha hb => ?_
  match i, ha, hb with
  | 0, ha, hb =>
    cases ha
    cases hb
    exact SD.scal trivial
  | 1, ha, hb =>
    cases ha
    cases hb
    exact SD.tups (xs := ns.map fun n : Nat => (n : Int)) (by rw [← nV_map]; exact h2) (by rw [← nV_map]; exact g2) (by rw [List.length_map]; omega)
  | 2, ha, hb =>
    cases ha
    cases hb
    exact SD.tups (xs := (edgs cs hs ns).map fun n : Nat => (n : Int)) (by rw [← nV_map]; exact h3) (by rw [← nV_map]; exact g3) (by rw [List.length_map]; omega)
  | i + 3, ha, hb => simp at ha
theorem sd_two {H : Hp} {p q : Addr} {z : Str} {x y : V} (h1 : H p = some (.tup [.str z, x])) (h2 : H q = some (.tup [.str z, y])) (h : SD 2 H x y) : SD 3 H (.ref p) (.ref q) := sd_tup h1 h2 rfl (by simp) fun i a b ha hb => by
  match i, ha, hb with
  | 0, ha, hb =>
    cases ha
    cases hb
    exact SD.scal trivial
  | 1, ha, hb =>
    cases ha
    cases hb
    exact h
  | i + 2, ha, hb => simp at ha
theorem sd_three {H : Hp} {p q : Addr} {z : Str} {x y x' y' : V} (h1 : H p = some (.tup [.str z, x, y])) (h2 : H q = some (.tup [.str z, x', y'])) (h : SD 2 H x x') (h' : SD 2 H y y') : SD 3 H (.ref p) (.ref q) := sd_tup h1 h2 rfl (by simp) fun i a b ha hb => by
  match i, ha, hb with
  | 0, ha, hb =>
    cases ha
    cases hb
    exact SD.scal trivial
  | 1, ha, hb =>
    cases ha
    cases hb
    exact h
  | 2, ha, hb =>
    cases ha
    cases hb
    exact h'
  | i + 3, ha, hb => simp at ha
theorem DueAt.sd {H : Hp} {cs : List (Addr × Ct)} {hs : List Nat} {ms : List (Str × Nat)} {x : V} {new : Option Int} {t u : Addr} {md : Md} (m : MkS H x) (h : DueAt H cs hs ms x new t md) (g : DueAt H cs hs ms x new u md) (hn : md ≠ .ok) : SD 3 H (.ref t) (.ref u) := by
  cases md with
  | ok => exact absurd rfl hn
  | nm => exact sd_two h g m.2
  | nn => exact sd_two h g (SD.scal (sc_iV _))
  | lk => exact sd_two h g (SD.scal (sc_iV _))
  | st => exact sd_three h g m.2 (SD.scal (sc_oV _))
  | na0 => exact sd_three h g m.2 (SD.scal trivial)
  | na1 =>
    obtain ⟨w, goes, ns, e1, e2, e3⟩ := h
    obtain ⟨w', goes', ns', g1, g2, g3⟩ := g
    rw [e1] at g1
    obtain rfl : goes = goes' := by have := Option.some.inj g1; omega
    exact sd_three e2 g2 m.2 (e3.sd g3)
def isOkM : Md → Bool
  | .ok => true
  | _ => false
theorem DueAt.head {H : Hp} {cs : List (Addr × Ct)} {hs : List Nat} {ms : List (Str × Nat)} {x : V} {new : Option Int} {u : Addr} {md : Md} (h : DueAt H cs hs ms x new u md) : ∃ (z : Str) (xs : List V), H u = some (.tup (.str z :: xs)) ∧ decide (z = "told") = isOkM md := by
  cases md with
  | ok => exact ⟨_, _, h, by decide +kernel⟩
  | nm => exact ⟨_, _, h, by decide +kernel⟩
  | nn => exact ⟨_, _, h, by decide +kernel⟩
  | lk => exact ⟨_, _, h, by decide +kernel⟩
  | st => exact ⟨_, _, h, by decide +kernel⟩
  | na0 => exact ⟨_, _, h, by decide +kernel⟩
  | na1 =>
    obtain ⟨w, goes, ns, e1, e2, e3⟩ := h
    exact ⟨_, _, e2, by decide +kernel⟩
theorem MkS.one {H : Hp} {p : Addr} {z : Str} (e : H p = some (.tup [.str z])) (h : z.length ≤ 1000) : MkS H (.ref p) := ⟨.tup e (by simp) (fun y hy => by
    obtain rfl : y = .str z := by simpa using hy
    exact (MkS.txt (H := H) h).1), sd_tup e e rfl (by simp) fun i a b ha hb => by
    rw [ha] at hb
    cases hb
    obtain rfl : a = .str z := by simpa using List.mem_of_getElem? ha
    exact SD.scal trivial⟩
theorem MkS.lst {H : Hp} {p : Addr} {z : Str} (e : H p = some (.lst [.str z])) (h : z.length ≤ 1000) : MkS H (.ref p) := ⟨.leaf (.lst e) (by decide) (fun z q => by cases q), .inr (.inl ⟨p, p, _, _, rfl, rfl, .inr ⟨e, e⟩, rfl, by simp, fun i a b ha hb => by
    rw [ha] at hb
    cases hb
    obtain rfl : a = .str z := by simpa using List.mem_of_getElem? ha
    exact SD.scal trivial⟩)⟩
def spLMark : Sp := fun vs H Q _ => ∃ (d c : Addr) (n : Nat), vs = [.ref d] ∧ Deck H d c n ∧ n + 13 ≤ MOSTD ∧ ∀ (x : V) (H' : Hp), Deck H' d c (n + 13) → KX d H H' → (∀ H'', KX d H' H'' → MkS H'' x) → Q x H'
section
variable {P : Program} {w : World} {K : PySem.W.Frag} {mg : Str → Option Value} {base : Heap} {C CH CS CU : Addr}
theorem ok_lgoes {f fM fD : Addr} {fd fdM fdD : FuncData} (T : Txt K mg) (F : Fun K "_law_goes" "_law_goes" s_law_goes f fd) (D_law_mixed : Df K mg "_law_mixed" s_law_mixed ["_law_cell", "_law_turn"] fM fdM) (D_law_draw : Df K mg "_law_draw" s_law_draw ["_law_deck_here", "_law_many"] fD fdD) : FnOk P w K mg base CX0 3 f fd ["_law_deck_here", "_law_things", "_law_versions_here"] spLGoes := by
  have G_law_draw : FnOk P w K mg base CX0 2 fD fdD ["_law_deck_here", "_law_many"] spDraw := ok_draw T D_law_draw.fn D_law_mixed
  refine F.ok sc_law_goes (fun vs H Q E h => ?_) (fun cdv A outer s H vs Q E hr h => ?_)
  · obtain ⟨d, c, th, l, n, cs, ns, rfl, _⟩ := h
    rfl
  · obtain ⟨d, c, th, l, n, cs, ns, rfl, D, hn, Th, nth, hc1, hc2, el, nl, hn1, hn2, q⟩ := h
    refine ⟨_,
      (pss_cons
        (ps_set (i := 3) sc_law_goes.nd rfl (.inl rfl) (pe_call G_law_draw (hr.mono (by omega)) (by rfl) D_law_draw.g D_law_draw.fn.kp D_law_draw.b .nil pass0 (pa_cons (pv 0) (pa_cons pe_int pa_nil))))
      (pss_cons
        (ps_if (pt_cmpR op_eq (pv 3) pe_int (nomark _))
          (pss_one
            (ps_ret pe_non))
          pss_nil)
      (pss_cons
        (ps_if (pt_cmpR op_eq (pv 3) pe_int (nomark _))
          (pss_one
            (ps_ret (pe_call G_law_draw (hr.mono (by omega)) (by rfl) D_law_draw.g D_law_draw.fn.kp D_law_draw.b .nil pass0 (pa_cons (pv 0) (pa_cons (pe_callB (r := rLen K) c_len (by rfl) T.n_len (by decide +kernel) (pa_cons (pv 1) pa_nil)) pa_nil)))))
          pss_nil)
      (pss_cons
        (ps_if (pt_cmpR op_eq (pv 3) pe_int (nomark _))
          (pss_one
            (ps_ret (pe_op op_add (pe_callB (r := rLen K) c_len (by rfl) T.n_len (by decide +kernel) (pa_cons (pv 1) pa_nil)) (pe_op op_mul (pe_call G_law_draw (hr.mono (by omega)) (by rfl) D_law_draw.g D_law_draw.fn.kp D_law_draw.b .nil pass0 (pa_cons (pv 0) (pa_cons (pe_op op_pow pe_int pe_int) pa_nil))) (pe_call G_law_draw (hr.mono (by omega)) (by rfl) D_law_draw.g D_law_draw.fn.kp D_law_draw.b .nil pass0 (pa_cons (pv 0) (pa_cons pe_int pa_nil)))))))
          pss_nil)
      (pss_cons
        (ps_if (pt_cmpR op_eq (pv 3) pe_int (nomark _))
          (pss_one
            (ps_ret (pe_op op_sub (pe_un un_neg pe_int) (pe_call G_law_draw (hr.mono (by omega)) (by rfl) D_law_draw.g D_law_draw.fn.kp D_law_draw.b .nil pass0 (pa_cons (pv 0) (pa_cons (pe_op op_pow pe_int pe_int) pa_nil))))))
          pss_nil)
      (pss_one
        (ps_ret (pe_ix (r := rIxL K) ix_list (pv 2) (pe_call G_law_draw (hr.mono (by omega)) (by rfl) D_law_draw.g D_law_draw.fn.kp D_law_draw.b .nil pass0 (pa_cons (pv 0) (pa_cons (pe_callB (r := rLen K) c_len (by rfl) T.n_len (by decide +kernel) (pa_cons (pv 2) pa_nil)) pa_nil))) (fun _ _ => rfl)))))))))
      , ?_⟩
    rw [show L2.start N_law_goes [V.ref d, V.ref th, V.ref l] = [some (.ref d), some (.ref th), some (.ref l), none] from rfl]
    walk_at "x"
    refine w_draw D (by unfold MOSTD at *; omega) (by decide) (by decide) fun turn H1 hturn D1 o1 => ?_
    have k1 := D.kx D1 o1
    have eth1 := o1.get nth Th.at'
    have el1 := o1.get nl el
    walk_at "g"
    refine w_seq ?_
    walk_at "g"
    by_cases h0 : (turn : Int) = 0
    · rw [decide_eq_true h0, if_pos rfl]
      walk_at "g"
      exact q none H1 (D1.mono (by omega)) k1
    rw [decide_eq_false h0, if_neg (by decide)]
    walk_at "g"
    refine w_seq ?_
    walk_at "g"
    by_cases h1 : (turn : Int) = 1
    · rw [decide_eq_true h1, if_pos rfl]
      walk_at "g"
      rw [List.length_map]
      refine w_draw D1 (by unfold MOSTD at *; omega) (by omega) (by omega) fun i H2 hi D2 o2 => ?_
      walk_at "g"
      exact q (some (i : Int)) H2 (D2.mono (by omega)) (k1.trans (D1.kx D2 o2))
    rw [decide_eq_false h1, if_neg (by decide)]
    walk_at "g"
    refine w_seq ?_
    walk_at "g"
    by_cases h2 : (turn : Int) = 2
    · rw [decide_eq_true h2, if_pos rfl]
      walk_at "g"
      refine w_draw D1 (by unfold MOSTD at *; omega) (by decide) (by decide) fun i H2 hi D2 o2 => ?_
      walk_at "g"
      refine w_draw D2 (by unfold MOSTD at *; omega) (by decide) (by decide) fun j H3 hj D3 o3 => ?_
      walk_at "g"
      exact q (some (((cs.map fun q => V.ref q.1).length : Nat) + (i : Int) * (j : Int))) H3 D3 ((k1.trans (D1.kx D2 o2)).trans (D2.kx D3 o3))
    rw [decide_eq_false h2, if_neg (by decide)]
    walk_at "g"
    refine w_seq ?_
    walk_at "g"
    by_cases h3 : (turn : Int) = 3
    · rw [decide_eq_true h3, if_pos rfl]
      walk_at "g"
      refine w_draw D1 (by unfold MOSTD at *; omega) (by decide) (by decide) fun i H2 hi D2 o2 => ?_
      walk_at "g"
      exact q (some (-1 - (i : Int))) H2 (D2.mono (by omega)) (k1.trans (D1.kx D2 o2))
    rw [decide_eq_false h3, if_neg (by decide)]
    walk_at "g"
    rw [List.length_map]
    refine w_draw D1 (by unfold MOSTD at *; omega) (by omega) (by omega) fun i H2 hi D2 o2 => ?_
    have hil : i < ns.length := by omega
    have el2 := o2.get nl el1
    have at1 : atI (ns.map nV) (i : Int) = some (nV ns[i]) := atI_nat (by rw [List.getElem?_map, List.getElem?_eq_getElem hil]; rfl)
    walk_at "g"
    exact q (some ((ns[i] : Nat) : Int)) H2 (D2.mono (by omega)) (k1.trans (D1.kx D2 o2))
theorem ok_lwas {f fM fD : Addr} {fd fdM fdD : FuncData} (T : Txt K mg) (F : Fun K "_law_was" "_law_was" s_law_was f fd) (D_law_mixed : Df K mg "_law_mixed" s_law_mixed ["_law_cell", "_law_turn"] fM fdM) (D_law_draw : Df K mg "_law_draw" s_law_draw ["_law_deck_here", "_law_many"] fD fdD) : FnOk P w K mg base CX0 3 f fd ["_law_deck_here", "_law_stands", "_law_mark_here", "_law_versions_here"] spLWas := by
  have G_law_draw : FnOk P w K mg base CX0 2 fD fdD ["_law_deck_here", "_law_many"] spDraw := ok_draw T D_law_draw.fn D_law_mixed
  refine F.ok sc_law_was (fun vs H Q E h => ?_) (fun cdv A outer s H vs Q E hr h => ?_)
  · obtain ⟨d, c, e, l, n, ms, x, ns, rfl, _⟩ := h
    rfl
  · obtain ⟨d, c, e, l, n, ms, x, ns, rfl, D, hn, ee, ned, dt, el, nl, hn1, hn2, q⟩ := h
    have hu := hu_of hr
    refine ⟨_,
      (pss_cons
        (ps_set (i := 4) sc_law_was.nd rfl (.inl rfl) (pe_call G_law_draw (hr.mono (by omega)) (by rfl) D_law_draw.g D_law_draw.fn.kp D_law_draw.b .nil pass0 (pa_cons (pv 0) (pa_cons pe_int pa_nil))))
      (pss_cons
        (ps_if (pt_cmpR op_eq (pv 4) pe_int (nomark _))
          (pss_one
            (ps_ret pe_non))
          pss_nil)
      (pss_cons
        (ps_if (PW.pt (pw_or (pt_cmpR op_eq (pv 4) pe_int (nomark _)) (pw_or1 (pt_not (pt_val (pe_callB (r := rIsi K) call_isi (by rfl) T.n_isinstance (by decide +kernel) (pa_cons (pv 2) (pa_cons (pe_bltn (v := .ty "str") (u := .type "str") (by rfl) T.n_str (by decide +kernel) rfl) pa_nil))))))))
          (pss_one
            (ps_ret (pe_ix (r := rIxL K) ix_list (pv 3) (pe_call G_law_draw (hr.mono (by omega)) (by rfl) D_law_draw.g D_law_draw.fn.kp D_law_draw.b .nil pass0 (pa_cons (pv 0) (pa_cons (pe_callB (r := rLen K) c_len (by rfl) T.n_len (by decide +kernel) (pa_cons (pv 3) pa_nil)) pa_nil))) (fun _ _ => rfl))))
          pss_nil)
      (pss_one
        (ps_ret (pe_dget1 hu (pv 1) (pv 2) ⟨rfl, rfl, rfl, rfl⟩))))))
      , ?_⟩
    rw [show L2.start N_law_was [V.ref d, V.ref e, x, V.ref l] = [some (.ref d), some (.ref e), some x, some (.ref l), none] from rfl]
    walk_at "x"
    refine w_draw D (by unfold MOSTD at *; omega) (by decide) (by decide) fun turn H1 hturn D1 o1 => ?_
    have k1 := D.kx D1 o1
    have ee1 := o1.get ned ee
    have el1 := o1.get nl el
    obtain ⟨a, t⟩ := (dt.kd k1.toKD).ty
    walk_at "g"
    refine w_seq ?_
    walk_at "g"
    by_cases h0 : (turn : Int) = 0
    · rw [decide_eq_true h0, if_pos rfl]
      walk_at "g"
      exact q none H1 (D1.mono (by omega)) k1
    rw [decide_eq_false h0, if_neg (by decide)]
    walk_at "g"
    have drawn : ∀ (Q' : VK), (∀ (i : Nat) (H2 : Hp), i < ns.length → Deck H2 d c (n + 2) → KX d H H2 → H2 l = some (.lst (ns.map nV)) → Q' (.int i) H2) → spDraw ([V.ref d, V.int ((ns.length : Nat) : Int)] ++ []) H1 Q' E0 := fun Q' h => by
      refine w_draw D1 (by unfold MOSTD at *; omega) (by omega) (by omega) fun i H2 hi D2 o2 => ?_
      exact h i H2 (by omega) D2 (k1.trans (D1.kx D2 o2)) (o2.get nl el1)
    refine w_seq ?_
    walk_at "g"
    by_cases h1 : (turn : Int) = 1
    · rw [decide_eq_true h1]
      walk_at "g"
      rw [List.length_map]
      refine drawn _ fun i H2 hil D2 k2 el2 => ?_
      have at1 : atI (ns.map nV) (i : Int) = some (nV ns[i]) := atI_nat (by rw [List.getElem?_map, List.getElem?_eq_getElem hil]; rfl)
      walk_at "g"
      exact q (some ns[i]) H2 D2 k2
    rw [decide_eq_false h1]
    walk_at "g"
    refine w_isStr t ?_
    walk_at "g"
    by_cases hs : a = "str"
    · rw [decide_eq_true hs, if_neg (by decide)]
      obtain ⟨z, rfl⟩ := t.isStr hs
      walk_at "g"
      refine w_dget1Z ee1 ?_
      rw [mkK_get]
      exact q (ms.lookup z) H1 (D1.mono (by omega)) k1
    · rw [decide_eq_false hs, if_pos (by decide)]
      walk_at "g"
      rw [List.length_map]
      refine drawn _ fun i H2 hil D2 k2 el2 => ?_
      have at1 : atI (ns.map nV) (i : Int) = some (nV ns[i]) := atI_nat (by rw [List.getElem?_map, List.getElem?_eq_getElem hil]; rfl)
      walk_at "g"
      exact q (some ns[i]) H2 D2 k2
theorem ok_lmvright {f fB fS fI fP fL fR fW fT : Addr} {fd fdB fdS fdI fdP fdL fdR fdW fdT : FuncData} (T : Txt K mg) (F : Fun K "_law_move_right" "_law_move_right" s_law_move_right f fd) (D_law_int : Df K mg "_law_int" s_law_int ["_law_thing"] fI fdI) (D_law_same : Df K mg "_law_same" s_law_same ["_law_found", "_law_due"] fS fdS) (D_law_brims : Df K mg "_law_brims" s_law_brims ["_law_things", "_law_here_here", "_law_versions_here"] fR fdR) (D_law_parents : Df K mg "_law_parents" s_law_parents ["_law_things", "_law_here_here", "_law_version"] fP fdP) (D_law_lower : Df K mg "_law_lower" s_law_lower ["_law_things", "_law_here_here", "_law_version"] fL fdL)
    (D_law_is_walk : Df K mg "_law_is_walk" s_law_is_walk ["_law_things", "_law_here_here", "_law_was_here", "_law_goes_here", "_law_versions_here"] fW fdW) (D_law_way_told : Df K mg "_law_way_told" s_law_way_told ["_law_things", "_law_here_here", "_law_was_here", "_law_goes_here", "_law_thing"] fT fdT) : FnOk P w K mg base CX0 7 f fd ["_law_things", "_law_here_here", "_law_was_here", "_law_goes_here", "_law_due", "_law_told"] spLMvRight := by
  have G_law_same : FnOk P w K mg base CX0 5 fS fdS ["_law_found", "_law_due"] (spSame 3) := ok_same T D_law_same D_law_int 3
  have G_law_way_told : FnOk P w K mg base CX0 5 fT fdT ["_law_things", "_law_here_here", "_law_was_here", "_law_goes_here", "_law_thing"] spLTold := ok_ltold T D_law_way_told.fn D_law_int D_law_same D_law_brims D_law_parents D_law_lower D_law_is_walk
  refine F.ok sc_law_move_right (fun vs H Q E h => ?_) (fun cdv A outer s H vs Q E hr h => ?_)
  · obtain ⟨th, f', u, t, cs, hs, ms, x, y, old, nw, new, md, rfl, _⟩ := h
    rfl
  · obtain ⟨th, f', u, t, cs, hs, ms, x, y, old, nw, new, md, rfl, S, m, hu, ht, q⟩ := h
    refine ⟨_,
      (pss_cons
        (ps_if (pt_cmpR op_ne (pe_ix (r := rIxT K) ix_tup (pv 4) pe_int (fun _ _ => rfl)) pe_str (nomark _))
          (pss_one
            (ps_ret (pe_call G_law_same (hr.mono (by omega)) (by rfl) D_law_same.g D_law_same.fn.kp D_law_same.b .nil pass0 (pa_cons (pv 5) (pa_cons (pv 4) pa_nil)))))
          pss_nil)
      (pss_cons
        (ps_if (PW.pt (pw_or (pt_cmpR op_ne (pe_callB (r := rLen K) c_len (by rfl) T.n_len (by decide +kernel) (pa_cons (pv 5) pa_nil)) pe_int (nomark _)) (pw_or1 (pt_cmpR op_ne (pe_ix (r := rIxT K) ix_tup (pv 5) pe_int (fun _ _ => rfl)) pe_str (nomark _)))))
          (pss_one
            (ps_ret pe_bl))
          pss_nil)
      (pss_cons
        (ps_if (PW.pt (pw_or (pt_cmpR o_isN (pv 2) pe_non (nomark _)) (pw_or1 (pt_cmpR o_isN (pv 3) pe_non (nomark _)))))
          (pss_one
            (ps_ret (pe_cmpR o_isN (pe_ix (r := rIxT K) ix_tup (pv 5) pe_int (fun _ _ => rfl)) pe_non (nomark _))))
          pss_nil)
      (pss_one
        (ps_ret (pe_call G_law_way_told (hr.mono (by omega)) (by rfl) D_law_way_told.g D_law_way_told.fn.kp D_law_way_told.b .nil pass0 (pa_cons (pv 0) (pa_cons (pv 1) (pa_cons (pv 2) (pa_cons (pv 3) (pa_cons (pe_ix (r := rIxT K) ix_tup (pv 5) pe_int (fun _ _ => rfl)) pa_nil)))))))))))
      , ?_⟩
    rw [show L2.start N_law_move_right [V.ref th, V.ref f', oV old, iV new, V.ref u, V.ref t] = [some (.ref th), some (.ref f'), some (oV old), some (iV new), some (.ref u), some (.ref t)] from rfl]
    obtain ⟨z, xs, eu, hz⟩ := hu.head
    have at0 : atI (V.str z :: xs) 0 = some (.str z) := atI_nat (j := 0) rfl
    walk_at "x"
    refine w_seq ?_
    walk_at "g"
    rw [hz]
    rcases ht with ⟨hn, ht⟩ | ⟨rfl, et, en, hg, hy⟩
    · have e0 : isOkM md = false := by cases md <;> first | rfl | exact absurd rfl hn
      rw [e0]
      walk_at "g"
      refine ⟨_, _, rfl, ht.sd m hu hn, fun H1 k1 => q _ k1⟩
    · have at0' : atI [V.str "told", y] 0 = some (.str "told") := atI_nat (j := 0) rfl
      have at1' : atI [V.str "told", y] 1 = some y := atI_nat (j := 1) rfl
      rw [show isOkM .ok = true from rfl]
      walk_at "g"
      refine w_seq ?_
      walk_at "g"
      rw [show decide ((([V.str "told", y] : List V).length : Int) = 2) = true from rfl]
      walk_at "g"
      rw [decide_eq_true (show (Str.ofString "told") = Str.ofString "told" from rfl)]
      walk_at "g"
      refine w_seq ?_
      walk_at "g"
      have fin : Q (.bl true) H := q H (fun _ _ z => z)
      cases old with
      | none =>
        obtain rfl : y = .non := by
          rcases hy with ⟨_, e⟩ | ⟨o, n, w', e, _⟩
          · exact e
          · cases e
        refine w_yes rfl ?_
        walk_at "g"
        rw [decide_eq_true rfl]
        exact fin
      | some o =>
        refine w_no (fun z => nomatch z) ?_
        walk_at "g"
        cases nw with
        | none =>
          obtain rfl : y = .non := by
            rcases hy with ⟨_, e⟩ | ⟨o, n, w', _, e, _⟩
            · exact e
            · cases e
          subst en
          refine w_yes rfl ?_
          walk_at "g"
          rw [decide_eq_true rfl]
          exact fin
        | some n =>
          subst en
          obtain ⟨n', en', iv, hin⟩ := hg _ rfl
          obtain rfl : n = n' := by have : (n : Int) = n' := en'; omega
          obtain ⟨w', rfl, hw⟩ : ∃ w', y = .ref w' ∧ ToldW H cs hs o n w' := by
            rcases hy with ⟨h, _⟩ | ⟨o', n', w', e1, e2, e3, e4⟩
            · rcases h with h | h <;> cases h
            · cases e1
              cases e2
              exact ⟨w', e3, e4⟩
          refine w_no (fun z => nomatch z) ?_
          walk_at "g"
          exact ⟨th, f', w', cs, hs, o, n, rfl, S, hin, iv, hw, fun H1 k1 => q _ k1⟩
theorem ok_lpairs {f : Addr} {fd : FuncData} (T : Txt K mg) (F : Fun K "_law_pairs" "_law_pairs" s_law_pairs f fd) : FnOk P w K mg base CX0 1 f fd ["_law_stands"] spLPairs := by
  refine F.ok sc_law_pairs (fun vs H Q E h => ?_) (fun cdv A outer s H vs Q E hr h => ?_)
  · obtain ⟨d, ms, rfl, _⟩ := h
    rfl
  · obtain ⟨d, ms, rfl, ed, nd, hml, q⟩ := h
    have hu := hu_of hr
    refine ⟨_,
      (pss_one
        (ps_ret (pe_lc (own := [("_law_mark_here", 1)]) (g := (gName 1)) rfl sc_law_pairs.nd (pi_list (pe_callB (r := rSortDL) (c_sortDL rfl hr.units) (by rfl) T.n_sorted (by decide +kernel) (pa_cons (pv 0) pa_nil))) (blkOk_by (own := [("_law_mark_here", 1)]) (N := N_law_pairs) (sc := defScope s_law_pairs) (by decide +kernel)) (fun _ _ _ _ _ => (pg_name (i := 1) sc_law_pairs.nd rfl (.inl rfl))) (fun _ _ _ _ _ => pts_nil) (fun _ _ _ _ _ => (pe_tup (pa_cons (pv 1) (pa_cons (pe_dget hu (pv 0) (pv 1) (fun _ _ => rfl)) pa_nil)))))))
      , ?_⟩
    rw [show L2.start N_law_pairs [V.ref d] = [some (.ref d), none] from rfl]
    walk_at "x"
    have hk : (mkK ms).map (·.1) = (ms.map (·.1)).map Sum.inr := by unfold mkK; rw [List.map_map, List.map_map]; rfl
    refine w_sortDL ed hk nd (by rw [List.length_map]; omega) fun ys l1 H1 hp hs hl1 e1 k1 => ?_
    walk_at "g"
    have hlk : ∀ q ∈ ms, ms.lookup q.1 = some q.2 := fun q hq => lookup_mem nd hq
    have hyl : ys.length = ms.length := by rw [hp.length_eq, List.length_map]
    refine lcp_rel (walk_list (K := K) (a := l1) (xs := ys.map V.str)) [] (fun i y H' => ∃ (a : Addr) (z : Str), y = .ref a ∧ ys[i]? = some z ∧ H' a = some (.tup [.str z, .int (gTI ms z).2])) (by rw [List.length_map]; omega) (fun i y H1 H2 t ⟨a, z, h1, h2, h3⟩ => ⟨a, z, h1, h2, t _ _ h3⟩) (fun H' k => .of (k _ _ (by simp) e1)) ?_ (by simp) ?_
    · rintro i x H2 H3 R hi k2 t2 ⟨rfl, hx⟩ hR
      obtain ⟨z, hz, rfl⟩ := map_at hx
      have hzm : z ∈ ms.map (·.1) := hp.mem_iff.mp (List.mem_of_getElem? hz)
      obtain ⟨q0, hq0, rfl⟩ := List.mem_map.mp hzm
      have ed2 := k2 _ _ (by simp) (k1 _ _ ed)
      walk_at "g"
      refine ⟨rfl, ?_⟩
      walk_at "g"
      refine w_dgetZ ed2 (v := nV q0.2) (by rw [mkK_val, hlk q0 hq0]; rfl) ?_
      walk_at "g"
      refine w_new fun a H4 ha e4 k4 => ?_
      refine hR _ _ ⟨a, q0.1, rfl, hz, ?_⟩ (Kp.of k4) (KT.of k4)
      rw [e4]
      unfold gTI
      rw [hlk q0 hq0]
      rfl
    · intro D H2 vs hvl hvs hD k2 t2 eD
      rw [List.length_map] at hvl
      obtain ⟨ps, h1, h2, h3⟩ := refs_of (α := Str × Int) (fun a q => H2 a = some (.tup [.str q.1, .int q.2])) vs (fun j => gTI ms (ys.getD j (Str.ofString ""))) fun j y hy => by
        obtain ⟨a, z, g1, g2, g3⟩ := hvs j y hy
        refine ⟨a, g1, ?_⟩
        rw [List.getD_eq_getElem?_getD, g2]
        exact g3
      have h4 : ps.map (·.2) = ys.map (gTI ms) := by
        rw [h2, hvl]
        refine List.ext_getElem (by simp) fun j g1 g2 => ?_
        have hj : j < ys.length := by simpa using g2
        simp [List.getElem?_eq_getElem hj]
      subst h1
      refine q ps D H2 (Same.trans k1 fun b o e => k2 _ _ (by simp) e) (k1.free hD) eD h3 ⟨?_, ?_⟩
      · rw [h4]
        have := hp.map (gTI ms)
        rw [List.map_map] at this
        refine this.trans (List.Perm.of_eq (List.map_congr_left fun q hq => ?_))
        show (q.1, (((ms.lookup q.1).getD 0 : Nat) : Int)) = _
        rw [hlk q hq]
        rfl
      · have h5 : ps.map (fun t => t.2.1) = ys := by
          have := congrArg (List.map (fun q : Str × Int => q.1)) h4
          rw [List.map_map, List.map_map] at this
          simpa [Function.comp_def, gTI] using this
        have h6 : (ps.map (fun t => t.2.1)).Pairwise txLt := by rw [h5]; exact hs
        rwa [List.pairwise_map] at h6
theorem ok_lmark {f fM fD fL : Addr} {fd fdM fdD fdL : FuncData} (T : Txt K mg) (F : Fun K "_law_mark" "_law_mark" s_law_mark f fd) (D_law_mixed : Df K mg "_law_mixed" s_law_mixed ["_law_cell", "_law_turn"] fM fdM) (D_law_draw : Df K mg "_law_draw" s_law_draw ["_law_deck_here", "_law_many"] fD fdD) (D_law_label : Df K mg "_law_label" s_law_label ["_law_deck_here"] fL fdL) : FnOk P w K mg base CX0 4 f fd ["_law_deck_here"] spLMark := by
  have G_law_draw : FnOk P w K mg base CX0 2 fD fdD ["_law_deck_here", "_law_many"] spDraw := ok_draw T D_law_draw.fn D_law_mixed
  have G_law_label : FnOk P w K mg base CX0 3 fL fdL ["_law_deck_here"] spLabel := ok_label T D_law_label.fn D_law_mixed D_law_draw
  refine F.ok sc_law_mark (fun vs H Q E h => ?_) (fun cdv A outer s H vs Q E hr h => ?_)
  · obtain ⟨d, c, n, rfl, _⟩ := h
    rfl
  · obtain ⟨d, c, n, rfl, D, hn, q⟩ := h
    refine ⟨_,
      (pss_cons
        (ps_set (i := 1) sc_law_mark.nd rfl (.inl rfl) (pe_call G_law_draw (hr.mono (by omega)) (by rfl) D_law_draw.g D_law_draw.fn.kp D_law_draw.b .nil pass0 (pa_cons (pv 0) (pa_cons pe_int pa_nil))))
      (pss_cons
        (ps_if (pt_cmpR op_eq (pv 1) pe_int (nomark _))
          (pss_cons
            (ps_set (i := 2) sc_law_mark.nd rfl (.inl rfl) (pe_lst (pa_cons pe_non (pa_cons pe_str (pa_cons pe_str (pa_cons pe_str (pa_cons pe_str (pa_cons pe_int (pa_cons pe_bl (pa_cons (pe_tup (pa_cons pe_str pa_nil)) (pa_cons (pe_lst (pa_cons pe_str pa_nil)) (pa_cons pe_dnewK (pa_cons pe_str (pa_cons pe_str (pa_cons pe_str (pa_cons (pe_tup pa_nil) (pa_cons pe_int pa_nil)))))))))))))))))
          (pss_one
            (ps_ret (pe_ix (r := rIxL K) ix_list (pv 2) (pe_call G_law_draw (hr.mono (by omega)) (by rfl) D_law_draw.g D_law_draw.fn.kp D_law_draw.b .nil pass0 (pa_cons (pv 0) (pa_cons (pe_callB (r := rLen K) c_len (by rfl) T.n_len (by decide +kernel) (pa_cons (pv 2) pa_nil)) pa_nil))) (fun _ _ => rfl)))))
          pss_nil)
      (pss_cons
        (ps_if (pt_cmpR op_eq (pv 1) pe_int (nomark _))
          (pss_one
            (ps_ret (pe_call G_law_label (hr.mono (by omega)) (by rfl) D_law_label.g D_law_label.fn.kp D_law_label.b .nil pass0 (pa_cons (pv 0) pa_nil))))
          pss_nil)
      (pss_one
        (ps_ret (pe_ix (r := rIxL K) ix_list (pe_lst (pa_cons pe_str (pa_cons pe_str (pa_cons pe_str pa_nil)))) (pe_call G_law_draw (hr.mono (by omega)) (by rfl) D_law_draw.g D_law_draw.fn.kp D_law_draw.b .nil pass0 (pa_cons (pv 0) (pa_cons pe_int pa_nil))) (fun _ _ => rfl)))))))
      , ?_⟩
    rw [show L2.start N_law_mark [V.ref d] = [some (.ref d), none, none] from rfl]
    walk_at "x"
    refine w_draw D (by unfold MOSTD at *; omega) (by decide) (by decide) fun turn H1 hturn D1 o1 => ?_
    have k1 := D.kx D1 o1
    walk_at "g"
    refine w_seq ?_
    walk_at "g"
    by_cases h0 : (turn : Int) = 0
    · rw [decide_eq_true h0, if_pos rfl]
      walk_at "g"
      refine w_new fun p1 H2 hp1 e1 k2 => ?_
      walk_at "g"
      refine w_new fun p2 H3 hp2 e2 k3 => ?_
      walk_at "g"
      refine w_new fun p3 H4 hp3 e3 k4 => ?_
      walk_at "g"
      refine w_new fun p4 H5 hp4 e4 k5 => ?_
      walk_at "g"
      refine w_new fun p5 H6 hp5 e5 k6 => ?_
      have k16 : Same H1 H6 := Same.trans k2 (Same.trans k3 (Same.trans k4 (Same.trans k5 k6)))
      have D6 := D1.kp (M := []) (Kp.of k16) (by simp) (by simp)
      have e1' := k6 _ _ (k5 _ _ (k4 _ _ (k3 _ _ e1)))
      have e2' := k6 _ _ (k5 _ _ (k4 _ _ e2))
      have e3' := k6 _ _ (k5 _ _ e3)
      have e4' := k6 _ _ e4
      walk_at "g"
      refine w_draw D6 (by unfold MOSTD at *; omega) (by simp) (by simp) fun i H7 hi D7 o7 => ?_
      have nd5 : p5 ≠ d := fun e => by
        obtain ⟨⟨xs, ed⟩, _⟩ := D1.at
        rw [e, k5 _ _ (k4 _ _ (k3 _ _ (k2 _ _ ed)))] at hp5
        cases hp5
      have nn : ∀ {p : Addr} {u : HO}, H6 p = some u → (∀ ys, u ≠ .lst ys) → H7 p = some u := fun {p u} e hu => o7.get (fun h => by
        obtain ⟨⟨xs, ed⟩, _⟩ := D6.at
        rw [h, ed] at e
        exact hu _ (Option.some.inj e).symm) e
      have nd2 : p2 ≠ d := fun e => by
        obtain ⟨⟨xs, ed⟩, _⟩ := D1.at
        rw [e, k2 _ _ ed] at hp2
        cases hp2
      have nd3 : p3 ≠ d := fun e => by
        obtain ⟨⟨xs, ed⟩, _⟩ := D6.at
        rw [e, ed] at e3'
        cases e3'
      have m1 : ∀ H8, KX d H7 H8 → MkS H8 (.ref p1) := fun H8 x8 => MkS.one (x8.t _ _ (nn e1' (fun _ z => nomatch z))) (by decide +kernel)
      have m2 : ∀ H8, KX d H7 H8 → MkS H8 (.ref p2) := fun H8 x8 => MkS.lst (x8.p _ _ (by simpa using nd2) (o7.get nd2 e2')) (by decide +kernel)
      have m3 : ∀ H8, KX d H7 H8 → MkS H8 (.ref p3) := fun H8 x8 => ⟨.leaf (.dK (x8.p _ _ (by simpa using nd3) (nn e3' (fun _ z => nomatch z)))) (by decide) (fun z q => by cases q), .inr (.inr ⟨p3, rfl, rfl, x8.p _ _ (by simpa using nd3) (nn e3' (fun _ z => nomatch z))⟩)⟩
      have m4 : ∀ H8, KX d H7 H8 → MkS H8 (.ref p4) := fun H8 x8 => ⟨.tup (x8.t _ _ (nn e4' (fun _ z => nomatch z))) (by simp) (fun y hy => by cases hy), sd_tup (x8.t _ _ (nn e4' (fun _ z => nomatch z))) (x8.t _ _ (nn e4' (fun _ z => nomatch z))) rfl (by simp) (fun i a b ha hb => by simp at ha)⟩
      have e57 := o7.get nd5 e5
      generalize hL : ([V.non, V.str (Str.ofString ""), V.str (Str.ofString "A"), V.str (Str.ofString "abcdefghi"), V.str (Str.ofString "a b"), V.int 3, V.bl true, V.ref p1, V.ref p2, V.ref p3, V.str (Str.ofString "a1"), V.str (Str.ofString "a\n"), V.str (Str.ofString "ab-"), V.ref p4, V.int 0] : List V) = L at *
      have hll : L.length = 15 := by rw [← hL]; rfl
      have all : ∀ x ∈ L, ∀ H8, KX d H7 H8 → MkS H8 x := by
        rw [← hL]
        intro x hx H8 x8
        simp only [List.mem_cons, List.not_mem_nil, or_false] at hx
        rcases hx with rfl | rfl | rfl | rfl | rfl | rfl | rfl | rfl | rfl | rfl | rfl | rfl | rfl | rfl | rfl
        · exact ⟨.leaf .non (by decide) (fun z q => by cases q), SD.scal trivial⟩
        · exact MkS.txt (by decide +kernel)
        · exact MkS.txt (by decide +kernel)
        · exact MkS.txt (by decide +kernel)
        · exact MkS.txt (by decide +kernel)
        · exact ⟨.leaf (.int _) (by decide) (fun z q => by cases q), SD.scal trivial⟩
        · exact ⟨.leaf (.bl _) (by decide) (fun z q => by cases q), SD.scal trivial⟩
        · exact m1 H8 x8
        · exact m2 H8 x8
        · exact m3 H8 x8
        · exact MkS.txt (by decide +kernel)
        · exact MkS.txt (by decide +kernel)
        · exact MkS.txt (by decide +kernel)
        · exact m4 H8 x8
        · exact ⟨.leaf (.int _) (by decide) (fun z q => by cases q), SD.scal trivial⟩
      have hil : i < L.length := by
        have : ((L.length : Nat) : Int) = 15 := by rw [hll]; rfl
        omega
      have at1 : atI L (i : Int) = some L[i] := atI_nat (List.getElem?_eq_getElem hil)
      walk_at "g"
      exact q _ H7 (D7.mono (by omega)) ((k1.trans (KX.of k16)).trans (D6.kx D7 o7)) (all _ (List.getElem_mem hil))
    rw [decide_eq_false h0, if_neg (by decide)]
    walk_at "g"
    refine w_seq ?_
    walk_at "g"
    by_cases h1 : (turn : Int) = 1
    · rw [decide_eq_true h1, if_pos rfl]
      walk_at "g"
      refine ⟨d, c, n + 1, rfl, D1, by omega, fun H2 z D2 k2 t2 lab => ?_⟩
      exact q (.str z) H2 D2 (k1.trans (D1.kxK D2 k2)) (fun _ _ => MkS.txt (by have := lab.2.1; omega))
    rw [decide_eq_false h1, if_neg (by decide)]
    walk_at "g"
    refine w_new fun p5 H6 hp5 e5 k6 => ?_
    have D6 := D1.kp (M := []) (Kp.of k6) (by simp) (by simp)
    walk_at "g"
    refine w_draw D6 (by unfold MOSTD at *; omega) (by decide) (by decide) fun i H7 hi D7 o7 => ?_
    have nd5 : p5 ≠ d := fun e => by
      obtain ⟨⟨xs, ed⟩, _⟩ := D1.at
      rw [e, ed] at hp5
      cases hp5
    have e57 := o7.get nd5 e5
    generalize hL : ([V.str (Str.ofString "a"), V.str (Str.ofString "b"), V.str (Str.ofString "main")] : List V) = L at *
    have hll : L.length = 3 := by rw [← hL]; rfl
    have all : ∀ x ∈ L, ∀ H8, KX d H7 H8 → MkS H8 x := by
      rw [← hL]
      intro x hx H8 x8
      simp only [List.mem_cons, List.not_mem_nil, or_false] at hx
      rcases hx with rfl | rfl | rfl
      · exact MkS.txt (by decide +kernel)
      · exact MkS.txt (by decide +kernel)
      · exact MkS.txt (by decide +kernel)
    have hil : i < L.length := by omega
    have at1 : atI L (i : Int) = some L[i] := atI_nat (List.getElem?_eq_getElem hil)
    walk_at "g"
    exact q _ H7 (D7.mono (by omega)) ((k1.trans (KX.of k6)).trans (D6.kx D7 o7)) (all _ (List.getElem_mem hil))
end
/-! ### the world of k53: addresses by number
0 deck, 1 cells, 2 things, 3 held, 4 here, 5 versions, 6 house, 7 stands, 8 made, 9 book, 10 11 12 of the book, 13 the house's here, 14 its marks, 15 its trail -/
structure St3 where
  dy : Addr
  dx : Addr
  a3 : Addr
  a4 : Addr
  k : Nat
  cs : List (Addr × Ct)
  ds : List Nat
  hs : List Nat
  vs : List Nat
  ms : List (Str × Nat)
  ls : List (Addr × Mv)
  mm : List (Addr × Mv)
  B : Hp
def setA (A : Nat → Addr) (i : Nat) (x : Addr) : Nat → Addr := fun j => if j = i then x else A j
theorem setA_same {A : Nat → Addr} {i : Nat} {x : Addr} : setA A i x i = x := if_pos rfl
theorem setA_ne {A : Nat → Addr} {i j : Nat} {x : Addr} (h : j ≠ i) : setA A i x j = A j := if_neg h
structure W3 (P : Program) (w : World) (C CU : Addr) (H : Hp) (A : Nat → Addr) (S : St3) : Prop where
  inj : ∀ i j, i < 16 → j < 16 → A i = A j → i = j
  dk : ∃ n, Deck H (A 0) (A 1) n
  sc : LScn H (A 2) (A 4) S.cs S.hs
  eh : H (A 3) = some (.lst (S.hs.map nV))
  el : H (A 5) = some (.lst (S.vs.map nV))
  ho : HoAt P w C CU H (A 6) S.dy (A 9) S.dx (A 10) (A 11) (A 12) (A 13) (A 14) (A 15) S.a3 S.a4 S.cs S.ds S.k S.hs S.ms S.ls
  ee : H (A 7) = some (.dK (mkK S.ms))
  em : H (A 8) = some (.lst (S.mm.map fun q => V.ref q.1))
  mt : ∀ q ∈ S.mm, MvAt H q.1 q.2
  tr : S.ls.map (·.2) = last50 (S.mm.map (·.2))
  ml : S.ms.length ≤ 5000
  mn : S.mm.length ≤ 10000
  fb : ∀ b o, S.B b = some o → H b = some o
  fn : ∀ i, i < 16 → S.B (A i) = none
section
variable {P : Program} {w : World} {C CU : Addr} {H H' : Hp} {A : Nat → Addr} {S : St3}
theorem last50_map {α β : Type} (f : α → β) (l : List α) : (last50 l).map f = last50 (l.map f) := by
  unfold last50
  rw [List.map_drop, List.length_map]
theorem W3.few (W : W3 P w C CU H A S) : S.ls.length ≤ 50 := by
  have := congrArg List.length W.tr
  rw [List.length_map] at this
  rw [this]
  exact last50_len _
theorem W3.out (W : W3 P w C CU H A S) {J : List Nat} (hJ : ∀ j ∈ J, j < 16) {i : Nat} (hi : i < 16) (hn : i ∉ J) : A i ∉ J.map A := fun h => by
  obtain ⟨j, hj, e⟩ := List.mem_map.mp h
  exact hn (W.inj j i (hJ j hj) hi e ▸ hj)
theorem W3.there (W : W3 P w C CU H A S) : ∀ i, i < 16 → H (A i) ≠ none := by
  intro i hi hz
  obtain ⟨n0, D⟩ := W.dk
  obtain ⟨⟨xd, ed⟩, xc, ec⟩ := D.at
  have fat : ∀ {a : Addr} {F : Nat → Prop}, FAt H a F → H a ≠ none := fun h e => by
    obtain ⟨kv, hkv⟩ := h.obj
    rw [hkv] at e
    cases e
  match i, hi, hz with
  | 0, _, hz => rw [ed] at hz; cases hz
  | 1, _, hz => rw [ec] at hz; cases hz
  | 2, _, hz => rw [W.sc.th'.at'] at hz; cases hz
  | 3, _, hz => rw [W.eh] at hz; cases hz
  | 4, _, hz => exact fat W.sc.he hz
  | 5, _, hz => rw [W.el] at hz; cases hz
  | 6, _, hz => rw [W.ho.st.ob] at hz; cases hz
  | 7, _, hz => rw [W.ee] at hz; cases hz
  | 8, _, hz => rw [W.em] at hz; cases hz
  | 9, _, hz => rw [W.ho.bk.ob] at hz; cases hz
  | 10, _, hz => rw [W.ho.bk.co] at hz; cases hz
  | 11, _, hz => rw [W.ho.bk.de] at hz; cases hz
  | 12, _, hz => rw [W.ho.bk.gi.at'] at hz; cases hz
  | 13, _, hz => exact fat W.ho.st.here hz
  | 14, _, hz => rw [W.ho.e1] at hz; cases hz
  | 15, _, hz => rw [W.ho.e2] at hz; cases hz
  | i + 16, hi, _ => omega
theorem W3.fresh (W : W3 P w C CU H A S) {x : Addr} (hx : H x = none) : ∀ i, i < 16 → A i ≠ x := fun i hi e => W.there i hi (e ▸ hx)
theorem inj_set {A : Nat → Addr} {N i : Nat} {x : Addr} (h : ∀ i j, i < N → j < N → A i = A j → i = j) (hx : ∀ j, j < N → A j ≠ x) : ∀ a b, a < N → b < N → setA A i x a = setA A i x b → a = b := by
  intro a b ha hb e
  unfold setA at e
  by_cases h1 : a = i
  · by_cases h2 : b = i
    · omega
    · rw [if_pos h1, if_neg h2] at e
      exact absurd e.symm (hx b hb)
  · by_cases h2 : b = i
    · rw [if_neg h1, if_pos h2] at e
      exact absurd e (hx a ha)
    · rw [if_neg h1, if_neg h2] at e
      exact h a b ha hb e
/-- what is kept where only the addresses numbered J are touched -/
structure Keep (P : Program) (w : World) (C CU : Addr) (H' : Hp) (A : Nat → Addr) (S : St3) (J : List Nat) : Prop where
  dk : 0 ∉ J → 1 ∉ J → ∃ n, Deck H' (A 0) (A 1) n
  sc : 2 ∉ J → 4 ∉ J → LScn H' (A 2) (A 4) S.cs S.hs
  eh : 3 ∉ J → H' (A 3) = some (.lst (S.hs.map nV))
  el : 5 ∉ J → H' (A 5) = some (.lst (S.vs.map nV))
  ho : (∀ j ∈ [6, 9, 10, 11, 12, 13, 14, 15], j ∉ J) → HoAt P w C CU H' (A 6) S.dy (A 9) S.dx (A 10) (A 11) (A 12) (A 13) (A 14) (A 15) S.a3 S.a4 S.cs S.ds S.k S.hs S.ms S.ls
  ee : 7 ∉ J → H' (A 7) = some (.dK (mkK S.ms))
  em : 8 ∉ J → H' (A 8) = some (.lst (S.mm.map fun q => V.ref q.1))
  mt : ∀ q ∈ S.mm, MvAt H' q.1 q.2
  fb : ∀ b o, S.B b = some o → H' b = some o
theorem W3.keep (W : W3 P w C CU H A S) {J : List Nat} (hJ : ∀ j ∈ J, j < 16) (k : Kp (J.map A) H H') (t : KT H H') : Keep P w C CU H' A S J where
  dk := fun h1 h2 => let ⟨n, D⟩ := W.dk; ⟨n, D.kp k (W.out hJ (by omega) h1) (W.out hJ (by omega) h2)⟩
  sc := fun h1 h2 => ⟨W.sc.th'.kp k t (W.out hJ (by omega) h1), W.sc.he.kp k (W.out hJ (by omega) h2), W.sc.in', W.sc.ok, W.sc.few⟩
  eh := fun h => k _ _ (W.out hJ (by omega) h) W.eh
  el := fun h => k _ _ (W.out hJ (by omega) h) W.el
  ho := fun h => W.ho.kp k t (W.out hJ (by omega) (h 6 (by simp))) (W.out hJ (by omega) (h 13 (by simp))) (W.out hJ (by omega) (h 9 (by simp))) (W.out hJ (by omega) (h 10 (by simp))) (W.out hJ (by omega) (h 11 (by simp))) (W.out hJ (by omega) (h 12 (by simp))) (W.out hJ (by omega) (h 14 (by simp))) (W.out hJ (by omega) (h 15 (by simp)))
  ee := fun h => k _ _ (W.out hJ (by omega) h) W.ee
  em := fun h => k _ _ (W.out hJ (by omega) h) W.em
  mt := fun q hq => t _ _ (W.mt q hq)
  fb := fun b o e => k b o (fun h => by
    obtain ⟨j, hj, rfl⟩ := List.mem_map.mp h
    rw [W.fn j (hJ j hj)] at e
    cases e) (W.fb b o e)
/-- draws and new things -/
theorem W3.kx (W : W3 P w C CU H A S) (x : KX (A 0) H H') (D : ∃ n, Deck H' (A 0) (A 1) n) : W3 P w C CU H' A S :=
  let R := W.keep (J := [0]) (by simp) (by simpa using x.p) x.t
  { W with dk := D, sc := R.sc (by simp) (by simp), eh := R.eh (by simp), el := R.el (by simp), ho := R.ho (by simp), ee := R.ee (by simp), em := R.em (by simp), mt := R.mt, fb := R.fb }
theorem W3.same (W : W3 P w C CU H A S) (k : Same H H') : W3 P w C CU H' A S :=
  let ⟨n, D⟩ := W.dk
  W.kx (KX.of k) ⟨n, D.kp (M := []) (Kp.of k) (by simp) (by simp)⟩
/-- what is touched is none of ours -/
theorem W3.kpM (W : W3 P w C CU H A S) {M : List Addr} (k : Kp M H H') (t : KT H H') (o : ∀ i, i < 16 → A i ∉ M) (ob : ∀ b u, S.B b = some u → b ∉ M) : W3 P w C CU H' A S :=
  { W with dk := (let ⟨n, D⟩ := W.dk; ⟨n, D.kp k (o _ (by omega)) (o _ (by omega))⟩), sc := ⟨W.sc.th'.kp k t (o _ (by omega)), W.sc.he.kp k (o _ (by omega)), W.sc.in', W.sc.ok, W.sc.few⟩, eh := k _ _ (o _ (by omega)) W.eh, el := k _ _ (o _ (by omega)) W.el, ho := W.ho.kp k t (o _ (by omega)) (o _ (by omega)) (o _ (by omega)) (o _ (by omega)) (o _ (by omega)) (o _ (by omega)) (o _ (by omega)) (o _ (by omega)), ee := k _ _ (o _ (by omega)) W.ee, em := k _ _ (o _ (by omega)) W.em, mt := fun q hq => t _ _ (W.mt q hq), fb := fun b u e => k b u (ob b u e) (W.fb b u e) }
theorem putMs_few (ms : List (Str × Nat)) (z : Str) (nw : Option Nat) : (putM ms z nw).length ≤ ms.length + 1 := by
  cases nw with
  | none => exact Nat.le_trans (List.length_filter_le _ _) (Nat.le_succ _)
  | some n => exact putMs_len ms z n
/-- a move, the law's marks and list with it -/
theorem W3.moved (W : W3 P w C CU H A S) {x r l : Addr} {v : Mv} (hx : H x = none) (hm : S.ms.length ≤ 4999) (hn : S.mm.length ≤ 9999) (k : Kp ([6, 14, 7, 8].map A) H H') (t : KT H H') (ho : HoAt P w C CU H' (A 6) S.dy (A 9) S.dx (A 10) (A 11) (A 12) (A 13) (A 14) x S.a3 S.a4 S.cs S.ds S.k S.hs (putM S.ms v.mark v.new) (last50 (S.ls ++ [(r, v)])))
    (ee : H' (A 7) = some (.dK (mkK (putM S.ms v.mark v.new)))) (em : H' (A 8) = some (.lst ((S.mm ++ [(l, v)]).map fun q => V.ref q.1))) (ml : MvAt H' l v) : W3 P w C CU H' (setA A 15 x) { S with ms := putM S.ms v.mark v.new, ls := last50 (S.ls ++ [(r, v)]), mm := S.mm ++ [(l, v)] } :=
  let R := W.keep (J := [6, 14, 7, 8]) (by simp) k t
  have n : ∀ {i : Nat}, i ≠ 15 → setA A 15 x i = A i := fun h => setA_ne h
  { inj := inj_set W.inj (W.fresh hx)
    dk := by rw [n (by decide), n (by decide)]; exact R.dk (by simp) (by simp)
    sc := by rw [n (by decide), n (by decide)]; exact R.sc (by simp) (by simp)
    eh := by rw [n (by decide)]; exact R.eh (by simp)
    el := by rw [n (by decide)]; exact R.el (by simp)
    ho := by rw [n (by decide), n (by decide), n (by decide), n (by decide), n (by decide), n (by decide), n (by decide), setA_same]; exact ho
    ee := by rw [n (by decide)]; exact ee
    em := by rw [n (by decide)]; exact em
    mt := fun q hq => by
      rcases List.mem_append.mp hq with h | h
      · exact R.mt q h
      · obtain rfl : q = (l, v) := by simpa using h
        exact ml
    tr := by
      show (last50 (S.ls ++ [(r, v)])).map (·.2) = last50 ((S.mm ++ [(l, v)]).map (·.2))
      rw [last50_map, List.map_append, List.map_append, W.tr]
      unfold last50
      simp only [List.length_append, List.length_drop, List.map_cons, List.map_nil, List.length_cons, List.length_nil, List.length_map]
      by_cases h : S.mm.length ≤ 49
      · rw [show S.mm.length - 50 = 0 by omega, List.drop_zero, Nat.sub_zero]
      · rw [List.drop_append, List.drop_append, List.drop_drop]
        simp only [List.length_drop, List.length_map]
        congr 1
        · congr 1
          omega
        · congr 1
          omega
    ml := by have := putMs_few S.ms v.mark v.new; show (putM S.ms v.mark v.new).length ≤ 5000; omega
    mn := by show (S.mm ++ [(l, v)]).length ≤ 10000; rw [List.length_append, List.length_cons, List.length_nil]; omega
    fb := R.fb
    fn := fun i hi => by
      show S.B (setA A 15 x i) = none
      by_cases h : i = 15
      · rw [h, setA_same]
        cases e : S.B x with
        | none => rfl
        | some o =>
          have := W.fb x o e
          rw [hx] at this
          cases this
      · rw [setA_ne h]
        exact W.fn i hi }
end
local macro_rules | `(tactic| walk_at "s") => `(tactic| first
  | with_reducible refine w_dpop1 ?_
  | with_reducible refine w_methNS ?_
  | with_reducible refine w_methN ?_
  )
theorem w_clear {H : Hp} {Q : VK} {l : Addr} {xs : List V} (h1 : H l = some (.lst xs)) (h : ∀ H1, H1 l = some (.lst []) → Off l H H1 → Q .non H1) : rClear (.ref l) [] H Q := ⟨l, xs, rfl, rfl, h1, h _ upd_same fun x hx => upd_ne hx⟩
theorem KT.offL {a : Addr} {H H1 : Hp} {xs : List V} (o : Off a H H1) (e : H a = some (.lst xs)) : KT H H1 := ⟨fun b ys h => o.get (ne_of h e (fun z => nomatch z)) h, fun b u ys h => o.get (ne_of h e (fun z => nomatch z)) h⟩
theorem tx_uniq : ∀ {a b : List (Str × Int)}, a.Pairwise (fun x y => txLt x.1 y.1) → b.Pairwise (fun x y => txLt x.1 y.1) → (∀ x, x ∈ a ↔ x ∈ b) → a = b
  | [], [], _, _, _ => rfl
  | [], y :: b, _, _, h => by have := (h y).mpr (by simp); cases this
  | x :: a, [], _, _, h => by have := (h x).mp (by simp); cases this
  | x :: a, y :: b, ha, hb, h => by
    rw [List.pairwise_cons] at ha hb
    have e : x = y := by
      rcases List.mem_cons.mp ((h x).mp (by simp)) with e | e
      · exact e
      rcases List.mem_cons.mp ((h y).mpr (by simp)) with e2 | e2
      · exact e2.symm
      exact absurd (List.lt_trans (ha.1 y e2) (hb.1 x e)) (List.lt_irrefl _)
    subst e
    rw [tx_uniq ha.2 hb.2 fun z => ?_]
    constructor
    · intro hz
      rcases List.mem_cons.mp ((h z).mp (List.mem_cons_of_mem _ hz)) with e | e
      · subst e
        exact absurd (ha.1 z hz) (List.lt_irrefl _)
      · exact e
    · intro hz
      rcases List.mem_cons.mp ((h z).mpr (List.mem_cons_of_mem _ hz)) with e | e
      · subst e
        exact absurd (hb.1 z hz) (List.lt_irrefl _)
      · exact e
theorem TIp.uniq {ts ts' : List TI} {ms : List (Str × Nat)} (h : TIp ts ms) (g : TIp ts' ms) : ts.map (·.2) = ts'.map (·.2) := by
  refine tx_uniq ?_ ?_ fun x => ?_
  · rw [List.pairwise_map]; exact h.2
  · rw [List.pairwise_map]; exact g.2
  · rw [h.1.mem_iff, g.1.mem_iff]
/-- two lists of tuples of like plain things -/
theorem sd_rows {α : Type} {H : Hp} {p q : Addr} {f : α → List V} {as bs : List (Addr × α)} (h1 : H p = some (.lst (as.map fun q => V.ref q.1))) (h2 : H q = some (.lst (bs.map fun q => V.ref q.1))) (ha : ∀ q ∈ as, H q.1 = some (.tup (f q.2))) (hb : ∀ q ∈ bs, H q.1 = some (.tup (f q.2))) (e : as.map (·.2) = bs.map (·.2)) (hf : ∀ a, (f a).length ≤ 10 ∧ ∀ x ∈ f a, Sc x) (hl : as.length ≤ 100000) : SD 3 H (.ref p) (.ref q) := by
  have hlen : as.length = bs.length := by simpa using congrArg List.length e
  refine .inr (.inl ⟨p, q, _, _, rfl, rfl, .inr ⟨h1, h2⟩, by rw [List.length_map, List.length_map, hlen], by rw [List.length_map]; exact hl, fun i a b ga gb => ?_⟩)
  obtain ⟨x, hx, rfl⟩ := map_at ga
  obtain ⟨y, hy, rfl⟩ := map_at gb
  have exy : x.2 = y.2 := by
    have h3 : (as.map (·.2))[i]? = some x.2 := by rw [List.getElem?_map, hx]; rfl
    rw [e, List.getElem?_map, hy] at h3
    exact (Option.some.inj h3).symm
  refine sd_tup (ha x (List.mem_of_getElem? hx)) (by rw [exy]; exact hb y (List.mem_of_getElem? hy)) rfl (by have := (hf x.2).1; omega) fun j u v gu gv => ?_
  rw [gu] at gv
  cases gv
  exact SD.scal ((hf x.2).2 u (List.mem_of_getElem? gu))
def mvF (m : Mv) : List V := [.str m.mark, oV m.old, oV m.new, .bl m.back]
theorem mvF_sc (m : Mv) : (mvF m).length ≤ 10 ∧ ∀ x ∈ mvF m, Sc x := by
  refine ⟨by simp [mvF], fun x hx => ?_⟩
  simp only [mvF, List.mem_cons, List.not_mem_nil, or_false] at hx
  rcases hx with rfl | rfl | rfl | rfl
  · trivial
  · exact sc_oV _
  · exact sc_oV _
  · trivial
def tiF (q : Str × Int) : List V := [.str q.1, .int q.2]
theorem tiF_sc (q : Str × Int) : (tiF q).length ≤ 10 ∧ ∀ x ∈ tiF q, Sc x := by
  refine ⟨by simp [tiF], fun x hx => ?_⟩
  simp only [tiF, List.mem_cons, List.not_mem_nil, or_false] at hx
  rcases hx with rfl | rfl <;> trivial
def spLState (P : Program) (w : World) (C CU : Addr) : Sp := fun vs H Q _ => ∃ (n : Nat) (A : Nat → Addr) (S : St3), vs = [.ref (A 0), .ref (A 6), .ref (A 7), .ref (A 8)] ∧ W3 P w C CU H A S ∧ Deck H (A 0) (A 1) n ∧ n + 14 ≤ MOSTD ∧ ∀ H', W3 P w C CU H' A S → Deck H' (A 0) (A 1) (n + 14) → Q (.bl true) H'
section
variable {P : Program} {w : World} {K : PySem.W.Frag} {mg : Str → Option Value} {base : Heap} {C CH CS CU : Addr}
theorem ok_lstate {f fM fD fL fK fS fI fR fX fA fP fB : Addr} {fd fdM fdD fdL fdK fdS fdI fdR fdX fdA fdP fdB : FuncData} (T : Txt K mg) (F : Fun K "_law_state_right" "_law_state_right" s_law_state_right f fd) (D_law_mixed : Df K mg "_law_mixed" s_law_mixed ["_law_cell", "_law_turn"] fM fdM) (D_law_draw : Df K mg "_law_draw" s_law_draw ["_law_deck_here", "_law_many"] fD fdD) (D_law_label : Df K mg "_law_label" s_law_label ["_law_deck_here"] fL fdL) (D_law_mark : Df K mg "_law_mark" s_law_mark ["_law_deck_here"] fK fdK) (D_law_same : Df K mg "_law_same" s_law_same ["_law_found", "_law_due"] fS fdS) (D_law_int : Df K mg "_law_int" s_law_int ["_law_thing"] fI fdI)
    (K_House : Kl K mg "House" CU ["book", "here", "turns", "stands", "lately", "others", "pinned"]) (D_House_trail : DfM K CU "trail" "House.trail" s_House_trail ["self"] fR fdR) (D_House_marks : DfM K CU "marks" "House.marks" s_House_marks ["self"] fX fdX) (D_law_at : Df K mg "_law_at" s_law_at ["_law_house_here", "_law_mark_here"] fA fdA) (G_law_at : FnOk P w K mg base CX0 4 fA fdA ["_law_house_here", "_law_mark_here"] (spLAt P w C CU)) (D_law_pairs : Df K mg "_law_pairs" s_law_pairs ["_law_stands"] fP fdP) (D_law_is_label : Df K mg "_law_is_label" s_law_is_label ["_law_thing"] fB fdB) : FnOk P w K mg base CX0 6 f fd ["_law_deck_here", "_law_house_here", "_law_stands", "_law_made"] (spLState P w C CU) := by
  have G_law_draw : FnOk P w K mg base CX0 2 fD fdD ["_law_deck_here", "_law_many"] spDraw := ok_draw T D_law_draw.fn D_law_mixed
  have G_law_mark : FnOk P w K mg base CX0 4 fK fdK ["_law_deck_here"] spLMark := ok_lmark T D_law_mark.fn D_law_mixed D_law_draw D_law_label
  have G_law_same : FnOk P w K mg base CX0 5 fS fdS ["_law_found", "_law_due"] (spSame 3) := ok_same T D_law_same D_law_int 3
  have G_House_trail : FnOk P w K mg base CX0 1 fR fdR ["self"] (spTrail P w C CU) := ok_trail T D_House_trail.fn K_House
  have G_House_marks : FnOk P w K mg base CX0 1 fX fdX ["self"] (spMarks CU) := ok_marks T D_House_marks.fn K_House
  have G_law_pairs : FnOk P w K mg base CX0 1 fP fdP ["_law_stands"] spLPairs := ok_lpairs T D_law_pairs.fn
  have G_law_is_label : FnOk P w K mg base CX0 1 fB fdB ["_law_thing"] spLIsLab := ok_lislab T D_law_is_label.fn
  have cl := K_House.cl
  refine F.ok sc_law_state_right (fun vs H Q E h => ?_) (fun cdv A outer s H vs Q E hr h => ?_)
  · obtain ⟨n, A, S, rfl, _⟩ := h
    rfl
  · obtain ⟨n, A, S, rfl, W, D0, hn, q⟩ := h
    have hu := hu_of hr
    refine ⟨_,
      (pss_cons
        (ps_set (i := 4) sc_law_state_right.nd rfl (.inl rfl) (pe_call G_law_draw (hr.mono (by omega)) (by rfl) D_law_draw.g D_law_draw.fn.kp D_law_draw.b .nil pass0 (pa_cons (pv 0) (pa_cons pe_int pa_nil))))
      (pss_cons
        (ps_if (PW.pt (pw_and (pt_cmpR op_eq (pv 4) pe_int (nomark _)) (pw_and1 (pt_not (pt_val (pe_call G_law_same (hr.mono (by omega)) (by rfl) D_law_same.g D_law_same.fn.kp D_law_same.b .nil pass0 (pa_cons (pe_meth0 (pv 1) K_House.cl D_House_trail.m G_House_trail (hr.mono (by omega)) D_House_trail.b .nil pass0) (pa_cons (pe_slice sl_list (pv 3) (po_some (pe_un un_neg pe_int)) po_none) pa_nil))))))))
          (pss_one
            (ps_ret pe_bl))
          pss_nil)
      (pss_cons
        (ps_if (pt_not (pt_val (pe_call G_law_same (hr.mono (by omega)) (by rfl) D_law_same.g D_law_same.fn.kp D_law_same.b .nil pass0 (pa_cons (pe_meth0 (pv 1) K_House.cl D_House_marks.m G_House_marks (hr.mono (by omega)) D_House_marks.b .nil pass0) (pa_cons (pe_call G_law_pairs (hr.mono (by omega)) (by rfl) D_law_pairs.g D_law_pairs.fn.kp D_law_pairs.b .nil pass0 (pa_cons (pv 2) pa_nil)) pa_nil)))))
          (pss_one
            (ps_ret pe_bl))
          pss_nil)
      (pss_cons
        (ps_for PassesOwn.never rfl (pi_list (pe_lst (pa_cons pe_str (pa_cons (pe_call G_law_mark (hr.mono (by omega)) (by rfl) D_law_mark.g D_law_mark.fn.kp D_law_mark.b .nil pass0 (pa_cons (pv 0) pa_nil)) pa_nil)))) (pg_name (i := 5) sc_law_state_right.nd rfl (.inl rfl))
          (pss_cons
            (ps_set (i := 6) sc_law_state_right.nd rfl (.inl rfl) (pe_tup (pa_cons pe_str (pa_cons (pv 5) pa_nil))))
          (pss_cons
            (ps_if (PW.pt (pw_and (pt_val (pe_call G_law_is_label (hr.mono (by omega)) (by rfl) D_law_is_label.g D_law_is_label.fn.kp D_law_is_label.b .nil pass0 (pa_cons (pv 5) pa_nil))) (pw_and1 (pt_cmp (pc_din hu (pv 5) (pv 2))))))
              (pss_one
                (ps_set (i := 6) sc_law_state_right.nd rfl (.inl rfl) (pe_tup (pa_cons pe_str (pa_cons (pe_dget hu (pv 2) (pv 5) (fun _ _ => rfl)) pa_nil)))))
              pss_nil)
          (pss_one
            (ps_if (pt_not (pt_val (pe_call G_law_same (hr.mono (by omega)) (by rfl) D_law_same.g D_law_same.fn.kp D_law_same.b .nil pass0 (pa_cons (pe_call G_law_at (hr.mono (by omega)) (by rfl) D_law_at.g D_law_at.fn.kp D_law_at.b .nil pass0 (pa_cons (pv 1) (pa_cons (pv 5) pa_nil))) (pa_cons (pv 6) pa_nil)))))
              (pss_one
                (ps_ret pe_bl))
              pss_nil)))))
      (pss_cons
        (ps_set (i := 7) sc_law_state_right.nd rfl (.inl rfl) (pe_meth0 (pv 1) K_House.cl D_House_trail.m G_House_trail (hr.mono (by omega)) D_House_trail.b .nil pass0))
      (pss_cons
        (ps_set (i := 8) sc_law_state_right.nd rfl (.inl rfl) (pe_meth0 (pv 1) K_House.cl D_House_marks.m G_House_marks (hr.mono (by omega)) D_House_marks.b .nil pass0))
      (pss_cons
        (ps_expr (pe_bm0 PySem.F.plainAttrs_list PySem.F.slot_list_clear PySem.F.type_list_clear mt_clear (pv 7)))
      (pss_cons
        (ps_expr (pe_bm PySem.F.plainAttrs_list PySem.F.slot_list_append PySem.F.type_list_append mt_append (pv 8) (pa_cons pe_non pa_nil)))
      (pss_one
        (ps_ret (pe_and (pe_call G_law_same (hr.mono (by omega)) (by rfl) D_law_same.g D_law_same.fn.kp D_law_same.b .nil pass0 (pa_cons (pe_meth0 (pv 1) K_House.cl D_House_trail.m G_House_trail (hr.mono (by omega)) D_House_trail.b .nil pass0) (pa_cons (pe_slice sl_list (pv 3) (po_some (pe_un un_neg pe_int)) po_none) pa_nil))) (pe_one (pe_call G_law_same (hr.mono (by omega)) (by rfl) D_law_same.g D_law_same.fn.kp D_law_same.b .nil pass0 (pa_cons (pe_meth0 (pv 1) K_House.cl D_House_marks.m G_House_marks (hr.mono (by omega)) D_House_marks.b .nil pass0) (pa_cons (pe_call G_law_pairs (hr.mono (by omega)) (by rfl) D_law_pairs.g D_law_pairs.fn.kp D_law_pairs.b .nil pass0 (pa_cons (pv 2) pa_nil)) pa_nil)))))))))))))))
      , ?_⟩
    rw [show L2.start N_law_state_right [V.ref (A 0), V.ref (A 6), V.ref (A 7), V.ref (A 8)] = [some (.ref (A 0)), some (.ref (A 6)), some (.ref (A 7)), some (.ref (A 8)), none, none, none, none, none] from rfl]
    walk_at "x"
    refine w_draw D0 (by unfold MOSTD at *; omega) (by decide) (by decide) fun first H1 hfirst D1 o1 => ?_
    have W1 := W.kx (D0.kx D1 o1) ⟨_, D1⟩
    walk_at "g"
    -- the trail told, in any turn
    have trail : ∀ {H : Hp} {l l' : Addr}, W3 P w C CU H A S → H l = some (.lst (S.ls.map fun q => V.ref q.1)) → H l' = some (.lst ((last50 S.mm).map fun q => V.ref q.1)) → SD 3 H (.ref l) (.ref l') := fun {H l l'} W e1 e2 =>
      sd_rows (f := mvF) e1 e2 (fun q hq => W.ho.lt q hq) (fun q hq => W.mt q (last50_mem hq)) (by rw [last50_map]; exact W.tr) mvF_sc (by have := W.few; omega)
    have marks : ∀ {H : Hp} {l l' : Addr} {ts ts' : List TI}, H l = some (.lst (ts.map fun q => V.ref q.1)) → H l' = some (.lst (ts'.map fun q => V.ref q.1)) → (∀ t ∈ ts, H t.1 = some (.tup [.str t.2.1, .int t.2.2])) → (∀ t ∈ ts', H t.1 = some (.tup [.str t.2.1, .int t.2.2])) → TIp ts S.ms → TIp ts' S.ms → SD 3 H (.ref l) (.ref l') := fun {H l l' ts ts'} e1 e2 h1 h2 p1 p2 =>
      sd_rows (f := tiF) e1 e2 h1 h2 (p1.uniq p2) tiF_sc (by
        have := p1.1.length_eq
        rw [List.length_map, List.length_map] at this
        have := W.ml
        omega)
    refine w_seqJ (fun σ' H' => σ' = [some (.ref (A 0)), some (.ref (A 6)), some (.ref (A 7)), some (.ref (A 8)), some (.int (first : Int)), none, none, none, none] ∧ Same H1 H') ?_ fun U hU => ?_
    rotate_left
    · walk_at "g"
      by_cases h0 : (first : Int) = 0
      · rw [decide_eq_true h0, if_pos rfl]
        have ob1 := W1.ho.st.ob
        walk_at "g"
        refine ⟨A 6, S.dy, A 9, S.dx, A 10, A 11, A 12, A 13, A 14, A 15, S.a3, S.a4, S.cs, S.ds, S.k, S.hs, S.ms, S.ls, rfl, W1.ho, fun l H2 hl el k2 => ?_⟩
        have W2 := W1.same k2
        walk_at "g"
        refine w_slL (.of W2.em) fun l2 H3 hl2 el2 k3 => ?_
        rw [cut50] at el2
        walk_at "g"
        refine ⟨_, _, rfl, trail (W2.same k3) (k3 _ _ el) el2, fun H4 k4 => ?_⟩
        walk_at "g"
        exact hU _ _ ⟨rfl, Same.trans k2 (Same.trans k3 k4)⟩
      · rw [decide_eq_false h0, if_neg (by decide), if_neg (by decide)]
        walk_at "g"
        exact hU _ _ ⟨rfl, fun _ _ z => z⟩
    rintro σ' H2 ⟨rfl, k2⟩
    have W2 := W1.same k2
    have ob2 := W2.ho.st.ob
    have D2 := D1.kp (M := []) (Kp.of k2) (by simp) (by simp)
    walk_at "g"
    refine w_seq ?_
    walk_at "g"
    refine ⟨A 6, S.dy, A 9, A 13, A 14, A 15, S.a3, S.a4, S.k, _, S.ms.map fun q => (q.1, (q.2 : Int)), rfl, W2.ho.st, by rw [kvTI_mk]; exact W2.ho.e1, by rw [List.map_map]; exact W2.ho.nd, fun H3 l ts k3 hl el hts hp hs => ?_⟩
    have W3' := W2.same k3
    walk_at "g"
    refine ⟨A 7, S.ms, rfl, W3'.ee, W3'.ho.nd, W3'.ml, fun ts' l' H4 k4 hl' el' hts' tp' => ?_⟩
    walk_at "g"
    refine ⟨_, _, rfl, marks (k4 _ _ el) el' (fun t ht => k4 _ _ (hts t ht)) hts' ⟨hp, hs⟩ tp', fun H5 k5 => ?_⟩
    have k25 := Same.trans k3 (Same.trans k4 k5)
    have W5 := W2.same k25
    have D5 := D2.kp (M := []) (Kp.of k25) (by simp) (by simp)
    walk_at "g"
    refine ⟨A 0, A 1, _, rfl, D5, by omega, fun x H6 D6 k6 mx => ?_⟩
    have W6 := W5.kx k6 ⟨_, D6⟩
    walk_at "g"
    refine w_new fun lm H7 hlm elm k7 => ?_
    have W7 := W6.same k7
    have D7 := D6.kp (M := []) (Kp.of k7) (by simp) (by simp)
    have all : ∀ y ∈ [V.str (Str.ofString "a"), x], MkS H7 y := by
      intro y hy
      simp only [List.mem_cons, List.not_mem_nil, or_false] at hy
      rcases hy with rfl | rfl
      · exact MkS.txt (by decide +kernel)
      · exact (mx _ KX.refl).kd k7
    walk_at "g"
    refine lp_list (xs := [V.str (Str.ofString "a"), x]) (fun i σ H' => ∃ y5 y6 : Option V, σ = [some (.ref (A 0)), some (.ref (A 6)), some (.ref (A 7)), some (.ref (A 8)), some (.int (first : Int)), y5, y6, none, none] ∧ Same H7 H') ⟨_, _, rfl, fun _ _ z => z⟩ (fun i σ H' _ ⟨_, _, _, k⟩ => .of (k _ _ elm)) ?_ ?_
    · rintro i y σ H8 hy ⟨y5, y6, rfl, k8⟩
      have my := (all y (List.mem_of_getElem? hy)).kd k8
      have W8 := W7.same k8
      walk_at "g"
      refine w_new fun t1 H9 ht1 et1 k9 => ?_
      have W9 := W8.same k9
      have my9 := my.kd k9
      have k79 := Same.trans k8 k9
      walk_at "g"
      refine w_seqJ (fun σ' H' => ∃ t : Addr, σ' = [some (.ref (A 0)), some (.ref (A 6)), some (.ref (A 7)), some (.ref (A 8)), some (.int (first : Int)), some y, some (.ref t), none, none] ∧ Same H9 H' ∧ ((∃ n, IsLab y ∧ lookM S.ms y = some n ∧ H' t = some (.tup [.str "told", nV n])) ∨ ((¬ IsLab y ∨ lookM S.ms y = none) ∧ H' t = some (.tup [.str "NoMark", y])))) ?_ fun U hU => ?_
      rotate_left
      · walk_at "g"
        refine ⟨y, 1000, rfl, my9.1, by omega, fun il => ?_, fun nl => ?_⟩
        · obtain ⟨z, rfl, hz⟩ := il
          have il : IsLab (.str z) := ⟨z, rfl, hz⟩
          walk_at "g"
          refine w_dinZ W9.ee ?_
          rw [mkK_val]
          cases hl : S.ms.lookup z with
          | none =>
            rw [show (Option.map nV (none : Option Nat)).isSome = false from rfl]
            walk_at "g"
            exact hU _ _ ⟨t1, rfl, fun _ _ z => z, .inr ⟨.inr hl, et1⟩⟩
          | some m =>
            rw [show (Option.map nV (some m)).isSome = true from rfl]
            walk_at "g"
            refine w_dgetZ W9.ee (v := nV m) (by rw [mkK_val, hl]; rfl) ?_
            walk_at "g"
            refine w_new fun t2 H10 ht2 et2 k10 => ?_
            walk_at "g"
            exact hU _ _ ⟨t2, rfl, k10, .inl ⟨m, il, hl, et2⟩⟩
        · walk_at "g"
          exact hU _ _ ⟨t1, rfl, fun _ _ z => z, .inr ⟨.inl nl, et1⟩⟩
      rintro σ' H10 ⟨t, rfl, k10, ht⟩
      have W10 := W9.same k10
      have my10 := my9.kd k10
      walk_at "g"
      refine ⟨A 6, S.dy, A 9, S.dx, A 10, A 11, A 12, A 13, A 14, A 15, S.a3, S.a4, S.cs, S.ds, S.k, S.hs, S.ms, S.ls, y, 1000, rfl, W10.ho, my10.1, by omega, fun m il hl H11 t2 k11 et2 => ?_, fun hno H11 t2 k11 et2 => ?_⟩
      · walk_at "g"
        rcases ht with ⟨m', _, hl', et⟩ | ⟨hno, et⟩
        · rw [hl] at hl'
          cases hl'
          refine ⟨_, _, rfl, sd_two et2 (k11 _ _ et) (SD.scal trivial), fun H12 k12 => ?_⟩
          walk_at "g"
          exact ⟨_, _, rfl, Same.trans k79 (Same.trans k10 (Same.trans k11 k12))⟩
        · rcases hno with h | h
          · exact absurd il h
          · rw [hl] at h; cases h
      · walk_at "g"
        rcases ht with ⟨m', il', hl', et⟩ | ⟨_, et⟩
        · rcases hno with h | h
          · exact absurd il' h
          · rw [hl'] at h; cases h
        · refine ⟨_, _, rfl, sd_two et2 (k11 _ _ et) ((my10.kd k11).2), fun H12 k12 => ?_⟩
          walk_at "g"
          exact ⟨_, _, rfl, Same.trans k79 (Same.trans k10 (Same.trans k11 k12))⟩
    · rintro σ H8 ⟨y5, y6, rfl, k8⟩
      have W8 := W7.same k8
      have D8 := D7.kp (M := []) (Kp.of k8) (by simp) (by simp)
      have ob8 := W8.ho.st.ob
      walk_at "g"
      refine ⟨A 6, S.dy, A 9, S.dx, A 10, A 11, A 12, A 13, A 14, A 15, S.a3, S.a4, S.cs, S.ds, S.k, S.hs, S.ms, S.ls, rfl, W8.ho, fun l H9 hl el k9 => ?_⟩
      have W9 := W8.same k9
      have ob9 := W9.ho.st.ob
      walk_at "g"
      refine ⟨A 6, S.dy, A 9, A 13, A 14, A 15, S.a3, S.a4, S.k, _, S.ms.map fun q => (q.1, (q.2 : Int)), rfl, W9.ho.st, by rw [kvTI_mk]; exact W9.ho.e1, by rw [List.map_map]; exact W9.ho.nd, fun H10 l2 ts2 k10 hl2 el2 hts2 hp2 hs2 => ?_⟩
      have W10 := W9.same k10
      have el10 := k10 _ _ el
      walk_at "g"
      refine w_clear el10 fun H11 e11 o11 => ?_
      have nl2l : l2 ≠ l := fun e => by rw [e, el] at hl2; cases hl2
      have el211 := o11.get nl2l el2
      walk_at "g"
      refine w_app el211 (by
        have := hp2.length_eq
        rw [List.length_map, List.length_map] at this
        rw [List.length_map]
        have := W10.ml
        exact Nat.lt_of_le_of_lt (show ts2.length ≤ 5000 by omega) (by decide)) fun H12 e12 o12 => ?_
      have nA : ∀ i, i < 16 → A i ∉ [l, l2] := fun i hi h => by
        simp only [List.mem_cons, List.not_mem_nil, or_false] at h
        rcases h with h | h
        · exact W8.there i hi (by rw [h]; exact hl)
        · exact W9.there i hi (by rw [h]; exact hl2)
      have kp : Kp [l, l2] H10 H12 := fun b u hb e => by
        simp only [List.mem_cons, List.not_mem_nil, or_false, not_or] at hb
        exact o12.get hb.2 (o11.get hb.1 e)
      have kt : KT H10 H12 := (KT.offL o11 el10).trans (KT.offL o12 el211)
      have W12 := W10.kpM kp kt nA (fun b u e h => by
        simp only [List.mem_cons, List.not_mem_nil, or_false] at h
        rcases h with rfl | rfl
        · rw [W8.fb _ _ e] at hl; cases hl
        · rw [W9.fb _ _ e] at hl2; cases hl2)
      have D12 := (D8.kp (M := []) (Kp.of (Same.trans k9 k10)) (by simp) (by simp)).kp (M := [l, l2]) kp (nA 0 (by omega)) (nA 1 (by omega))
      have ob12 := W12.ho.st.ob
      walk_at "g"
      refine ⟨A 6, S.dy, A 9, S.dx, A 10, A 11, A 12, A 13, A 14, A 15, S.a3, S.a4, S.cs, S.ds, S.k, S.hs, S.ms, S.ls, rfl, W12.ho, fun l3 H13 hl3 el3 k13 => ?_⟩
      have W13 := W12.same k13
      walk_at "g"
      refine w_slL (.of W13.em) fun l4 H14 hl4 el4 k14 => ?_
      rw [cut50] at el4
      walk_at "g"
      refine ⟨_, _, rfl, trail (W13.same k14) (k14 _ _ el3) el4, fun H15 k15 => ?_⟩
      have W15 := W13.same (Same.trans k14 k15)
      have ob15 := W15.ho.st.ob
      walk_at "g"
      refine ⟨A 6, S.dy, A 9, A 13, A 14, A 15, S.a3, S.a4, S.k, _, S.ms.map fun q => (q.1, (q.2 : Int)), rfl, W15.ho.st, by rw [kvTI_mk]; exact W15.ho.e1, by rw [List.map_map]; exact W15.ho.nd, fun H16 l5 ts5 k16 hl5 el5 hts5 hp5 hs5 => ?_⟩
      have W16 := W15.same k16
      walk_at "g"
      refine ⟨A 7, S.ms, rfl, W16.ee, W16.ho.nd, W16.ml, fun ts6 l6 H17 k17 hl6 el6 hts6 tp6 => ?_⟩
      walk_at "g"
      refine ⟨_, _, rfl, marks (k17 _ _ el5) el6 (fun t ht => k17 _ _ (hts5 t ht)) hts6 ⟨hp5, hs5⟩ tp6, fun H18 k18 => ?_⟩
      have kk := Same.trans k13 (Same.trans k14 (Same.trans k15 (Same.trans k16 (Same.trans k17 k18))))
      exact q _ (W12.same kk) ((D12.kp (M := []) (Kp.of kk) (by simp) (by simp)).mono (by omega))
end
local macro_rules | `(tactic| walk_at "s") => `(tactic| first
  | with_reducible refine w_dpop1 ?_
  | with_reducible refine w_methNS ?_
  | with_reducible refine w_methN ?_
  )
def Nx3 (A : Nat → Addr) (S : St3) (A' : Nat → Addr) (S' : St3) : Prop := (∀ j, j ≠ 15 → A' j = A j) ∧ ∃ ms ls mm, S' = { S with ms := ms, ls := ls, mm := mm }
theorem Nx3.refl {A : Nat → Addr} {S : St3} : Nx3 A S A S := ⟨fun _ _ => rfl, S.ms, S.ls, S.mm, rfl⟩
theorem Nx3.trans {A A' A'' : Nat → Addr} {S S' S'' : St3} (h : Nx3 A S A' S') (g : Nx3 A' S' A'' S'') : Nx3 A S A'' S'' := by
  obtain ⟨h1, ms, ls, mm, rfl⟩ := h
  obtain ⟨g1, ms', ls', mm', rfl⟩ := g
  exact ⟨fun j hj => (g1 j hj).trans (h1 j hj), ms', ls', mm', rfl⟩
theorem Nx3.set {A : Nat → Addr} {S : St3} {x : Addr} {ms : List (Str × Nat)} {ls mm : List (Addr × Mv)} : Nx3 A S (setA A 15 x) { S with ms := ms, ls := ls, mm := mm } := ⟨fun _ hj => setA_ne hj, ms, ls, mm, rfl⟩
def VsOk (S : St3) : Prop := 1 ≤ S.vs.length ∧ S.vs.length ≤ 1000 ∧ S.cs.length ≤ 999 ∧ ∀ v ∈ S.vs, isV S.cs v ∧ v ∈ S.hs
theorem VsOk.nx {A A' : Nat → Addr} {S S' : St3} (h : VsOk S) (n : Nx3 A S A' S') : VsOk S' := by
  obtain ⟨_, ms, ls, mm, rfl⟩ := n
  exact h
def marks52 : List Str := (Str.ofString "abcdefghijklmnopqrstuvwxyz").cps.toList.flatMap fun c => [(⟨#[c]⟩ : Str) ++ Str.ofString "x", (⟨#[c]⟩ : Str) ++ Str.ofString "yz"]
theorem marks52_nd : marks52.Nodup := by decide +kernel
theorem marks52_at : ∀ i < 26, ∀ c, (Str.ofString "abcdefghijklmnopqrstuvwxyz").cps.toList[i]? = some c → marks52[2 * i]? = some ((⟨#[c]⟩ : Str) ++ Str.ofString "x") ∧ marks52[2 * i + 1]? = some ((⟨#[c]⟩ : Str) ++ Str.ofString "yz") := by
  have h : ∀ i < 26, marks52[2 * i]? = ((Str.ofString "abcdefghijklmnopqrstuvwxyz").cps.toList[i]?.map fun c => (⟨#[c]⟩ : Str) ++ Str.ofString "x") ∧ marks52[2 * i + 1]? = ((Str.ofString "abcdefghijklmnopqrstuvwxyz").cps.toList[i]?.map fun c => (⟨#[c]⟩ : Str) ++ Str.ofString "yz") := by decide +kernel
  intro i hi c hc
  have := h i hi
  rw [hc] at this
  exact this
theorem marks52_lab : ∀ z ∈ marks52, LabOk z := by
  unfold LabOk
  decide +kernel
theorem marks52_len : marks52.length = 52 := by decide +kernel
theorem LTR_size : (Str.ofString "abcdefghijklmnopqrstuvwxyz").cps.size = 26 := by decide +kernel
theorem putMs_new {ms : List (Str × Nat)} {z : Str} {n : Nat} (h : z ∉ ms.map (·.1)) : (putMs ms z n).map (·.1) = ms.map (·.1) ++ [z] := by
  rw [putMs_keys, if_neg]
  intro e
  obtain ⟨p, hp, e2⟩ := List.any_eq_true.mp e
  exact h (List.mem_map.mpr ⟨p, hp, of_decide_eq_true e2⟩)
theorem lookup_no {ms : List (Str × Nat)} {z : Str} (h : z ∉ ms.map (·.1)) : ms.lookup z = none := by
  rw [List.lookup_eq_none_iff]
  intro p hp
  have : z ≠ p.1 := fun e => h (List.mem_map.mpr ⟨p, hp, e.symm⟩)
  simpa using this
theorem W3.step {P : Program} {w : World} {C CU : Addr} {H H1 H2 : Hp} {A : Nat → Addr} {S : St3} (W : W3 P w C CU H A S) {x r l : Addr} {v : Mv} (hx : H x = none) (hm : S.ms.length ≤ 4999) (hn : S.mm.length ≤ 9999) (k1 : Kp [A 6, A 14] H H1) (t1 : KT H H1)
    (ho : HoAt P w C CU H1 (A 6) S.dy (A 9) S.dx (A 10) (A 11) (A 12) (A 13) (A 14) x S.a3 S.a4 S.cs S.ds S.k S.hs (putM S.ms v.mark v.new) (last50 (S.ls ++ [(r, v)]))) (k2 : Kp [A 7, A 8] H1 H2) (t2 : KT H1 H2)
    (ee : H2 (A 7) = some (.dK (mkK (putM S.ms v.mark v.new)))) (em : H2 (A 8) = some (.lst ((S.mm ++ [(l, v)]).map fun q => V.ref q.1))) (ml : MvAt H2 l v) : W3 P w C CU H2 (setA A 15 x) { S with ms := putM S.ms v.mark v.new, ls := last50 (S.ls ++ [(r, v)]), mm := S.mm ++ [(l, v)] } := by
  have o : ∀ i, i < 16 → i ≠ 7 → i ≠ 8 → A i ∉ [A 7, A 8] := fun i hi h7 h8 h => by
    simp only [List.mem_cons, List.not_mem_nil, or_false] at h
    rcases h with h | h
    · exact h7 (W.inj _ _ hi (by omega) h)
    · exact h8 (W.inj _ _ hi (by omega) h)
  have ox : x ∉ [A 7, A 8] := fun h => by
    simp only [List.mem_cons, List.not_mem_nil, or_false] at h
    rcases h with h | h
    · exact W.fresh hx 7 (by omega) h.symm
    · exact W.fresh hx 8 (by omega) h.symm
  refine W.moved hx hm hn (fun b u hb e => ?_) (t1.trans t2) (ho.kp k2 t2 (o 6 (by omega) (by omega) (by omega)) (o 13 (by omega) (by omega) (by omega)) (o 9 (by omega) (by omega) (by omega)) (o 10 (by omega) (by omega) (by omega)) (o 11 (by omega) (by omega) (by omega)) (o 12 (by omega) (by omega) (by omega)) (o 14 (by omega) (by omega) (by omega)) ox) ee em ml
  simp only [List.map_cons, List.map_nil, List.mem_cons, List.not_mem_nil, or_false, not_or] at hb
  exact k2 _ _ (by simp only [List.mem_cons, List.not_mem_nil, or_false, not_or]; exact ⟨hb.2.2.1, hb.2.2.2⟩) (k1 _ _ (by simp only [List.mem_cons, List.not_mem_nil, or_false, not_or]; exact ⟨hb.1, hb.2.1⟩) e)
def spLSetAll (P : Program) (w : World) (C CU : Addr) : Sp := fun vs H Q _ => ∃ (n : Nat) (A : Nat → Addr) (S : St3), vs = [.ref (A 0), .ref (A 6), .ref (A 5), .ref (A 7), .ref (A 8)] ∧ W3 P w C CU H A S ∧ VsOk S ∧ Deck H (A 0) (A 1) n ∧ n + 52 ≤ MOSTD ∧ S.ms = [] ∧ S.mm = [] ∧
  ∀ H' A' S', W3 P w C CU H' A' S' → Nx3 A S A' S' → S'.ms.length ≤ 52 → S'.mm.length ≤ 52 → Deck H' (A 0) (A 1) (n + 52) → Q (.bl true) H'
section
variable {P : Program} {w : World} {K : PySem.W.Frag} {mg : Str → Option Value} {base : Heap} {C CH CS CU : Addr}
theorem ok_lsetall {f fM fD fV C_NoMark C_NoName C_Lack C_Stale C_NotAhead : Addr} {fd fdM fdD fdV : FuncData} {kg1 : List Value → List Value → List Value} (T : Txt K mg) (F : Fun K "_law_set_all" "_law_set_all" s_law_set_all f fd) (D_law_mixed : Df K mg "_law_mixed" s_law_mixed ["_law_cell", "_law_turn"] fM fdM) (D_law_draw : Df K mg "_law_draw" s_law_draw ["_law_deck_here", "_law_many"] fD fdD)
    (K_House : Kl K mg "House" CU ["book", "here", "turns", "stands", "lately", "others", "pinned"]) (D_House_move : DfMKr K CU "move" "House.move" s_House_move ["self", "mark", "old", "new", "back"] [("back", V.bl false)] fV fdV) (G_House_move : FnOk P w K mg base (L2.CX P w) 9 fV fdV ["self", "mark", "old", "new", "back"] (spMove P w C CU C_NoMark C_NoName C_Lack C_Stale C_NotAhead))
    (KB_House_move_old_new : KBn K fdV ["self", "mark", "old", "new", "back"] 2 ["old", "new"] kg1 (fun vs zs => vs ++ (zs ++ [V.bl false]))) : FnOk P w K mg base CX0 10 f fd ["_law_deck_here", "_law_house_here", "_law_versions_here", "_law_stands", "_law_made"] (spLSetAll P w C CU) := by
  have G_law_draw : FnOk P w K mg base CX0 2 fD fdD ["_law_deck_here", "_law_many"] spDraw := ok_draw T D_law_draw.fn D_law_mixed
  have cl := K_House.cl
  refine F.ok sc_law_set_all (fun vs H Q E h => ?_) (fun cdv A outer s H vs Q E hr h => ?_)
  · obtain ⟨n, A, S, rfl, _⟩ := h
    rfl
  · obtain ⟨n, A, S, rfl, W, vok, D0, hn, ems, emm, q⟩ := h
    have hu := hu_of hr
    refine ⟨_,
      (pss_cons
        (ps_for PassesOwn.never rfl (pi_str pe_str) (pg_name (i := 5) sc_law_set_all.nd rfl (.inl rfl))
          (pss_one
            (ps_for PassesOwn.never rfl (pi_list (pe_lst (pa_cons (pe_op o_addS (pv 5) pe_str) (pa_cons (pe_op o_addS (pv 5) pe_str) pa_nil)))) (pg_name (i := 6) sc_law_set_all.nd rfl (.inl rfl))
              (pss_cons
                (ps_set (i := 7) sc_law_set_all.nd rfl (.inl rfl) (pe_ix (r := rIxL K) ix_list (pv 2) (pe_call G_law_draw (hr.mono (by omega)) (by rfl) D_law_draw.g D_law_draw.fn.kp D_law_draw.b .nil pass0 (pa_cons (pv 0) (pa_cons (pe_callB (r := rLen K) c_len (by rfl) T.n_len (by decide +kernel) (pa_cons (pv 2) pa_nil)) pa_nil))) (fun _ _ => rfl)))
              (pss_cons
                (ps_if (pt_cmpR o_notN (pe_methN (pv 1) K_House.cl D_House_move.m G_House_move (hr.mono (by omega)) KB_House_move_old_new passL (pa_cons (pv 6) pa_nil) (pk_cons pe_non (pk_cons (pv 7) pk_nil))) pe_non (nomark _))
                  (pss_one
                    (ps_ret pe_bl))
                  pss_nil)
              (pss_cons
                (ps_expr (pe_bm PySem.F.plainAttrs_list PySem.F.slot_list_append PySem.F.type_list_append mt_append (pv 4) (pa_cons (pe_tup (pa_cons (pv 6) (pa_cons pe_non (pa_cons (pv 7) (pa_cons pe_bl pa_nil))))) pa_nil)))
              (pss_one
                (ps_dput hu (pv 3) (pv 6) (pv 7) rfl))))))))
      (pss_one
        (ps_ret pe_bl)))
      , ?_⟩
    rw [show L2.start N_law_set_all [V.ref (A 0), V.ref (A 6), V.ref (A 5), V.ref (A 7), V.ref (A 8)] = [some (.ref (A 0)), some (.ref (A 6)), some (.ref (A 5)), some (.ref (A 7)), some (.ref (A 8)), none, none, none] from rfl]
    walk_at "x"
    refine lp_it (walk_str (Str.ofString "abcdefghijklmnopqrstuvwxyz")) (fun i σ H' => ∃ (y5 y6 y7 : Option V) (A' : Nat → Addr) (S' : St3), σ = [some (.ref (A 0)), some (.ref (A 6)), some (.ref (A 5)), some (.ref (A 7)), some (.ref (A 8)), y5, y6, y7] ∧ W3 P w C CU H' A' S' ∧ Nx3 A S A' S' ∧ S'.ms.map (·.1) = marks52.take (2 * i) ∧ S'.mm.length ≤ 2 * i ∧ Deck H' (A 0) (A 1) (n + 2 * i)) ⟨_, _, _, A, S, rfl, W, Nx3.refl, by rw [ems]; rfl, by rw [emm]; exact Nat.zero_le _, D0⟩ (fun _ _ _ _ _ => trivial) ?_ ?_
    · rintro i x σ H1 H2 hi ⟨y5, y6, y7, A1, S1, rfl, W1, nx1, hk1, hm1, D1⟩ ⟨rfl, c, hc, rfl⟩
      have hi26 : i < 26 := by rw [LTR_size] at hi; exact hi
      have hc' : (Str.ofString "abcdefghijklmnopqrstuvwxyz").cps.toList[i]? = some c := by rw [Array.getElem?_toList]; exact hc
      obtain ⟨m1, m2⟩ := marks52_at i hi26 c hc'
      walk_at "g"
      refine ⟨_, _, rfl, rfl, (show (1 : Nat) + 1 ≤ sizeLine by decide), ?_⟩
      walk_at "g"
      refine ⟨_, _, rfl, rfl, (show (1 : Nat) + 2 ≤ sizeLine by decide), ?_⟩
      walk_at "g"
      refine w_new fun lm H3 hlm elm k3 => ?_
      have W3' := W1.same k3
      have D3 := D1.kp (M := []) (Kp.of k3) (by simp) (by simp)
      have nm : ∀ i, i < 16 → A1 i ≠ lm := fun i hi => W1.fresh hlm i hi
      generalize hz1 : (⟨#[c]⟩ : Str) ++ Str.ofString "x" = z1 at *
      generalize hz2 : (⟨#[c]⟩ : Str) ++ Str.ofString "yz" = z2 at *
      walk_at "g"
      refine lp_list (xs := [V.str z1, V.str z2]) (fun j σ H' => ∃ (y6 y7 : Option V) (A' : Nat → Addr) (S' : St3), σ = [some (.ref (A 0)), some (.ref (A 6)), some (.ref (A 5)), some (.ref (A 7)), some (.ref (A 8)), some (.str ⟨#[c]⟩), y6, y7] ∧ W3 P w C CU H' A' S' ∧ Nx3 A S A' S' ∧ S'.ms.map (·.1) = marks52.take (2 * i + j) ∧ S'.mm.length ≤ 2 * i + j ∧ Deck H' (A 0) (A 1) (n + 2 * i + j) ∧ H' lm = some (.lst [V.str z1, V.str z2]) ∧ ∀ i, i < 16 → A' i ≠ lm) ⟨_, _, A1, S1, rfl, W3', nx1, hk1, hm1, D3, elm, nm⟩ (fun j σ H' _ ⟨_, _, _, _, _, _, _, _, _, _, e, _⟩ => .of e) ?_ ?_
      · rintro j zz σ H4 hz ⟨y6, y7, A2, S2, rfl, W2, nx2, hk2, hm2, D2, elm2, nm2⟩
        have hj : j < 2 := (List.getElem?_eq_some_iff.mp hz).1
        obtain ⟨z, rfl, hz52⟩ : ∃ z, zz = .str z ∧ marks52[2 * i + j]? = some z := by
          match j, hj, hz with
          | 0, _, hz => exact ⟨z1, (Option.some.inj hz).symm, m1⟩
          | 1, _, hz => exact ⟨z2, (Option.some.inj hz).symm, m2⟩
        have eA := nx2.1
        have vok2 := vok.nx nx2
        have el2 : H4 (A 5) = some (.lst (S2.vs.map nV)) := by rw [← eA 5 (by decide)]; exact W2.el
        walk_at "g"
        rw [List.length_map]
        refine w_draw D2 (by unfold MOSTD at *; omega) (by have := vok2.1; omega) (by have := vok2.2.1; omega) fun x H5 hx D5 o5 => ?_
        have hxl : x < S2.vs.length := by omega
        have W5 : W3 P w C CU H5 A2 S2 := W2.kx (by rw [eA 0 (by decide)]; exact D2.kx D5 o5) ⟨_, by rw [eA 0 (by decide), eA 1 (by decide)]; exact D5⟩
        have el5 : H5 (A 5) = some (.lst (S2.vs.map nV)) := by rw [← eA 5 (by decide)]; exact W5.el
        have at1 : atI (S2.vs.map nV) (x : Int) = some (nV S2.vs[x]) := atI_nat (by rw [List.getElem?_map, List.getElem?_eq_getElem hxl]; rfl)
        have hv := vok2.2.2.2 S2.vs[x] (List.getElem_mem hxl)
        generalize S2.vs[x] = v at at1 hv
        have ob5 : H5 (A 6) = some (.ins CU S2.dy (("book", .ref (A2 9)) :: ("here", .ref (A2 13)) :: ("turns", nV S2.k) :: hrs (A2 14) (A2 15) S2.a3 S2.a4)) := by rw [← eA 6 (by decide)]; exact W5.ho.st.ob
        have hzn : z ∉ S2.ms.map (·.1) := by
          rw [hk2]
          intro hm
          obtain ⟨a, ha, e⟩ := List.mem_iff_getElem.mp hm
          rw [List.length_take] at ha
          rw [List.getElem_take] at e
          obtain ⟨hlt, e2⟩ := List.getElem?_eq_some_iff.mp hz52
          have := nodup_at marks52_nd (e.trans e2.symm)
          omega
        have lz : LabOk z := marks52_lab z (List.mem_of_getElem? hz52)
        have elm5 : H5 lm = some (.lst [V.str z1, V.str z2]) := o5.get (fun e => nm2 0 (by omega) (by rw [eA 0 (by decide)]; exact e.symm)) elm2
        walk_at "g"
        refine w_seq ?_
        walk_at "g"
        refine ⟨A 6, S2.dy, _, rfl, ob5, rfl, ?_⟩
        walk_at "g"
        refine ⟨rfl, rfl, A2 6, S2.dy, A2 9, S2.dx, A2 10, A2 11, A2 12, A2 13, A2 14, A2 15, S2.a3, S2.a4, S2.cs, S2.ds, S2.k, S2.hs, S2.ms, S2.ls, .str z, 1000, none, some (v : Int), false, by rw [eA 6 (by decide)]; rfl, W5.ho, W5.sc.ok, vok2.2.2.1, fun e => absurd (W5.inj 14 6 (by omega) (by omega) e) (by decide), fun e => absurd (W5.inj 13 14 (by omega) (by omega) e) (by decide), W5.ml, by have := W5.few; omega, .leaf (.str z) (by decide) (fun z' e => by cases e; have := lz.2.1; omega), by omega, ?_⟩
        rw [dueM_ok ⟨z, rfl, lz⟩ (fun i e => by cases e; exact ⟨v, rfl, hv.1, hv.2⟩) (lookup_no hzn) (.inr ⟨v, rfl, fun o e => by cases e⟩)]
        intro z' nw a2' r y H6 ez en k6 t6 ha2 hr2 ho6 hy
        cases ez
        obtain rfl : nw = some v := by
          cases nw with
          | none => cases en
          | some m => have e : (v : Int) = m := Option.some.inj en; congr 1; omega
        obtain rfl : y = .non := by
          rcases hy with ⟨_, e⟩ | ⟨o, _, _, e, _⟩
          · exact e
          · cases e
        have em6 : H6 (A 8) = some (.lst (S2.mm.map fun q => V.ref q.1)) := by
          rw [← eA 8 (by decide)]
          exact k6 _ _ (W5.out (J := [6, 14]) (by simp) (by omega) (by simp)) W5.em
        have ee6 : H6 (A 7) = some (.dK (mkK S2.ms)) := by
          rw [← eA 7 (by decide)]
          exact k6 _ _ (W5.out (J := [6, 14]) (by simp) (by omega) (by simp)) W5.ee
        walk_at "g"
        refine w_nyes rfl ?_
        walk_at "g"
        refine w_new fun l H7 hl el7 k7 => ?_
        walk_at "g"
        refine w_app (k7 _ _ em6) (by rw [List.length_map]; exact Nat.lt_of_le_of_lt W5.mn (by decide)) fun H8 em8 o8 => ?_
        have n78 : A 7 ≠ A 8 := by
          rw [← eA 7 (by decide), ← eA 8 (by decide)]
          exact fun e => absurd (W5.inj 7 8 (by omega) (by omega) e) (by decide)
        have ee8 := o8.get n78 (k7 _ _ ee6)
        have hmk : (mkK S2.ms).length < sizeLine := by unfold mkK; rw [List.length_map]; exact small9 (by have := W5.ml; omega)
        walk_at "g"
        refine w_dputS (v := nV v) ee8 hmk fun H9 ee9 o9 => ?_
        rw [mkK_put] at ee9
        have em9 := o9.get n78.symm em8
        have kt79 : KT H7 H9 := (KT.offL o8 (k7 _ _ em6)).trans (KT.offD o9 ee8)
        have kp69 : Kp [A2 7, A2 8] H6 H9 := fun b u hb e => by
          simp only [List.mem_cons, List.not_mem_nil, or_false, not_or] at hb
          rw [eA 7 (by decide), eA 8 (by decide)] at hb
          exact o9.get hb.1 (o8.get hb.2 (k7 _ _ e))
        have W9 := W5.step (v := ⟨z, none, some v, false⟩) (l := l) ha2 (by
          have := congrArg List.length hk2
          rw [List.length_map, List.length_take, marks52_len] at this
          omega) (by omega) k6 t6 ho6 kp69 ((KT.of k7).trans kt79) (by rw [eA 7 (by decide)]; exact ee9) (by rw [eA 8 (by decide), List.map_append]; exact em9) (kt79 _ _ el7)
        have kp59 : Kp ([6, 14, 7, 8].map A2) H5 H9 := fun b u hb e => by
          simp only [List.map_cons, List.map_nil, List.mem_cons, List.not_mem_nil, or_false, not_or] at hb
          exact kp69 _ _ (by simp only [List.mem_cons, List.not_mem_nil, or_false, not_or]; exact ⟨hb.2.2.1, hb.2.2.2⟩) (k6 _ _ (by simp only [List.mem_cons, List.not_mem_nil, or_false, not_or]; exact ⟨hb.1, hb.2.1⟩) e)
        have D9 := D5.kp kp59 (by rw [← eA 0 (by decide)]; exact W5.out (by simp) (by omega) (by simp)) (by rw [← eA 1 (by decide)]; exact W5.out (by simp) (by omega) (by simp))
        refine ⟨_, _, setA A2 15 a2', _, rfl, W9, nx2.trans Nx3.set, ?_, ?_, D9.mono (by omega), kp59 _ _ (by
          simp only [List.map_cons, List.map_nil, List.mem_cons, List.not_mem_nil, or_false, not_or]
          exact ⟨fun e => nm2 6 (by omega) e.symm, fun e => nm2 14 (by omega) e.symm, fun e => nm2 7 (by omega) e.symm, fun e => nm2 8 (by omega) e.symm⟩) elm5, fun i hi => ?_⟩
        · show (putMs S2.ms z v).map (·.1) = _
          rw [putMs_new hzn, hk2, ← Nat.add_assoc, List.take_add_one, hz52]
          rfl
        · show (S2.mm ++ [(l, _)]).length ≤ _
          rw [List.length_append, List.length_cons, List.length_nil]
          omega
        · by_cases h15 : i = 15
          · rw [h15, setA_same]
            intro e
            rw [e] at ha2
            rw [ha2] at elm5
            cases elm5
          · rw [setA_ne h15]
            exact nm2 i hi
      · rintro σ H4 ⟨y6, y7, A2, S2, rfl, W2, nx2, hk2, hm2, D2, elm2, nm2⟩
        walk_at "g"
        exact ⟨_, _, _, A2, S2, rfl, W2, nx2, by rw [hk2]; rfl, hm2, D2⟩
    · rintro σ H1 ⟨y5, y6, y7, A1, S1, rfl, W1, nx1, hk1, hm1, D1⟩
      rw [LTR_size] at hk1 hm1 D1
      walk_at "g"
      refine q H1 A1 S1 W1 nx1 ?_ (by omega) D1
      have := congrArg List.length hk1
      rw [List.length_map, List.length_take, marks52_len] at this
      omega
end
local macro_rules | `(tactic| walk_at "s") => `(tactic| first
  | with_reducible refine w_dpop1 ?_
  | with_reducible refine w_methNS ?_
  | with_reducible refine w_methN ?_
  )
def spLaw (K : PySem.W.Frag) : Sp := fun vs H Q _ => ∃ (a : Addr) (ns : List Int), vs = [.ref a] ∧ SqL K H a (ns.map V.int) ∧ ns.length ≤ 63 ∧ ∀ H', Q (.bl true) H'
theorem nd_app {H : Hp} {L1 L2 : List Addr} (n1 : L1.Nodup) (n2 : L2.Nodup) (h1 : ∀ x ∈ L1, H x = none) (h2 : ∀ y ∈ L2, H y ≠ none) : (L1 ++ L2).Nodup := List.nodup_append.mpr ⟨n1, n2, fun x hx y hy e => h2 y hy (e ▸ h1 x hx)⟩
theorem live {H H' : Hp} {L : List Addr} (h : ∀ y ∈ L, H y ≠ none) (k : ∀ x, H' x = none → H x = none) : ∀ y ∈ L, H' y ≠ none := fun y hy e => h y hy (k y e)
theorem live_app {H : Hp} {L1 L2 : List Addr} (h1 : ∀ y ∈ L1, H y ≠ none) (h2 : ∀ y ∈ L2, H y ≠ none) : ∀ y ∈ L1 ++ L2, H y ≠ none := fun y hy => (List.mem_append.mp hy).elim (h1 y) (h2 y)
def A0 (d c th hl f vl s e m p lc ld lg hd a1 a2 : Addr) : Nat → Addr
  | 0 => d
  | 1 => c
  | 2 => th
  | 3 => hl
  | 4 => f
  | 5 => vl
  | 6 => s
  | 7 => e
  | 8 => m
  | 9 => p
  | 10 => lc
  | 11 => ld
  | 12 => lg
  | 13 => hd
  | 14 => a1
  | 15 => a2
  | _ => 0
def ix16 : Nat → Nat
  | 0 => 14
  | 1 => 15
  | 2 => 12
  | 3 => 13
  | 4 => 11
  | 5 => 10
  | 6 => 2
  | 7 => 1
  | 8 => 0
  | 9 => 6
  | 10 => 7
  | 11 => 8
  | 12 => 9
  | 13 => 3
  | 14 => 4
  | 15 => 5
  | _ => 0
theorem ix16_inj : ∀ i < 16, ∀ j < 16, ix16 i = ix16 j → i = j := by decide
theorem ix16_lt : ∀ i < 16, ix16 i < 16 := by decide
theorem A0_inj {d c th hl f vl s e m p lc ld lg hd a1 a2 : Addr} (nd : [m, e, s, hd, a1, a2, p, lc, ld, lg, vl, f, th, hl, d, c].Nodup) : ∀ i j, i < 16 → j < 16 → A0 d c th hl f vl s e m p lc ld lg hd a1 a2 i = A0 d c th hl f vl s e m p lc ld lg hd a1 a2 j → i = j := by
  have get : ∀ i, i < 16 → [m, e, s, hd, a1, a2, p, lc, ld, lg, vl, f, th, hl, d, c][ix16 i]? = some (A0 d c th hl f vl s e m p lc ld lg hd a1 a2 i) := fun i hi => by
    match i, hi with
    | 0, _ => rfl
    | 1, _ => rfl
    | 2, _ => rfl
    | 3, _ => rfl
    | 4, _ => rfl
    | 5, _ => rfl
    | 6, _ => rfl
    | 7, _ => rfl
    | 8, _ => rfl
    | 9, _ => rfl
    | 10, _ => rfl
    | 11, _ => rfl
    | 12, _ => rfl
    | 13, _ => rfl
    | 14, _ => rfl
    | 15, _ => rfl
    | i + 16, hi => exact absurd hi (by omega)
  intro i j hi hj e'
  have g1 := get i hi
  have g2 := get j hj
  rw [← e'] at g2
  exact ix16_inj i hi j hj ((List.getElem?_inj (show ix16 i < _ from by have := ix16_lt i hi; simpa using this) nd).mp (g1.trans g2.symm))
theorem sd_natl {H : Hp} {p q : Addr} {ns : List Nat} (h1 : H p = some (.lst (ns.map nV))) (h2 : H q = some (.lst (ns.map nV))) (hl : ns.length ≤ 1000) : SD 3 H (.ref p) (.ref q) :=
  .inr (.inl ⟨p, q, _, _, rfl, rfl, .inr ⟨h1, h2⟩, rfl, by rw [List.length_map]; omega, fun i a b ha hb => by
    rw [ha] at hb
    cases hb
    obtain ⟨m, _, rfl⟩ := map_at ha
    exact SD.scal trivial⟩)
theorem DueAt.same {H H' : Hp} {cs : List (Addr × Ct)} {hs : List Nat} {ms : List (Str × Nat)} {x : V} {new : Option Int} {t : Addr} {md : Md} (h : DueAt H cs hs ms x new t md) (k : Same H H') : DueAt H' cs hs ms x new t md := by
  cases md with
  | na1 =>
    obtain ⟨w, goes, ns, h1, h2, h3⟩ := h
    exact ⟨w, goes, ns, h1, k _ _ h2, h3.same k⟩
  | _ => exact k _ _ h
theorem dueM_good {cs : List (Addr × Ct)} {hs : List Nat} {ms : List (Str × Nat)} {x : V} {old : Option Nat} {new : Option Int} {back : Bool} (h : dueM cs hs ms x old new back = .ok) : GoodN cs hs new ∧ IsLab x := by
  unfold dueM at h
  by_cases h1 : ¬ IsLab x
  · rw [if_pos h1] at h; cases h
  rw [if_neg h1] at h
  by_cases h2 : ∃ i, new = some i ∧ ¬ ∃ n : Nat, i = n ∧ isV cs n
  · rw [if_pos h2] at h; cases h
  rw [if_neg h2] at h
  by_cases h3 : ∃ i, new = some i ∧ ¬ i.toNat ∈ hs
  · rw [if_pos h3] at h; cases h
  refine ⟨fun i e => ?_, Classical.not_not.mp h1⟩
  obtain ⟨n, e1, e2⟩ := Classical.byContradiction fun z => h2 ⟨i, e, z⟩
  refine ⟨n, e1, e2, ?_⟩
  have := Classical.byContradiction fun z => h3 ⟨i, e, z⟩
  rw [e1] at this
  exact this
theorem iV_map (nw : Option Nat) : iV (nw.map fun n : Nat => (n : Int)) = oV nw := by cases nw <;> rfl
theorem rise_few {ns : List Nat} {N : Nat} (up : ns.Pairwise (· < ·)) (h : ∀ n ∈ ns, n < N) : ns.length ≤ N := by
  have := rise_len ns 0 N up (fun n _ => Nat.zero_le n) h (Nat.zero_le _)
  omega
section
variable {P : Program} {w : World} {K : PySem.W.Frag} {mg : Str → Option Value} {base : Heap}
theorem ok_law {f_NoName___init__ f_Lack___init__ f_NoMark___init__ f_Stale___init__ f_NotAhead___init__ f_is_int f_is_text f_is_label f_rise f_are_ints f_rising_ints f_is_pair f_are_rows f_held_parents f_edges_of f_way f_Book___init__ f_Book_named f_Book_thing f_Book_kind f_Book_parts f_is_name f_is_kind f_is_entry f_is_tree f_depth_of f_is_version f_is_content f_Holding___init__ f_Holding_holds f_Store___init__ f_Store_put f_Store_held f_Store_view f_Store_holds f_Store_changes f_House___init__ f_House_marks f_House_at f_House_must_have f_House_move f_House_trail f_law_deck f_law_mixed f_law_draw f_law_label f_law_give f_law_some f_law_book f_law_house f_law_int f_law_same f_law_parents f_law_lower f_law_brims f_law_is_walk f_law_way_told f_law_here f_law_is_label f_law_mark f_law_goes f_law_was f_law_moved f_law_is_version f_law_move_due f_law_move_right f_law_set f_law_pairs f_law_at f_law_scene f_law_versions f_law_state_right f_law_set_all f C_Book C_Holding C_Store C_House C_NoMark C_NoName C_Lack C_Stale C_NotAhead C_HouseError : Addr} {fd_NoName___init__ fd_Lack___init__ fd_NoMark___init__ fd_Stale___init__ fd_NotAhead___init__ fd_is_int fd_is_text fd_is_label fd_rise fd_are_ints fd_rising_ints fd_is_pair fd_are_rows fd_held_parents fd_edges_of fd_way fd_Book___init__ fd_Book_named fd_Book_thing fd_Book_kind fd_Book_parts fd_is_name fd_is_kind fd_is_entry fd_is_tree fd_depth_of fd_is_version fd_is_content fd_Holding___init__ fd_Holding_holds fd_Store___init__ fd_Store_put fd_Store_held fd_Store_view fd_Store_holds fd_Store_changes fd_House___init__ fd_House_marks fd_House_at fd_House_must_have fd_House_move fd_House_trail fd_law_deck fd_law_mixed fd_law_draw fd_law_label fd_law_give fd_law_some fd_law_book fd_law_house fd_law_int fd_law_same fd_law_parents fd_law_lower fd_law_brims fd_law_is_walk fd_law_way_told fd_law_here fd_law_is_label fd_law_mark fd_law_goes fd_law_was fd_law_moved fd_law_is_version fd_law_move_due fd_law_move_right fd_law_set fd_law_pairs fd_law_at fd_law_scene fd_law_versions fd_law_state_right fd_law_set_all fd : FuncData} (T : Txt K mg)
    (F_NoName___init__ : Fun K "__init__" "NoName.__init__" s_NoName___init__ f_NoName___init__ fd_NoName___init__)
    (F_Lack___init__ : Fun K "__init__" "Lack.__init__" s_Lack___init__ f_Lack___init__ fd_Lack___init__)
    (F_NoMark___init__ : Fun K "__init__" "NoMark.__init__" s_NoMark___init__ f_NoMark___init__ fd_NoMark___init__)
    (F_Stale___init__ : Fun K "__init__" "Stale.__init__" s_Stale___init__ f_Stale___init__ fd_Stale___init__)
    (F_NotAhead___init__ : Fun K "__init__" "NotAhead.__init__" s_NotAhead___init__ f_NotAhead___init__ fd_NotAhead___init__)
    (D_is_int : DfD K mg "is_int" s_is_int ["thing", "least"] [.int 0] f_is_int fd_is_int)
    (D_is_text : DfD K mg "is_text" s_is_text ["thing", "most"] [.int 40] f_is_text fd_is_text)
    (D_is_label : Df K mg "is_label" s_is_label ["thing"] f_is_label fd_is_label)
    (D_rise : Df K mg "rise" s_rise ["row"] f_rise fd_rise)
    (D_are_ints : Df K mg "are_ints" s_are_ints ["thing"] f_are_ints fd_are_ints)
    (D_rising_ints : Df K mg "rising_ints" s_rising_ints ["thing"] f_rising_ints fd_rising_ints)
    (D_is_pair : Df K mg "is_pair" s_is_pair ["thing"] f_is_pair fd_is_pair)
    (D_are_rows : Df K mg "are_rows" s_are_rows ["thing"] f_are_rows fd_are_rows)
    (D_held_parents : Df K mg "held_parents" s_held_parents ["view", "version"] f_held_parents fd_held_parents)
    (D_edges_of : Df K mg "edges_of" s_edges_of ["view", "versions"] f_edges_of fd_edges_of)
    (D_way : Df K mg "way" s_way ["view", "old", "new"] f_way fd_way)
    (D_Book___init__ : DfM K C_Book "__init__" "Book.__init__" s_Book___init__ ["self"] f_Book___init__ fd_Book___init__)
    (D_Book_named : DfM K C_Book "named" "Book.named" s_Book_named ["self", "content"] f_Book_named fd_Book_named)
    (D_Book_thing : DfM K C_Book "thing" "Book.thing" s_Book_thing ["self", "name"] f_Book_thing fd_Book_thing)
    (D_Book_kind : DfM K C_Book "kind" "Book.kind" s_Book_kind ["self", "name"] f_Book_kind fd_Book_kind)
    (D_Book_parts : DfM K C_Book "parts" "Book.parts" s_Book_parts ["self", "name"] f_Book_parts fd_Book_parts)
    (D_is_name : Df K mg "is_name" s_is_name ["book", "thing"] f_is_name fd_is_name)
    (D_is_kind : Df K mg "is_kind" s_is_kind ["book", "thing", "kind"] f_is_kind fd_is_kind)
    (D_is_entry : Df K mg "is_entry" s_is_entry ["book", "thing"] f_is_entry fd_is_entry)
    (D_is_tree : Df K mg "is_tree" s_is_tree ["book", "entries"] f_is_tree fd_is_tree)
    (D_depth_of : Df K mg "depth_of" s_depth_of ["book", "content"] f_depth_of fd_depth_of)
    (D_is_version : Df K mg "is_version" s_is_version ["book", "content"] f_is_version fd_is_version)
    (D_is_content : Df K mg "is_content" s_is_content ["book", "thing"] f_is_content fd_is_content)
    (D_Holding___init__ : DfM K C_Holding "__init__" "Holding.__init__" s_Holding___init__ ["self", "book", "names"] f_Holding___init__ fd_Holding___init__)
    (D_Holding_holds : DfM K C_Holding "holds" "Holding.holds" s_Holding_holds ["self", "name"] f_Holding_holds fd_Holding_holds)
    (D_Store___init__ : DfM K C_Store "__init__" "Store.__init__" s_Store___init__ ["self", "book"] f_Store___init__ fd_Store___init__)
    (D_Store_put : DfM K C_Store "put" "Store.put" s_Store_put ["self", "name"] f_Store_put fd_Store_put)
    (D_Store_held : DfM K C_Store "held" "Store.held" s_Store_held ["self"] f_Store_held fd_Store_held)
    (D_Store_view : DfM K C_Store "view" "Store.view" s_Store_view ["self"] f_Store_view fd_Store_view)
    (D_Store_holds : DfM K C_Store "holds" "Store.holds" s_Store_holds ["self", "name"] f_Store_holds fd_Store_holds)
    (D_Store_changes : DfM K C_Store "changes" "Store.changes" s_Store_changes ["self"] f_Store_changes fd_Store_changes)
    (D_House___init__ : DfM K C_House "__init__" "House.__init__" s_House___init__ ["self", "book"] f_House___init__ fd_House___init__)
    (D_House_marks : DfM K C_House "marks" "House.marks" s_House_marks ["self"] f_House_marks fd_House_marks)
    (D_House_at : DfM K C_House "at" "House.at" s_House_at ["self", "mark"] f_House_at fd_House_at)
    (D_House_must_have : DfM K C_House "must_have" "House.must_have" s_House_must_have ["self", "version"] f_House_must_have fd_House_must_have)
    (D_House_move : DfMKr K C_House "move" "House.move" s_House_move ["self", "mark", "old", "new", "back"] [("back", V.bl false)] f_House_move fd_House_move)
    (KE_House_move_old_new : ∃ g, KBn K fd_House_move ["self", "mark", "old", "new", "back"] 2 ["old", "new"] g (fun vs zs => vs ++ (zs ++ [V.bl false])))
    (KE_House_move_back_new_old : ∃ g, KBn K fd_House_move ["self", "mark", "old", "new", "back"] 2 ["back", "new", "old"] g (fun vs zs => vs ++ zs.reverse))
    (D_House_trail : DfM K C_House "trail" "House.trail" s_House_trail ["self"] f_House_trail fd_House_trail)
    (D_law_deck : Df K mg "_law_deck" s_law_deck ["_law_script"] f_law_deck fd_law_deck)
    (D_law_mixed : Df K mg "_law_mixed" s_law_mixed ["_law_cell", "_law_turn"] f_law_mixed fd_law_mixed)
    (D_law_draw : Df K mg "_law_draw" s_law_draw ["_law_deck_here", "_law_many"] f_law_draw fd_law_draw)
    (D_law_label : Df K mg "_law_label" s_law_label ["_law_deck_here"] f_law_label fd_law_label)
    (D_law_give : Df K mg "_law_give" s_law_give ["_law_things", "_law_content"] f_law_give fd_law_give)
    (D_law_some : Df K mg "_law_some" s_law_some ["_law_deck_here", "_law_names", "_law_count"] f_law_some fd_law_some)
    (D_law_book : Df K mg "_law_book" s_law_book ["_law_things"] f_law_book fd_law_book)
    (D_law_house : Df K mg "_law_house" s_law_house ["_law_book_here", "_law_held"] f_law_house fd_law_house)
    (D_law_int : Df K mg "_law_int" s_law_int ["_law_thing"] f_law_int fd_law_int)
    (D_law_same : Df K mg "_law_same" s_law_same ["_law_found", "_law_due"] f_law_same fd_law_same)
    (D_law_parents : Df K mg "_law_parents" s_law_parents ["_law_things", "_law_here_here", "_law_version"] f_law_parents fd_law_parents)
    (D_law_lower : Df K mg "_law_lower" s_law_lower ["_law_things", "_law_here_here", "_law_version"] f_law_lower fd_law_lower)
    (D_law_brims : Df K mg "_law_brims" s_law_brims ["_law_things", "_law_here_here", "_law_versions_here"] f_law_brims fd_law_brims)
    (D_law_is_walk : Df K mg "_law_is_walk" s_law_is_walk ["_law_things", "_law_here_here", "_law_was_here", "_law_goes_here", "_law_versions_here"] f_law_is_walk fd_law_is_walk)
    (D_law_way_told : Df K mg "_law_way_told" s_law_way_told ["_law_things", "_law_here_here", "_law_was_here", "_law_goes_here", "_law_thing"] f_law_way_told fd_law_way_told)
    (D_law_here : Df K mg "_law_here" s_law_here ["_law_names"] f_law_here fd_law_here)
    (D_law_is_label : Df K mg "_law_is_label" s_law_is_label ["_law_thing"] f_law_is_label fd_law_is_label)
    (D_law_mark : Df K mg "_law_mark" s_law_mark ["_law_deck_here"] f_law_mark fd_law_mark)
    (D_law_goes : Df K mg "_law_goes" s_law_goes ["_law_deck_here", "_law_things", "_law_versions_here"] f_law_goes fd_law_goes)
    (D_law_was : Df K mg "_law_was" s_law_was ["_law_deck_here", "_law_stands", "_law_mark_here", "_law_versions_here"] f_law_was fd_law_was)
    (D_law_moved : Df K mg "_law_moved" s_law_moved ["_law_house_here", "_law_mark_here", "_law_was_here", "_law_goes_here", "_law_turn"] f_law_moved fd_law_moved)
    (D_law_is_version : Df K mg "_law_is_version" s_law_is_version ["_law_things", "_law_name"] f_law_is_version fd_law_is_version)
    (D_law_move_due : Df K mg "_law_move_due" s_law_move_due ["_law_things", "_law_here_here", "_law_stands", "_law_mark_here", "_law_was_here", "_law_goes_here", "_law_turn"] f_law_move_due fd_law_move_due)
    (D_law_move_right : Df K mg "_law_move_right" s_law_move_right ["_law_things", "_law_here_here", "_law_was_here", "_law_goes_here", "_law_due", "_law_told"] f_law_move_right fd_law_move_right)
    (D_law_set : Df K mg "_law_set" s_law_set ["_law_stands", "_law_mark_here", "_law_goes_here"] f_law_set fd_law_set)
    (D_law_pairs : Df K mg "_law_pairs" s_law_pairs ["_law_stands"] f_law_pairs fd_law_pairs)
    (D_law_at : Df K mg "_law_at" s_law_at ["_law_house_here", "_law_mark_here"] f_law_at fd_law_at)
    (D_law_scene : Df K mg "_law_scene" s_law_scene ["_law_deck_here", "_law_most"] f_law_scene fd_law_scene)
    (D_law_versions : Df K mg "_law_versions" s_law_versions ["_law_things", "_law_here_here"] f_law_versions fd_law_versions)
    (D_law_state_right : Df K mg "_law_state_right" s_law_state_right ["_law_deck_here", "_law_house_here", "_law_stands", "_law_made"] f_law_state_right fd_law_state_right)
    (D_law_set_all : Df K mg "_law_set_all" s_law_set_all ["_law_deck_here", "_law_house_here", "_law_versions_here", "_law_stands", "_law_made"] f_law_set_all fd_law_set_all)
    (D_law : Df K mg "law" s_law ["_law_script"] f fd)
    (K_Book : Kl K mg "Book" C_Book ["contents", "depths", "given"]) (M_Book : Mk K C_Book f_Book___init__)
    (K_Holding : Kl K mg "Holding" C_Holding ["book", "row", "here"]) (M_Holding : Mk K C_Holding f_Holding___init__)
    (K_Store : Kl K mg "Store" C_Store ["book", "here", "turns"]) (M_Store : Mk K C_Store f_Store___init__)
    (K_House : Kl K mg "House" C_House ["book", "here", "turns", "stands", "lately", "others", "pinned"]) (M_House : Mk K C_House f_House___init__)
    (X_NoMark : ExnI K mg "NoMark" C_NoMark f_NoMark___init__ fd_NoMark___init__ ["self", "mark"] ["mark"])
    (X_NoName : ExnI K mg "NoName" C_NoName f_NoName___init__ fd_NoName___init__ ["self", "name"] ["name"])
    (X_Lack : ExnI K mg "Lack" C_Lack f_Lack___init__ fd_Lack___init__ ["self", "name"] ["name"])
    (X_Stale : ExnI K mg "Stale" C_Stale f_Stale___init__ fd_Stale___init__ ["self", "mark", "there"] ["mark", "there", "why"])
    (X_NotAhead : ExnI K mg "NotAhead" C_NotAhead f_NotAhead___init__ fd_NotAhead___init__ ["self", "mark", "why"] ["mark", "why", "there"])
    (g_HouseError : mg "HouseError" = some (.ref C_HouseError))
    (xm_NoMark_NoMark : PySem.W.exmOne K (.ref C_NoMark) (.ref C_NoMark) = some true)
    (xm_NoName_NoMark : PySem.W.exmOne K (.ref C_NoName) (.ref C_NoMark) = some false)
    (xm_NoName_NoName : PySem.W.exmOne K (.ref C_NoName) (.ref C_NoName) = some true)
    (xm_Lack_NoMark : PySem.W.exmOne K (.ref C_Lack) (.ref C_NoMark) = some false)
    (xm_Lack_NoName : PySem.W.exmOne K (.ref C_Lack) (.ref C_NoName) = some false)
    (xm_Lack_Lack : PySem.W.exmOne K (.ref C_Lack) (.ref C_Lack) = some true)
    (xm_Stale_NoMark : PySem.W.exmOne K (.ref C_Stale) (.ref C_NoMark) = some false)
    (xm_Stale_NoName : PySem.W.exmOne K (.ref C_Stale) (.ref C_NoName) = some false)
    (xm_Stale_Lack : PySem.W.exmOne K (.ref C_Stale) (.ref C_Lack) = some false)
    (xm_Stale_HouseError : PySem.W.exmOne K (.ref C_Stale) (.ref C_HouseError) = some true)
    (xm_NotAhead_NoMark : PySem.W.exmOne K (.ref C_NotAhead) (.ref C_NoMark) = some false)
    (xm_NotAhead_NoName : PySem.W.exmOne K (.ref C_NotAhead) (.ref C_NoName) = some false)
    (xm_NotAhead_Lack : PySem.W.exmOne K (.ref C_NotAhead) (.ref C_Lack) = some false)
    (xm_NotAhead_HouseError : PySem.W.exmOne K (.ref C_NotAhead) (.ref C_HouseError) = some true)
    (kq_Stale_Stale : PySem.W.kitOne K (.ref C_Stale) (.ref C_Stale) = some true)
    (kq_Stale_NotAhead : PySem.W.kitOne K (.ref C_Stale) (.ref C_NotAhead) = some false)
    (kq_NotAhead_Stale : PySem.W.kitOne K (.ref C_NotAhead) (.ref C_Stale) = some false)
    (kq_NotAhead_NotAhead : PySem.W.kitOne K (.ref C_NotAhead) (.ref C_NotAhead) = some true)
    (I_House_put : Meth K C_House "put" f_Store_put)
    (I_House_held : Meth K C_House "held" f_Store_held)
    (I_House_view : Meth K C_House "view" f_Store_view)
    (I_House_holds : Meth K C_House "holds" f_Store_holds)
    (I_House_changes : Meth K C_House "changes" f_Store_changes)
    (R_Store : ClX.CRead K C_Store (.type "type"))
    (V_Store___init__ : ClX.CVal K C_Store (.type "type") "__init__" (.ref f_Store___init__) (.ref f_Store___init__))
    : FnOk P w K mg base CX0 12 f fd ["_law_script"] (spLaw K) := by
  obtain ⟨ds_is_int, V_is_int, B_is_int⟩ := D_is_int.b
  obtain ⟨ds_is_text, V_is_text, B_is_text⟩ := D_is_text.b
  obtain ⟨kg_House_move_old_new, KB_House_move_old_new⟩ := KE_House_move_old_new
  obtain ⟨kg_House_move_back_new_old, KB_House_move_back_new_old⟩ := KE_House_move_back_new_old
  obtain ⟨tk_SIGNS, g_SIGNS⟩ := T.g_SIGNS
  obtain ⟨tk_LETTERS, g_LETTERS⟩ := T.g_LETTERS
  obtain ⟨tk_MOST, g_MOST⟩ := T.g_MOST
  obtain ⟨tk_DEEP, g_DEEP⟩ := T.g_DEEP
  obtain ⟨tk_LAST, g_LAST⟩ := T.g_LAST
  have g_NoMark := X_NoMark.g
  have g_NoName := X_NoName.g
  have g_Lack := X_Lack.g
  have g_Stale := X_Stale.g
  have g_NotAhead := X_NotAhead.g
  have G_law_deck : FnOk P w K mg base CX0 1 f_law_deck fd_law_deck ["_law_script"] (spDeck K) := ok_deck T D_law_deck.fn
  have G_law_draw : FnOk P w K mg base CX0 2 f_law_draw fd_law_draw ["_law_deck_here", "_law_many"] spDraw := ok_draw T D_law_draw.fn D_law_mixed
  have G_law_same : FnOk P w K mg base CX0 5 f_law_same fd_law_same ["_law_found", "_law_due"] (spSame 3) := ok_same T D_law_same D_law_int 3
  have G_law_scene : FnOk P w K mg base CX0 4 f_law_scene fd_law_scene ["_law_deck_here", "_law_most"] spLScene := ok_lscene T D_law_scene.fn D_law_mixed D_law_draw D_law_some D_law_give
  have G_law_here : FnOk P w K mg base CX0 1 f_law_here fd_law_here ["_law_names"] spLHere := ok_lhere T D_law_here.fn
  have G_law_versions : FnOk P w K mg base CX0 1 f_law_versions fd_law_versions ["_law_things", "_law_here_here"] spLVersions := ok_lversions T D_law_versions.fn
  have G_is_content : FnOk P w K mg base CX0 5 f_is_content fd_is_content ["book", "thing"] (spIsContent P w C_Book) := ok_iscontent T D_is_content.fn K_Book D_is_tree D_is_version D_depth_of D_are_rows D_is_entry D_rise D_is_pair D_is_label D_rising_ints D_are_ints D_is_kind D_is_name D_is_int D_is_text
  have G_Book_named : FnOk P w K mg base CX0 6 f_Book_named fd_Book_named ["self", "content"] (spNamed P w C_Book) := ok_named T D_Book_named.fn K_Book D_is_content D_depth_of G_is_content
  have G_law_book : FnOk P w K mg base CX0 7 f_law_book fd_law_book ["_law_things"] (spLBook P w C_Book) := ok_lbook T D_law_book.fn K_Book M_Book D_Book___init__ D_Book_named G_Book_named
  have G_law_house : FnOk P w K mg base CX0 5 f_law_house fd_law_house ["_law_book_here", "_law_held"] (spLHouse P w C_Book C_House) := ok_lhouse T D_law_house.fn K_Book K_Store K_House M_House D_Store___init__ D_House___init__ D_Store_put I_House_put D_is_name D_is_int R_Store V_Store___init__
  have G_House_held : FnOk P w K mg base CX0 1 f_Store_held fd_Store_held ["self"] (spHeld C_House) := ok_held T D_Store_held.fn (house_kf K_House)
  have G_House_changes : FnOk P w K mg base CX0 1 f_Store_changes fd_Store_changes ["self"] (spChanges C_House) := ok_changes T D_Store_changes.fn (house_kf K_House)
  have G_is_kind : FnOk P w K mg base CX0 3 f_is_kind fd_is_kind ["book", "thing", "kind"] (spIsKind P w C_Book) := ok_iskind T D_is_kind.fn K_Book D_is_name D_is_int
  have G_House_must_have : FnOk P w K mg base (L2.CX P w) 5 f_House_must_have fd_House_must_have ["self", "version"] (spMustHave P w C_Book C_House C_NoName C_Lack) := ok_musthave T D_House_must_have.fn K_Book K_House D_is_kind D_Store_holds I_House_holds D_Book_thing D_is_name D_is_int G_is_kind F_NoName___init__ X_NoName F_Lack___init__ X_Lack
  have G_held_parents : FnOk P w K mg base CX0 5 f_held_parents fd_held_parents ["view", "version"] (spHeldParents P w C_Book C_Holding) := ok_heldparents T D_held_parents.fn K_Book K_Holding D_Book_parts D_Book_thing D_Holding_holds D_is_name D_is_int
  have G_edges_of : FnOk P w K mg base CX0 6 f_edges_of fd_edges_of ["view", "versions"] (spEdgesOf P w C_Book C_Holding) := ok_edgesof T D_edges_of.fn K_Book K_Holding D_held_parents D_Book_parts D_Book_thing D_Holding_holds D_is_name D_is_int
  have G_way : FnOk P w K mg base CX0 7 f_way fd_way ["view", "old", "new"] (spWay P w C_Book C_Holding) := ok_way T D_way.fn D_held_parents G_held_parents D_edges_of G_edges_of
  have G_House_view : FnOk P w K mg base CX0 5 f_Store_view fd_Store_view ["self"] (spView P w C_Book C_Holding C_House) := ok_view T D_Store_view.fn K_Book K_Holding M_Holding (house_kf K_House) ⟨D_Store_held.fn, D_Store_held.b, I_House_held⟩ D_Holding___init__ D_is_name D_is_int
  have G_House_move : FnOk P w K mg base (L2.CX P w) 9 f_House_move fd_House_move ["self", "mark", "old", "new", "back"] (spMove P w C_Book C_House C_NoMark C_NoName C_Lack C_Stale C_NotAhead) := ok_move T D_House_move.fn K_House D_is_label F_NoMark___init__ X_NoMark F_Stale___init__ X_Stale F_NotAhead___init__ X_NotAhead D_House_must_have G_House_must_have D_way G_way D_Store_view I_House_view (G_House_view.mono (by omega))
  have G_House_at : FnOk P w K mg base (L2.CX P w) 3 f_House_at fd_House_at ["self", "mark"] (spAt P w C_Book C_House C_NoMark) := ok_at T D_House_at.fn K_House D_is_label F_NoMark___init__ X_NoMark
  have G_law_at : FnOk P w K mg base CX0 4 f_law_at fd_law_at ["_law_house_here", "_law_mark_here"] (spLAt P w C_Book C_House) := ok_lat T D_law_at.fn K_House D_House_at G_House_at X_NoMark xm_NoMark_NoMark
  have G_law_moved : FnOk P w K mg base CX0 10 f_law_moved fd_law_moved ["_law_house_here", "_law_mark_here", "_law_was_here", "_law_goes_here", "_law_turn"] (spLMoved P w C_Book C_House) := ok_lmoved T D_law_moved.fn K_House D_House_move G_House_move KB_House_move_old_new KB_House_move_back_new_old X_NoMark X_NoName X_Lack X_Stale X_NotAhead g_HouseError xm_NoMark_NoMark xm_NoName_NoMark xm_NoName_NoName xm_Lack_NoMark xm_Lack_NoName xm_Lack_Lack xm_Stale_NoMark xm_Stale_NoName xm_Stale_Lack xm_Stale_HouseError xm_NotAhead_NoMark xm_NotAhead_NoName xm_NotAhead_Lack xm_NotAhead_HouseError kq_Stale_Stale kq_Stale_NotAhead kq_NotAhead_Stale kq_NotAhead_NotAhead
  have G_law_set_all : FnOk P w K mg base CX0 10 f_law_set_all fd_law_set_all ["_law_deck_here", "_law_house_here", "_law_versions_here", "_law_stands", "_law_made"] (spLSetAll P w C_Book C_House) := ok_lsetall T D_law_set_all.fn D_law_mixed D_law_draw K_House D_House_move G_House_move KB_House_move_old_new
  have G_law_state_right : FnOk P w K mg base CX0 6 f_law_state_right fd_law_state_right ["_law_deck_here", "_law_house_here", "_law_stands", "_law_made"] (spLState P w C_Book C_House) := ok_lstate T D_law_state_right.fn D_law_mixed D_law_draw D_law_label D_law_mark D_law_same D_law_int K_House D_House_trail D_House_marks D_law_at G_law_at D_law_pairs D_law_is_label
  have G_law_mark : FnOk P w K mg base CX0 4 f_law_mark fd_law_mark ["_law_deck_here"] spLMark := ok_lmark T D_law_mark.fn D_law_mixed D_law_draw D_law_label
  have G_law_was : FnOk P w K mg base CX0 3 f_law_was fd_law_was ["_law_deck_here", "_law_stands", "_law_mark_here", "_law_versions_here"] spLWas := ok_lwas T D_law_was.fn D_law_mixed D_law_draw
  have G_law_goes : FnOk P w K mg base CX0 3 f_law_goes fd_law_goes ["_law_deck_here", "_law_things", "_law_versions_here"] spLGoes := ok_lgoes T D_law_goes.fn D_law_mixed D_law_draw
  have G_law_set : FnOk P w K mg base CX0 1 f_law_set fd_law_set ["_law_stands", "_law_mark_here", "_law_goes_here"] spLSet := ok_lset T D_law_set.fn
  have G_law_move_due : FnOk P w K mg base CX0 4 f_law_move_due fd_law_move_due ["_law_things", "_law_here_here", "_law_stands", "_law_mark_here", "_law_was_here", "_law_goes_here", "_law_turn"] spLMvDue := ok_lmvdue (fI := f_law_int) (fdI := fd_law_int) T D_law_move_due.fn D_law_is_label D_law_is_version D_law_parents D_law_lower D_law_brims
  have G_law_move_right : FnOk P w K mg base CX0 7 f_law_move_right fd_law_move_right ["_law_things", "_law_here_here", "_law_was_here", "_law_goes_here", "_law_due", "_law_told"] spLMvRight := ok_lmvright (fB := f_law_int) (fdB := fd_law_int) T D_law_move_right.fn D_law_int D_law_same D_law_brims D_law_parents D_law_lower D_law_is_walk D_law_way_told
  have clH := K_House.cl
  refine D_law.fn.ok sc_law (fun vs H Q E h => ?_) (fun cdv A outer s H vs Q E hr h => ?_)
  · obtain ⟨a, ns, rfl, _⟩ := h
    rfl
  · obtain ⟨a0, ns0, rfl, hS0, hl0, q⟩ := h
    have hu := hu_of hr
    refine ⟨_,
      (pss_cons
        (ps_set (i := 1) sc_law.nd rfl (.inl rfl) (pe_call G_law_deck (hr.mono (by omega)) (by rfl) D_law_deck.g D_law_deck.fn.kp D_law_deck.b .nil pass0 (pa_cons (pv 0) pa_nil)))
      (pss_cons
        (ps_asg (pe_call G_law_scene (hr.mono (by omega)) (by rfl) D_law_scene.g D_law_scene.fn.kp D_law_scene.b .nil pass0 (pa_cons (pv 1) (pa_cons pe_int pa_nil))) (pg_tup rfl (pgs_cons (pg_name (i := 2) sc_law.nd rfl (.inl rfl)) (pgs_cons (pg_name (i := 3) sc_law.nd rfl (.inl rfl)) pgs_nil))))
      (pss_cons
        (ps_set (i := 4) sc_law.nd rfl (.inl rfl) (pe_call G_law_here (hr.mono (by omega)) (by rfl) D_law_here.g D_law_here.fn.kp D_law_here.b .nil pass0 (pa_cons (pv 3) pa_nil)))
      (pss_cons
        (ps_set (i := 5) sc_law.nd rfl (.inl rfl) (pe_call G_law_versions (hr.mono (by omega)) (by rfl) D_law_versions.g D_law_versions.fn.kp D_law_versions.b .nil pass0 (pa_cons (pv 2) (pa_cons (pv 4) pa_nil))))
      (pss_cons
        (ps_set (i := 6) sc_law.nd rfl (.inl rfl) (pe_call G_law_house (hr.mono (by omega)) (by rfl) D_law_house.g D_law_house.fn.kp D_law_house.b .nil pass0 (pa_cons (pe_call G_law_book (hr.mono (by omega)) (by rfl) D_law_book.g D_law_book.fn.kp D_law_book.b .nil pass0 (pa_cons (pv 2) pa_nil)) (pa_cons (pv 3) pa_nil))))
      (pss_cons
        (ps_set (i := 7) sc_law.nd rfl (.inl rfl) pe_dnewK)
      (pss_cons
        (ps_set (i := 8) sc_law.nd rfl (.inl rfl) (pe_lst pa_nil))
      (pss_cons
        (ps_if (PW.pt (pw_and (pt_cmpR op_eq (pe_call G_law_draw (hr.mono (by omega)) (by rfl) D_law_draw.g D_law_draw.fn.kp D_law_draw.b .nil pass0 (pa_cons (pv 1) (pa_cons pe_int pa_nil))) pe_int (nomark _)) (pw_and1 (pt_not (pt_val (pe_call G_law_set_all (hr.mono (by omega)) (by rfl) D_law_set_all.g D_law_set_all.fn.kp D_law_set_all.b .nil pass0 (pa_cons (pv 1) (pa_cons (pv 6) (pa_cons (pv 5) (pa_cons (pv 7) (pa_cons (pv 8) pa_nil)))))))))))
          (pss_one
            (ps_ret pe_bl))
          pss_nil)
      (pss_cons
        (ps_if (PW.pt (pw_or (pt_not (pt_val (pe_call G_law_same (hr.mono (by omega)) (by rfl) D_law_same.g D_law_same.fn.kp D_law_same.b .nil pass0 (pa_cons (pe_glob (v := .int 50) rfl g_LAST ⟨_, rfl⟩) (pa_cons pe_int pa_nil))))) (pw_or1 (pt_not (pt_val (pe_call G_law_state_right (hr.mono (by omega)) (by rfl) D_law_state_right.g D_law_state_right.fn.kp D_law_state_right.b .nil pass0 (pa_cons (pv 1) (pa_cons (pv 6) (pa_cons (pv 7) (pa_cons (pv 8) pa_nil))))))))))
          (pss_one
            (ps_ret pe_bl))
          pss_nil)
      (pss_cons
        (ps_for PassesOwn.never rfl (pi_range1 (by rfl) T.n_range (pa_cons (pe_op op_add pe_int (pe_callB (c_min2 rfl) (by rfl) T.n_min (by decide +kernel) (pa_cons (pe_callB (r := rLen K) c_len (by rfl) T.n_len (by decide +kernel) (pa_cons (pv 0) pa_nil)) (pa_cons pe_int pa_nil)))) pa_nil)) (pg_name (i := 9) sc_law.nd rfl (.inl rfl))
          (pss_cons
            (ps_set (i := 10) sc_law.nd rfl (.inl rfl) (pe_call G_law_draw (hr.mono (by omega)) (by rfl) D_law_draw.g D_law_draw.fn.kp D_law_draw.b .nil pass0 (pa_cons (pv 1) (pa_cons pe_int pa_nil))))
          (pss_cons
            (ps_set (i := 11) sc_law.nd rfl (.inl rfl) (pe_call G_law_draw (hr.mono (by omega)) (by rfl) D_law_draw.g D_law_draw.fn.kp D_law_draw.b .nil pass0 (pa_cons (pv 1) (pa_cons pe_int pa_nil))))
          (pss_cons
            (ps_set (i := 12) sc_law.nd rfl (.inl rfl) (pe_call G_law_mark (hr.mono (by omega)) (by rfl) D_law_mark.g D_law_mark.fn.kp D_law_mark.b .nil pass0 (pa_cons (pv 1) pa_nil)))
          (pss_cons
            (ps_set (i := 13) sc_law.nd rfl (.inl rfl) (pe_call G_law_was (hr.mono (by omega)) (by rfl) D_law_was.g D_law_was.fn.kp D_law_was.b .nil pass0 (pa_cons (pv 1) (pa_cons (pv 7) (pa_cons (pv 12) (pa_cons (pv 5) pa_nil))))))
          (pss_cons
            (ps_set (i := 14) sc_law.nd rfl (.inl rfl) (pe_call G_law_goes (hr.mono (by omega)) (by rfl) D_law_goes.g D_law_goes.fn.kp D_law_goes.b .nil pass0 (pa_cons (pv 1) (pa_cons (pv 2) (pa_cons (pv 5) pa_nil)))))
          (pss_cons
            (ps_set (i := 15) sc_law.nd rfl (.inl rfl) pe_int)
          (pss_cons
            (ps_if (PW.pt (pw_and (pt_cmpR op_eq (pv 10) pe_int (nomark _)) (pw_and (pt_cmpR op_lt (pe_callB (r := rLen K) c_len (by rfl) T.n_len (by decide +kernel) (pa_cons (pv 8) pa_nil)) pe_int (nomark _)) (pw_and (pt_val (pe_callB (r := rIsi K) call_isi (by rfl) T.n_isinstance (by decide +kernel) (pa_cons (pv 12) (pa_cons (pe_bltn (v := .ty "str") (u := .type "str") (by rfl) T.n_str (by decide +kernel) rfl) pa_nil)))) (pw_and1 (pt_cmp (pc_din hu (pv 12) (pv 7))))))))
              (pss_cons
                (ps_set (i := 13) sc_law.nd rfl (.inl rfl) (pe_dget hu (pv 7) (pv 12) (fun _ _ => rfl)))
              (pss_cons
                (ps_set (i := 14) sc_law.nd rfl (.inl rfl) (pv 13))
              (pss_one
                (ps_set (i := 15) sc_law.nd rfl (.inl rfl) (pe_op op_add pe_int (pe_call G_law_draw (hr.mono (by omega)) (by rfl) D_law_draw.g D_law_draw.fn.kp D_law_draw.b .nil pass0 (pa_cons (pv 1) (pa_cons pe_int pa_nil))))))))
              pss_nil)
          (pss_cons
            (ps_for PassesOwn.never rfl (pi_range1 (by rfl) T.n_range (pa_cons (pv 15) pa_nil)) (pg_name (i := 16) sc_law.nd rfl (.inl rfl))
              (pss_cons
                (ps_set (i := 17) sc_law.nd rfl (.inl rfl) (pe_call G_law_move_due (hr.mono (by omega)) (by rfl) D_law_move_due.g D_law_move_due.fn.kp D_law_move_due.b .nil pass0 (pa_cons (pv 2) (pa_cons (pv 4) (pa_cons (pv 7) (pa_cons (pv 12) (pa_cons (pv 13) (pa_cons (pv 14) (pa_cons (pv 11) pa_nil)))))))))
              (pss_cons
                (ps_set (i := 18) sc_law.nd rfl (.inl rfl) (pe_call G_law_moved (hr.mono (by omega)) (by rfl) D_law_moved.g D_law_moved.fn.kp D_law_moved.b .nil pass0 (pa_cons (pv 6) (pa_cons (pv 12) (pa_cons (pv 13) (pa_cons (pv 14) (pa_cons (pv 11) pa_nil)))))))
              (pss_cons
                (ps_if (pt_not (pt_val (pe_call G_law_move_right (hr.mono (by omega)) (by rfl) D_law_move_right.g D_law_move_right.fn.kp D_law_move_right.b .nil pass0 (pa_cons (pv 2) (pa_cons (pv 4) (pa_cons (pv 13) (pa_cons (pv 14) (pa_cons (pv 17) (pa_cons (pv 18) pa_nil)))))))))
                  (pss_one
                    (ps_ret pe_bl))
                  pss_nil)
              (pss_one
                (ps_if (pt_cmpR op_eq (pe_ix (r := rIxT K) ix_tup (pv 17) pe_int (fun _ _ => rfl)) pe_str (nomark _))
                  (pss_cons
                    (ps_expr (pe_call G_law_set (hr.mono (by omega)) (by rfl) D_law_set.g D_law_set.fn.kp D_law_set.b .nil pass0 (pa_cons (pv 7) (pa_cons (pv 12) (pa_cons (pv 14) pa_nil)))))
                  (pss_one
                    (ps_expr (pe_bm PySem.F.plainAttrs_list PySem.F.slot_list_append PySem.F.type_list_append mt_append (pv 8) (pa_cons (pe_tup (pa_cons (pv 12) (pa_cons (pv 13) (pa_cons (pv 14) (pa_cons (pe_cmpR op_eq (pv 11) pe_int (nomark _)) pa_nil))))) pa_nil)))))
                  pss_nil))))))
          (pss_one
            (ps_if (pt_not (pt_val (pe_call G_law_state_right (hr.mono (by omega)) (by rfl) D_law_state_right.g D_law_state_right.fn.kp D_law_state_right.b .nil pass0 (pa_cons (pv 1) (pa_cons (pv 6) (pa_cons (pv 7) (pa_cons (pv 8) pa_nil)))))))
              (pss_one
                (ps_ret pe_bl))
              pss_nil)))))))))))
      (pss_one
        (ps_ret (pe_and (pe_call G_law_same (hr.mono (by omega)) (by rfl) D_law_same.g D_law_same.fn.kp D_law_same.b .nil pass0 (pa_cons (pe_meth0 (pv 6) K_House.cl I_House_held G_House_held (hr.mono (by omega)) D_Store_held.b .nil pass0) (pa_cons (pv 3) pa_nil))) (pe_one (pe_call G_law_same (hr.mono (by omega)) (by rfl) D_law_same.g D_law_same.fn.kp D_law_same.b .nil pass0 (pa_cons (pe_meth0 (pv 6) K_House.cl I_House_changes G_House_changes (hr.mono (by omega)) D_Store_changes.b .nil pass0) (pa_cons (pe_callB (r := rLen K) c_len (by rfl) T.n_len (by decide +kernel) (pa_cons (pv 3) pa_nil)) pa_nil)))))))))))))))))
      , ?_⟩
    rw [show L2.start N_law [V.ref a0] = [some (.ref a0), none, none, none, none, none, none, none, none, none, none, none, none, none, none, none, none, none, none] from rfl]
    walk_at "x"
    refine w_deck hS0 fun H1 d c k1 hd hc D1 => ?_
    have hq1 : SqL K H1 a0 (ns0.map V.int) := by
      rcases hS0 with (h | ⟨o, h⟩) | h
      · exact .inl (.inl (k1 _ _ h))
      · exact .inl (.inr ⟨o, k1 _ _ h⟩)
      · exact .inr h
    walk_at "g"
    refine ⟨d, c, _, 7, rfl, D1, by decide, by decide, by unfold MOSTD; decide, fun H2 t th hl cs hs D2 x2 hth hhl e2 T2 ehl V2 hc3 hc4 hup hin hver => ?_⟩
    have thd : th ≠ d := (D1.ne1 hth).1
    have hlD : hl ≠ d := (D1.ne1 hhl).1
    walk_at "g"
    refine ⟨hl, hs, rfl, ehl, fun n hn => by have := hin n hn; omega, fun H3 f hf k3 F3 => ?_⟩
    have D3 : Deck H3 d c _ := D2.kp (M := []) (Kp.of k3) (by simp) (by simp)
    have T3 := T2.same k3
    have hsl : hs.length ≤ 400 := by
      have := rise_few hup hin
      omega
    walk_at "g"
    refine ⟨th, f, cs, hs, rfl, T3, F3, hin, by omega, fun H4 vl vs k4 hvl evl vup vmem vlen => ?_⟩
    have D4 : Deck H4 d c _ := D3.kp (M := []) (Kp.of k4) (by simp) (by simp)
    have T4 := T3.same k4
    have F4 := F3.same k4
    walk_at "g"
    refine ⟨th, cs, rfl, T4, V2.ok, V2.nd, by omega, fun H5 p dx lc ld lg ds hp hlc hld hlg B5 k5 => ?_⟩
    have D5 : Deck H5 d c _ := D4.kp (M := []) (Kp.of k5) (by simp) (by simp)
    have T5 := T4.same k5
    have F5 := F4.same k5
    have ehl5 := k5 _ _ (k4 _ _ (k3 _ _ ehl))
    walk_at "g"
    refine ⟨p, dx, lc, ld, lg, hl, cs, ds, hs, rfl, B5, ehl5, hin, hsl, fun s' dy hd' a1 a2 a3 a4 k0 H6 hs6 hhd6 h61 h62 h63 h64 S6 nh6 ns6 hk0 k6 => ?_⟩
    have D6 : Deck H6 d c _ := D5.kp (M := []) (Kp.of k6) (by simp) (by simp)
    have T6 := T5.same k6
    have F6 := F5.same k6
    have B6 := B5.same k6
    walk_at "g"
    refine w_new fun e H7 he7 ee7 k7 => ?_
    walk_at "g"
    refine w_new fun m H8 hm8 em8 k8 => ?_
    have k68 := Same.trans k7 k8
    have hvn : th ≠ hl := fun e => by
      have h1 := T2.at'
      rw [e, ehl] at h1
      cases cs with
      | nil => simp at hc3
      | cons q0 r =>
        cases hs with
        | nil => simp at h1
        | cons n0 r0 => simp [nV] at h1
    have al1 : ∀ y ∈ [d, c], H1 y ≠ none := fun y hy => by
      obtain ⟨⟨xs, ed⟩, xc, ec⟩ := D1.at
      simp only [List.mem_cons, List.not_mem_nil, or_false] at hy
      rcases hy with rfl | rfl
      · rw [ed]; exact fun z => nomatch z
      · rw [ec]; exact fun z => nomatch z
    have al2 : ∀ y ∈ [th, hl, d, c], H2 y ≠ none := fun y hy => by
      obtain ⟨⟨xs, ed⟩, xc, ec⟩ := D2.at
      simp only [List.mem_cons, List.not_mem_nil, or_false] at hy
      rcases hy with rfl | rfl | rfl | rfl
      · rw [T2.at']; exact fun z => nomatch z
      · rw [ehl]; exact fun z => nomatch z
      · rw [ed]; exact fun z => nomatch z
      · rw [ec]; exact fun z => nomatch z
    have nd1 : [th, hl, d, c].Nodup := nd_app (H := H1) (L1 := [th, hl]) (L2 := [d, c]) (by simpa using hvn) (by simpa using D1.ne.symm) (fun x hx => by
      simp only [List.mem_cons, List.not_mem_nil, or_false] at hx
      rcases hx with rfl | rfl
      · exact hth
      · exact hhl) al1
    have nd2 : (f :: [th, hl, d, c]).Nodup := nd_app (H := H2) (L1 := [f]) (by simp) nd1 (by simpa using hf) al2
    have al3 : ∀ y ∈ f :: [th, hl, d, c], H3 y ≠ none := live_app (L1 := [f]) (fun y hy => by
      obtain rfl : y = f := by simpa using hy
      obtain ⟨kv, e'⟩ := F3.obj
      rw [e']
      exact fun z => nomatch z) (live al2 fun x => k3.free)
    have nd3 : (vl :: f :: [th, hl, d, c]).Nodup := nd_app (H := H3) (L1 := [vl]) (by simp) nd2 (by simpa using hvl) al3
    have al4 : ∀ y ∈ vl :: f :: [th, hl, d, c], H4 y ≠ none := live_app (L1 := [vl]) (fun y hy => by
      obtain rfl : y = vl := by simpa using hy
      rw [evl]
      exact fun z => nomatch z) (live al3 fun x => k4.free)
    have nd4 : ([p, lc, ld, lg] ++ vl :: f :: [th, hl, d, c]).Nodup := nd_app (H := H4) (L1 := [p, lc, ld, lg]) (by
      simp only [List.nodup_cons, List.mem_cons, List.not_mem_nil, or_false, not_or, not_false_eq_true, List.nodup_nil, and_true]
      exact ⟨⟨ne_of B5.ob B5.co (fun z => nomatch z), ne_of B5.ob B5.de (fun z => nomatch z), ne_of B5.ob B5.gi.at' (fun z => nomatch z)⟩, ⟨B5.ne, ne_of B5.co B5.gi.at' (fun z => nomatch z)⟩, ne_of B5.de B5.gi.at' (fun z => nomatch z)⟩) nd3 (fun x hx => by
      simp only [List.mem_cons, List.not_mem_nil, or_false] at hx
      rcases hx with rfl | rfl | rfl | rfl
      · exact hp
      · exact hlc
      · exact hld
      · exact hlg) al4
    have al5 : ∀ y ∈ [p, lc, ld, lg] ++ vl :: f :: [th, hl, d, c], H5 y ≠ none := live_app (fun y hy => by
      simp only [List.mem_cons, List.not_mem_nil, or_false] at hy
      rcases hy with rfl | rfl | rfl | rfl
      · rw [B5.ob]; exact fun z => nomatch z
      · rw [B5.co]; exact fun z => nomatch z
      · rw [B5.de]; exact fun z => nomatch z
      · rw [B5.gi.at']; exact fun z => nomatch z) (live al4 fun x => k5.free)
    have nd5 : ([s', hd', a1, a2] ++ ([p, lc, ld, lg] ++ vl :: f :: [th, hl, d, c])).Nodup := nd_app (H := H5) (L1 := [s', hd', a1, a2]) (by
      simp only [List.nodup_cons, List.mem_cons, List.not_mem_nil, or_false, not_or, not_false_eq_true, List.nodup_nil, and_true]
      exact ⟨⟨S6.st.ne.symm, ns6.1, ns6.2.1⟩, ⟨nh6.1, nh6.2.1⟩, ns6.2.2.2.2⟩) nd4 (fun x hx => by
      simp only [List.mem_cons, List.not_mem_nil, or_false] at hx
      rcases hx with rfl | rfl | rfl | rfl
      · exact hs6
      · exact hhd6
      · exact h61
      · exact h62) al5
    have al6 : ∀ y ∈ [s', hd', a1, a2] ++ ([p, lc, ld, lg] ++ vl :: f :: [th, hl, d, c]), H6 y ≠ none := live_app (fun y hy => by
      simp only [List.mem_cons, List.not_mem_nil, or_false] at hy
      rcases hy with rfl | rfl | rfl | rfl
      · rw [S6.st.ob]; exact fun z => nomatch z
      · obtain ⟨kv, e'⟩ := S6.st.here.obj
        rw [e']; exact fun z => nomatch z
      · rw [S6.h1]; exact fun z => nomatch z
      · rw [S6.h2]; exact fun z => nomatch z) (live al5 fun x => k6.free)
    have nd6 : (e :: ([s', hd', a1, a2] ++ ([p, lc, ld, lg] ++ vl :: f :: [th, hl, d, c]))).Nodup := nd_app (H := H6) (L1 := [e]) (by simp) nd5 (by simpa using he7) al6
    have al7 : ∀ y ∈ e :: ([s', hd', a1, a2] ++ ([p, lc, ld, lg] ++ vl :: f :: [th, hl, d, c])), H7 y ≠ none := live_app (L1 := [e]) (fun y hy => by
      obtain rfl : y = e := by simpa using hy
      rw [ee7]
      exact fun z => nomatch z) (live al6 fun x => k7.free)
    have nd : [m, e, s', hd', a1, a2, p, lc, ld, lg, vl, f, th, hl, d, c].Nodup := nd_app (H := H7) (L1 := [m]) (by simp) nd6 (by simpa using hm8) al7
    have D8 : Deck H8 d c _ := D6.kp (M := []) (Kp.of k68) (by simp) (by simp)
    have k58 := Same.trans k6 k68
    have g1 : ∀ b o, H b = some o → H1 b = some o := k1
    have g2 : ∀ b o, H b = some o → H2 b = some o := fun b o e => x2.p _ _ (by simpa using ne_of_none e hd) (k1 _ _ e)
    have g3 : ∀ b o, H b = some o → H3 b = some o := fun b o e => k3 _ _ (g2 b o e)
    have g4 : ∀ b o, H b = some o → H4 b = some o := fun b o e => k4 _ _ (g3 b o e)
    have g5 : ∀ b o, H b = some o → H5 b = some o := fun b o e => k5 _ _ (g4 b o e)
    have g6 : ∀ b o, H b = some o → H6 b = some o := fun b o e => k6 _ _ (g5 b o e)
    have g7 : ∀ b o, H b = some o → H7 b = some o := fun b o e => k7 _ _ (g6 b o e)
    have g8 : ∀ b o, H b = some o → H8 b = some o := fun b o e => k8 _ _ (g7 b o e)
    have fr : ∀ {H' : Hp} {x : Addr}, (∀ b o, H b = some o → H' b = some o) → H' x = none → H x = none := fun {H' x} g hn => by
      cases e : H x with
      | none => rfl
      | some o => rw [g x o e] at hn; cases hn
    have W8 : W3 P w C_Book C_House H8 (A0 d c th hl f vl s' e m p lc ld lg hd' a1 a2) ⟨dy, dx, a3, a4, k0, cs, ds, hs, vs, [], [], [], H⟩ :=
      { inj := A0_inj nd
        dk := ⟨_, D8⟩
        sc := ⟨T6.same k68, F6.same k68, hin, V2.bk, (show cs.length ≤ 999 by omega)⟩
        eh := k58 _ _ ehl5
        el := k58 _ _ (k5 _ _ evl)
        ho := ⟨S6.st.same k68, B6.same k68, k68 _ _ S6.h1, List.nodup_nil, (fun q hq => by cases hq), k68 _ _ S6.h2, (fun q hq => by cases hq), hup, hin⟩
        ee := k8 _ _ ee7
        em := em8
        mt := fun q hq => by cases hq
        tr := rfl
        ml := Nat.zero_le _
        mn := Nat.zero_le _
        fb := g8
        fn := fun i hi => by
          show H _ = none
          match i, hi with
          | 0, _ => exact hd
          | 1, _ => exact hc
          | 2, _ => exact fr g1 hth
          | 3, _ => exact fr g1 hhl
          | 4, _ => exact fr g2 hf
          | 5, _ => exact fr g3 hvl
          | 6, _ => exact fr g5 hs6
          | 7, _ => exact fr g6 he7
          | 8, _ => exact fr g7 hm8
          | 9, _ => exact fr g4 hp
          | 10, _ => exact fr g4 hlc
          | 11, _ => exact fr g4 hld
          | 12, _ => exact fr g4 hlg
          | 13, _ => exact fr g5 hhd6
          | 14, _ => exact fr g5 h61
          | 15, _ => exact fr g5 h62
          | i + 16, hi => exact absurd hi (by omega) }
    have vok8 : VsOk ⟨dy, dx, a3, a4, k0, cs, ds, hs, vs, [], [], [], H⟩ := by
      refine ⟨?_, vlen, (show cs.length ≤ 999 by omega), fun v hv => ?_⟩
      · obtain ⟨n0, hn0, h2⟩ := hver
        have : n0 ∈ vs := (vmem n0).mpr ⟨hn0, V2.ver h2 (hin n0 hn0)⟩
        exact List.length_pos_of_mem this
      · exact ⟨((vmem v).mp hv).2, ((vmem v).mp hv).1⟩
    have hk8 : k0 = hs.length := hk0 (hup.imp fun {a b} h => by omega)
    have hq8 : SqL K H8 a0 (ns0.map V.int) := by
      have x18 : KX d H1 H8 := x2.trans (KX.of (Same.trans k3 (Same.trans k4 (Same.trans k5 k58))))
      rcases hS0 with (h | ⟨o, h⟩) | h
      · exact .inl (.inl (x18.p _ _ (by simpa using ne_of_none h hd) (k1 _ _ h)))
      · exact .inl (.inr ⟨o, x18.p _ _ (by simpa using ne_of_none h hd) (k1 _ _ h)⟩)
      · exact .inr h
    have hln : hs.length ≤ 9 := by have := rise_few hup hin; omega
    generalize hA : A0 d c th hl f vl s' e m p lc ld lg hd' a1 a2 = A at W8
    have e0 : A 0 = d := by rw [← hA]; rfl
    have e1 : A 1 = c := by rw [← hA]; rfl
    have e2' : A 2 = th := by rw [← hA]; rfl
    have e3 : A 3 = hl := by rw [← hA]; rfl
    have e4 : A 4 = f := by rw [← hA]; rfl
    have e5 : A 5 = vl := by rw [← hA]; rfl
    have e6 : A 6 = s' := by rw [← hA]; rfl
    have e7 : A 7 = e := by rw [← hA]; rfl
    have e8 : A 8 = m := by rw [← hA]; rfl
    generalize hS : (⟨dy, dx, a3, a4, k0, cs, ds, hs, vs, [], [], [], H⟩ : St3) = S at W8 vok8
    have sk : S.k = hs.length := by rw [← hS]; exact hk8
    have shs : S.hs = hs := by rw [← hS]
    have sB : S.B = H := by rw [← hS]
    have sms : S.ms = [] := by rw [← hS]
    have smm : S.mm = [] := by rw [← hS]
    subst e0 e1 e2' e3 e4 e5 e6 e7 e8
    clear hA hS
    have D9 : Deck H8 (A 0) (A 1) 100 := D8.mono (by omega)
    walk_at "g"
    refine w_seqJ (fun σ' H' => ∃ (A' : Nat → Addr) (S' : St3), σ' = [some (.ref a0), some (.ref (A 0)), some (.ref (A 2)), some (.ref (A 3)), some (.ref (A 4)), some (.ref (A 5)), some (.ref (A 6)), some (.ref (A 7)), some (.ref (A 8)), none, none, none, none, none, none, none, none, none, none] ∧ W3 P w C_Book C_House H' A' S' ∧ Nx3 A S A' S' ∧ S'.ms.length ≤ 52 ∧ S'.mm.length ≤ 52 ∧ Deck H' (A 0) (A 1) 153) ?_ fun U hU => ?_
    rotate_left
    · walk_at "g"
      refine w_draw D9 (by unfold MOSTD; omega) (by decide) (by decide) fun first H10 hfirst D10 o10 => ?_
      have W10 := W8.kx (D9.kx D10 o10) ⟨_, D10⟩
      walk_at "g"
      by_cases h0 : (first : Int) = 0
      · rw [decide_eq_true h0, if_pos rfl]
        walk_at "g"
        refine ⟨_, A, S, rfl, W10, vok8, D10, by unfold MOSTD; omega, sms, smm, fun H11 A' S' W11 nx hms hmm D11 => ?_⟩
        walk_at "g"
        exact hU _ _ ⟨A', S', rfl, W11, nx, hms, hmm, D11.mono (by omega)⟩
      · rw [decide_eq_false h0, if_neg (by decide), if_neg (by decide)]
        walk_at "g"
        exact hU _ _ ⟨A, S, rfl, W10, Nx3.refl, by rw [sms]; exact Nat.zero_le _, by rw [smm]; exact Nat.zero_le _, D10.mono (by omega)⟩
    rintro σ' Ha ⟨Aa, Sa, rfl, Wa, nxa, hmsa, hmma, Da⟩
    have eA := nxa.1
    walk_at "g"
    refine w_seq ?_
    walk_at "g"
    refine ⟨_, _, rfl, SD.scal trivial, fun Hb kb => ?_⟩
    have Wb := Wa.same kb
    have Db := Da.kp (M := []) (Kp.of kb) (by simp) (by simp)
    walk_at "g"
    refine ⟨153, Aa, Sa, by rw [eA 0 (by decide), eA 6 (by decide), eA 7 (by decide), eA 8 (by decide)]; rfl, Wb, by rw [eA 0 (by decide), eA 1 (by decide)]; exact Db, by unfold MOSTD; omega, fun Hc Wc Dc => ?_⟩
    rw [eA 0 (by decide), eA 1 (by decide)] at Dc
    have hq9 : SqL K Hc a0 (ns0.map V.int) := by
      have gc : ∀ b o, H b = some o → Hc b = some o := fun b o e => Wc.fb b o (by
        obtain ⟨_, ms', ls', mm', rfl⟩ := nxa
        rw [sB]
        exact e)
      rcases hS0 with (h | ⟨o, h⟩) | h
      · exact .inl (.inl (gc _ _ h))
      · exact .inl (.inr ⟨o, gc _ _ h⟩)
      · exact .inr h
    walk_at "g"
    refine lp_range (fun i σ H' => ∃ (y9 y10 y11 y12 y13 y14 y15 y16 y17 y18 : Option V) (A' : Nat → Addr) (S' : St3), σ = [some (.ref a0), some (.ref (A 0)), some (.ref (A 2)), some (.ref (A 3)), some (.ref (A 4)), some (.ref (A 5)), some (.ref (A 6)), some (.ref (A 7)), some (.ref (A 8)), y9, y10, y11, y12, y13, y14, y15, y16, y17, y18] ∧ W3 P w C_Book C_House H' A' S' ∧ Nx3 A S A' S' ∧ S'.ms.length ≤ 52 + 60 * i ∧ S'.mm.length ≤ 52 + 60 * i ∧ Deck H' (A 0) (A 1) (200 + 40 * i)) ⟨_, _, _, _, _, _, _, _, _, _, Aa, Sa, rfl, Wc, nxa, hmsa, hmma, Dc.mono (by omega)⟩ ?_ ?_
    · rintro i σ Hd hi ⟨y9, y10, y11, y12, y13, y14, y15, y16, y17, y18, A1, S1, rfl, W1, nx1, hms1, hmm1, D1'⟩
      have hi42 : i < 42 := by
        revert hi
        split <;> (intro hi; omega)
      have eA1 := nx1.1
      have vok1 := vok8.nx nx1
      rw [← eA1 0 (by decide), ← eA1 1 (by decide)] at D1'
      rw [← eA1 0 (by decide), ← eA1 1 (by decide), ← eA1 2 (by decide), ← eA1 3 (by decide), ← eA1 4 (by decide), ← eA1 5 (by decide), ← eA1 6 (by decide), ← eA1 7 (by decide), ← eA1 8 (by decide)]
      have nA : ∀ i j, i < 16 → j < 16 → i ≠ j → A1 i ≠ A1 j := fun i j hi hj hn e => hn (W1.inj i j hi hj e)
      walk_at "g"
      refine w_draw D1' (by unfold MOSTD; omega) (by decide) (by decide) fun again H10 hagain D10 o10 => ?_
      have W10 := W1.kx (D1'.kx D10 o10) ⟨_, D10⟩
      walk_at "g"
      refine w_draw D10 (by unfold MOSTD; omega) (by decide) (by decide) fun turn H11 hturn D11 o11 => ?_
      have W11 := W10.kx (D10.kx D11 o11) ⟨_, D11⟩
      walk_at "g"
      refine ⟨A1 0, A1 1, _, rfl, D11, by unfold MOSTD; omega, fun x H12 D12 x12 mx => ?_⟩
      have W12 := W11.kx x12 ⟨_, D12⟩
      walk_at "g"
      refine ⟨A1 0, A1 1, A1 7, A1 5, _, S1.ms, x, S1.vs, rfl, D12, by unfold MOSTD; omega, W12.ee, nA 7 0 (by omega) (by omega) (by omega), (mx _ KX.refl).1, W12.el, nA 5 0 (by omega) (by omega) (by omega), vok1.1, vok1.2.1, fun old0 H13 D13 x13 => ?_⟩
      have W13 := W12.kx x13 ⟨_, D13⟩
      walk_at "g"
      refine ⟨A1 0, A1 1, A1 2, A1 5, _, S1.cs, S1.vs, rfl, D13, by unfold MOSTD; omega, W13.sc.th', nA 2 0 (by omega) (by omega) (by omega), ?_, by have := vok1.2.2.1; omega, W13.el, nA 5 0 (by omega) (by omega) (by omega), vok1.1, vok1.2.1, fun new0 H14 D14 x14 => ?_⟩
      · have h1 := vok1.1
        obtain ⟨v, hv⟩ : ∃ v, v ∈ S1.vs := ⟨S1.vs[0], List.getElem_mem (by omega)⟩
        have := (vok1.2.2.2 v hv).1.lt
        omega
      have W14 := W13.kx x14 ⟨_, D14⟩
      have mk14 := mx _ (x13.trans x14)
      obtain ⟨ax, tx⟩ := mk14.1.ty
      have em14 := W14.em
      walk_at "g"
      refine w_seqJ (fun σ' H' => ∃ (old : Option Nat) (new : Option Int) (tm : Nat), σ' = [some (.ref a0), some (.ref (A1 0)), some (.ref (A1 2)), some (.ref (A1 3)), some (.ref (A1 4)), some (.ref (A1 5)), some (.ref (A1 6)), some (.ref (A1 7)), some (.ref (A1 8)), some (.int (0 + (i : Int))), some (.int (again : Int)), some (.int (turn : Int)), some x, some (oV old), some (iV new), some (.int (tm : Int)), y16, y17, y18] ∧ tm ≤ 60 ∧ KX (A1 0) H14 H' ∧ Deck H' (A1 0) (A1 1) (200 + 40 * i + 21)) ?_ fun U hU => ?_
      rotate_left
      · have skip : U [some (.ref a0), some (.ref (A1 0)), some (.ref (A1 2)), some (.ref (A1 3)), some (.ref (A1 4)), some (.ref (A1 5)), some (.ref (A1 6)), some (.ref (A1 7)), some (.ref (A1 8)), some (.int (0 + (i : Int))), some (.int (again : Int)), some (.int (turn : Int)), some x, some (oV old0), some (iV new0), some (.int 1), y16, y17, y18] H14 := hU _ _ ⟨old0, new0, 1, rfl, by omega, KX.refl, D14.mono (by omega)⟩
        walk_at "g"
        by_cases ha : (again : Int) = 0
        · rw [decide_eq_true ha, if_pos rfl]
          walk_at "g"
          by_cases hl : ((List.map (fun q : Addr × Mv => V.ref q.fst) S1.mm).length : Int) < 151
          · rw [decide_eq_true hl, if_pos rfl]
            walk_at "g"
            refine w_isStr tx ?_
            walk_at "g"
            by_cases hs : ax = "str"
            · rw [decide_eq_true hs, if_pos rfl]
              obtain ⟨z, rfl⟩ := tx.isStr hs
              walk_at "g"
              refine w_dinZ W14.ee ?_
              rw [mkK_val]
              cases hlk : S1.ms.lookup z with
              | none =>
                rw [show (Option.map nV (none : Option Nat)).isSome = false from rfl]
                walk_at "g"
                exact skip
              | some v =>
                rw [show (Option.map nV (some v)).isSome = true from rfl]
                walk_at "g"
                refine w_dgetZ W14.ee (v := nV v) (by rw [mkK_val, hlk]; rfl) ?_
                walk_at "g"
                refine w_draw D14 (by unfold MOSTD; omega) (by decide) (by decide) fun j H15 hj D15 o15 => ?_
                walk_at "g"
                rw [show (1 : Int) + (j : Int) = ((1 + j : Nat) : Int) by omega]
                exact hU _ _ ⟨some v, some (v : Int), 1 + j, rfl, by omega, D14.kx D15 o15, D15.mono (by omega)⟩
            · rw [decide_eq_false hs, if_neg (by decide), if_neg (by decide)]
              walk_at "g"
              exact skip
          · rw [decide_eq_false hl, if_neg (by decide), if_neg (by decide)]
            walk_at "g"
            exact skip
        · rw [decide_eq_false ha, if_neg (by decide), if_neg (by decide)]
          walk_at "g"
          exact skip
      rintro σ' Hd0 ⟨old, new, tm, rfl, htm, x15, D15⟩
      have W15 := W14.kx x15 ⟨_, D15⟩
      have mk15 := mx _ ((x13.trans x14).trans x15)
      walk_at "g"
      refine lp_range (fun t σ H' => ∃ (y16 y17 y18 : Option V) (A2 : Nat → Addr) (S2 : St3), σ = [some (.ref a0), some (.ref (A1 0)), some (.ref (A1 2)), some (.ref (A1 3)), some (.ref (A1 4)), some (.ref (A1 5)), some (.ref (A1 6)), some (.ref (A1 7)), some (.ref (A1 8)), some (.int (0 + (i : Int))), some (.int (again : Int)), some (.int (turn : Int)), some x, some (oV old), some (iV new), some (.int (tm : Int)), y16, y17, y18] ∧ W3 P w C_Book C_House H' A2 S2 ∧ Nx3 A1 S1 A2 S2 ∧ S2.ms.length ≤ 52 + 60 * i + t ∧ S2.mm.length ≤ 52 + 60 * i + t ∧ Deck H' (A1 0) (A1 1) (200 + 40 * i + 21) ∧ MkS H' x) ⟨_, _, _, A1, S1, rfl, W15, Nx3.refl, hms1, hmm1, D15, mk15⟩ ?_ ?_
      · rintro t σ Ht ht ⟨y16, y17, y18, A2, S2, rfl, W2, nx2, hms2, hmm2, D2', mk2⟩
        have ht60 : t < 60 := by omega
        have eA2 := nx2.1
        have vok2 := vok1.nx nx2
        rw [← eA2 0 (by decide), ← eA2 1 (by decide)] at D2'
        rw [← eA2 0 (by decide), ← eA2 1 (by decide), ← eA2 2 (by decide), ← eA2 3 (by decide), ← eA2 4 (by decide), ← eA2 5 (by decide), ← eA2 6 (by decide), ← eA2 7 (by decide), ← eA2 8 (by decide)]
        walk_at "g"
        refine ⟨A2 2, A2 4, A2 7, S2.cs, S2.hs, S2.ms, x, 1000, old, new, turn, rfl, W2.sc, W2.ee, mk2.1, by omega, fun H21 u k21 hu21 => ?_⟩
        have W21 := W2.same k21
        have mk21 := mk2.kd k21
        have D21 := D2'.kp (M := []) (Kp.of k21) (by simp) (by simp)
        walk_at "g"
        refine ⟨A2 6, S2.dy, A2 9, S2.dx, A2 10, A2 11, A2 12, A2 13, A2 14, A2 15, S2.a3, S2.a4, S2.cs, S2.ds, S2.k, S2.hs, S2.ms, S2.ls, x, 1000, old, new, turn, rfl, W21.ho, W21.sc.ok, vok2.2.2.1, fun e => absurd (W21.inj 14 6 (by omega) (by omega) e) (by decide), fun e => absurd (W21.inj 13 14 (by omega) (by omega) e) (by decide), W21.ml, by have := W21.few; omega, mk21.1, by omega, fun hne H22 td k22 htd => ?_, fun heq z nw a2' r td y H22 ex en k22 t22 ha2 hr2 ho22 hy etd => ?_⟩
        · have W22 := W21.same k22
          have mk22 := mk21.kd k22
          have D22 := D21.kp (M := []) (Kp.of k22) (by simp) (by simp)
          have hu22 := hu21.same k22
          walk_at "g"
          refine w_seq ?_
          walk_at "g"
          refine ⟨A2 2, A2 4, u, td, S2.cs, S2.hs, S2.ms, x, .non, old, none, new, _, rfl, W22.sc, mk22, hu22, .inl ⟨hne, htd⟩, fun H23 k23 => ?_⟩
          have W23 := W22.same k23
          obtain ⟨zh, xh, eh, hzh⟩ := (hu22.same k23).head
          have at0 : atI (V.str zh :: xh) 0 = some (.str zh) := atI_nat (j := 0) rfl
          walk_at "g"
          rw [hzh, show isOkM (dueM S2.cs S2.hs S2.ms x old new (decide (turn = 2))) = false by
            revert hne
            cases dueM S2.cs S2.hs S2.ms x old new (decide (turn = 2)) <;> intro hne <;> first | rfl | exact absurd rfl hne]
          walk_at "g"
          exact ⟨_, _, _, A2, S2, rfl, W23, nx2, by omega, by omega, D22.kp (M := []) (Kp.of k23) (by simp) (by simp), mk22.kd k23⟩
        · rw [heq] at hu21
          obtain ⟨hg, z0, ez0, hz0⟩ := dueM_good heq
          subst ex
          obtain rfl : z = z0 := V.str.inj ez0
          have hu22 : DueAt H22 S2.cs S2.hs S2.ms (.str z) new u .ok := t22 _ _ hu21
          have n6 : ∀ j, j < 16 → j ≠ 6 → j ≠ 14 → A2 j ∉ [A2 6, A2 14] := fun j hj h6 h14 h => by
            simp only [List.mem_cons, List.not_mem_nil, or_false] at h
            rcases h with h | h
            · exact h6 (W21.inj _ _ hj (by omega) h)
            · exact h14 (W21.inj _ _ hj (by omega) h)
          have sc22 : LScn H22 (A2 2) (A2 4) S2.cs S2.hs := ⟨W21.sc.th'.kp k22 t22 (n6 2 (by omega) (by omega) (by omega)), W21.sc.he.kp k22 (n6 4 (by omega) (by omega) (by omega)), W21.sc.in', W21.sc.ok, W21.sc.few⟩
          have mkz : ∀ H', MkS H' (.str z) := fun H' => MkS.txt (by have := hz0.2.1; omega)
          have D22 := D21.kp k22 (n6 0 (by omega) (by omega) (by omega)) (n6 1 (by omega) (by omega) (by omega))
          have ee22 : H22 (A2 7) = _ := k22 _ _ (n6 7 (by omega) (by omega) (by omega)) W21.ee
          have em22 : H22 (A2 8) = _ := k22 _ _ (n6 8 (by omega) (by omega) (by omega)) W21.em
          walk_at "g"
          refine w_seq ?_
          walk_at "g"
          refine ⟨A2 2, A2 4, u, td, S2.cs, S2.hs, S2.ms, .str z, y, old, nw, new, .ok, rfl, sc22, mkz _, hu22, .inr ⟨rfl, etd, en, hg, hy⟩, fun H23 k23 => ?_⟩
          have eu23 : H23 u = some (.tup [.str "told"]) := k23 _ _ hu22
          have at0 : atI [V.str "told"] 0 = some (.str "told") := atI_nat (j := 0) rfl
          walk_at "g"
          rw [decide_eq_true (show (Str.ofString "told") = Str.ofString "told" from rfl)]
          walk_at "g"
          subst en
          have ee23 := k23 _ _ ee22
          have em23 := k23 _ _ em22
          refine ⟨A2 7, S2.ms, z, nw, (by rw [iV_map] <;> rfl), ee23, by have := W21.ml; omega, fun H24 ee24 o24 => ?_⟩
          have n78 : A2 7 ≠ A2 8 := fun e => absurd (W21.inj 7 8 (by omega) (by omega) e) (by decide)
          have em24 := o24.get n78.symm em23
          walk_at "g"
          refine w_new fun l H25 hl el25 k25 => ?_
          have em25 := k25 _ _ em24
          walk_at "g"
          refine w_app em25 (by rw [List.length_map]; exact Nat.lt_of_le_of_lt W21.mn (by decide)) fun H26 em26 o26 => ?_
          have ee26 := o26.get n78 (k25 _ _ ee24)
          have t26 : KT H25 H26 := KT.offL o26 em25
          have t24 : KT H23 H24 := KT.offD o24 ee23
          have kp2 : Kp [A2 7, A2 8] H22 H26 := fun b v hb e => by
            simp only [List.mem_cons, List.not_mem_nil, or_false, not_or] at hb
            exact o26.get hb.2 (k25 _ _ (o24.get hb.1 (k23 _ _ e)))
          have kt2 : KT H22 H26 := (KT.of k23).trans (t24.trans ((KT.of k25).trans t26))
          have el26 : MvAt H26 l ⟨z, old, nw, decide (turn = 2)⟩ := by
            show H26 l = some (.tup [.str z, oV old, oV nw, .bl (decide (turn = 2))])
            have h1 := t26 _ _ el25
            rw [iV_map, show decide ((turn : Int) = 2) = decide (turn = 2) by rw [decide_eq_decide]; omega] at h1
            exact h1
          have W26 := W21.step (v := ⟨z, old, nw, decide (turn = 2)⟩) (l := l) ha2 (by omega) (by omega) k22 t22 ho22 kp2 kt2 ee26 (by rw [List.map_append]; exact em26) el26
          have n7 : ∀ j, j < 16 → j ≠ 7 → j ≠ 8 → A2 j ∉ [A2 7, A2 8] := fun j hj h6 h14 h => by
            simp only [List.mem_cons, List.not_mem_nil, or_false] at h
            rcases h with h | h
            · exact h6 (W21.inj _ _ hj (by omega) h)
            · exact h14 (W21.inj _ _ hj (by omega) h)
          refine ⟨_, _, _, setA A2 15 a2', _, rfl, W26, nx2.trans Nx3.set, ?_, ?_, D22.kp kp2 (n7 0 (by omega) (by omega) (by omega)) (n7 1 (by omega) (by omega) (by omega)), mkz _⟩
          · have := putMs_few S2.ms z nw
            show (putM S2.ms z nw).length ≤ _
            omega
          · show (S2.mm ++ [(l, _)]).length ≤ _
            rw [List.length_append, List.length_cons, List.length_nil]
            omega
      · rintro σ Ht ⟨y16, y17, y18, A2, S2, rfl, W2, nx2, hms2, hmm2, D2', mk2⟩
        have eA2 := nx2.1
        rw [← eA2 0 (by decide), ← eA2 1 (by decide)] at D2'
        rw [← eA2 0 (by decide), ← eA2 1 (by decide), ← eA2 2 (by decide), ← eA2 3 (by decide), ← eA2 4 (by decide), ← eA2 5 (by decide), ← eA2 6 (by decide), ← eA2 7 (by decide), ← eA2 8 (by decide)]
        walk_at "g"
        refine ⟨_, A2, S2, rfl, W2, D2', by unfold MOSTD; omega, fun H30 W30 D30 => ?_⟩
        walk_at "g"
        exact ⟨_, _, _, _, _, _, _, _, _, _, A2, S2, rfl, W30, nx1.trans nx2, by omega, by omega, D30.mono (by omega)⟩
    · rintro σ Hd ⟨y9, y10, y11, y12, y13, y14, y15, y16, y17, y18, A1, S1, rfl, W1, nx1, hms1, hmm1, D1'⟩
      have eA1 := nx1.1
      obtain ⟨_, ms', ls', mm', rfl⟩ := nx1
      have ob1 := W1.ho.st.ob
      rw [eA1 6 (by decide)] at ob1
      walk_at "g"
      refine ⟨A1 6, S.dy, A1 9, A1 13, hrs (A1 14) (A1 15) S.a3 S.a4, S.k, _, (by rw [eA1 6 (by decide)] <;> rfl), W1.ho.st, fun ns l H20 hup2 hmem2 hnl2 hl2 el2 k20 => ?_⟩
      have W20 := W1.same k20
      obtain rfl : ns = S.hs := rise_ext hup2 W1.ho.up hmem2
      have eh20 : H20 (A 3) = some (.lst (S.hs.map nV)) := by rw [← eA1 3 (by decide)]; exact W20.eh
      walk_at "g"
      refine ⟨_, _, rfl, sd_natl el2 eh20 (by rw [shs]; omega), fun H21 k21 => ?_⟩
      have W21 := W20.same k21
      have ob21 := W21.ho.st.ob
      rw [eA1 6 (by decide)] at ob21
      walk_at "g"
      refine ⟨A1 6, S.dy, A1 9, A1 13, hrs (A1 14) (A1 15) S.a3 S.a4, S.k, _, (by rw [eA1 6 (by decide)] <;> rfl), W21.ho.st, ?_⟩
      have eh21 : H21 (A 3) = some (.lst (S.hs.map nV)) := by rw [← eA1 3 (by decide)]; exact W21.eh
      walk_at "g"
      refine ⟨_, _, rfl, ?_, fun H22 k22 => ?_⟩
      · rw [List.length_map, sk, shs]
        exact SD.scal trivial
      · exact q _
end
theorem all_mk {l : PySem.W.OpenLaw} {w : World} {K : PySem.W.Frag} {h : Heap} {mg : Str → Option Value} {fa f_NoName___init__ f_Lack___init__ f_NoMark___init__ f_Stale___init__ f_NotAhead___init__ f_is_int f_is_text f_is_label f_rise f_are_ints f_rising_ints f_is_pair f_are_rows f_held_parents f_edges_of f_way f_Book___init__ f_Book_named f_Book_thing f_Book_kind f_Book_parts f_is_name f_is_kind f_is_entry f_is_tree f_depth_of f_is_version f_is_content f_Holding___init__ f_Holding_holds f_Store___init__ f_Store_put f_Store_held f_Store_view f_Store_holds f_Store_changes f_House___init__ f_House_marks f_House_at f_House_must_have f_House_move f_House_trail f_law_deck f_law_mixed f_law_draw f_law_label f_law_give f_law_some f_law_book f_law_house f_law_int f_law_same f_law_parents f_law_lower f_law_brims f_law_is_walk f_law_way_told f_law_here f_law_is_label f_law_mark f_law_goes f_law_was f_law_moved f_law_is_version f_law_move_due f_law_move_right f_law_set f_law_pairs f_law_at f_law_scene f_law_versions f_law_state_right f_law_set_all f_law C_Book C_Holding C_Store C_House : Addr} (X : K.In h) (G : h.Ns mainGlobals mg) (hfa : mg "law" = some (.ref fa))
    {od_NoName___init__ an_NoName___init__ : Option Addr} {sl_NoName___init__ : Array (Option Value)} {oc_NoName___init__ kV_NoName___init__ dc_NoName___init__ pm_NoName___init__ cd_NoName___init__ ct_NoName___init__ : Value}
    (l_NoName___init__ : K.lookup f_NoName___init__ = some ⟨oc_NoName___init__, od_NoName___init__, .func (PySem.W.fnOf "__init__" "NoName.__init__" (defArgs s_NoName___init__) (defBody s_NoName___init__) (defScope s_NoName___init__) .none kV_NoName___init__ dc_NoName___init__ pm_NoName___init__ an_NoName___init__ cd_NoName___init__ ct_NoName___init__), sl_NoName___init__⟩) (c_NoName___init__ : PySem.W.codeIn K cd_NoName___init__ "NoName.__init__" = true) (k_NoName___init__ : PySem.W.keepIn K (.ref f_NoName___init__) = true)
    {od_Lack___init__ an_Lack___init__ : Option Addr} {sl_Lack___init__ : Array (Option Value)} {oc_Lack___init__ kV_Lack___init__ dc_Lack___init__ pm_Lack___init__ cd_Lack___init__ ct_Lack___init__ : Value}
    (l_Lack___init__ : K.lookup f_Lack___init__ = some ⟨oc_Lack___init__, od_Lack___init__, .func (PySem.W.fnOf "__init__" "Lack.__init__" (defArgs s_Lack___init__) (defBody s_Lack___init__) (defScope s_Lack___init__) .none kV_Lack___init__ dc_Lack___init__ pm_Lack___init__ an_Lack___init__ cd_Lack___init__ ct_Lack___init__), sl_Lack___init__⟩) (c_Lack___init__ : PySem.W.codeIn K cd_Lack___init__ "Lack.__init__" = true) (k_Lack___init__ : PySem.W.keepIn K (.ref f_Lack___init__) = true)
    {od_NoMark___init__ an_NoMark___init__ : Option Addr} {sl_NoMark___init__ : Array (Option Value)} {oc_NoMark___init__ kV_NoMark___init__ dc_NoMark___init__ pm_NoMark___init__ cd_NoMark___init__ ct_NoMark___init__ : Value}
    (l_NoMark___init__ : K.lookup f_NoMark___init__ = some ⟨oc_NoMark___init__, od_NoMark___init__, .func (PySem.W.fnOf "__init__" "NoMark.__init__" (defArgs s_NoMark___init__) (defBody s_NoMark___init__) (defScope s_NoMark___init__) .none kV_NoMark___init__ dc_NoMark___init__ pm_NoMark___init__ an_NoMark___init__ cd_NoMark___init__ ct_NoMark___init__), sl_NoMark___init__⟩) (c_NoMark___init__ : PySem.W.codeIn K cd_NoMark___init__ "NoMark.__init__" = true) (k_NoMark___init__ : PySem.W.keepIn K (.ref f_NoMark___init__) = true)
    {od_Stale___init__ an_Stale___init__ : Option Addr} {sl_Stale___init__ : Array (Option Value)} {oc_Stale___init__ kV_Stale___init__ dc_Stale___init__ pm_Stale___init__ cd_Stale___init__ ct_Stale___init__ : Value}
    (l_Stale___init__ : K.lookup f_Stale___init__ = some ⟨oc_Stale___init__, od_Stale___init__, .func (PySem.W.fnOf "__init__" "Stale.__init__" (defArgs s_Stale___init__) (defBody s_Stale___init__) (defScope s_Stale___init__) .none kV_Stale___init__ dc_Stale___init__ pm_Stale___init__ an_Stale___init__ cd_Stale___init__ ct_Stale___init__), sl_Stale___init__⟩) (c_Stale___init__ : PySem.W.codeIn K cd_Stale___init__ "Stale.__init__" = true) (k_Stale___init__ : PySem.W.keepIn K (.ref f_Stale___init__) = true)
    {od_NotAhead___init__ an_NotAhead___init__ : Option Addr} {sl_NotAhead___init__ : Array (Option Value)} {oc_NotAhead___init__ kV_NotAhead___init__ dc_NotAhead___init__ pm_NotAhead___init__ cd_NotAhead___init__ ct_NotAhead___init__ : Value}
    (l_NotAhead___init__ : K.lookup f_NotAhead___init__ = some ⟨oc_NotAhead___init__, od_NotAhead___init__, .func (PySem.W.fnOf "__init__" "NotAhead.__init__" (defArgs s_NotAhead___init__) (defBody s_NotAhead___init__) (defScope s_NotAhead___init__) .none kV_NotAhead___init__ dc_NotAhead___init__ pm_NotAhead___init__ an_NotAhead___init__ cd_NotAhead___init__ ct_NotAhead___init__), sl_NotAhead___init__⟩) (c_NotAhead___init__ : PySem.W.codeIn K cd_NotAhead___init__ "NotAhead.__init__" = true) (k_NotAhead___init__ : PySem.W.keepIn K (.ref f_NotAhead___init__) = true)
    {od_is_int an_is_int : Option Addr} {sl_is_int : Array (Option Value)} {oc_is_int kV_is_int dc_is_int pm_is_int cd_is_int ct_is_int : Value}
    (a_is_int : PySem.W.nsIn K mainGlobals "is_int" = some (some (.ref f_is_int)))
    {dt_is_int : Addr} {do_is_int : Value} {dd_is_int : Option Addr} {dn_is_int : Nat} {ds_is_int : Array (Option Value)} {dk_is_int_least : Tok}
    (l_is_int : K.lookup f_is_int = some ⟨oc_is_int, od_is_int, .func (PySem.W.fnOf "is_int" "is_int" (defArgs s_is_int) (defBody s_is_int) (defScope s_is_int) (.ref dt_is_int) kV_is_int dc_is_int pm_is_int an_is_int cd_is_int ct_is_int), sl_is_int⟩) (c_is_int : PySem.W.codeIn K cd_is_int "is_int" = true) (k_is_int : PySem.W.keepIn K (.ref f_is_int) = true)
    (dl_is_int : K.lookup dt_is_int = some ⟨do_is_int, dd_is_int, .seq #[.int 0 dk_is_int_least] dn_is_int, ds_is_int⟩)
    {od_is_text an_is_text : Option Addr} {sl_is_text : Array (Option Value)} {oc_is_text kV_is_text dc_is_text pm_is_text cd_is_text ct_is_text : Value}
    (a_is_text : PySem.W.nsIn K mainGlobals "is_text" = some (some (.ref f_is_text)))
    {dt_is_text : Addr} {do_is_text : Value} {dd_is_text : Option Addr} {dn_is_text : Nat} {ds_is_text : Array (Option Value)} {dk_is_text_most : Tok}
    (l_is_text : K.lookup f_is_text = some ⟨oc_is_text, od_is_text, .func (PySem.W.fnOf "is_text" "is_text" (defArgs s_is_text) (defBody s_is_text) (defScope s_is_text) (.ref dt_is_text) kV_is_text dc_is_text pm_is_text an_is_text cd_is_text ct_is_text), sl_is_text⟩) (c_is_text : PySem.W.codeIn K cd_is_text "is_text" = true) (k_is_text : PySem.W.keepIn K (.ref f_is_text) = true)
    (dl_is_text : K.lookup dt_is_text = some ⟨do_is_text, dd_is_text, .seq #[.int 40 dk_is_text_most] dn_is_text, ds_is_text⟩)
    {od_is_label an_is_label : Option Addr} {sl_is_label : Array (Option Value)} {oc_is_label kV_is_label dc_is_label pm_is_label cd_is_label ct_is_label : Value}
    (a_is_label : PySem.W.nsIn K mainGlobals "is_label" = some (some (.ref f_is_label)))
    (l_is_label : K.lookup f_is_label = some ⟨oc_is_label, od_is_label, .func (PySem.W.fnOf "is_label" "is_label" (defArgs s_is_label) (defBody s_is_label) (defScope s_is_label) .none kV_is_label dc_is_label pm_is_label an_is_label cd_is_label ct_is_label), sl_is_label⟩) (c_is_label : PySem.W.codeIn K cd_is_label "is_label" = true) (k_is_label : PySem.W.keepIn K (.ref f_is_label) = true)
    {od_rise an_rise : Option Addr} {sl_rise : Array (Option Value)} {oc_rise kV_rise dc_rise pm_rise cd_rise ct_rise : Value}
    (a_rise : PySem.W.nsIn K mainGlobals "rise" = some (some (.ref f_rise)))
    (l_rise : K.lookup f_rise = some ⟨oc_rise, od_rise, .func (PySem.W.fnOf "rise" "rise" (defArgs s_rise) (defBody s_rise) (defScope s_rise) .none kV_rise dc_rise pm_rise an_rise cd_rise ct_rise), sl_rise⟩) (c_rise : PySem.W.codeIn K cd_rise "rise" = true) (k_rise : PySem.W.keepIn K (.ref f_rise) = true)
    {od_are_ints an_are_ints : Option Addr} {sl_are_ints : Array (Option Value)} {oc_are_ints kV_are_ints dc_are_ints pm_are_ints cd_are_ints ct_are_ints : Value}
    (a_are_ints : PySem.W.nsIn K mainGlobals "are_ints" = some (some (.ref f_are_ints)))
    (l_are_ints : K.lookup f_are_ints = some ⟨oc_are_ints, od_are_ints, .func (PySem.W.fnOf "are_ints" "are_ints" (defArgs s_are_ints) (defBody s_are_ints) (defScope s_are_ints) .none kV_are_ints dc_are_ints pm_are_ints an_are_ints cd_are_ints ct_are_ints), sl_are_ints⟩) (c_are_ints : PySem.W.codeIn K cd_are_ints "are_ints" = true) (k_are_ints : PySem.W.keepIn K (.ref f_are_ints) = true)
    {od_rising_ints an_rising_ints : Option Addr} {sl_rising_ints : Array (Option Value)} {oc_rising_ints kV_rising_ints dc_rising_ints pm_rising_ints cd_rising_ints ct_rising_ints : Value}
    (a_rising_ints : PySem.W.nsIn K mainGlobals "rising_ints" = some (some (.ref f_rising_ints)))
    (l_rising_ints : K.lookup f_rising_ints = some ⟨oc_rising_ints, od_rising_ints, .func (PySem.W.fnOf "rising_ints" "rising_ints" (defArgs s_rising_ints) (defBody s_rising_ints) (defScope s_rising_ints) .none kV_rising_ints dc_rising_ints pm_rising_ints an_rising_ints cd_rising_ints ct_rising_ints), sl_rising_ints⟩) (c_rising_ints : PySem.W.codeIn K cd_rising_ints "rising_ints" = true) (k_rising_ints : PySem.W.keepIn K (.ref f_rising_ints) = true)
    {od_is_pair an_is_pair : Option Addr} {sl_is_pair : Array (Option Value)} {oc_is_pair kV_is_pair dc_is_pair pm_is_pair cd_is_pair ct_is_pair : Value}
    (a_is_pair : PySem.W.nsIn K mainGlobals "is_pair" = some (some (.ref f_is_pair)))
    (l_is_pair : K.lookup f_is_pair = some ⟨oc_is_pair, od_is_pair, .func (PySem.W.fnOf "is_pair" "is_pair" (defArgs s_is_pair) (defBody s_is_pair) (defScope s_is_pair) .none kV_is_pair dc_is_pair pm_is_pair an_is_pair cd_is_pair ct_is_pair), sl_is_pair⟩) (c_is_pair : PySem.W.codeIn K cd_is_pair "is_pair" = true) (k_is_pair : PySem.W.keepIn K (.ref f_is_pair) = true)
    {od_are_rows an_are_rows : Option Addr} {sl_are_rows : Array (Option Value)} {oc_are_rows kV_are_rows dc_are_rows pm_are_rows cd_are_rows ct_are_rows : Value}
    (a_are_rows : PySem.W.nsIn K mainGlobals "are_rows" = some (some (.ref f_are_rows)))
    (l_are_rows : K.lookup f_are_rows = some ⟨oc_are_rows, od_are_rows, .func (PySem.W.fnOf "are_rows" "are_rows" (defArgs s_are_rows) (defBody s_are_rows) (defScope s_are_rows) .none kV_are_rows dc_are_rows pm_are_rows an_are_rows cd_are_rows ct_are_rows), sl_are_rows⟩) (c_are_rows : PySem.W.codeIn K cd_are_rows "are_rows" = true) (k_are_rows : PySem.W.keepIn K (.ref f_are_rows) = true)
    {od_held_parents an_held_parents : Option Addr} {sl_held_parents : Array (Option Value)} {oc_held_parents kV_held_parents dc_held_parents pm_held_parents cd_held_parents ct_held_parents : Value}
    (a_held_parents : PySem.W.nsIn K mainGlobals "held_parents" = some (some (.ref f_held_parents)))
    (l_held_parents : K.lookup f_held_parents = some ⟨oc_held_parents, od_held_parents, .func (PySem.W.fnOf "held_parents" "held_parents" (defArgs s_held_parents) (defBody s_held_parents) (defScope s_held_parents) .none kV_held_parents dc_held_parents pm_held_parents an_held_parents cd_held_parents ct_held_parents), sl_held_parents⟩) (c_held_parents : PySem.W.codeIn K cd_held_parents "held_parents" = true) (k_held_parents : PySem.W.keepIn K (.ref f_held_parents) = true)
    {od_edges_of an_edges_of : Option Addr} {sl_edges_of : Array (Option Value)} {oc_edges_of kV_edges_of dc_edges_of pm_edges_of cd_edges_of ct_edges_of : Value}
    (a_edges_of : PySem.W.nsIn K mainGlobals "edges_of" = some (some (.ref f_edges_of)))
    (l_edges_of : K.lookup f_edges_of = some ⟨oc_edges_of, od_edges_of, .func (PySem.W.fnOf "edges_of" "edges_of" (defArgs s_edges_of) (defBody s_edges_of) (defScope s_edges_of) .none kV_edges_of dc_edges_of pm_edges_of an_edges_of cd_edges_of ct_edges_of), sl_edges_of⟩) (c_edges_of : PySem.W.codeIn K cd_edges_of "edges_of" = true) (k_edges_of : PySem.W.keepIn K (.ref f_edges_of) = true)
    {od_way an_way : Option Addr} {sl_way : Array (Option Value)} {oc_way kV_way dc_way pm_way cd_way ct_way : Value}
    (a_way : PySem.W.nsIn K mainGlobals "way" = some (some (.ref f_way)))
    (l_way : K.lookup f_way = some ⟨oc_way, od_way, .func (PySem.W.fnOf "way" "way" (defArgs s_way) (defBody s_way) (defScope s_way) .none kV_way dc_way pm_way an_way cd_way ct_way), sl_way⟩) (c_way : PySem.W.codeIn K cd_way "way" = true) (k_way : PySem.W.keepIn K (.ref f_way) = true)
    {od_Book___init__ an_Book___init__ : Option Addr} {sl_Book___init__ : Array (Option Value)} {oc_Book___init__ kV_Book___init__ dc_Book___init__ pm_Book___init__ cd_Book___init__ ct_Book___init__ : Value}
    (a_Book___init__ : PySem.W.findIn K (.ref C_Book) "__init__" = some (some (.ref f_Book___init__))) (i_Book___init__ : PySem.W.isFn K (.ref f_Book___init__) = true)
    (l_Book___init__ : K.lookup f_Book___init__ = some ⟨oc_Book___init__, od_Book___init__, .func (PySem.W.fnOf "__init__" "Book.__init__" (defArgs s_Book___init__) (defBody s_Book___init__) (defScope s_Book___init__) .none kV_Book___init__ dc_Book___init__ pm_Book___init__ an_Book___init__ cd_Book___init__ ct_Book___init__), sl_Book___init__⟩) (c_Book___init__ : PySem.W.codeIn K cd_Book___init__ "Book.__init__" = true) (k_Book___init__ : PySem.W.keepIn K (.ref f_Book___init__) = true)
    {od_Book_named an_Book_named : Option Addr} {sl_Book_named : Array (Option Value)} {oc_Book_named kV_Book_named dc_Book_named pm_Book_named cd_Book_named ct_Book_named : Value}
    (a_Book_named : PySem.W.findIn K (.ref C_Book) "named" = some (some (.ref f_Book_named))) (i_Book_named : PySem.W.isFn K (.ref f_Book_named) = true)
    (l_Book_named : K.lookup f_Book_named = some ⟨oc_Book_named, od_Book_named, .func (PySem.W.fnOf "named" "Book.named" (defArgs s_Book_named) (defBody s_Book_named) (defScope s_Book_named) .none kV_Book_named dc_Book_named pm_Book_named an_Book_named cd_Book_named ct_Book_named), sl_Book_named⟩) (c_Book_named : PySem.W.codeIn K cd_Book_named "Book.named" = true) (k_Book_named : PySem.W.keepIn K (.ref f_Book_named) = true)
    {od_Book_thing an_Book_thing : Option Addr} {sl_Book_thing : Array (Option Value)} {oc_Book_thing kV_Book_thing dc_Book_thing pm_Book_thing cd_Book_thing ct_Book_thing : Value}
    (a_Book_thing : PySem.W.findIn K (.ref C_Book) "thing" = some (some (.ref f_Book_thing))) (i_Book_thing : PySem.W.isFn K (.ref f_Book_thing) = true)
    (l_Book_thing : K.lookup f_Book_thing = some ⟨oc_Book_thing, od_Book_thing, .func (PySem.W.fnOf "thing" "Book.thing" (defArgs s_Book_thing) (defBody s_Book_thing) (defScope s_Book_thing) .none kV_Book_thing dc_Book_thing pm_Book_thing an_Book_thing cd_Book_thing ct_Book_thing), sl_Book_thing⟩) (c_Book_thing : PySem.W.codeIn K cd_Book_thing "Book.thing" = true) (k_Book_thing : PySem.W.keepIn K (.ref f_Book_thing) = true)
    {od_Book_kind an_Book_kind : Option Addr} {sl_Book_kind : Array (Option Value)} {oc_Book_kind kV_Book_kind dc_Book_kind pm_Book_kind cd_Book_kind ct_Book_kind : Value}
    (a_Book_kind : PySem.W.findIn K (.ref C_Book) "kind" = some (some (.ref f_Book_kind))) (i_Book_kind : PySem.W.isFn K (.ref f_Book_kind) = true)
    (l_Book_kind : K.lookup f_Book_kind = some ⟨oc_Book_kind, od_Book_kind, .func (PySem.W.fnOf "kind" "Book.kind" (defArgs s_Book_kind) (defBody s_Book_kind) (defScope s_Book_kind) .none kV_Book_kind dc_Book_kind pm_Book_kind an_Book_kind cd_Book_kind ct_Book_kind), sl_Book_kind⟩) (c_Book_kind : PySem.W.codeIn K cd_Book_kind "Book.kind" = true) (k_Book_kind : PySem.W.keepIn K (.ref f_Book_kind) = true)
    {od_Book_parts an_Book_parts : Option Addr} {sl_Book_parts : Array (Option Value)} {oc_Book_parts kV_Book_parts dc_Book_parts pm_Book_parts cd_Book_parts ct_Book_parts : Value}
    (a_Book_parts : PySem.W.findIn K (.ref C_Book) "parts" = some (some (.ref f_Book_parts))) (i_Book_parts : PySem.W.isFn K (.ref f_Book_parts) = true)
    (l_Book_parts : K.lookup f_Book_parts = some ⟨oc_Book_parts, od_Book_parts, .func (PySem.W.fnOf "parts" "Book.parts" (defArgs s_Book_parts) (defBody s_Book_parts) (defScope s_Book_parts) .none kV_Book_parts dc_Book_parts pm_Book_parts an_Book_parts cd_Book_parts ct_Book_parts), sl_Book_parts⟩) (c_Book_parts : PySem.W.codeIn K cd_Book_parts "Book.parts" = true) (k_Book_parts : PySem.W.keepIn K (.ref f_Book_parts) = true)
    {od_is_name an_is_name : Option Addr} {sl_is_name : Array (Option Value)} {oc_is_name kV_is_name dc_is_name pm_is_name cd_is_name ct_is_name : Value}
    (a_is_name : PySem.W.nsIn K mainGlobals "is_name" = some (some (.ref f_is_name)))
    (l_is_name : K.lookup f_is_name = some ⟨oc_is_name, od_is_name, .func (PySem.W.fnOf "is_name" "is_name" (defArgs s_is_name) (defBody s_is_name) (defScope s_is_name) .none kV_is_name dc_is_name pm_is_name an_is_name cd_is_name ct_is_name), sl_is_name⟩) (c_is_name : PySem.W.codeIn K cd_is_name "is_name" = true) (k_is_name : PySem.W.keepIn K (.ref f_is_name) = true)
    {od_is_kind an_is_kind : Option Addr} {sl_is_kind : Array (Option Value)} {oc_is_kind kV_is_kind dc_is_kind pm_is_kind cd_is_kind ct_is_kind : Value}
    (a_is_kind : PySem.W.nsIn K mainGlobals "is_kind" = some (some (.ref f_is_kind)))
    (l_is_kind : K.lookup f_is_kind = some ⟨oc_is_kind, od_is_kind, .func (PySem.W.fnOf "is_kind" "is_kind" (defArgs s_is_kind) (defBody s_is_kind) (defScope s_is_kind) .none kV_is_kind dc_is_kind pm_is_kind an_is_kind cd_is_kind ct_is_kind), sl_is_kind⟩) (c_is_kind : PySem.W.codeIn K cd_is_kind "is_kind" = true) (k_is_kind : PySem.W.keepIn K (.ref f_is_kind) = true)
    {od_is_entry an_is_entry : Option Addr} {sl_is_entry : Array (Option Value)} {oc_is_entry kV_is_entry dc_is_entry pm_is_entry cd_is_entry ct_is_entry : Value}
    (a_is_entry : PySem.W.nsIn K mainGlobals "is_entry" = some (some (.ref f_is_entry)))
    (l_is_entry : K.lookup f_is_entry = some ⟨oc_is_entry, od_is_entry, .func (PySem.W.fnOf "is_entry" "is_entry" (defArgs s_is_entry) (defBody s_is_entry) (defScope s_is_entry) .none kV_is_entry dc_is_entry pm_is_entry an_is_entry cd_is_entry ct_is_entry), sl_is_entry⟩) (c_is_entry : PySem.W.codeIn K cd_is_entry "is_entry" = true) (k_is_entry : PySem.W.keepIn K (.ref f_is_entry) = true)
    {od_is_tree an_is_tree : Option Addr} {sl_is_tree : Array (Option Value)} {oc_is_tree kV_is_tree dc_is_tree pm_is_tree cd_is_tree ct_is_tree : Value}
    (a_is_tree : PySem.W.nsIn K mainGlobals "is_tree" = some (some (.ref f_is_tree)))
    (l_is_tree : K.lookup f_is_tree = some ⟨oc_is_tree, od_is_tree, .func (PySem.W.fnOf "is_tree" "is_tree" (defArgs s_is_tree) (defBody s_is_tree) (defScope s_is_tree) .none kV_is_tree dc_is_tree pm_is_tree an_is_tree cd_is_tree ct_is_tree), sl_is_tree⟩) (c_is_tree : PySem.W.codeIn K cd_is_tree "is_tree" = true) (k_is_tree : PySem.W.keepIn K (.ref f_is_tree) = true)
    {od_depth_of an_depth_of : Option Addr} {sl_depth_of : Array (Option Value)} {oc_depth_of kV_depth_of dc_depth_of pm_depth_of cd_depth_of ct_depth_of : Value}
    (a_depth_of : PySem.W.nsIn K mainGlobals "depth_of" = some (some (.ref f_depth_of)))
    (l_depth_of : K.lookup f_depth_of = some ⟨oc_depth_of, od_depth_of, .func (PySem.W.fnOf "depth_of" "depth_of" (defArgs s_depth_of) (defBody s_depth_of) (defScope s_depth_of) .none kV_depth_of dc_depth_of pm_depth_of an_depth_of cd_depth_of ct_depth_of), sl_depth_of⟩) (c_depth_of : PySem.W.codeIn K cd_depth_of "depth_of" = true) (k_depth_of : PySem.W.keepIn K (.ref f_depth_of) = true)
    {od_is_version an_is_version : Option Addr} {sl_is_version : Array (Option Value)} {oc_is_version kV_is_version dc_is_version pm_is_version cd_is_version ct_is_version : Value}
    (a_is_version : PySem.W.nsIn K mainGlobals "is_version" = some (some (.ref f_is_version)))
    (l_is_version : K.lookup f_is_version = some ⟨oc_is_version, od_is_version, .func (PySem.W.fnOf "is_version" "is_version" (defArgs s_is_version) (defBody s_is_version) (defScope s_is_version) .none kV_is_version dc_is_version pm_is_version an_is_version cd_is_version ct_is_version), sl_is_version⟩) (c_is_version : PySem.W.codeIn K cd_is_version "is_version" = true) (k_is_version : PySem.W.keepIn K (.ref f_is_version) = true)
    {od_is_content an_is_content : Option Addr} {sl_is_content : Array (Option Value)} {oc_is_content kV_is_content dc_is_content pm_is_content cd_is_content ct_is_content : Value}
    (a_is_content : PySem.W.nsIn K mainGlobals "is_content" = some (some (.ref f_is_content)))
    (l_is_content : K.lookup f_is_content = some ⟨oc_is_content, od_is_content, .func (PySem.W.fnOf "is_content" "is_content" (defArgs s_is_content) (defBody s_is_content) (defScope s_is_content) .none kV_is_content dc_is_content pm_is_content an_is_content cd_is_content ct_is_content), sl_is_content⟩) (c_is_content : PySem.W.codeIn K cd_is_content "is_content" = true) (k_is_content : PySem.W.keepIn K (.ref f_is_content) = true)
    {od_Holding___init__ an_Holding___init__ : Option Addr} {sl_Holding___init__ : Array (Option Value)} {oc_Holding___init__ kV_Holding___init__ dc_Holding___init__ pm_Holding___init__ cd_Holding___init__ ct_Holding___init__ : Value}
    (a_Holding___init__ : PySem.W.findIn K (.ref C_Holding) "__init__" = some (some (.ref f_Holding___init__))) (i_Holding___init__ : PySem.W.isFn K (.ref f_Holding___init__) = true)
    (l_Holding___init__ : K.lookup f_Holding___init__ = some ⟨oc_Holding___init__, od_Holding___init__, .func (PySem.W.fnOf "__init__" "Holding.__init__" (defArgs s_Holding___init__) (defBody s_Holding___init__) (defScope s_Holding___init__) .none kV_Holding___init__ dc_Holding___init__ pm_Holding___init__ an_Holding___init__ cd_Holding___init__ ct_Holding___init__), sl_Holding___init__⟩) (c_Holding___init__ : PySem.W.codeIn K cd_Holding___init__ "Holding.__init__" = true) (k_Holding___init__ : PySem.W.keepIn K (.ref f_Holding___init__) = true)
    {od_Holding_holds an_Holding_holds : Option Addr} {sl_Holding_holds : Array (Option Value)} {oc_Holding_holds kV_Holding_holds dc_Holding_holds pm_Holding_holds cd_Holding_holds ct_Holding_holds : Value}
    (a_Holding_holds : PySem.W.findIn K (.ref C_Holding) "holds" = some (some (.ref f_Holding_holds))) (i_Holding_holds : PySem.W.isFn K (.ref f_Holding_holds) = true)
    (l_Holding_holds : K.lookup f_Holding_holds = some ⟨oc_Holding_holds, od_Holding_holds, .func (PySem.W.fnOf "holds" "Holding.holds" (defArgs s_Holding_holds) (defBody s_Holding_holds) (defScope s_Holding_holds) .none kV_Holding_holds dc_Holding_holds pm_Holding_holds an_Holding_holds cd_Holding_holds ct_Holding_holds), sl_Holding_holds⟩) (c_Holding_holds : PySem.W.codeIn K cd_Holding_holds "Holding.holds" = true) (k_Holding_holds : PySem.W.keepIn K (.ref f_Holding_holds) = true)
    {od_Store___init__ an_Store___init__ : Option Addr} {sl_Store___init__ : Array (Option Value)} {oc_Store___init__ kV_Store___init__ dc_Store___init__ pm_Store___init__ cd_Store___init__ ct_Store___init__ : Value}
    (a_Store___init__ : PySem.W.findIn K (.ref C_Store) "__init__" = some (some (.ref f_Store___init__))) (i_Store___init__ : PySem.W.isFn K (.ref f_Store___init__) = true)
    (l_Store___init__ : K.lookup f_Store___init__ = some ⟨oc_Store___init__, od_Store___init__, .func (PySem.W.fnOf "__init__" "Store.__init__" (defArgs s_Store___init__) (defBody s_Store___init__) (defScope s_Store___init__) .none kV_Store___init__ dc_Store___init__ pm_Store___init__ an_Store___init__ cd_Store___init__ ct_Store___init__), sl_Store___init__⟩) (c_Store___init__ : PySem.W.codeIn K cd_Store___init__ "Store.__init__" = true) (k_Store___init__ : PySem.W.keepIn K (.ref f_Store___init__) = true)
    {od_Store_put an_Store_put : Option Addr} {sl_Store_put : Array (Option Value)} {oc_Store_put kV_Store_put dc_Store_put pm_Store_put cd_Store_put ct_Store_put : Value}
    (a_Store_put : PySem.W.findIn K (.ref C_Store) "put" = some (some (.ref f_Store_put))) (i_Store_put : PySem.W.isFn K (.ref f_Store_put) = true)
    (l_Store_put : K.lookup f_Store_put = some ⟨oc_Store_put, od_Store_put, .func (PySem.W.fnOf "put" "Store.put" (defArgs s_Store_put) (defBody s_Store_put) (defScope s_Store_put) .none kV_Store_put dc_Store_put pm_Store_put an_Store_put cd_Store_put ct_Store_put), sl_Store_put⟩) (c_Store_put : PySem.W.codeIn K cd_Store_put "Store.put" = true) (k_Store_put : PySem.W.keepIn K (.ref f_Store_put) = true)
    {od_Store_held an_Store_held : Option Addr} {sl_Store_held : Array (Option Value)} {oc_Store_held kV_Store_held dc_Store_held pm_Store_held cd_Store_held ct_Store_held : Value}
    (a_Store_held : PySem.W.findIn K (.ref C_Store) "held" = some (some (.ref f_Store_held))) (i_Store_held : PySem.W.isFn K (.ref f_Store_held) = true)
    (l_Store_held : K.lookup f_Store_held = some ⟨oc_Store_held, od_Store_held, .func (PySem.W.fnOf "held" "Store.held" (defArgs s_Store_held) (defBody s_Store_held) (defScope s_Store_held) .none kV_Store_held dc_Store_held pm_Store_held an_Store_held cd_Store_held ct_Store_held), sl_Store_held⟩) (c_Store_held : PySem.W.codeIn K cd_Store_held "Store.held" = true) (k_Store_held : PySem.W.keepIn K (.ref f_Store_held) = true)
    {od_Store_view an_Store_view : Option Addr} {sl_Store_view : Array (Option Value)} {oc_Store_view kV_Store_view dc_Store_view pm_Store_view cd_Store_view ct_Store_view : Value}
    (a_Store_view : PySem.W.findIn K (.ref C_Store) "view" = some (some (.ref f_Store_view))) (i_Store_view : PySem.W.isFn K (.ref f_Store_view) = true)
    (l_Store_view : K.lookup f_Store_view = some ⟨oc_Store_view, od_Store_view, .func (PySem.W.fnOf "view" "Store.view" (defArgs s_Store_view) (defBody s_Store_view) (defScope s_Store_view) .none kV_Store_view dc_Store_view pm_Store_view an_Store_view cd_Store_view ct_Store_view), sl_Store_view⟩) (c_Store_view : PySem.W.codeIn K cd_Store_view "Store.view" = true) (k_Store_view : PySem.W.keepIn K (.ref f_Store_view) = true)
    {od_Store_holds an_Store_holds : Option Addr} {sl_Store_holds : Array (Option Value)} {oc_Store_holds kV_Store_holds dc_Store_holds pm_Store_holds cd_Store_holds ct_Store_holds : Value}
    (a_Store_holds : PySem.W.findIn K (.ref C_Store) "holds" = some (some (.ref f_Store_holds))) (i_Store_holds : PySem.W.isFn K (.ref f_Store_holds) = true)
    (l_Store_holds : K.lookup f_Store_holds = some ⟨oc_Store_holds, od_Store_holds, .func (PySem.W.fnOf "holds" "Store.holds" (defArgs s_Store_holds) (defBody s_Store_holds) (defScope s_Store_holds) .none kV_Store_holds dc_Store_holds pm_Store_holds an_Store_holds cd_Store_holds ct_Store_holds), sl_Store_holds⟩) (c_Store_holds : PySem.W.codeIn K cd_Store_holds "Store.holds" = true) (k_Store_holds : PySem.W.keepIn K (.ref f_Store_holds) = true)
    {od_Store_changes an_Store_changes : Option Addr} {sl_Store_changes : Array (Option Value)} {oc_Store_changes kV_Store_changes dc_Store_changes pm_Store_changes cd_Store_changes ct_Store_changes : Value}
    (a_Store_changes : PySem.W.findIn K (.ref C_Store) "changes" = some (some (.ref f_Store_changes))) (i_Store_changes : PySem.W.isFn K (.ref f_Store_changes) = true)
    (l_Store_changes : K.lookup f_Store_changes = some ⟨oc_Store_changes, od_Store_changes, .func (PySem.W.fnOf "changes" "Store.changes" (defArgs s_Store_changes) (defBody s_Store_changes) (defScope s_Store_changes) .none kV_Store_changes dc_Store_changes pm_Store_changes an_Store_changes cd_Store_changes ct_Store_changes), sl_Store_changes⟩) (c_Store_changes : PySem.W.codeIn K cd_Store_changes "Store.changes" = true) (k_Store_changes : PySem.W.keepIn K (.ref f_Store_changes) = true)
    {od_House___init__ an_House___init__ : Option Addr} {sl_House___init__ : Array (Option Value)} {oc_House___init__ kV_House___init__ dc_House___init__ pm_House___init__ cd_House___init__ ct_House___init__ : Value}
    (a_House___init__ : PySem.W.findIn K (.ref C_House) "__init__" = some (some (.ref f_House___init__))) (i_House___init__ : PySem.W.isFn K (.ref f_House___init__) = true)
    (l_House___init__ : K.lookup f_House___init__ = some ⟨oc_House___init__, od_House___init__, .func (PySem.W.fnOf "__init__" "House.__init__" (defArgs s_House___init__) (defBody s_House___init__) (defScope s_House___init__) .none kV_House___init__ dc_House___init__ pm_House___init__ an_House___init__ cd_House___init__ ct_House___init__), sl_House___init__⟩) (c_House___init__ : PySem.W.codeIn K cd_House___init__ "House.__init__" = true) (k_House___init__ : PySem.W.keepIn K (.ref f_House___init__) = true)
    {od_House_marks an_House_marks : Option Addr} {sl_House_marks : Array (Option Value)} {oc_House_marks kV_House_marks dc_House_marks pm_House_marks cd_House_marks ct_House_marks : Value}
    (a_House_marks : PySem.W.findIn K (.ref C_House) "marks" = some (some (.ref f_House_marks))) (i_House_marks : PySem.W.isFn K (.ref f_House_marks) = true)
    (l_House_marks : K.lookup f_House_marks = some ⟨oc_House_marks, od_House_marks, .func (PySem.W.fnOf "marks" "House.marks" (defArgs s_House_marks) (defBody s_House_marks) (defScope s_House_marks) .none kV_House_marks dc_House_marks pm_House_marks an_House_marks cd_House_marks ct_House_marks), sl_House_marks⟩) (c_House_marks : PySem.W.codeIn K cd_House_marks "House.marks" = true) (k_House_marks : PySem.W.keepIn K (.ref f_House_marks) = true)
    {od_House_at an_House_at : Option Addr} {sl_House_at : Array (Option Value)} {oc_House_at kV_House_at dc_House_at pm_House_at cd_House_at ct_House_at : Value}
    (a_House_at : PySem.W.findIn K (.ref C_House) "at" = some (some (.ref f_House_at))) (i_House_at : PySem.W.isFn K (.ref f_House_at) = true)
    (l_House_at : K.lookup f_House_at = some ⟨oc_House_at, od_House_at, .func (PySem.W.fnOf "at" "House.at" (defArgs s_House_at) (defBody s_House_at) (defScope s_House_at) .none kV_House_at dc_House_at pm_House_at an_House_at cd_House_at ct_House_at), sl_House_at⟩) (c_House_at : PySem.W.codeIn K cd_House_at "House.at" = true) (k_House_at : PySem.W.keepIn K (.ref f_House_at) = true)
    {od_House_must_have an_House_must_have : Option Addr} {sl_House_must_have : Array (Option Value)} {oc_House_must_have kV_House_must_have dc_House_must_have pm_House_must_have cd_House_must_have ct_House_must_have : Value}
    (a_House_must_have : PySem.W.findIn K (.ref C_House) "must_have" = some (some (.ref f_House_must_have))) (i_House_must_have : PySem.W.isFn K (.ref f_House_must_have) = true)
    (l_House_must_have : K.lookup f_House_must_have = some ⟨oc_House_must_have, od_House_must_have, .func (PySem.W.fnOf "must_have" "House.must_have" (defArgs s_House_must_have) (defBody s_House_must_have) (defScope s_House_must_have) .none kV_House_must_have dc_House_must_have pm_House_must_have an_House_must_have cd_House_must_have ct_House_must_have), sl_House_must_have⟩) (c_House_must_have : PySem.W.codeIn K cd_House_must_have "House.must_have" = true) (k_House_must_have : PySem.W.keepIn K (.ref f_House_must_have) = true)
    {od_House_move an_House_move : Option Addr} {sl_House_move : Array (Option Value)} {oc_House_move  dc_House_move pm_House_move cd_House_move ct_House_move : Value} {kd_House_move : Addr}
    (a_House_move : PySem.W.findIn K (.ref C_House) "move" = some (some (.ref f_House_move))) (i_House_move : PySem.W.isFn K (.ref f_House_move) = true)
    (l_House_move : K.lookup f_House_move = some ⟨oc_House_move, od_House_move, .func (PySem.W.fnOf "move" "House.move" (defArgs s_House_move) (defBody s_House_move) (defScope s_House_move) .none (.ref kd_House_move) dc_House_move pm_House_move an_House_move cd_House_move ct_House_move), sl_House_move⟩) (c_House_move : PySem.W.codeIn K cd_House_move "House.move" = true) (k_House_move : PySem.W.keepIn K (.ref f_House_move) = true)
    (kw_House_move_back : PySem.W.nsIn K kd_House_move "back" = some (some (.bool false)))
    {od_House_trail an_House_trail : Option Addr} {sl_House_trail : Array (Option Value)} {oc_House_trail kV_House_trail dc_House_trail pm_House_trail cd_House_trail ct_House_trail : Value}
    (a_House_trail : PySem.W.findIn K (.ref C_House) "trail" = some (some (.ref f_House_trail))) (i_House_trail : PySem.W.isFn K (.ref f_House_trail) = true)
    (l_House_trail : K.lookup f_House_trail = some ⟨oc_House_trail, od_House_trail, .func (PySem.W.fnOf "trail" "House.trail" (defArgs s_House_trail) (defBody s_House_trail) (defScope s_House_trail) .none kV_House_trail dc_House_trail pm_House_trail an_House_trail cd_House_trail ct_House_trail), sl_House_trail⟩) (c_House_trail : PySem.W.codeIn K cd_House_trail "House.trail" = true) (k_House_trail : PySem.W.keepIn K (.ref f_House_trail) = true)
    {od_law_deck an_law_deck : Option Addr} {sl_law_deck : Array (Option Value)} {oc_law_deck kV_law_deck dc_law_deck pm_law_deck cd_law_deck ct_law_deck : Value}
    (a_law_deck : PySem.W.nsIn K mainGlobals "_law_deck" = some (some (.ref f_law_deck)))
    (l_law_deck : K.lookup f_law_deck = some ⟨oc_law_deck, od_law_deck, .func (PySem.W.fnOf "_law_deck" "_law_deck" (defArgs s_law_deck) (defBody s_law_deck) (defScope s_law_deck) .none kV_law_deck dc_law_deck pm_law_deck an_law_deck cd_law_deck ct_law_deck), sl_law_deck⟩) (c_law_deck : PySem.W.codeIn K cd_law_deck "_law_deck" = true) (k_law_deck : PySem.W.keepIn K (.ref f_law_deck) = true)
    {od_law_mixed an_law_mixed : Option Addr} {sl_law_mixed : Array (Option Value)} {oc_law_mixed kV_law_mixed dc_law_mixed pm_law_mixed cd_law_mixed ct_law_mixed : Value}
    (a_law_mixed : PySem.W.nsIn K mainGlobals "_law_mixed" = some (some (.ref f_law_mixed)))
    (l_law_mixed : K.lookup f_law_mixed = some ⟨oc_law_mixed, od_law_mixed, .func (PySem.W.fnOf "_law_mixed" "_law_mixed" (defArgs s_law_mixed) (defBody s_law_mixed) (defScope s_law_mixed) .none kV_law_mixed dc_law_mixed pm_law_mixed an_law_mixed cd_law_mixed ct_law_mixed), sl_law_mixed⟩) (c_law_mixed : PySem.W.codeIn K cd_law_mixed "_law_mixed" = true) (k_law_mixed : PySem.W.keepIn K (.ref f_law_mixed) = true)
    {od_law_draw an_law_draw : Option Addr} {sl_law_draw : Array (Option Value)} {oc_law_draw kV_law_draw dc_law_draw pm_law_draw cd_law_draw ct_law_draw : Value}
    (a_law_draw : PySem.W.nsIn K mainGlobals "_law_draw" = some (some (.ref f_law_draw)))
    (l_law_draw : K.lookup f_law_draw = some ⟨oc_law_draw, od_law_draw, .func (PySem.W.fnOf "_law_draw" "_law_draw" (defArgs s_law_draw) (defBody s_law_draw) (defScope s_law_draw) .none kV_law_draw dc_law_draw pm_law_draw an_law_draw cd_law_draw ct_law_draw), sl_law_draw⟩) (c_law_draw : PySem.W.codeIn K cd_law_draw "_law_draw" = true) (k_law_draw : PySem.W.keepIn K (.ref f_law_draw) = true)
    {od_law_label an_law_label : Option Addr} {sl_law_label : Array (Option Value)} {oc_law_label kV_law_label dc_law_label pm_law_label cd_law_label ct_law_label : Value}
    (a_law_label : PySem.W.nsIn K mainGlobals "_law_label" = some (some (.ref f_law_label)))
    (l_law_label : K.lookup f_law_label = some ⟨oc_law_label, od_law_label, .func (PySem.W.fnOf "_law_label" "_law_label" (defArgs s_law_label) (defBody s_law_label) (defScope s_law_label) .none kV_law_label dc_law_label pm_law_label an_law_label cd_law_label ct_law_label), sl_law_label⟩) (c_law_label : PySem.W.codeIn K cd_law_label "_law_label" = true) (k_law_label : PySem.W.keepIn K (.ref f_law_label) = true)
    {od_law_give an_law_give : Option Addr} {sl_law_give : Array (Option Value)} {oc_law_give kV_law_give dc_law_give pm_law_give cd_law_give ct_law_give : Value}
    (a_law_give : PySem.W.nsIn K mainGlobals "_law_give" = some (some (.ref f_law_give)))
    (l_law_give : K.lookup f_law_give = some ⟨oc_law_give, od_law_give, .func (PySem.W.fnOf "_law_give" "_law_give" (defArgs s_law_give) (defBody s_law_give) (defScope s_law_give) .none kV_law_give dc_law_give pm_law_give an_law_give cd_law_give ct_law_give), sl_law_give⟩) (c_law_give : PySem.W.codeIn K cd_law_give "_law_give" = true) (k_law_give : PySem.W.keepIn K (.ref f_law_give) = true)
    {od_law_some an_law_some : Option Addr} {sl_law_some : Array (Option Value)} {oc_law_some kV_law_some dc_law_some pm_law_some cd_law_some ct_law_some : Value}
    (a_law_some : PySem.W.nsIn K mainGlobals "_law_some" = some (some (.ref f_law_some)))
    (l_law_some : K.lookup f_law_some = some ⟨oc_law_some, od_law_some, .func (PySem.W.fnOf "_law_some" "_law_some" (defArgs s_law_some) (defBody s_law_some) (defScope s_law_some) .none kV_law_some dc_law_some pm_law_some an_law_some cd_law_some ct_law_some), sl_law_some⟩) (c_law_some : PySem.W.codeIn K cd_law_some "_law_some" = true) (k_law_some : PySem.W.keepIn K (.ref f_law_some) = true)
    {od_law_book an_law_book : Option Addr} {sl_law_book : Array (Option Value)} {oc_law_book kV_law_book dc_law_book pm_law_book cd_law_book ct_law_book : Value}
    (a_law_book : PySem.W.nsIn K mainGlobals "_law_book" = some (some (.ref f_law_book)))
    (l_law_book : K.lookup f_law_book = some ⟨oc_law_book, od_law_book, .func (PySem.W.fnOf "_law_book" "_law_book" (defArgs s_law_book) (defBody s_law_book) (defScope s_law_book) .none kV_law_book dc_law_book pm_law_book an_law_book cd_law_book ct_law_book), sl_law_book⟩) (c_law_book : PySem.W.codeIn K cd_law_book "_law_book" = true) (k_law_book : PySem.W.keepIn K (.ref f_law_book) = true)
    {od_law_house an_law_house : Option Addr} {sl_law_house : Array (Option Value)} {oc_law_house kV_law_house dc_law_house pm_law_house cd_law_house ct_law_house : Value}
    (a_law_house : PySem.W.nsIn K mainGlobals "_law_house" = some (some (.ref f_law_house)))
    (l_law_house : K.lookup f_law_house = some ⟨oc_law_house, od_law_house, .func (PySem.W.fnOf "_law_house" "_law_house" (defArgs s_law_house) (defBody s_law_house) (defScope s_law_house) .none kV_law_house dc_law_house pm_law_house an_law_house cd_law_house ct_law_house), sl_law_house⟩) (c_law_house : PySem.W.codeIn K cd_law_house "_law_house" = true) (k_law_house : PySem.W.keepIn K (.ref f_law_house) = true)
    {od_law_int an_law_int : Option Addr} {sl_law_int : Array (Option Value)} {oc_law_int kV_law_int dc_law_int pm_law_int cd_law_int ct_law_int : Value}
    (a_law_int : PySem.W.nsIn K mainGlobals "_law_int" = some (some (.ref f_law_int)))
    (l_law_int : K.lookup f_law_int = some ⟨oc_law_int, od_law_int, .func (PySem.W.fnOf "_law_int" "_law_int" (defArgs s_law_int) (defBody s_law_int) (defScope s_law_int) .none kV_law_int dc_law_int pm_law_int an_law_int cd_law_int ct_law_int), sl_law_int⟩) (c_law_int : PySem.W.codeIn K cd_law_int "_law_int" = true) (k_law_int : PySem.W.keepIn K (.ref f_law_int) = true)
    {od_law_same an_law_same : Option Addr} {sl_law_same : Array (Option Value)} {oc_law_same kV_law_same dc_law_same pm_law_same cd_law_same ct_law_same : Value}
    (a_law_same : PySem.W.nsIn K mainGlobals "_law_same" = some (some (.ref f_law_same)))
    (l_law_same : K.lookup f_law_same = some ⟨oc_law_same, od_law_same, .func (PySem.W.fnOf "_law_same" "_law_same" (defArgs s_law_same) (defBody s_law_same) (defScope s_law_same) .none kV_law_same dc_law_same pm_law_same an_law_same cd_law_same ct_law_same), sl_law_same⟩) (c_law_same : PySem.W.codeIn K cd_law_same "_law_same" = true) (k_law_same : PySem.W.keepIn K (.ref f_law_same) = true)
    {od_law_parents an_law_parents : Option Addr} {sl_law_parents : Array (Option Value)} {oc_law_parents kV_law_parents dc_law_parents pm_law_parents cd_law_parents ct_law_parents : Value}
    (a_law_parents : PySem.W.nsIn K mainGlobals "_law_parents" = some (some (.ref f_law_parents)))
    (l_law_parents : K.lookup f_law_parents = some ⟨oc_law_parents, od_law_parents, .func (PySem.W.fnOf "_law_parents" "_law_parents" (defArgs s_law_parents) (defBody s_law_parents) (defScope s_law_parents) .none kV_law_parents dc_law_parents pm_law_parents an_law_parents cd_law_parents ct_law_parents), sl_law_parents⟩) (c_law_parents : PySem.W.codeIn K cd_law_parents "_law_parents" = true) (k_law_parents : PySem.W.keepIn K (.ref f_law_parents) = true)
    {od_law_lower an_law_lower : Option Addr} {sl_law_lower : Array (Option Value)} {oc_law_lower kV_law_lower dc_law_lower pm_law_lower cd_law_lower ct_law_lower : Value}
    (a_law_lower : PySem.W.nsIn K mainGlobals "_law_lower" = some (some (.ref f_law_lower)))
    (l_law_lower : K.lookup f_law_lower = some ⟨oc_law_lower, od_law_lower, .func (PySem.W.fnOf "_law_lower" "_law_lower" (defArgs s_law_lower) (defBody s_law_lower) (defScope s_law_lower) .none kV_law_lower dc_law_lower pm_law_lower an_law_lower cd_law_lower ct_law_lower), sl_law_lower⟩) (c_law_lower : PySem.W.codeIn K cd_law_lower "_law_lower" = true) (k_law_lower : PySem.W.keepIn K (.ref f_law_lower) = true)
    {od_law_brims an_law_brims : Option Addr} {sl_law_brims : Array (Option Value)} {oc_law_brims kV_law_brims dc_law_brims pm_law_brims cd_law_brims ct_law_brims : Value}
    (a_law_brims : PySem.W.nsIn K mainGlobals "_law_brims" = some (some (.ref f_law_brims)))
    (l_law_brims : K.lookup f_law_brims = some ⟨oc_law_brims, od_law_brims, .func (PySem.W.fnOf "_law_brims" "_law_brims" (defArgs s_law_brims) (defBody s_law_brims) (defScope s_law_brims) .none kV_law_brims dc_law_brims pm_law_brims an_law_brims cd_law_brims ct_law_brims), sl_law_brims⟩) (c_law_brims : PySem.W.codeIn K cd_law_brims "_law_brims" = true) (k_law_brims : PySem.W.keepIn K (.ref f_law_brims) = true)
    {od_law_is_walk an_law_is_walk : Option Addr} {sl_law_is_walk : Array (Option Value)} {oc_law_is_walk kV_law_is_walk dc_law_is_walk pm_law_is_walk cd_law_is_walk ct_law_is_walk : Value}
    (a_law_is_walk : PySem.W.nsIn K mainGlobals "_law_is_walk" = some (some (.ref f_law_is_walk)))
    (l_law_is_walk : K.lookup f_law_is_walk = some ⟨oc_law_is_walk, od_law_is_walk, .func (PySem.W.fnOf "_law_is_walk" "_law_is_walk" (defArgs s_law_is_walk) (defBody s_law_is_walk) (defScope s_law_is_walk) .none kV_law_is_walk dc_law_is_walk pm_law_is_walk an_law_is_walk cd_law_is_walk ct_law_is_walk), sl_law_is_walk⟩) (c_law_is_walk : PySem.W.codeIn K cd_law_is_walk "_law_is_walk" = true) (k_law_is_walk : PySem.W.keepIn K (.ref f_law_is_walk) = true)
    {od_law_way_told an_law_way_told : Option Addr} {sl_law_way_told : Array (Option Value)} {oc_law_way_told kV_law_way_told dc_law_way_told pm_law_way_told cd_law_way_told ct_law_way_told : Value}
    (a_law_way_told : PySem.W.nsIn K mainGlobals "_law_way_told" = some (some (.ref f_law_way_told)))
    (l_law_way_told : K.lookup f_law_way_told = some ⟨oc_law_way_told, od_law_way_told, .func (PySem.W.fnOf "_law_way_told" "_law_way_told" (defArgs s_law_way_told) (defBody s_law_way_told) (defScope s_law_way_told) .none kV_law_way_told dc_law_way_told pm_law_way_told an_law_way_told cd_law_way_told ct_law_way_told), sl_law_way_told⟩) (c_law_way_told : PySem.W.codeIn K cd_law_way_told "_law_way_told" = true) (k_law_way_told : PySem.W.keepIn K (.ref f_law_way_told) = true)
    {od_law_here an_law_here : Option Addr} {sl_law_here : Array (Option Value)} {oc_law_here kV_law_here dc_law_here pm_law_here cd_law_here ct_law_here : Value}
    (a_law_here : PySem.W.nsIn K mainGlobals "_law_here" = some (some (.ref f_law_here)))
    (l_law_here : K.lookup f_law_here = some ⟨oc_law_here, od_law_here, .func (PySem.W.fnOf "_law_here" "_law_here" (defArgs s_law_here) (defBody s_law_here) (defScope s_law_here) .none kV_law_here dc_law_here pm_law_here an_law_here cd_law_here ct_law_here), sl_law_here⟩) (c_law_here : PySem.W.codeIn K cd_law_here "_law_here" = true) (k_law_here : PySem.W.keepIn K (.ref f_law_here) = true)
    {od_law_is_label an_law_is_label : Option Addr} {sl_law_is_label : Array (Option Value)} {oc_law_is_label kV_law_is_label dc_law_is_label pm_law_is_label cd_law_is_label ct_law_is_label : Value}
    (a_law_is_label : PySem.W.nsIn K mainGlobals "_law_is_label" = some (some (.ref f_law_is_label)))
    (l_law_is_label : K.lookup f_law_is_label = some ⟨oc_law_is_label, od_law_is_label, .func (PySem.W.fnOf "_law_is_label" "_law_is_label" (defArgs s_law_is_label) (defBody s_law_is_label) (defScope s_law_is_label) .none kV_law_is_label dc_law_is_label pm_law_is_label an_law_is_label cd_law_is_label ct_law_is_label), sl_law_is_label⟩) (c_law_is_label : PySem.W.codeIn K cd_law_is_label "_law_is_label" = true) (k_law_is_label : PySem.W.keepIn K (.ref f_law_is_label) = true)
    {od_law_mark an_law_mark : Option Addr} {sl_law_mark : Array (Option Value)} {oc_law_mark kV_law_mark dc_law_mark pm_law_mark cd_law_mark ct_law_mark : Value}
    (a_law_mark : PySem.W.nsIn K mainGlobals "_law_mark" = some (some (.ref f_law_mark)))
    (l_law_mark : K.lookup f_law_mark = some ⟨oc_law_mark, od_law_mark, .func (PySem.W.fnOf "_law_mark" "_law_mark" (defArgs s_law_mark) (defBody s_law_mark) (defScope s_law_mark) .none kV_law_mark dc_law_mark pm_law_mark an_law_mark cd_law_mark ct_law_mark), sl_law_mark⟩) (c_law_mark : PySem.W.codeIn K cd_law_mark "_law_mark" = true) (k_law_mark : PySem.W.keepIn K (.ref f_law_mark) = true)
    {od_law_goes an_law_goes : Option Addr} {sl_law_goes : Array (Option Value)} {oc_law_goes kV_law_goes dc_law_goes pm_law_goes cd_law_goes ct_law_goes : Value}
    (a_law_goes : PySem.W.nsIn K mainGlobals "_law_goes" = some (some (.ref f_law_goes)))
    (l_law_goes : K.lookup f_law_goes = some ⟨oc_law_goes, od_law_goes, .func (PySem.W.fnOf "_law_goes" "_law_goes" (defArgs s_law_goes) (defBody s_law_goes) (defScope s_law_goes) .none kV_law_goes dc_law_goes pm_law_goes an_law_goes cd_law_goes ct_law_goes), sl_law_goes⟩) (c_law_goes : PySem.W.codeIn K cd_law_goes "_law_goes" = true) (k_law_goes : PySem.W.keepIn K (.ref f_law_goes) = true)
    {od_law_was an_law_was : Option Addr} {sl_law_was : Array (Option Value)} {oc_law_was kV_law_was dc_law_was pm_law_was cd_law_was ct_law_was : Value}
    (a_law_was : PySem.W.nsIn K mainGlobals "_law_was" = some (some (.ref f_law_was)))
    (l_law_was : K.lookup f_law_was = some ⟨oc_law_was, od_law_was, .func (PySem.W.fnOf "_law_was" "_law_was" (defArgs s_law_was) (defBody s_law_was) (defScope s_law_was) .none kV_law_was dc_law_was pm_law_was an_law_was cd_law_was ct_law_was), sl_law_was⟩) (c_law_was : PySem.W.codeIn K cd_law_was "_law_was" = true) (k_law_was : PySem.W.keepIn K (.ref f_law_was) = true)
    {od_law_moved an_law_moved : Option Addr} {sl_law_moved : Array (Option Value)} {oc_law_moved kV_law_moved dc_law_moved pm_law_moved cd_law_moved ct_law_moved : Value}
    (a_law_moved : PySem.W.nsIn K mainGlobals "_law_moved" = some (some (.ref f_law_moved)))
    (l_law_moved : K.lookup f_law_moved = some ⟨oc_law_moved, od_law_moved, .func (PySem.W.fnOf "_law_moved" "_law_moved" (defArgs s_law_moved) (defBody s_law_moved) (defScope s_law_moved) .none kV_law_moved dc_law_moved pm_law_moved an_law_moved cd_law_moved ct_law_moved), sl_law_moved⟩) (c_law_moved : PySem.W.codeIn K cd_law_moved "_law_moved" = true) (k_law_moved : PySem.W.keepIn K (.ref f_law_moved) = true)
    {od_law_is_version an_law_is_version : Option Addr} {sl_law_is_version : Array (Option Value)} {oc_law_is_version kV_law_is_version dc_law_is_version pm_law_is_version cd_law_is_version ct_law_is_version : Value}
    (a_law_is_version : PySem.W.nsIn K mainGlobals "_law_is_version" = some (some (.ref f_law_is_version)))
    (l_law_is_version : K.lookup f_law_is_version = some ⟨oc_law_is_version, od_law_is_version, .func (PySem.W.fnOf "_law_is_version" "_law_is_version" (defArgs s_law_is_version) (defBody s_law_is_version) (defScope s_law_is_version) .none kV_law_is_version dc_law_is_version pm_law_is_version an_law_is_version cd_law_is_version ct_law_is_version), sl_law_is_version⟩) (c_law_is_version : PySem.W.codeIn K cd_law_is_version "_law_is_version" = true) (k_law_is_version : PySem.W.keepIn K (.ref f_law_is_version) = true)
    {od_law_move_due an_law_move_due : Option Addr} {sl_law_move_due : Array (Option Value)} {oc_law_move_due kV_law_move_due dc_law_move_due pm_law_move_due cd_law_move_due ct_law_move_due : Value}
    (a_law_move_due : PySem.W.nsIn K mainGlobals "_law_move_due" = some (some (.ref f_law_move_due)))
    (l_law_move_due : K.lookup f_law_move_due = some ⟨oc_law_move_due, od_law_move_due, .func (PySem.W.fnOf "_law_move_due" "_law_move_due" (defArgs s_law_move_due) (defBody s_law_move_due) (defScope s_law_move_due) .none kV_law_move_due dc_law_move_due pm_law_move_due an_law_move_due cd_law_move_due ct_law_move_due), sl_law_move_due⟩) (c_law_move_due : PySem.W.codeIn K cd_law_move_due "_law_move_due" = true) (k_law_move_due : PySem.W.keepIn K (.ref f_law_move_due) = true)
    {od_law_move_right an_law_move_right : Option Addr} {sl_law_move_right : Array (Option Value)} {oc_law_move_right kV_law_move_right dc_law_move_right pm_law_move_right cd_law_move_right ct_law_move_right : Value}
    (a_law_move_right : PySem.W.nsIn K mainGlobals "_law_move_right" = some (some (.ref f_law_move_right)))
    (l_law_move_right : K.lookup f_law_move_right = some ⟨oc_law_move_right, od_law_move_right, .func (PySem.W.fnOf "_law_move_right" "_law_move_right" (defArgs s_law_move_right) (defBody s_law_move_right) (defScope s_law_move_right) .none kV_law_move_right dc_law_move_right pm_law_move_right an_law_move_right cd_law_move_right ct_law_move_right), sl_law_move_right⟩) (c_law_move_right : PySem.W.codeIn K cd_law_move_right "_law_move_right" = true) (k_law_move_right : PySem.W.keepIn K (.ref f_law_move_right) = true)
    {od_law_set an_law_set : Option Addr} {sl_law_set : Array (Option Value)} {oc_law_set kV_law_set dc_law_set pm_law_set cd_law_set ct_law_set : Value}
    (a_law_set : PySem.W.nsIn K mainGlobals "_law_set" = some (some (.ref f_law_set)))
    (l_law_set : K.lookup f_law_set = some ⟨oc_law_set, od_law_set, .func (PySem.W.fnOf "_law_set" "_law_set" (defArgs s_law_set) (defBody s_law_set) (defScope s_law_set) .none kV_law_set dc_law_set pm_law_set an_law_set cd_law_set ct_law_set), sl_law_set⟩) (c_law_set : PySem.W.codeIn K cd_law_set "_law_set" = true) (k_law_set : PySem.W.keepIn K (.ref f_law_set) = true)
    {od_law_pairs an_law_pairs : Option Addr} {sl_law_pairs : Array (Option Value)} {oc_law_pairs kV_law_pairs dc_law_pairs pm_law_pairs cd_law_pairs ct_law_pairs : Value}
    (a_law_pairs : PySem.W.nsIn K mainGlobals "_law_pairs" = some (some (.ref f_law_pairs)))
    (l_law_pairs : K.lookup f_law_pairs = some ⟨oc_law_pairs, od_law_pairs, .func (PySem.W.fnOf "_law_pairs" "_law_pairs" (defArgs s_law_pairs) (defBody s_law_pairs) (defScope s_law_pairs) .none kV_law_pairs dc_law_pairs pm_law_pairs an_law_pairs cd_law_pairs ct_law_pairs), sl_law_pairs⟩) (c_law_pairs : PySem.W.codeIn K cd_law_pairs "_law_pairs" = true) (k_law_pairs : PySem.W.keepIn K (.ref f_law_pairs) = true)
    {od_law_at an_law_at : Option Addr} {sl_law_at : Array (Option Value)} {oc_law_at kV_law_at dc_law_at pm_law_at cd_law_at ct_law_at : Value}
    (a_law_at : PySem.W.nsIn K mainGlobals "_law_at" = some (some (.ref f_law_at)))
    (l_law_at : K.lookup f_law_at = some ⟨oc_law_at, od_law_at, .func (PySem.W.fnOf "_law_at" "_law_at" (defArgs s_law_at) (defBody s_law_at) (defScope s_law_at) .none kV_law_at dc_law_at pm_law_at an_law_at cd_law_at ct_law_at), sl_law_at⟩) (c_law_at : PySem.W.codeIn K cd_law_at "_law_at" = true) (k_law_at : PySem.W.keepIn K (.ref f_law_at) = true)
    {od_law_scene an_law_scene : Option Addr} {sl_law_scene : Array (Option Value)} {oc_law_scene kV_law_scene dc_law_scene pm_law_scene cd_law_scene ct_law_scene : Value}
    (a_law_scene : PySem.W.nsIn K mainGlobals "_law_scene" = some (some (.ref f_law_scene)))
    (l_law_scene : K.lookup f_law_scene = some ⟨oc_law_scene, od_law_scene, .func (PySem.W.fnOf "_law_scene" "_law_scene" (defArgs s_law_scene) (defBody s_law_scene) (defScope s_law_scene) .none kV_law_scene dc_law_scene pm_law_scene an_law_scene cd_law_scene ct_law_scene), sl_law_scene⟩) (c_law_scene : PySem.W.codeIn K cd_law_scene "_law_scene" = true) (k_law_scene : PySem.W.keepIn K (.ref f_law_scene) = true)
    {od_law_versions an_law_versions : Option Addr} {sl_law_versions : Array (Option Value)} {oc_law_versions kV_law_versions dc_law_versions pm_law_versions cd_law_versions ct_law_versions : Value}
    (a_law_versions : PySem.W.nsIn K mainGlobals "_law_versions" = some (some (.ref f_law_versions)))
    (l_law_versions : K.lookup f_law_versions = some ⟨oc_law_versions, od_law_versions, .func (PySem.W.fnOf "_law_versions" "_law_versions" (defArgs s_law_versions) (defBody s_law_versions) (defScope s_law_versions) .none kV_law_versions dc_law_versions pm_law_versions an_law_versions cd_law_versions ct_law_versions), sl_law_versions⟩) (c_law_versions : PySem.W.codeIn K cd_law_versions "_law_versions" = true) (k_law_versions : PySem.W.keepIn K (.ref f_law_versions) = true)
    {od_law_state_right an_law_state_right : Option Addr} {sl_law_state_right : Array (Option Value)} {oc_law_state_right kV_law_state_right dc_law_state_right pm_law_state_right cd_law_state_right ct_law_state_right : Value}
    (a_law_state_right : PySem.W.nsIn K mainGlobals "_law_state_right" = some (some (.ref f_law_state_right)))
    (l_law_state_right : K.lookup f_law_state_right = some ⟨oc_law_state_right, od_law_state_right, .func (PySem.W.fnOf "_law_state_right" "_law_state_right" (defArgs s_law_state_right) (defBody s_law_state_right) (defScope s_law_state_right) .none kV_law_state_right dc_law_state_right pm_law_state_right an_law_state_right cd_law_state_right ct_law_state_right), sl_law_state_right⟩) (c_law_state_right : PySem.W.codeIn K cd_law_state_right "_law_state_right" = true) (k_law_state_right : PySem.W.keepIn K (.ref f_law_state_right) = true)
    {od_law_set_all an_law_set_all : Option Addr} {sl_law_set_all : Array (Option Value)} {oc_law_set_all kV_law_set_all dc_law_set_all pm_law_set_all cd_law_set_all ct_law_set_all : Value}
    (a_law_set_all : PySem.W.nsIn K mainGlobals "_law_set_all" = some (some (.ref f_law_set_all)))
    (l_law_set_all : K.lookup f_law_set_all = some ⟨oc_law_set_all, od_law_set_all, .func (PySem.W.fnOf "_law_set_all" "_law_set_all" (defArgs s_law_set_all) (defBody s_law_set_all) (defScope s_law_set_all) .none kV_law_set_all dc_law_set_all pm_law_set_all an_law_set_all cd_law_set_all ct_law_set_all), sl_law_set_all⟩) (c_law_set_all : PySem.W.codeIn K cd_law_set_all "_law_set_all" = true) (k_law_set_all : PySem.W.keepIn K (.ref f_law_set_all) = true)
    {od_law an_law : Option Addr} {sl_law : Array (Option Value)} {oc_law kV_law dc_law pm_law cd_law ct_law : Value}
    (a_law : PySem.W.nsIn K mainGlobals "law" = some (some (.ref f_law)))
    (l_law : K.lookup f_law = some ⟨oc_law, od_law, .func (PySem.W.fnOf "law" "law" (defArgs s_law) (defBody s_law) (defScope s_law) .none kV_law dc_law pm_law an_law cd_law ct_law), sl_law⟩) (c_law : PySem.W.codeIn K cd_law "law" = true) (k_law : PySem.W.keepIn K (.ref f_law) = true)
    (kga_Book : PySem.W.nsIn K mainGlobals "Book" = some (some (.ref C_Book))) (kpg_Book : PySem.W.plainGet K C_Book Str.empty = true) (khd_Book : PySem.W.hasDictIn K C_Book = true) (kpo_Book : PySem.W.plainOver K C_Book = true) (ksa_Book : PySem.W.findIn K (.ref C_Book) "__setattr__" = some (some (.builtin "object.__setattr__"))) (kmk_Book : PySem.W.makesIn K C_Book = true) (kkc_Book : PySem.W.keepIn K (.ref C_Book) = true)
    (kna_Book_contents : PySem.W.findIn K (.ref C_Book) "contents" = some none)
    (kna_Book_depths : PySem.W.findIn K (.ref C_Book) "depths" = some none)
    (kna_Book_given : PySem.W.findIn K (.ref C_Book) "given" = some none)
    (kga_Holding : PySem.W.nsIn K mainGlobals "Holding" = some (some (.ref C_Holding))) (kpg_Holding : PySem.W.plainGet K C_Holding Str.empty = true) (khd_Holding : PySem.W.hasDictIn K C_Holding = true) (kpo_Holding : PySem.W.plainOver K C_Holding = true) (ksa_Holding : PySem.W.findIn K (.ref C_Holding) "__setattr__" = some (some (.builtin "object.__setattr__"))) (kmk_Holding : PySem.W.makesIn K C_Holding = true) (kkc_Holding : PySem.W.keepIn K (.ref C_Holding) = true)
    (kna_Holding_book : PySem.W.findIn K (.ref C_Holding) "book" = some none)
    (kna_Holding_row : PySem.W.findIn K (.ref C_Holding) "row" = some none)
    (kna_Holding_here : PySem.W.findIn K (.ref C_Holding) "here" = some none)
    (kga_Store : PySem.W.nsIn K mainGlobals "Store" = some (some (.ref C_Store))) (kpg_Store : PySem.W.plainGet K C_Store Str.empty = true) (khd_Store : PySem.W.hasDictIn K C_Store = true) (kpo_Store : PySem.W.plainOver K C_Store = true) (ksa_Store : PySem.W.findIn K (.ref C_Store) "__setattr__" = some (some (.builtin "object.__setattr__"))) (kmk_Store : PySem.W.makesIn K C_Store = true) (kkc_Store : PySem.W.keepIn K (.ref C_Store) = true)
    (kna_Store_book : PySem.W.findIn K (.ref C_Store) "book" = some none)
    (kna_Store_here : PySem.W.findIn K (.ref C_Store) "here" = some none)
    (kna_Store_turns : PySem.W.findIn K (.ref C_Store) "turns" = some none)
    (kga_House : PySem.W.nsIn K mainGlobals "House" = some (some (.ref C_House))) (kpg_House : PySem.W.plainGet K C_House Str.empty = true) (khd_House : PySem.W.hasDictIn K C_House = true) (kpo_House : PySem.W.plainOver K C_House = true) (ksa_House : PySem.W.findIn K (.ref C_House) "__setattr__" = some (some (.builtin "object.__setattr__"))) (kmk_House : PySem.W.makesIn K C_House = true) (kkc_House : PySem.W.keepIn K (.ref C_House) = true)
    (kna_House_book : PySem.W.findIn K (.ref C_House) "book" = some none)
    (kna_House_here : PySem.W.findIn K (.ref C_House) "here" = some none)
    (kna_House_turns : PySem.W.findIn K (.ref C_House) "turns" = some none)
    (kna_House_stands : PySem.W.findIn K (.ref C_House) "stands" = some none)
    (kna_House_lately : PySem.W.findIn K (.ref C_House) "lately" = some none)
    (kna_House_others : PySem.W.findIn K (.ref C_House) "others" = some none)
    (kna_House_pinned : PySem.W.findIn K (.ref C_House) "pinned" = some none)
    (z_len : PySem.W.nsIn K mainGlobals "len" = some none)
    (z_list : PySem.W.nsIn K mainGlobals "list" = some none)
    (z_isinstance : PySem.W.nsIn K mainGlobals "isinstance" = some none)
    (z_int : PySem.W.nsIn K mainGlobals "int" = some none)
    (z_bool : PySem.W.nsIn K mainGlobals "bool" = some none)
    (z_str : PySem.W.nsIn K mainGlobals "str" = some none)
    (z_tuple : PySem.W.nsIn K mainGlobals "tuple" = some none)
    (z_dict : PySem.W.nsIn K mainGlobals "dict" = some none)
    (z_range : PySem.W.nsIn K mainGlobals "range" = some none)
    (z_all : PySem.W.nsIn K mainGlobals "all" = some none)
    (z_min : PySem.W.nsIn K mainGlobals "min" = some none)
    (z_max : PySem.W.nsIn K mainGlobals "max" = some none)
    (z_set : PySem.W.nsIn K mainGlobals "set" = some none)
    (z_sorted : PySem.W.nsIn K mainGlobals "sorted" = some none)
    (z_ValueError : PySem.W.nsIn K mainGlobals "ValueError" = some none)
    {t_SIGNS : Tok} (y_SIGNS : PySem.W.nsIn K mainGlobals "SIGNS" = some (some (.str " !\"#$&'()*+,-./0123456789:;<=>?@ABCDEFGHIJKLMNOPQRSTUVWXYZ[\\]^_`abcdefghijklmnopqrstuvwxyz{|}~" t_SIGNS)))
    {t_LETTERS : Tok} (y_LETTERS : PySem.W.nsIn K mainGlobals "LETTERS" = some (some (.str "abcdefghijklmnopqrstuvwxyz" t_LETTERS)))
    {t_MOST : Tok} (y_MOST : PySem.W.nsIn K mainGlobals "MOST" = some (some (.int 400 t_MOST)))
    {t_DEEP : Tok} (y_DEEP : PySem.W.nsIn K mainGlobals "DEEP" = some (some (.int 8 t_DEEP)))
    {t_LAST : Tok} (y_LAST : PySem.W.nsIn K mainGlobals "LAST" = some (some (.int 50 t_LAST)))
    {C_HouseError : Addr} (ga_HouseError : PySem.W.nsIn K mainGlobals "HouseError" = some (some (.ref C_HouseError))) (hb_HouseError : PySem.W.subIn K (.ref C_HouseError) (.type "BaseException") = some true) (hi_HouseError : PySem.W.isClsIn K C_HouseError = true) (ht_HouseError : PySem.W.typeIn K (.ref C_HouseError) = some (.type "type"))
    {C_NoMark : Addr} {nm_NoMark q_NoMark : Str} {N_NoMark : Addr} {bs_NoMark : List Value} {sn_NoMark : List Str} {sub_NoMark : List Value} {ab_NoMark : Bool} {col_NoMark : Option Bool} {dd_NoMark : Option Addr} {m0_NoMark m1_NoMark m2_NoMark m3_NoMark m5_NoMark : Option Value}
    (ga_NoMark : PySem.W.nsIn K mainGlobals "NoMark" = some (some (.ref C_NoMark))) (xl_NoMark : K.lookup C_NoMark = some (excClassObj nm_NoMark q_NoMark C_NoMark N_NoMark bs_NoMark [.ref C_HouseError, .type "ValueError", .type "Exception", .type "BaseException", .type "object"] true sn_NoMark sub_NoMark ab_NoMark col_NoMark dd_NoMark m0_NoMark m1_NoMark m2_NoMark m3_NoMark m5_NoMark "ValueError.__new__"))
    (hb_NoMark : PySem.W.subIn K (.ref C_NoMark) (.type "BaseException") = some true) (hi_NoMark : PySem.W.isClsIn K C_NoMark = true) (ht_NoMark : PySem.W.typeIn K (.ref C_NoMark) = some (.type "type")) (xk_NoMark : PySem.W.keepIn K (.ref C_NoMark) = true) (sa_NoMark : PySem.W.findIn K (.ref C_NoMark) "__setattr__" = some (some (.builtin "object.__setattr__")))
    (xg_NoMark : PySem.W.findIn K (.ref C_NoMark) "__getattribute__" = some (some (.builtin "BaseException.__getattribute__"))) (xh_NoMark : PySem.W.findIn K (.ref C_NoMark) "__getattr__" = some none) (xd_NoMark : PySem.W.hasDictIn K C_NoMark = true)
    (xo_NoMark : PySem.W.findIn K (.ref C_NoMark) "__class__" = some (some (.builtin "object.__class__"))) (xp_NoMark : PySem.W.specialIn K (.builtin "object.__class__") "__get__" = some (some (.builtin "getset_descriptor.__get__"))) (xq_NoMark : PySem.W.takesIn K (.builtin "object.__class__") = some true) (xr_NoMark : PySem.W.mroIn K C_NoMark (.type "object") = some true)
    (xi_NoMark : PySem.W.findIn K (.ref C_NoMark) "__init__" = some (some (.ref f_NoMark___init__))) (xj_NoMark : PySem.W.typeIn K (.ref f_NoMark___init__) = some (.type "function"))
    (nf_NoMark_mark : PySem.W.findIn K (.ref C_NoMark) "mark" = some none)
    {C_NoName : Addr} {nm_NoName q_NoName : Str} {N_NoName : Addr} {bs_NoName : List Value} {sn_NoName : List Str} {sub_NoName : List Value} {ab_NoName : Bool} {col_NoName : Option Bool} {dd_NoName : Option Addr} {m0_NoName m1_NoName m2_NoName m3_NoName m5_NoName : Option Value}
    (ga_NoName : PySem.W.nsIn K mainGlobals "NoName" = some (some (.ref C_NoName))) (xl_NoName : K.lookup C_NoName = some (excClassObj nm_NoName q_NoName C_NoName N_NoName bs_NoName [.ref C_HouseError, .type "ValueError", .type "Exception", .type "BaseException", .type "object"] true sn_NoName sub_NoName ab_NoName col_NoName dd_NoName m0_NoName m1_NoName m2_NoName m3_NoName m5_NoName "ValueError.__new__"))
    (hb_NoName : PySem.W.subIn K (.ref C_NoName) (.type "BaseException") = some true) (hi_NoName : PySem.W.isClsIn K C_NoName = true) (ht_NoName : PySem.W.typeIn K (.ref C_NoName) = some (.type "type")) (xk_NoName : PySem.W.keepIn K (.ref C_NoName) = true) (sa_NoName : PySem.W.findIn K (.ref C_NoName) "__setattr__" = some (some (.builtin "object.__setattr__")))
    (xg_NoName : PySem.W.findIn K (.ref C_NoName) "__getattribute__" = some (some (.builtin "BaseException.__getattribute__"))) (xh_NoName : PySem.W.findIn K (.ref C_NoName) "__getattr__" = some none) (xd_NoName : PySem.W.hasDictIn K C_NoName = true)
    (xo_NoName : PySem.W.findIn K (.ref C_NoName) "__class__" = some (some (.builtin "object.__class__"))) (xp_NoName : PySem.W.specialIn K (.builtin "object.__class__") "__get__" = some (some (.builtin "getset_descriptor.__get__"))) (xq_NoName : PySem.W.takesIn K (.builtin "object.__class__") = some true) (xr_NoName : PySem.W.mroIn K C_NoName (.type "object") = some true)
    (xi_NoName : PySem.W.findIn K (.ref C_NoName) "__init__" = some (some (.ref f_NoName___init__))) (xj_NoName : PySem.W.typeIn K (.ref f_NoName___init__) = some (.type "function"))
    (nf_NoName_name : PySem.W.findIn K (.ref C_NoName) "name" = some none)
    {C_Lack : Addr} {nm_Lack q_Lack : Str} {N_Lack : Addr} {bs_Lack : List Value} {sn_Lack : List Str} {sub_Lack : List Value} {ab_Lack : Bool} {col_Lack : Option Bool} {dd_Lack : Option Addr} {m0_Lack m1_Lack m2_Lack m3_Lack m5_Lack : Option Value}
    (ga_Lack : PySem.W.nsIn K mainGlobals "Lack" = some (some (.ref C_Lack))) (xl_Lack : K.lookup C_Lack = some (excClassObj nm_Lack q_Lack C_Lack N_Lack bs_Lack [.ref C_HouseError, .type "ValueError", .type "Exception", .type "BaseException", .type "object"] true sn_Lack sub_Lack ab_Lack col_Lack dd_Lack m0_Lack m1_Lack m2_Lack m3_Lack m5_Lack "ValueError.__new__"))
    (hb_Lack : PySem.W.subIn K (.ref C_Lack) (.type "BaseException") = some true) (hi_Lack : PySem.W.isClsIn K C_Lack = true) (ht_Lack : PySem.W.typeIn K (.ref C_Lack) = some (.type "type")) (xk_Lack : PySem.W.keepIn K (.ref C_Lack) = true) (sa_Lack : PySem.W.findIn K (.ref C_Lack) "__setattr__" = some (some (.builtin "object.__setattr__")))
    (xg_Lack : PySem.W.findIn K (.ref C_Lack) "__getattribute__" = some (some (.builtin "BaseException.__getattribute__"))) (xh_Lack : PySem.W.findIn K (.ref C_Lack) "__getattr__" = some none) (xd_Lack : PySem.W.hasDictIn K C_Lack = true)
    (xo_Lack : PySem.W.findIn K (.ref C_Lack) "__class__" = some (some (.builtin "object.__class__"))) (xp_Lack : PySem.W.specialIn K (.builtin "object.__class__") "__get__" = some (some (.builtin "getset_descriptor.__get__"))) (xq_Lack : PySem.W.takesIn K (.builtin "object.__class__") = some true) (xr_Lack : PySem.W.mroIn K C_Lack (.type "object") = some true)
    (xi_Lack : PySem.W.findIn K (.ref C_Lack) "__init__" = some (some (.ref f_Lack___init__))) (xj_Lack : PySem.W.typeIn K (.ref f_Lack___init__) = some (.type "function"))
    (nf_Lack_name : PySem.W.findIn K (.ref C_Lack) "name" = some none)
    {C_Stale : Addr} {nm_Stale q_Stale : Str} {N_Stale : Addr} {bs_Stale : List Value} {sn_Stale : List Str} {sub_Stale : List Value} {ab_Stale : Bool} {col_Stale : Option Bool} {dd_Stale : Option Addr} {m0_Stale m1_Stale m2_Stale m3_Stale m5_Stale : Option Value}
    (ga_Stale : PySem.W.nsIn K mainGlobals "Stale" = some (some (.ref C_Stale))) (xl_Stale : K.lookup C_Stale = some (excClassObj nm_Stale q_Stale C_Stale N_Stale bs_Stale [.ref C_HouseError, .type "ValueError", .type "Exception", .type "BaseException", .type "object"] true sn_Stale sub_Stale ab_Stale col_Stale dd_Stale m0_Stale m1_Stale m2_Stale m3_Stale m5_Stale "ValueError.__new__"))
    (hb_Stale : PySem.W.subIn K (.ref C_Stale) (.type "BaseException") = some true) (hi_Stale : PySem.W.isClsIn K C_Stale = true) (ht_Stale : PySem.W.typeIn K (.ref C_Stale) = some (.type "type")) (xk_Stale : PySem.W.keepIn K (.ref C_Stale) = true) (sa_Stale : PySem.W.findIn K (.ref C_Stale) "__setattr__" = some (some (.builtin "object.__setattr__")))
    (xg_Stale : PySem.W.findIn K (.ref C_Stale) "__getattribute__" = some (some (.builtin "BaseException.__getattribute__"))) (xh_Stale : PySem.W.findIn K (.ref C_Stale) "__getattr__" = some none) (xd_Stale : PySem.W.hasDictIn K C_Stale = true)
    (xo_Stale : PySem.W.findIn K (.ref C_Stale) "__class__" = some (some (.builtin "object.__class__"))) (xp_Stale : PySem.W.specialIn K (.builtin "object.__class__") "__get__" = some (some (.builtin "getset_descriptor.__get__"))) (xq_Stale : PySem.W.takesIn K (.builtin "object.__class__") = some true) (xr_Stale : PySem.W.mroIn K C_Stale (.type "object") = some true)
    (xi_Stale : PySem.W.findIn K (.ref C_Stale) "__init__" = some (some (.ref f_Stale___init__))) (xj_Stale : PySem.W.typeIn K (.ref f_Stale___init__) = some (.type "function"))
    (nf_Stale_mark : PySem.W.findIn K (.ref C_Stale) "mark" = some none)
    (nf_Stale_there : PySem.W.findIn K (.ref C_Stale) "there" = some none)
    (nf_Stale_why : PySem.W.findIn K (.ref C_Stale) "why" = some none)
    {C_NotAhead : Addr} {nm_NotAhead q_NotAhead : Str} {N_NotAhead : Addr} {bs_NotAhead : List Value} {sn_NotAhead : List Str} {sub_NotAhead : List Value} {ab_NotAhead : Bool} {col_NotAhead : Option Bool} {dd_NotAhead : Option Addr} {m0_NotAhead m1_NotAhead m2_NotAhead m3_NotAhead m5_NotAhead : Option Value}
    (ga_NotAhead : PySem.W.nsIn K mainGlobals "NotAhead" = some (some (.ref C_NotAhead))) (xl_NotAhead : K.lookup C_NotAhead = some (excClassObj nm_NotAhead q_NotAhead C_NotAhead N_NotAhead bs_NotAhead [.ref C_HouseError, .type "ValueError", .type "Exception", .type "BaseException", .type "object"] true sn_NotAhead sub_NotAhead ab_NotAhead col_NotAhead dd_NotAhead m0_NotAhead m1_NotAhead m2_NotAhead m3_NotAhead m5_NotAhead "ValueError.__new__"))
    (hb_NotAhead : PySem.W.subIn K (.ref C_NotAhead) (.type "BaseException") = some true) (hi_NotAhead : PySem.W.isClsIn K C_NotAhead = true) (ht_NotAhead : PySem.W.typeIn K (.ref C_NotAhead) = some (.type "type")) (xk_NotAhead : PySem.W.keepIn K (.ref C_NotAhead) = true) (sa_NotAhead : PySem.W.findIn K (.ref C_NotAhead) "__setattr__" = some (some (.builtin "object.__setattr__")))
    (xg_NotAhead : PySem.W.findIn K (.ref C_NotAhead) "__getattribute__" = some (some (.builtin "BaseException.__getattribute__"))) (xh_NotAhead : PySem.W.findIn K (.ref C_NotAhead) "__getattr__" = some none) (xd_NotAhead : PySem.W.hasDictIn K C_NotAhead = true)
    (xo_NotAhead : PySem.W.findIn K (.ref C_NotAhead) "__class__" = some (some (.builtin "object.__class__"))) (xp_NotAhead : PySem.W.specialIn K (.builtin "object.__class__") "__get__" = some (some (.builtin "getset_descriptor.__get__"))) (xq_NotAhead : PySem.W.takesIn K (.builtin "object.__class__") = some true) (xr_NotAhead : PySem.W.mroIn K C_NotAhead (.type "object") = some true)
    (xi_NotAhead : PySem.W.findIn K (.ref C_NotAhead) "__init__" = some (some (.ref f_NotAhead___init__))) (xj_NotAhead : PySem.W.typeIn K (.ref f_NotAhead___init__) = some (.type "function"))
    (nf_NotAhead_mark : PySem.W.findIn K (.ref C_NotAhead) "mark" = some none)
    (nf_NotAhead_why : PySem.W.findIn K (.ref C_NotAhead) "why" = some none)
    (nf_NotAhead_there : PySem.W.findIn K (.ref C_NotAhead) "there" = some none)
    (es_NoMark_NoMark : PySem.W.subIn K (.ref C_NoMark) (.ref C_NoMark) = some true)
    (es_NoName_NoMark : PySem.W.subIn K (.ref C_NoName) (.ref C_NoMark) = some false)
    (es_NoName_NoName : PySem.W.subIn K (.ref C_NoName) (.ref C_NoName) = some true)
    (es_Lack_NoMark : PySem.W.subIn K (.ref C_Lack) (.ref C_NoMark) = some false)
    (es_Lack_NoName : PySem.W.subIn K (.ref C_Lack) (.ref C_NoName) = some false)
    (es_Lack_Lack : PySem.W.subIn K (.ref C_Lack) (.ref C_Lack) = some true)
    (es_Stale_NoMark : PySem.W.subIn K (.ref C_Stale) (.ref C_NoMark) = some false)
    (es_Stale_NoName : PySem.W.subIn K (.ref C_Stale) (.ref C_NoName) = some false)
    (es_Stale_Lack : PySem.W.subIn K (.ref C_Stale) (.ref C_Lack) = some false)
    (es_Stale_HouseError : PySem.W.subIn K (.ref C_Stale) (.ref C_HouseError) = some true)
    (es_NotAhead_NoMark : PySem.W.subIn K (.ref C_NotAhead) (.ref C_NoMark) = some false)
    (es_NotAhead_NoName : PySem.W.subIn K (.ref C_NotAhead) (.ref C_NoName) = some false)
    (es_NotAhead_Lack : PySem.W.subIn K (.ref C_NotAhead) (.ref C_Lack) = some false)
    (es_NotAhead_HouseError : PySem.W.subIn K (.ref C_NotAhead) (.ref C_HouseError) = some true)
    (kq_Stale_Stale : PySem.W.kitOne K (.ref C_Stale) (.ref C_Stale) = some true)
    (kq_Stale_NotAhead : PySem.W.kitOne K (.ref C_Stale) (.ref C_NotAhead) = some false)
    (kq_NotAhead_Stale : PySem.W.kitOne K (.ref C_NotAhead) (.ref C_Stale) = some false)
    (kq_NotAhead_NotAhead : PySem.W.kitOne K (.ref C_NotAhead) (.ref C_NotAhead) = some true)
     (ia_House_put : PySem.W.findIn K (.ref C_House) "put" = some (some (.ref f_Store_put)))
     (ia_House_held : PySem.W.findIn K (.ref C_House) "held" = some (some (.ref f_Store_held)))
     (ia_House_view : PySem.W.findIn K (.ref C_House) "view" = some (some (.ref f_Store_view)))
     (ia_House_holds : PySem.W.findIn K (.ref C_House) "holds" = some (some (.ref f_Store_holds)))
     (ia_House_changes : PySem.W.findIn K (.ref C_House) "changes" = some (some (.ref f_Store_changes)))
     (cr1_Store : PySem.W.readsIn K C_Store (.type "type") = true)
     (cr2_Store : PySem.W.specialIn K (.ref C_Store) "__getattribute__" = some (some (.builtin "type.__getattribute__")))
     (cv_Store___init__ : PySem.W.findCls K (.ref C_Store) (.type "type") "__init__" = some (.val (.ref f_Store___init__)))
    : ∃ fd : FuncData, (∀ (s : Shared) (v : Value), BindsTo s fd ⟨[v], []⟩ [("_law_script", v)]) ∧ ∀ base : Heap, K.In base → base.Ns mainGlobals mg → FnOk l.prog w K mg base CX0 12 fa fd ["_law_script"] (spLaw K) := by
  have e := hfa.symm.trans (PySem.W.mg_of X G a_law)
  cases e
  have F_NoName___init__ := fun_mk (st := s_NoName___init__) l_NoName___init__ c_NoName___init__ k_NoName___init__
  have F_Lack___init__ := fun_mk (st := s_Lack___init__) l_Lack___init__ c_Lack___init__ k_Lack___init__
  have F_NoMark___init__ := fun_mk (st := s_NoMark___init__) l_NoMark___init__ c_NoMark___init__ k_NoMark___init__
  have F_Stale___init__ := fun_mk (st := s_Stale___init__) l_Stale___init__ c_Stale___init__ k_Stale___init__
  have F_NotAhead___init__ := fun_mk (st := s_NotAhead___init__) l_NotAhead___init__ c_NotAhead___init__ k_NotAhead___init__
  have F_is_int : FunD K "is_int" "is_int" (defArgs s_is_int) (defBody s_is_int) (defScope s_is_int) [V.int 0] [] f_is_int _ := ⟨⟨_, _, _, _, _, _, _, _, _, _, rfl, l_is_int, c_is_int, .inr ⟨by simp, _, _, [.int 0 dk_is_int_least], _, rfl, dl_is_int, rfl, .cons ⟨_, rfl⟩ (.nil)⟩, .inl rfl⟩, k_is_int⟩
  have D_is_int : DfD K mg "is_int" s_is_int ["thing", "least"] [V.int 0] _ _ := ⟨F_is_int, PySem.W.mg_of X G a_is_int, k_is_int, F_is_int.binds1 (ps := ["thing", "least"]) 1 0 (by simp) rfl fun _ _ _ _ _ _ _ us its hu hi => match us, its, hu, hi with | [_], [_], _, _ => ⟨_, rfl, rfl⟩⟩
  have F_is_text : FunD K "is_text" "is_text" (defArgs s_is_text) (defBody s_is_text) (defScope s_is_text) [V.int 40] [] f_is_text _ := ⟨⟨_, _, _, _, _, _, _, _, _, _, rfl, l_is_text, c_is_text, .inr ⟨by simp, _, _, [.int 40 dk_is_text_most], _, rfl, dl_is_text, rfl, .cons ⟨_, rfl⟩ (.nil)⟩, .inl rfl⟩, k_is_text⟩
  have D_is_text : DfD K mg "is_text" s_is_text ["thing", "most"] [V.int 40] _ _ := ⟨F_is_text, PySem.W.mg_of X G a_is_text, k_is_text, F_is_text.binds1 (ps := ["thing", "most"]) 1 0 (by simp) rfl fun _ _ _ _ _ _ _ us its hu hi => match us, its, hu, hi with | [_], [_], _, _ => ⟨_, rfl, rfl⟩⟩
  have F_is_label := fun_mk (st := s_is_label) l_is_label c_is_label k_is_label
  have D_is_label : Df K mg "is_label" s_is_label ["thing"] _ _ := ⟨F_is_label, F_is_label.binds (ps := ["thing"]) fun _ _ _ _ _ _ us hl => match us, hl with | [_], _ => rfl, PySem.W.mg_of X G a_is_label⟩
  have F_rise := fun_mk (st := s_rise) l_rise c_rise k_rise
  have D_rise : Df K mg "rise" s_rise ["row"] _ _ := ⟨F_rise, F_rise.binds (ps := ["row"]) fun _ _ _ _ _ _ us hl => match us, hl with | [_], _ => rfl, PySem.W.mg_of X G a_rise⟩
  have F_are_ints := fun_mk (st := s_are_ints) l_are_ints c_are_ints k_are_ints
  have D_are_ints : Df K mg "are_ints" s_are_ints ["thing"] _ _ := ⟨F_are_ints, F_are_ints.binds (ps := ["thing"]) fun _ _ _ _ _ _ us hl => match us, hl with | [_], _ => rfl, PySem.W.mg_of X G a_are_ints⟩
  have F_rising_ints := fun_mk (st := s_rising_ints) l_rising_ints c_rising_ints k_rising_ints
  have D_rising_ints : Df K mg "rising_ints" s_rising_ints ["thing"] _ _ := ⟨F_rising_ints, F_rising_ints.binds (ps := ["thing"]) fun _ _ _ _ _ _ us hl => match us, hl with | [_], _ => rfl, PySem.W.mg_of X G a_rising_ints⟩
  have F_is_pair := fun_mk (st := s_is_pair) l_is_pair c_is_pair k_is_pair
  have D_is_pair : Df K mg "is_pair" s_is_pair ["thing"] _ _ := ⟨F_is_pair, F_is_pair.binds (ps := ["thing"]) fun _ _ _ _ _ _ us hl => match us, hl with | [_], _ => rfl, PySem.W.mg_of X G a_is_pair⟩
  have F_are_rows := fun_mk (st := s_are_rows) l_are_rows c_are_rows k_are_rows
  have D_are_rows : Df K mg "are_rows" s_are_rows ["thing"] _ _ := ⟨F_are_rows, F_are_rows.binds (ps := ["thing"]) fun _ _ _ _ _ _ us hl => match us, hl with | [_], _ => rfl, PySem.W.mg_of X G a_are_rows⟩
  have F_held_parents := fun_mk (st := s_held_parents) l_held_parents c_held_parents k_held_parents
  have D_held_parents : Df K mg "held_parents" s_held_parents ["view", "version"] _ _ := ⟨F_held_parents, F_held_parents.binds (ps := ["view", "version"]) fun _ _ _ _ _ _ us hl => match us, hl with | [_, _], _ => rfl, PySem.W.mg_of X G a_held_parents⟩
  have F_edges_of := fun_mk (st := s_edges_of) l_edges_of c_edges_of k_edges_of
  have D_edges_of : Df K mg "edges_of" s_edges_of ["view", "versions"] _ _ := ⟨F_edges_of, F_edges_of.binds (ps := ["view", "versions"]) fun _ _ _ _ _ _ us hl => match us, hl with | [_, _], _ => rfl, PySem.W.mg_of X G a_edges_of⟩
  have F_way := fun_mk (st := s_way) l_way c_way k_way
  have D_way : Df K mg "way" s_way ["view", "old", "new"] _ _ := ⟨F_way, F_way.binds (ps := ["view", "old", "new"]) fun _ _ _ _ _ _ us hl => match us, hl with | [_, _, _], _ => rfl, PySem.W.mg_of X G a_way⟩
  have F_Book___init__ := fun_mk (st := s_Book___init__) l_Book___init__ c_Book___init__ k_Book___init__
  have D_Book___init__ : DfM K C_Book "__init__" "Book.__init__" s_Book___init__ ["self"] _ _ := ⟨F_Book___init__, F_Book___init__.binds (ps := ["self"]) fun _ _ _ _ _ _ us hl => match us, hl with | [_], _ => rfl, ⟨a_Book___init__, i_Book___init__, k_Book___init__⟩⟩
  have F_Book_named := fun_mk (st := s_Book_named) l_Book_named c_Book_named k_Book_named
  have D_Book_named : DfM K C_Book "named" "Book.named" s_Book_named ["self", "content"] _ _ := ⟨F_Book_named, F_Book_named.binds (ps := ["self", "content"]) fun _ _ _ _ _ _ us hl => match us, hl with | [_, _], _ => rfl, ⟨a_Book_named, i_Book_named, k_Book_named⟩⟩
  have F_Book_thing := fun_mk (st := s_Book_thing) l_Book_thing c_Book_thing k_Book_thing
  have D_Book_thing : DfM K C_Book "thing" "Book.thing" s_Book_thing ["self", "name"] _ _ := ⟨F_Book_thing, F_Book_thing.binds (ps := ["self", "name"]) fun _ _ _ _ _ _ us hl => match us, hl with | [_, _], _ => rfl, ⟨a_Book_thing, i_Book_thing, k_Book_thing⟩⟩
  have F_Book_kind := fun_mk (st := s_Book_kind) l_Book_kind c_Book_kind k_Book_kind
  have D_Book_kind : DfM K C_Book "kind" "Book.kind" s_Book_kind ["self", "name"] _ _ := ⟨F_Book_kind, F_Book_kind.binds (ps := ["self", "name"]) fun _ _ _ _ _ _ us hl => match us, hl with | [_, _], _ => rfl, ⟨a_Book_kind, i_Book_kind, k_Book_kind⟩⟩
  have F_Book_parts := fun_mk (st := s_Book_parts) l_Book_parts c_Book_parts k_Book_parts
  have D_Book_parts : DfM K C_Book "parts" "Book.parts" s_Book_parts ["self", "name"] _ _ := ⟨F_Book_parts, F_Book_parts.binds (ps := ["self", "name"]) fun _ _ _ _ _ _ us hl => match us, hl with | [_, _], _ => rfl, ⟨a_Book_parts, i_Book_parts, k_Book_parts⟩⟩
  have F_is_name := fun_mk (st := s_is_name) l_is_name c_is_name k_is_name
  have D_is_name : Df K mg "is_name" s_is_name ["book", "thing"] _ _ := ⟨F_is_name, F_is_name.binds (ps := ["book", "thing"]) fun _ _ _ _ _ _ us hl => match us, hl with | [_, _], _ => rfl, PySem.W.mg_of X G a_is_name⟩
  have F_is_kind := fun_mk (st := s_is_kind) l_is_kind c_is_kind k_is_kind
  have D_is_kind : Df K mg "is_kind" s_is_kind ["book", "thing", "kind"] _ _ := ⟨F_is_kind, F_is_kind.binds (ps := ["book", "thing", "kind"]) fun _ _ _ _ _ _ us hl => match us, hl with | [_, _, _], _ => rfl, PySem.W.mg_of X G a_is_kind⟩
  have F_is_entry := fun_mk (st := s_is_entry) l_is_entry c_is_entry k_is_entry
  have D_is_entry : Df K mg "is_entry" s_is_entry ["book", "thing"] _ _ := ⟨F_is_entry, F_is_entry.binds (ps := ["book", "thing"]) fun _ _ _ _ _ _ us hl => match us, hl with | [_, _], _ => rfl, PySem.W.mg_of X G a_is_entry⟩
  have F_is_tree := fun_mk (st := s_is_tree) l_is_tree c_is_tree k_is_tree
  have D_is_tree : Df K mg "is_tree" s_is_tree ["book", "entries"] _ _ := ⟨F_is_tree, F_is_tree.binds (ps := ["book", "entries"]) fun _ _ _ _ _ _ us hl => match us, hl with | [_, _], _ => rfl, PySem.W.mg_of X G a_is_tree⟩
  have F_depth_of := fun_mk (st := s_depth_of) l_depth_of c_depth_of k_depth_of
  have D_depth_of : Df K mg "depth_of" s_depth_of ["book", "content"] _ _ := ⟨F_depth_of, F_depth_of.binds (ps := ["book", "content"]) fun _ _ _ _ _ _ us hl => match us, hl with | [_, _], _ => rfl, PySem.W.mg_of X G a_depth_of⟩
  have F_is_version := fun_mk (st := s_is_version) l_is_version c_is_version k_is_version
  have D_is_version : Df K mg "is_version" s_is_version ["book", "content"] _ _ := ⟨F_is_version, F_is_version.binds (ps := ["book", "content"]) fun _ _ _ _ _ _ us hl => match us, hl with | [_, _], _ => rfl, PySem.W.mg_of X G a_is_version⟩
  have F_is_content := fun_mk (st := s_is_content) l_is_content c_is_content k_is_content
  have D_is_content : Df K mg "is_content" s_is_content ["book", "thing"] _ _ := ⟨F_is_content, F_is_content.binds (ps := ["book", "thing"]) fun _ _ _ _ _ _ us hl => match us, hl with | [_, _], _ => rfl, PySem.W.mg_of X G a_is_content⟩
  have F_Holding___init__ := fun_mk (st := s_Holding___init__) l_Holding___init__ c_Holding___init__ k_Holding___init__
  have D_Holding___init__ : DfM K C_Holding "__init__" "Holding.__init__" s_Holding___init__ ["self", "book", "names"] _ _ := ⟨F_Holding___init__, F_Holding___init__.binds (ps := ["self", "book", "names"]) fun _ _ _ _ _ _ us hl => match us, hl with | [_, _, _], _ => rfl, ⟨a_Holding___init__, i_Holding___init__, k_Holding___init__⟩⟩
  have F_Holding_holds := fun_mk (st := s_Holding_holds) l_Holding_holds c_Holding_holds k_Holding_holds
  have D_Holding_holds : DfM K C_Holding "holds" "Holding.holds" s_Holding_holds ["self", "name"] _ _ := ⟨F_Holding_holds, F_Holding_holds.binds (ps := ["self", "name"]) fun _ _ _ _ _ _ us hl => match us, hl with | [_, _], _ => rfl, ⟨a_Holding_holds, i_Holding_holds, k_Holding_holds⟩⟩
  have F_Store___init__ := fun_mk (st := s_Store___init__) l_Store___init__ c_Store___init__ k_Store___init__
  have D_Store___init__ : DfM K C_Store "__init__" "Store.__init__" s_Store___init__ ["self", "book"] _ _ := ⟨F_Store___init__, F_Store___init__.binds (ps := ["self", "book"]) fun _ _ _ _ _ _ us hl => match us, hl with | [_, _], _ => rfl, ⟨a_Store___init__, i_Store___init__, k_Store___init__⟩⟩
  have F_Store_put := fun_mk (st := s_Store_put) l_Store_put c_Store_put k_Store_put
  have D_Store_put : DfM K C_Store "put" "Store.put" s_Store_put ["self", "name"] _ _ := ⟨F_Store_put, F_Store_put.binds (ps := ["self", "name"]) fun _ _ _ _ _ _ us hl => match us, hl with | [_, _], _ => rfl, ⟨a_Store_put, i_Store_put, k_Store_put⟩⟩
  have F_Store_held := fun_mk (st := s_Store_held) l_Store_held c_Store_held k_Store_held
  have D_Store_held : DfM K C_Store "held" "Store.held" s_Store_held ["self"] _ _ := ⟨F_Store_held, F_Store_held.binds (ps := ["self"]) fun _ _ _ _ _ _ us hl => match us, hl with | [_], _ => rfl, ⟨a_Store_held, i_Store_held, k_Store_held⟩⟩
  have F_Store_view := fun_mk (st := s_Store_view) l_Store_view c_Store_view k_Store_view
  have D_Store_view : DfM K C_Store "view" "Store.view" s_Store_view ["self"] _ _ := ⟨F_Store_view, F_Store_view.binds (ps := ["self"]) fun _ _ _ _ _ _ us hl => match us, hl with | [_], _ => rfl, ⟨a_Store_view, i_Store_view, k_Store_view⟩⟩
  have F_Store_holds := fun_mk (st := s_Store_holds) l_Store_holds c_Store_holds k_Store_holds
  have D_Store_holds : DfM K C_Store "holds" "Store.holds" s_Store_holds ["self", "name"] _ _ := ⟨F_Store_holds, F_Store_holds.binds (ps := ["self", "name"]) fun _ _ _ _ _ _ us hl => match us, hl with | [_, _], _ => rfl, ⟨a_Store_holds, i_Store_holds, k_Store_holds⟩⟩
  have F_Store_changes := fun_mk (st := s_Store_changes) l_Store_changes c_Store_changes k_Store_changes
  have D_Store_changes : DfM K C_Store "changes" "Store.changes" s_Store_changes ["self"] _ _ := ⟨F_Store_changes, F_Store_changes.binds (ps := ["self"]) fun _ _ _ _ _ _ us hl => match us, hl with | [_], _ => rfl, ⟨a_Store_changes, i_Store_changes, k_Store_changes⟩⟩
  have F_House___init__ := fun_mk (st := s_House___init__) l_House___init__ c_House___init__ k_House___init__
  have D_House___init__ : DfM K C_House "__init__" "House.__init__" s_House___init__ ["self", "book"] _ _ := ⟨F_House___init__, F_House___init__.binds (ps := ["self", "book"]) fun _ _ _ _ _ _ us hl => match us, hl with | [_, _], _ => rfl, ⟨a_House___init__, i_House___init__, k_House___init__⟩⟩
  have F_House_marks := fun_mk (st := s_House_marks) l_House_marks c_House_marks k_House_marks
  have D_House_marks : DfM K C_House "marks" "House.marks" s_House_marks ["self"] _ _ := ⟨F_House_marks, F_House_marks.binds (ps := ["self"]) fun _ _ _ _ _ _ us hl => match us, hl with | [_], _ => rfl, ⟨a_House_marks, i_House_marks, k_House_marks⟩⟩
  have F_House_at := fun_mk (st := s_House_at) l_House_at c_House_at k_House_at
  have D_House_at : DfM K C_House "at" "House.at" s_House_at ["self", "mark"] _ _ := ⟨F_House_at, F_House_at.binds (ps := ["self", "mark"]) fun _ _ _ _ _ _ us hl => match us, hl with | [_, _], _ => rfl, ⟨a_House_at, i_House_at, k_House_at⟩⟩
  have F_House_must_have := fun_mk (st := s_House_must_have) l_House_must_have c_House_must_have k_House_must_have
  have D_House_must_have : DfM K C_House "must_have" "House.must_have" s_House_must_have ["self", "version"] _ _ := ⟨F_House_must_have, F_House_must_have.binds (ps := ["self", "version"]) fun _ _ _ _ _ _ us hl => match us, hl with | [_, _], _ => rfl, ⟨a_House_must_have, i_House_must_have, k_House_must_have⟩⟩
  have F_House_move : FunD K "move" "House.move" (defArgs s_House_move) (defBody s_House_move) (defScope s_House_move) [] [(("back" : Str), V.bl false)] f_House_move _ := ⟨⟨_, _, _, _, _, _, _, _, _, _, rfl, l_House_move, c_House_move, .inl ⟨rfl, rfl⟩, .inr ⟨_, rfl, fun q hq => by
    have e : q = (("back" : Str), V.bl false) := by simpa using hq
    subst e
    exact ⟨_, kw_House_move_back, rfl⟩⟩⟩, k_House_move⟩
  have D_House_move : DfMKr K C_House "move" "House.move" s_House_move ["self", "mark", "old", "new", "back"] [(("back" : Str), V.bl false)] _ _ := ⟨F_House_move, ⟨a_House_move, i_House_move, k_House_move⟩⟩
  have KB_House_move_old_new : ∃ g, KBn K (PySem.W.fnOf "move" "House.move" (defArgs s_House_move) (defBody s_House_move) (defScope s_House_move) .none (.ref kd_House_move) dc_House_move pm_House_move an_House_move cd_House_move ct_House_move) ["self", "mark", "old", "new", "back"] 2 ["old", "new"] g (fun vs zs => vs ++ (zs ++ [V.bl false])) := by
    obtain ⟨mv, h⟩ := F_House_move.kbinds0 (ps := ["self", "mark", "old", "new", "back"]) 2 ["old", "new"] [(("back" : Str), V.bl false)] (fun us mv ws => us ++ (ws ++ mv)) (by simp) (by simp) (fun r1 r2 r3 => r1.append (r3.append r2)) (fun _ _ _ _ _ _ us mv ws hu hm hw => match us, mv, ws, hu, hm, hw with | [_, _], [_], [_, _], _, _, _ => ⟨_, _, _, _, _, _, rfl, rfl, rfl⟩)
    exact ⟨_, h⟩
  have KB_House_move_back_new_old : ∃ g, KBn K (PySem.W.fnOf "move" "House.move" (defArgs s_House_move) (defBody s_House_move) (defScope s_House_move) .none (.ref kd_House_move) dc_House_move pm_House_move an_House_move cd_House_move ct_House_move) ["self", "mark", "old", "new", "back"] 2 ["back", "new", "old"] g (fun vs zs => vs ++ zs.reverse) := by
    obtain ⟨mv, h⟩ := F_House_move.kbinds0 (ps := ["self", "mark", "old", "new", "back"]) 2 ["back", "new", "old"] [] (fun us mv ws => us ++ ws.reverse) (by simp) (by simp) (fun r1 r2 r3 => r1.append r3.reverse) (fun _ _ _ _ _ _ us mv ws hu hm hw => match us, mv, ws, hu, hm, hw with | [_, _], [], [_, _, _], _, _, _ => rfl)
    exact ⟨_, h⟩
  have F_House_trail := fun_mk (st := s_House_trail) l_House_trail c_House_trail k_House_trail
  have D_House_trail : DfM K C_House "trail" "House.trail" s_House_trail ["self"] _ _ := ⟨F_House_trail, F_House_trail.binds (ps := ["self"]) fun _ _ _ _ _ _ us hl => match us, hl with | [_], _ => rfl, ⟨a_House_trail, i_House_trail, k_House_trail⟩⟩
  have F_law_deck := fun_mk (st := s_law_deck) l_law_deck c_law_deck k_law_deck
  have D_law_deck : Df K mg "_law_deck" s_law_deck ["_law_script"] _ _ := ⟨F_law_deck, F_law_deck.binds (ps := ["_law_script"]) fun _ _ _ _ _ _ us hl => match us, hl with | [_], _ => rfl, PySem.W.mg_of X G a_law_deck⟩
  have F_law_mixed := fun_mk (st := s_law_mixed) l_law_mixed c_law_mixed k_law_mixed
  have D_law_mixed : Df K mg "_law_mixed" s_law_mixed ["_law_cell", "_law_turn"] _ _ := ⟨F_law_mixed, F_law_mixed.binds (ps := ["_law_cell", "_law_turn"]) fun _ _ _ _ _ _ us hl => match us, hl with | [_, _], _ => rfl, PySem.W.mg_of X G a_law_mixed⟩
  have F_law_draw := fun_mk (st := s_law_draw) l_law_draw c_law_draw k_law_draw
  have D_law_draw : Df K mg "_law_draw" s_law_draw ["_law_deck_here", "_law_many"] _ _ := ⟨F_law_draw, F_law_draw.binds (ps := ["_law_deck_here", "_law_many"]) fun _ _ _ _ _ _ us hl => match us, hl with | [_, _], _ => rfl, PySem.W.mg_of X G a_law_draw⟩
  have F_law_label := fun_mk (st := s_law_label) l_law_label c_law_label k_law_label
  have D_law_label : Df K mg "_law_label" s_law_label ["_law_deck_here"] _ _ := ⟨F_law_label, F_law_label.binds (ps := ["_law_deck_here"]) fun _ _ _ _ _ _ us hl => match us, hl with | [_], _ => rfl, PySem.W.mg_of X G a_law_label⟩
  have F_law_give := fun_mk (st := s_law_give) l_law_give c_law_give k_law_give
  have D_law_give : Df K mg "_law_give" s_law_give ["_law_things", "_law_content"] _ _ := ⟨F_law_give, F_law_give.binds (ps := ["_law_things", "_law_content"]) fun _ _ _ _ _ _ us hl => match us, hl with | [_, _], _ => rfl, PySem.W.mg_of X G a_law_give⟩
  have F_law_some := fun_mk (st := s_law_some) l_law_some c_law_some k_law_some
  have D_law_some : Df K mg "_law_some" s_law_some ["_law_deck_here", "_law_names", "_law_count"] _ _ := ⟨F_law_some, F_law_some.binds (ps := ["_law_deck_here", "_law_names", "_law_count"]) fun _ _ _ _ _ _ us hl => match us, hl with | [_, _, _], _ => rfl, PySem.W.mg_of X G a_law_some⟩
  have F_law_book := fun_mk (st := s_law_book) l_law_book c_law_book k_law_book
  have D_law_book : Df K mg "_law_book" s_law_book ["_law_things"] _ _ := ⟨F_law_book, F_law_book.binds (ps := ["_law_things"]) fun _ _ _ _ _ _ us hl => match us, hl with | [_], _ => rfl, PySem.W.mg_of X G a_law_book⟩
  have F_law_house := fun_mk (st := s_law_house) l_law_house c_law_house k_law_house
  have D_law_house : Df K mg "_law_house" s_law_house ["_law_book_here", "_law_held"] _ _ := ⟨F_law_house, F_law_house.binds (ps := ["_law_book_here", "_law_held"]) fun _ _ _ _ _ _ us hl => match us, hl with | [_, _], _ => rfl, PySem.W.mg_of X G a_law_house⟩
  have F_law_int := fun_mk (st := s_law_int) l_law_int c_law_int k_law_int
  have D_law_int : Df K mg "_law_int" s_law_int ["_law_thing"] _ _ := ⟨F_law_int, F_law_int.binds (ps := ["_law_thing"]) fun _ _ _ _ _ _ us hl => match us, hl with | [_], _ => rfl, PySem.W.mg_of X G a_law_int⟩
  have F_law_same := fun_mk (st := s_law_same) l_law_same c_law_same k_law_same
  have D_law_same : Df K mg "_law_same" s_law_same ["_law_found", "_law_due"] _ _ := ⟨F_law_same, F_law_same.binds (ps := ["_law_found", "_law_due"]) fun _ _ _ _ _ _ us hl => match us, hl with | [_, _], _ => rfl, PySem.W.mg_of X G a_law_same⟩
  have F_law_parents := fun_mk (st := s_law_parents) l_law_parents c_law_parents k_law_parents
  have D_law_parents : Df K mg "_law_parents" s_law_parents ["_law_things", "_law_here_here", "_law_version"] _ _ := ⟨F_law_parents, F_law_parents.binds (ps := ["_law_things", "_law_here_here", "_law_version"]) fun _ _ _ _ _ _ us hl => match us, hl with | [_, _, _], _ => rfl, PySem.W.mg_of X G a_law_parents⟩
  have F_law_lower := fun_mk (st := s_law_lower) l_law_lower c_law_lower k_law_lower
  have D_law_lower : Df K mg "_law_lower" s_law_lower ["_law_things", "_law_here_here", "_law_version"] _ _ := ⟨F_law_lower, F_law_lower.binds (ps := ["_law_things", "_law_here_here", "_law_version"]) fun _ _ _ _ _ _ us hl => match us, hl with | [_, _, _], _ => rfl, PySem.W.mg_of X G a_law_lower⟩
  have F_law_brims := fun_mk (st := s_law_brims) l_law_brims c_law_brims k_law_brims
  have D_law_brims : Df K mg "_law_brims" s_law_brims ["_law_things", "_law_here_here", "_law_versions_here"] _ _ := ⟨F_law_brims, F_law_brims.binds (ps := ["_law_things", "_law_here_here", "_law_versions_here"]) fun _ _ _ _ _ _ us hl => match us, hl with | [_, _, _], _ => rfl, PySem.W.mg_of X G a_law_brims⟩
  have F_law_is_walk := fun_mk (st := s_law_is_walk) l_law_is_walk c_law_is_walk k_law_is_walk
  have D_law_is_walk : Df K mg "_law_is_walk" s_law_is_walk ["_law_things", "_law_here_here", "_law_was_here", "_law_goes_here", "_law_versions_here"] _ _ := ⟨F_law_is_walk, F_law_is_walk.binds (ps := ["_law_things", "_law_here_here", "_law_was_here", "_law_goes_here", "_law_versions_here"]) fun _ _ _ _ _ _ us hl => match us, hl with | [_, _, _, _, _], _ => rfl, PySem.W.mg_of X G a_law_is_walk⟩
  have F_law_way_told := fun_mk (st := s_law_way_told) l_law_way_told c_law_way_told k_law_way_told
  have D_law_way_told : Df K mg "_law_way_told" s_law_way_told ["_law_things", "_law_here_here", "_law_was_here", "_law_goes_here", "_law_thing"] _ _ := ⟨F_law_way_told, F_law_way_told.binds (ps := ["_law_things", "_law_here_here", "_law_was_here", "_law_goes_here", "_law_thing"]) fun _ _ _ _ _ _ us hl => match us, hl with | [_, _, _, _, _], _ => rfl, PySem.W.mg_of X G a_law_way_told⟩
  have F_law_here := fun_mk (st := s_law_here) l_law_here c_law_here k_law_here
  have D_law_here : Df K mg "_law_here" s_law_here ["_law_names"] _ _ := ⟨F_law_here, F_law_here.binds (ps := ["_law_names"]) fun _ _ _ _ _ _ us hl => match us, hl with | [_], _ => rfl, PySem.W.mg_of X G a_law_here⟩
  have F_law_is_label := fun_mk (st := s_law_is_label) l_law_is_label c_law_is_label k_law_is_label
  have D_law_is_label : Df K mg "_law_is_label" s_law_is_label ["_law_thing"] _ _ := ⟨F_law_is_label, F_law_is_label.binds (ps := ["_law_thing"]) fun _ _ _ _ _ _ us hl => match us, hl with | [_], _ => rfl, PySem.W.mg_of X G a_law_is_label⟩
  have F_law_mark := fun_mk (st := s_law_mark) l_law_mark c_law_mark k_law_mark
  have D_law_mark : Df K mg "_law_mark" s_law_mark ["_law_deck_here"] _ _ := ⟨F_law_mark, F_law_mark.binds (ps := ["_law_deck_here"]) fun _ _ _ _ _ _ us hl => match us, hl with | [_], _ => rfl, PySem.W.mg_of X G a_law_mark⟩
  have F_law_goes := fun_mk (st := s_law_goes) l_law_goes c_law_goes k_law_goes
  have D_law_goes : Df K mg "_law_goes" s_law_goes ["_law_deck_here", "_law_things", "_law_versions_here"] _ _ := ⟨F_law_goes, F_law_goes.binds (ps := ["_law_deck_here", "_law_things", "_law_versions_here"]) fun _ _ _ _ _ _ us hl => match us, hl with | [_, _, _], _ => rfl, PySem.W.mg_of X G a_law_goes⟩
  have F_law_was := fun_mk (st := s_law_was) l_law_was c_law_was k_law_was
  have D_law_was : Df K mg "_law_was" s_law_was ["_law_deck_here", "_law_stands", "_law_mark_here", "_law_versions_here"] _ _ := ⟨F_law_was, F_law_was.binds (ps := ["_law_deck_here", "_law_stands", "_law_mark_here", "_law_versions_here"]) fun _ _ _ _ _ _ us hl => match us, hl with | [_, _, _, _], _ => rfl, PySem.W.mg_of X G a_law_was⟩
  have F_law_moved := fun_mk (st := s_law_moved) l_law_moved c_law_moved k_law_moved
  have D_law_moved : Df K mg "_law_moved" s_law_moved ["_law_house_here", "_law_mark_here", "_law_was_here", "_law_goes_here", "_law_turn"] _ _ := ⟨F_law_moved, F_law_moved.binds (ps := ["_law_house_here", "_law_mark_here", "_law_was_here", "_law_goes_here", "_law_turn"]) fun _ _ _ _ _ _ us hl => match us, hl with | [_, _, _, _, _], _ => rfl, PySem.W.mg_of X G a_law_moved⟩
  have F_law_is_version := fun_mk (st := s_law_is_version) l_law_is_version c_law_is_version k_law_is_version
  have D_law_is_version : Df K mg "_law_is_version" s_law_is_version ["_law_things", "_law_name"] _ _ := ⟨F_law_is_version, F_law_is_version.binds (ps := ["_law_things", "_law_name"]) fun _ _ _ _ _ _ us hl => match us, hl with | [_, _], _ => rfl, PySem.W.mg_of X G a_law_is_version⟩
  have F_law_move_due := fun_mk (st := s_law_move_due) l_law_move_due c_law_move_due k_law_move_due
  have D_law_move_due : Df K mg "_law_move_due" s_law_move_due ["_law_things", "_law_here_here", "_law_stands", "_law_mark_here", "_law_was_here", "_law_goes_here", "_law_turn"] _ _ := ⟨F_law_move_due, F_law_move_due.binds (ps := ["_law_things", "_law_here_here", "_law_stands", "_law_mark_here", "_law_was_here", "_law_goes_here", "_law_turn"]) fun _ _ _ _ _ _ us hl => match us, hl with | [_, _, _, _, _, _, _], _ => rfl, PySem.W.mg_of X G a_law_move_due⟩
  have F_law_move_right := fun_mk (st := s_law_move_right) l_law_move_right c_law_move_right k_law_move_right
  have D_law_move_right : Df K mg "_law_move_right" s_law_move_right ["_law_things", "_law_here_here", "_law_was_here", "_law_goes_here", "_law_due", "_law_told"] _ _ := ⟨F_law_move_right, F_law_move_right.binds (ps := ["_law_things", "_law_here_here", "_law_was_here", "_law_goes_here", "_law_due", "_law_told"]) fun _ _ _ _ _ _ us hl => match us, hl with | [_, _, _, _, _, _], _ => rfl, PySem.W.mg_of X G a_law_move_right⟩
  have F_law_set := fun_mk (st := s_law_set) l_law_set c_law_set k_law_set
  have D_law_set : Df K mg "_law_set" s_law_set ["_law_stands", "_law_mark_here", "_law_goes_here"] _ _ := ⟨F_law_set, F_law_set.binds (ps := ["_law_stands", "_law_mark_here", "_law_goes_here"]) fun _ _ _ _ _ _ us hl => match us, hl with | [_, _, _], _ => rfl, PySem.W.mg_of X G a_law_set⟩
  have F_law_pairs := fun_mk (st := s_law_pairs) l_law_pairs c_law_pairs k_law_pairs
  have D_law_pairs : Df K mg "_law_pairs" s_law_pairs ["_law_stands"] _ _ := ⟨F_law_pairs, F_law_pairs.binds (ps := ["_law_stands"]) fun _ _ _ _ _ _ us hl => match us, hl with | [_], _ => rfl, PySem.W.mg_of X G a_law_pairs⟩
  have F_law_at := fun_mk (st := s_law_at) l_law_at c_law_at k_law_at
  have D_law_at : Df K mg "_law_at" s_law_at ["_law_house_here", "_law_mark_here"] _ _ := ⟨F_law_at, F_law_at.binds (ps := ["_law_house_here", "_law_mark_here"]) fun _ _ _ _ _ _ us hl => match us, hl with | [_, _], _ => rfl, PySem.W.mg_of X G a_law_at⟩
  have F_law_scene := fun_mk (st := s_law_scene) l_law_scene c_law_scene k_law_scene
  have D_law_scene : Df K mg "_law_scene" s_law_scene ["_law_deck_here", "_law_most"] _ _ := ⟨F_law_scene, F_law_scene.binds (ps := ["_law_deck_here", "_law_most"]) fun _ _ _ _ _ _ us hl => match us, hl with | [_, _], _ => rfl, PySem.W.mg_of X G a_law_scene⟩
  have F_law_versions := fun_mk (st := s_law_versions) l_law_versions c_law_versions k_law_versions
  have D_law_versions : Df K mg "_law_versions" s_law_versions ["_law_things", "_law_here_here"] _ _ := ⟨F_law_versions, F_law_versions.binds (ps := ["_law_things", "_law_here_here"]) fun _ _ _ _ _ _ us hl => match us, hl with | [_, _], _ => rfl, PySem.W.mg_of X G a_law_versions⟩
  have F_law_state_right := fun_mk (st := s_law_state_right) l_law_state_right c_law_state_right k_law_state_right
  have D_law_state_right : Df K mg "_law_state_right" s_law_state_right ["_law_deck_here", "_law_house_here", "_law_stands", "_law_made"] _ _ := ⟨F_law_state_right, F_law_state_right.binds (ps := ["_law_deck_here", "_law_house_here", "_law_stands", "_law_made"]) fun _ _ _ _ _ _ us hl => match us, hl with | [_, _, _, _], _ => rfl, PySem.W.mg_of X G a_law_state_right⟩
  have F_law_set_all := fun_mk (st := s_law_set_all) l_law_set_all c_law_set_all k_law_set_all
  have D_law_set_all : Df K mg "_law_set_all" s_law_set_all ["_law_deck_here", "_law_house_here", "_law_versions_here", "_law_stands", "_law_made"] _ _ := ⟨F_law_set_all, F_law_set_all.binds (ps := ["_law_deck_here", "_law_house_here", "_law_versions_here", "_law_stands", "_law_made"]) fun _ _ _ _ _ _ us hl => match us, hl with | [_, _, _, _, _], _ => rfl, PySem.W.mg_of X G a_law_set_all⟩
  have F_law := fun_mk (st := s_law) l_law c_law k_law
  have D_law : Df K mg "law" s_law ["_law_script"] _ _ := ⟨F_law, F_law.binds (ps := ["_law_script"]) fun _ _ _ _ _ _ us hl => match us, hl with | [_], _ => rfl, PySem.W.mg_of X G a_law⟩
  have X_NoMark : ExnI K mg "NoMark" C_NoMark f_NoMark___init__ _ ["self", "mark"] ["mark"] := ⟨PySem.W.mg_of X G ga_NoMark, ⟨⟨_, _, _, _, _, _, _, _, _, _, _, _, _, _, _, xl_NoMark, (show PySem.HandSPX.refsVE [.type "ValueError", .type "Exception", .type "BaseException", .type "object"] = true by decide +kernel)⟩, sa_NoMark, hb_NoMark, ht_NoMark, xk_NoMark⟩, xi_NoMark, xj_NoMark, F_NoMark___init__.binds (ps := ["self", "mark"]) fun _ _ _ _ _ _ us hl => match us, hl with | [_, _], _ => rfl, ⟨xg_NoMark, xh_NoMark, hb_NoMark, xd_NoMark⟩, ⟨xg_NoMark, xh_NoMark, hb_NoMark, xd_NoMark, xo_NoMark, xp_NoMark, xq_NoMark, xr_NoMark⟩, fun y hy => by
    rcases (by simpa using hy : y = "mark") with rfl
    · exact nf_NoMark_mark⟩
  have X_NoName : ExnI K mg "NoName" C_NoName f_NoName___init__ _ ["self", "name"] ["name"] := ⟨PySem.W.mg_of X G ga_NoName, ⟨⟨_, _, _, _, _, _, _, _, _, _, _, _, _, _, _, xl_NoName, (show PySem.HandSPX.refsVE [.type "ValueError", .type "Exception", .type "BaseException", .type "object"] = true by decide +kernel)⟩, sa_NoName, hb_NoName, ht_NoName, xk_NoName⟩, xi_NoName, xj_NoName, F_NoName___init__.binds (ps := ["self", "name"]) fun _ _ _ _ _ _ us hl => match us, hl with | [_, _], _ => rfl, ⟨xg_NoName, xh_NoName, hb_NoName, xd_NoName⟩, ⟨xg_NoName, xh_NoName, hb_NoName, xd_NoName, xo_NoName, xp_NoName, xq_NoName, xr_NoName⟩, fun y hy => by
    rcases (by simpa using hy : y = "name") with rfl
    · exact nf_NoName_name⟩
  have X_Lack : ExnI K mg "Lack" C_Lack f_Lack___init__ _ ["self", "name"] ["name"] := ⟨PySem.W.mg_of X G ga_Lack, ⟨⟨_, _, _, _, _, _, _, _, _, _, _, _, _, _, _, xl_Lack, (show PySem.HandSPX.refsVE [.type "ValueError", .type "Exception", .type "BaseException", .type "object"] = true by decide +kernel)⟩, sa_Lack, hb_Lack, ht_Lack, xk_Lack⟩, xi_Lack, xj_Lack, F_Lack___init__.binds (ps := ["self", "name"]) fun _ _ _ _ _ _ us hl => match us, hl with | [_, _], _ => rfl, ⟨xg_Lack, xh_Lack, hb_Lack, xd_Lack⟩, ⟨xg_Lack, xh_Lack, hb_Lack, xd_Lack, xo_Lack, xp_Lack, xq_Lack, xr_Lack⟩, fun y hy => by
    rcases (by simpa using hy : y = "name") with rfl
    · exact nf_Lack_name⟩
  have X_Stale : ExnI K mg "Stale" C_Stale f_Stale___init__ _ ["self", "mark", "there"] ["mark", "there", "why"] := ⟨PySem.W.mg_of X G ga_Stale, ⟨⟨_, _, _, _, _, _, _, _, _, _, _, _, _, _, _, xl_Stale, (show PySem.HandSPX.refsVE [.type "ValueError", .type "Exception", .type "BaseException", .type "object"] = true by decide +kernel)⟩, sa_Stale, hb_Stale, ht_Stale, xk_Stale⟩, xi_Stale, xj_Stale, F_Stale___init__.binds (ps := ["self", "mark", "there"]) fun _ _ _ _ _ _ us hl => match us, hl with | [_, _, _], _ => rfl, ⟨xg_Stale, xh_Stale, hb_Stale, xd_Stale⟩, ⟨xg_Stale, xh_Stale, hb_Stale, xd_Stale, xo_Stale, xp_Stale, xq_Stale, xr_Stale⟩, fun y hy => by
    rcases (by simpa using hy : y = "mark" ∨ y = "there" ∨ y = "why") with rfl | rfl | rfl
    · exact nf_Stale_mark
    · exact nf_Stale_there
    · exact nf_Stale_why⟩
  have X_NotAhead : ExnI K mg "NotAhead" C_NotAhead f_NotAhead___init__ _ ["self", "mark", "why"] ["mark", "why", "there"] := ⟨PySem.W.mg_of X G ga_NotAhead, ⟨⟨_, _, _, _, _, _, _, _, _, _, _, _, _, _, _, xl_NotAhead, (show PySem.HandSPX.refsVE [.type "ValueError", .type "Exception", .type "BaseException", .type "object"] = true by decide +kernel)⟩, sa_NotAhead, hb_NotAhead, ht_NotAhead, xk_NotAhead⟩, xi_NotAhead, xj_NotAhead, F_NotAhead___init__.binds (ps := ["self", "mark", "why"]) fun _ _ _ _ _ _ us hl => match us, hl with | [_, _, _], _ => rfl, ⟨xg_NotAhead, xh_NotAhead, hb_NotAhead, xd_NotAhead⟩, ⟨xg_NotAhead, xh_NotAhead, hb_NotAhead, xd_NotAhead, xo_NotAhead, xp_NotAhead, xq_NotAhead, xr_NotAhead⟩, fun y hy => by
    rcases (by simpa using hy : y = "mark" ∨ y = "why" ∨ y = "there") with rfl | rfl | rfl
    · exact nf_NotAhead_mark
    · exact nf_NotAhead_why
    · exact nf_NotAhead_there⟩
  have K_Book : Kl K mg "Book" C_Book ["contents", "depths", "given"] := ⟨PySem.W.mg_of X G kga_Book, ⟨kpg_Book, khd_Book, kpo_Book, ksa_Book⟩, fun y hy => by
    rcases (by simpa using hy : y = "contents" ∨ y = "depths" ∨ y = "given") with rfl | rfl | rfl
    · exact kna_Book_contents
    · exact kna_Book_depths
    · exact kna_Book_given⟩
  have M_Book : Mk K C_Book f_Book___init__ := ⟨kmk_Book, a_Book___init__, i_Book___init__, kkc_Book⟩
  have K_Holding : Kl K mg "Holding" C_Holding ["book", "row", "here"] := ⟨PySem.W.mg_of X G kga_Holding, ⟨kpg_Holding, khd_Holding, kpo_Holding, ksa_Holding⟩, fun y hy => by
    rcases (by simpa using hy : y = "book" ∨ y = "row" ∨ y = "here") with rfl | rfl | rfl
    · exact kna_Holding_book
    · exact kna_Holding_row
    · exact kna_Holding_here⟩
  have M_Holding : Mk K C_Holding f_Holding___init__ := ⟨kmk_Holding, a_Holding___init__, i_Holding___init__, kkc_Holding⟩
  have K_Store : Kl K mg "Store" C_Store ["book", "here", "turns"] := ⟨PySem.W.mg_of X G kga_Store, ⟨kpg_Store, khd_Store, kpo_Store, ksa_Store⟩, fun y hy => by
    rcases (by simpa using hy : y = "book" ∨ y = "here" ∨ y = "turns") with rfl | rfl | rfl
    · exact kna_Store_book
    · exact kna_Store_here
    · exact kna_Store_turns⟩
  have M_Store : Mk K C_Store f_Store___init__ := ⟨kmk_Store, a_Store___init__, i_Store___init__, kkc_Store⟩
  have K_House : Kl K mg "House" C_House ["book", "here", "turns", "stands", "lately", "others", "pinned"] := ⟨PySem.W.mg_of X G kga_House, ⟨kpg_House, khd_House, kpo_House, ksa_House⟩, fun y hy => by
    rcases (by simpa using hy : y = "book" ∨ y = "here" ∨ y = "turns" ∨ y = "stands" ∨ y = "lately" ∨ y = "others" ∨ y = "pinned") with rfl | rfl | rfl | rfl | rfl | rfl | rfl
    · exact kna_House_book
    · exact kna_House_here
    · exact kna_House_turns
    · exact kna_House_stands
    · exact kna_House_lately
    · exact kna_House_others
    · exact kna_House_pinned⟩
  have M_House : Mk K C_House f_House___init__ := ⟨kmk_House, a_House___init__, i_House___init__, kkc_House⟩
  have T : Txt K mg := ⟨PySem.W.mg_none_of X G z_len, PySem.W.mg_none_of X G z_list, PySem.W.mg_none_of X G z_isinstance, PySem.W.mg_none_of X G z_int, PySem.W.mg_none_of X G z_bool, PySem.W.mg_none_of X G z_str, PySem.W.mg_none_of X G z_tuple, PySem.W.mg_none_of X G z_dict, PySem.W.mg_none_of X G z_range, PySem.W.mg_none_of X G z_all, PySem.W.mg_none_of X G z_min, PySem.W.mg_none_of X G z_max, PySem.W.mg_none_of X G z_set, PySem.W.mg_none_of X G z_sorted, PySem.W.mg_none_of X G z_ValueError, ⟨_, PySem.W.mg_of X G y_SIGNS⟩, ⟨_, PySem.W.mg_of X G y_LETTERS⟩, ⟨_, PySem.W.mg_of X G y_MOST⟩, ⟨_, PySem.W.mg_of X G y_DEEP⟩, ⟨_, PySem.W.mg_of X G y_LAST⟩⟩
  exact ⟨PySem.W.fnOf "law" "law" (defArgs s_law) (defBody s_law) (defScope s_law) .none kV_law dc_law pm_law an_law cd_law ct_law, fun s v => .of_eq rfl, fun base _ _ => ok_law T F_NoName___init__ F_Lack___init__ F_NoMark___init__ F_Stale___init__ F_NotAhead___init__ D_is_int D_is_text D_is_label D_rise D_are_ints D_rising_ints D_is_pair D_are_rows D_held_parents D_edges_of D_way D_Book___init__ D_Book_named D_Book_thing D_Book_kind D_Book_parts D_is_name D_is_kind D_is_entry D_is_tree D_depth_of D_is_version D_is_content D_Holding___init__ D_Holding_holds D_Store___init__ D_Store_put D_Store_held D_Store_view D_Store_holds D_Store_changes D_House___init__ D_House_marks D_House_at D_House_must_have D_House_move KB_House_move_old_new KB_House_move_back_new_old D_House_trail D_law_deck D_law_mixed D_law_draw D_law_label D_law_give D_law_some D_law_book D_law_house D_law_int D_law_same D_law_parents D_law_lower D_law_brims D_law_is_walk D_law_way_told D_law_here D_law_is_label D_law_mark D_law_goes D_law_was D_law_moved D_law_is_version D_law_move_due D_law_move_right D_law_set D_law_pairs D_law_at D_law_scene D_law_versions D_law_state_right D_law_set_all D_law K_Book M_Book K_Holding M_Holding K_Store M_Store K_House M_House X_NoMark X_NoName X_Lack X_Stale X_NotAhead (PySem.W.mg_of X G ga_HouseError) (exm_is hb_NoMark hi_NoMark ht_NoMark es_NoMark_NoMark) (exm_is hb_NoMark hi_NoMark ht_NoMark es_NoName_NoMark) (exm_is hb_NoName hi_NoName ht_NoName es_NoName_NoName) (exm_is hb_NoMark hi_NoMark ht_NoMark es_Lack_NoMark) (exm_is hb_NoName hi_NoName ht_NoName es_Lack_NoName) (exm_is hb_Lack hi_Lack ht_Lack es_Lack_Lack) (exm_is hb_NoMark hi_NoMark ht_NoMark es_Stale_NoMark) (exm_is hb_NoName hi_NoName ht_NoName es_Stale_NoName) (exm_is hb_Lack hi_Lack ht_Lack es_Stale_Lack) (exm_is hb_HouseError hi_HouseError ht_HouseError es_Stale_HouseError) (exm_is hb_NoMark hi_NoMark ht_NoMark es_NotAhead_NoMark) (exm_is hb_NoName hi_NoName ht_NoName es_NotAhead_NoName) (exm_is hb_Lack hi_Lack ht_Lack es_NotAhead_Lack) (exm_is hb_HouseError hi_HouseError ht_HouseError es_NotAhead_HouseError) kq_Stale_Stale kq_Stale_NotAhead kq_NotAhead_Stale kq_NotAhead_NotAhead ⟨ia_House_put, i_Store_put, k_Store_put⟩ ⟨ia_House_held, i_Store_held, k_Store_held⟩ ⟨ia_House_view, i_Store_view, k_Store_view⟩ ⟨ia_House_holds, i_Store_holds, k_Store_holds⟩ ⟨ia_House_changes, i_Store_changes, k_Store_changes⟩ ⟨cr1_Store, cr2_Store⟩ ⟨cv_Store___init__, rfl⟩⟩
end FW
open PySem PySem.W PyProof.Rows
set_option maxRecDepth 100000 in
set_option maxHeartbeats 0 in
theorem PySem.Challenge.cw_fewasks_k53_marks_moved_holds : PySem.Challenge.rw_fewasks_k53_marks_moved.Holds := by
  w_on; o_law; k_head; (case hw => w_witness2)
  k_fill
  refine L2.walk_of (l := PySem.Challenge.rw_fewasks_k53_marks_moved) (n := 63) (k := 12) (x := "_law_script") (CX := fun _ => L2.CX0) (sp := fun w => FW.spLaw _) rfl (by decide) rfl ⟨rfl, by decide, by decide⟩ (fun w h Y => PySem.W.kIn_of Y) ?F (fun _ _ a ns hl _ hS => ⟨a, ns, rfl, hS, hl, fun _ => rfl⟩) (fun _ _ _ _ _ h => h)
  case F =>
    intro w mg fa h KX G hmg
    refine' FW.all_mk KX G hmg ?l_NoName___init__ ?c_NoName___init__ ?k_NoName___init__ ?l_Lack___init__ ?c_Lack___init__ ?k_Lack___init__ ?l_NoMark___init__ ?c_NoMark___init__ ?k_NoMark___init__ ?l_Stale___init__ ?c_Stale___init__ ?k_Stale___init__ ?l_NotAhead___init__ ?c_NotAhead___init__ ?k_NotAhead___init__ ?a_is_int ?l_is_int ?c_is_int ?k_is_int ?dl_is_int ?a_is_text ?l_is_text ?c_is_text ?k_is_text ?dl_is_text ?a_is_label ?l_is_label ?c_is_label ?k_is_label ?a_rise ?l_rise ?c_rise ?k_rise ?a_are_ints ?l_are_ints ?c_are_ints ?k_are_ints ?a_rising_ints ?l_rising_ints ?c_rising_ints ?k_rising_ints ?a_is_pair ?l_is_pair ?c_is_pair ?k_is_pair ?a_are_rows ?l_are_rows ?c_are_rows ?k_are_rows ?a_held_parents ?l_held_parents ?c_held_parents ?k_held_parents ?a_edges_of ?l_edges_of ?c_edges_of ?k_edges_of ?a_way ?l_way ?c_way ?k_way ?a_Book___init__ ?i_Book___init__ ?l_Book___init__ ?c_Book___init__ ?k_Book___init__ ?a_Book_named ?i_Book_named ?l_Book_named ?c_Book_named ?k_Book_named ?a_Book_thing ?i_Book_thing ?l_Book_thing ?c_Book_thing ?k_Book_thing ?a_Book_kind ?i_Book_kind ?l_Book_kind ?c_Book_kind ?k_Book_kind ?a_Book_parts ?i_Book_parts ?l_Book_parts ?c_Book_parts ?k_Book_parts ?a_is_name ?l_is_name ?c_is_name ?k_is_name ?a_is_kind ?l_is_kind ?c_is_kind ?k_is_kind ?a_is_entry ?l_is_entry ?c_is_entry ?k_is_entry ?a_is_tree ?l_is_tree ?c_is_tree ?k_is_tree ?a_depth_of ?l_depth_of ?c_depth_of ?k_depth_of ?a_is_version ?l_is_version ?c_is_version ?k_is_version ?a_is_content ?l_is_content ?c_is_content ?k_is_content ?a_Holding___init__ ?i_Holding___init__ ?l_Holding___init__ ?c_Holding___init__ ?k_Holding___init__ ?a_Holding_holds ?i_Holding_holds ?l_Holding_holds ?c_Holding_holds ?k_Holding_holds ?a_Store___init__ ?i_Store___init__ ?l_Store___init__ ?c_Store___init__ ?k_Store___init__ ?a_Store_put ?i_Store_put ?l_Store_put ?c_Store_put ?k_Store_put ?a_Store_held ?i_Store_held ?l_Store_held ?c_Store_held ?k_Store_held ?a_Store_view ?i_Store_view ?l_Store_view ?c_Store_view ?k_Store_view ?a_Store_holds ?i_Store_holds ?l_Store_holds ?c_Store_holds ?k_Store_holds ?a_Store_changes ?i_Store_changes ?l_Store_changes ?c_Store_changes ?k_Store_changes ?a_House___init__ ?i_House___init__ ?l_House___init__ ?c_House___init__ ?k_House___init__ ?a_House_marks ?i_House_marks ?l_House_marks ?c_House_marks ?k_House_marks ?a_House_at ?i_House_at ?l_House_at ?c_House_at ?k_House_at ?a_House_must_have ?i_House_must_have ?l_House_must_have ?c_House_must_have ?k_House_must_have ?a_House_move ?i_House_move ?l_House_move ?c_House_move ?k_House_move ?kw_House_move_back ?a_House_trail ?i_House_trail ?l_House_trail ?c_House_trail ?k_House_trail ?a_law_deck ?l_law_deck ?c_law_deck ?k_law_deck ?a_law_mixed ?l_law_mixed ?c_law_mixed ?k_law_mixed ?a_law_draw ?l_law_draw ?c_law_draw ?k_law_draw ?a_law_label ?l_law_label ?c_law_label ?k_law_label ?a_law_give ?l_law_give ?c_law_give ?k_law_give ?a_law_some ?l_law_some ?c_law_some ?k_law_some ?a_law_book ?l_law_book ?c_law_book ?k_law_book ?a_law_house ?l_law_house ?c_law_house ?k_law_house ?a_law_int ?l_law_int ?c_law_int ?k_law_int ?a_law_same ?l_law_same ?c_law_same ?k_law_same ?a_law_parents ?l_law_parents ?c_law_parents ?k_law_parents ?a_law_lower ?l_law_lower ?c_law_lower ?k_law_lower ?a_law_brims ?l_law_brims ?c_law_brims ?k_law_brims ?a_law_is_walk ?l_law_is_walk ?c_law_is_walk ?k_law_is_walk ?a_law_way_told ?l_law_way_told ?c_law_way_told ?k_law_way_told ?a_law_here ?l_law_here ?c_law_here ?k_law_here ?a_law_is_label ?l_law_is_label ?c_law_is_label ?k_law_is_label ?a_law_mark ?l_law_mark ?c_law_mark ?k_law_mark ?a_law_goes ?l_law_goes ?c_law_goes ?k_law_goes ?a_law_was ?l_law_was ?c_law_was ?k_law_was ?a_law_moved ?l_law_moved ?c_law_moved ?k_law_moved ?a_law_is_version ?l_law_is_version ?c_law_is_version ?k_law_is_version ?a_law_move_due ?l_law_move_due ?c_law_move_due ?k_law_move_due ?a_law_move_right ?l_law_move_right ?c_law_move_right ?k_law_move_right ?a_law_set ?l_law_set ?c_law_set ?k_law_set ?a_law_pairs ?l_law_pairs ?c_law_pairs ?k_law_pairs ?a_law_at ?l_law_at ?c_law_at ?k_law_at ?a_law_scene ?l_law_scene ?c_law_scene ?k_law_scene ?a_law_versions ?l_law_versions ?c_law_versions ?k_law_versions ?a_law_state_right ?l_law_state_right ?c_law_state_right ?k_law_state_right ?a_law_set_all ?l_law_set_all ?c_law_set_all ?k_law_set_all ?a_law ?l_law ?c_law ?k_law ?kga_Book ?kpg_Book ?khd_Book ?kpo_Book ?ksa_Book ?kmk_Book ?kkc_Book ?kna_Book_contents ?kna_Book_depths ?kna_Book_given ?kga_Holding ?kpg_Holding ?khd_Holding ?kpo_Holding ?ksa_Holding ?kmk_Holding ?kkc_Holding ?kna_Holding_book ?kna_Holding_row ?kna_Holding_here ?kga_Store ?kpg_Store ?khd_Store ?kpo_Store ?ksa_Store ?kmk_Store ?kkc_Store ?kna_Store_book ?kna_Store_here ?kna_Store_turns ?kga_House ?kpg_House ?khd_House ?kpo_House ?ksa_House ?kmk_House ?kkc_House ?kna_House_book ?kna_House_here ?kna_House_turns ?kna_House_stands ?kna_House_lately ?kna_House_others ?kna_House_pinned ?z_len ?z_list ?z_isinstance ?z_int ?z_bool ?z_str ?z_tuple ?z_dict ?z_range ?z_all ?z_min ?z_max ?z_set ?z_sorted ?z_ValueError ?y_SIGNS ?y_LETTERS ?y_MOST ?y_DEEP ?y_LAST ?ga_HouseError ?hb_HouseError ?hi_HouseError ?ht_HouseError ?ga_NoMark ?xl_NoMark ?hb_NoMark ?hi_NoMark ?ht_NoMark ?xk_NoMark ?sa_NoMark ?xg_NoMark ?xh_NoMark ?xd_NoMark ?xo_NoMark ?xp_NoMark ?xq_NoMark ?xr_NoMark ?xi_NoMark ?xj_NoMark ?nf_NoMark_mark ?ga_NoName ?xl_NoName ?hb_NoName ?hi_NoName ?ht_NoName ?xk_NoName ?sa_NoName ?xg_NoName ?xh_NoName ?xd_NoName ?xo_NoName ?xp_NoName ?xq_NoName ?xr_NoName ?xi_NoName ?xj_NoName ?nf_NoName_name ?ga_Lack ?xl_Lack ?hb_Lack ?hi_Lack ?ht_Lack ?xk_Lack ?sa_Lack ?xg_Lack ?xh_Lack ?xd_Lack ?xo_Lack ?xp_Lack ?xq_Lack ?xr_Lack ?xi_Lack ?xj_Lack ?nf_Lack_name ?ga_Stale ?xl_Stale ?hb_Stale ?hi_Stale ?ht_Stale ?xk_Stale ?sa_Stale ?xg_Stale ?xh_Stale ?xd_Stale ?xo_Stale ?xp_Stale ?xq_Stale ?xr_Stale ?xi_Stale ?xj_Stale ?nf_Stale_mark ?nf_Stale_there ?nf_Stale_why ?ga_NotAhead ?xl_NotAhead ?hb_NotAhead ?hi_NotAhead ?ht_NotAhead ?xk_NotAhead ?sa_NotAhead ?xg_NotAhead ?xh_NotAhead ?xd_NotAhead ?xo_NotAhead ?xp_NotAhead ?xq_NotAhead ?xr_NotAhead ?xi_NotAhead ?xj_NotAhead ?nf_NotAhead_mark ?nf_NotAhead_why ?nf_NotAhead_there ?es_NoMark_NoMark ?es_NoName_NoMark ?es_NoName_NoName ?es_Lack_NoMark ?es_Lack_NoName ?es_Lack_Lack ?es_Stale_NoMark ?es_Stale_NoName ?es_Stale_Lack ?es_Stale_HouseError ?es_NotAhead_NoMark ?es_NotAhead_NoName ?es_NotAhead_Lack ?es_NotAhead_HouseError ?kq_Stale_Stale ?kq_Stale_NotAhead ?kq_NotAhead_Stale ?kq_NotAhead_NotAhead ?ia_House_put ?ia_House_held ?ia_House_view ?ia_House_holds ?ia_House_changes ?cr1_Store ?cr2_Store ?cv_Store___init__
    (case ga_NoMark => k_is); (case xi_NoMark => k_is); (case ga_NoName => k_is); (case xi_NoName => k_is); (case ga_Lack => k_is); (case xi_Lack => k_is); (case ga_Stale => k_is); (case xi_Stale => k_is); (case ga_NotAhead => k_is); (case xi_NotAhead => k_is); (case kga_Book => k_is); (case kga_Holding => k_is); (case kga_Store => k_is); (case kga_House => k_is); (case a_Book___init__ => k_is); (case a_Book_named => k_is); (case a_Book_thing => k_is); (case a_Book_kind => k_is); (case a_Book_parts => k_is); (case a_Holding___init__ => k_is); (case a_Holding_holds => k_is); (case a_Store___init__ => k_is); (case a_Store_put => k_is); (case a_Store_held => k_is); (case a_Store_view => k_is); (case a_Store_holds => k_is); (case a_Store_changes => k_is); (case a_House___init__ => k_is); (case a_House_marks => k_is); (case a_House_at => k_is); (case a_House_must_have => k_is); (case a_House_move => k_is); (case a_House_trail => k_is); (case l_NoName___init__ => k_is); (case c_NoName___init__ => k_is); (case k_NoName___init__ => k_is); (case l_Lack___init__ => k_is); (case c_Lack___init__ => k_is); (case k_Lack___init__ => k_is); (case l_NoMark___init__ => k_is); (case c_NoMark___init__ => k_is); (case k_NoMark___init__ => k_is); (case l_Stale___init__ => k_is); (case c_Stale___init__ => k_is); (case k_Stale___init__ => k_is); (case l_NotAhead___init__ => k_is); (case c_NotAhead___init__ => k_is); (case k_NotAhead___init__ => k_is); (case a_is_int => k_is); (case l_is_int => k_is); (case c_is_int => k_is); (case k_is_int => k_is); (case dl_is_int => k_is); (case a_is_text => k_is); (case l_is_text => k_is); (case c_is_text => k_is); (case k_is_text => k_is); (case dl_is_text => k_is); (case a_is_label => k_is); (case l_is_label => k_is); (case c_is_label => k_is); (case k_is_label => k_is); (case a_rise => k_is); (case l_rise => k_is); (case c_rise => k_is); (case k_rise => k_is); (case a_are_ints => k_is); (case l_are_ints => k_is); (case c_are_ints => k_is); (case k_are_ints => k_is); (case a_rising_ints => k_is); (case l_rising_ints => k_is); (case c_rising_ints => k_is); (case k_rising_ints => k_is); (case a_is_pair => k_is); (case l_is_pair => k_is); (case c_is_pair => k_is); (case k_is_pair => k_is); (case a_are_rows => k_is); (case l_are_rows => k_is); (case c_are_rows => k_is); (case k_are_rows => k_is); (case a_held_parents => k_is); (case l_held_parents => k_is); (case c_held_parents => k_is); (case k_held_parents => k_is); (case a_edges_of => k_is); (case l_edges_of => k_is); (case c_edges_of => k_is); (case k_edges_of => k_is); (case a_way => k_is); (case l_way => k_is); (case c_way => k_is); (case k_way => k_is); (case i_Book___init__ => k_is); (case l_Book___init__ => k_is); (case c_Book___init__ => k_is); (case k_Book___init__ => k_is); (case i_Book_named => k_is); (case l_Book_named => k_is); (case c_Book_named => k_is); (case k_Book_named => k_is); (case i_Book_thing => k_is); (case l_Book_thing => k_is); (case c_Book_thing => k_is); (case k_Book_thing => k_is); (case i_Book_kind => k_is); (case l_Book_kind => k_is); (case c_Book_kind => k_is); (case k_Book_kind => k_is); (case i_Book_parts => k_is); (case l_Book_parts => k_is); (case c_Book_parts => k_is); (case k_Book_parts => k_is); (case a_is_name => k_is); (case l_is_name => k_is); (case c_is_name => k_is); (case k_is_name => k_is); (case a_is_kind => k_is); (case l_is_kind => k_is); (case c_is_kind => k_is); (case k_is_kind => k_is); (case a_is_entry => k_is); (case l_is_entry => k_is); (case c_is_entry => k_is); (case k_is_entry => k_is); (case a_is_tree => k_is); (case l_is_tree => k_is); (case c_is_tree => k_is); (case k_is_tree => k_is); (case a_depth_of => k_is); (case l_depth_of => k_is); (case c_depth_of => k_is); (case k_depth_of => k_is); (case a_is_version => k_is); (case l_is_version => k_is); (case c_is_version => k_is); (case k_is_version => k_is); (case a_is_content => k_is); (case l_is_content => k_is); (case c_is_content => k_is); (case k_is_content => k_is); (case i_Holding___init__ => k_is); (case l_Holding___init__ => k_is); (case c_Holding___init__ => k_is); (case k_Holding___init__ => k_is); (case i_Holding_holds => k_is); (case l_Holding_holds => k_is); (case c_Holding_holds => k_is); (case k_Holding_holds => k_is); (case i_Store___init__ => k_is); (case l_Store___init__ => k_is); (case c_Store___init__ => k_is); (case k_Store___init__ => k_is); (case i_Store_put => k_is); (case l_Store_put => k_is); (case c_Store_put => k_is); (case k_Store_put => k_is); (case i_Store_held => k_is); (case l_Store_held => k_is); (case c_Store_held => k_is); (case k_Store_held => k_is); (case i_Store_view => k_is); (case l_Store_view => k_is); (case c_Store_view => k_is); (case k_Store_view => k_is); (case i_Store_holds => k_is); (case l_Store_holds => k_is); (case c_Store_holds => k_is); (case k_Store_holds => k_is); (case i_Store_changes => k_is); (case l_Store_changes => k_is); (case c_Store_changes => k_is); (case k_Store_changes => k_is); (case i_House___init__ => k_is); (case l_House___init__ => k_is); (case c_House___init__ => k_is); (case k_House___init__ => k_is); (case i_House_marks => k_is); (case l_House_marks => k_is); (case c_House_marks => k_is); (case k_House_marks => k_is); (case i_House_at => k_is); (case l_House_at => k_is); (case c_House_at => k_is); (case k_House_at => k_is); (case i_House_must_have => k_is); (case l_House_must_have => k_is); (case c_House_must_have => k_is); (case k_House_must_have => k_is); (case i_House_move => k_is); (case l_House_move => k_is); (case c_House_move => k_is); (case k_House_move => k_is); (case kw_House_move_back => k_is); (case i_House_trail => k_is); (case l_House_trail => k_is); (case c_House_trail => k_is); (case k_House_trail => k_is); (case a_law_deck => k_is); (case l_law_deck => k_is); (case c_law_deck => k_is); (case k_law_deck => k_is); (case a_law_mixed => k_is); (case l_law_mixed => k_is); (case c_law_mixed => k_is); (case k_law_mixed => k_is); (case a_law_draw => k_is); (case l_law_draw => k_is); (case c_law_draw => k_is); (case k_law_draw => k_is); (case a_law_label => k_is); (case l_law_label => k_is); (case c_law_label => k_is); (case k_law_label => k_is); (case a_law_give => k_is); (case l_law_give => k_is); (case c_law_give => k_is); (case k_law_give => k_is); (case a_law_some => k_is); (case l_law_some => k_is); (case c_law_some => k_is); (case k_law_some => k_is); (case a_law_book => k_is); (case l_law_book => k_is); (case c_law_book => k_is); (case k_law_book => k_is); (case a_law_house => k_is); (case l_law_house => k_is); (case c_law_house => k_is); (case k_law_house => k_is); (case a_law_int => k_is); (case l_law_int => k_is); (case c_law_int => k_is); (case k_law_int => k_is); (case a_law_same => k_is); (case l_law_same => k_is); (case c_law_same => k_is); (case k_law_same => k_is); (case a_law_parents => k_is); (case l_law_parents => k_is); (case c_law_parents => k_is); (case k_law_parents => k_is); (case a_law_lower => k_is); (case l_law_lower => k_is); (case c_law_lower => k_is); (case k_law_lower => k_is); (case a_law_brims => k_is); (case l_law_brims => k_is); (case c_law_brims => k_is); (case k_law_brims => k_is); (case a_law_is_walk => k_is); (case l_law_is_walk => k_is); (case c_law_is_walk => k_is); (case k_law_is_walk => k_is); (case a_law_way_told => k_is); (case l_law_way_told => k_is); (case c_law_way_told => k_is); (case k_law_way_told => k_is); (case a_law_here => k_is); (case l_law_here => k_is); (case c_law_here => k_is); (case k_law_here => k_is); (case a_law_is_label => k_is); (case l_law_is_label => k_is); (case c_law_is_label => k_is); (case k_law_is_label => k_is); (case a_law_mark => k_is); (case l_law_mark => k_is); (case c_law_mark => k_is); (case k_law_mark => k_is); (case a_law_goes => k_is); (case l_law_goes => k_is); (case c_law_goes => k_is); (case k_law_goes => k_is); (case a_law_was => k_is); (case l_law_was => k_is); (case c_law_was => k_is); (case k_law_was => k_is); (case a_law_moved => k_is); (case l_law_moved => k_is); (case c_law_moved => k_is); (case k_law_moved => k_is); (case a_law_is_version => k_is); (case l_law_is_version => k_is); (case c_law_is_version => k_is); (case k_law_is_version => k_is); (case a_law_move_due => k_is); (case l_law_move_due => k_is); (case c_law_move_due => k_is); (case k_law_move_due => k_is); (case a_law_move_right => k_is); (case l_law_move_right => k_is); (case c_law_move_right => k_is); (case k_law_move_right => k_is); (case a_law_set => k_is); (case l_law_set => k_is); (case c_law_set => k_is); (case k_law_set => k_is); (case a_law_pairs => k_is); (case l_law_pairs => k_is); (case c_law_pairs => k_is); (case k_law_pairs => k_is); (case a_law_at => k_is); (case l_law_at => k_is); (case c_law_at => k_is); (case k_law_at => k_is); (case a_law_scene => k_is); (case l_law_scene => k_is); (case c_law_scene => k_is); (case k_law_scene => k_is); (case a_law_versions => k_is); (case l_law_versions => k_is); (case c_law_versions => k_is); (case k_law_versions => k_is); (case a_law_state_right => k_is); (case l_law_state_right => k_is); (case c_law_state_right => k_is); (case k_law_state_right => k_is); (case a_law_set_all => k_is); (case l_law_set_all => k_is); (case c_law_set_all => k_is); (case k_law_set_all => k_is); (case a_law => k_is); (case l_law => k_is); (case c_law => k_is); (case k_law => k_is); (case kpg_Book => k_is); (case khd_Book => k_is); (case kpo_Book => k_is); (case ksa_Book => k_is); (case kmk_Book => k_is); (case kkc_Book => k_is); (case kna_Book_contents => k_is); (case kna_Book_depths => k_is); (case kna_Book_given => k_is); (case kpg_Holding => k_is); (case khd_Holding => k_is); (case kpo_Holding => k_is); (case ksa_Holding => k_is); (case kmk_Holding => k_is); (case kkc_Holding => k_is); (case kna_Holding_book => k_is); (case kna_Holding_row => k_is); (case kna_Holding_here => k_is); (case kpg_Store => k_is); (case khd_Store => k_is); (case kpo_Store => k_is); (case ksa_Store => k_is); (case kmk_Store => k_is); (case kkc_Store => k_is); (case kna_Store_book => k_is); (case kna_Store_here => k_is); (case kna_Store_turns => k_is); (case kpg_House => k_is); (case khd_House => k_is); (case kpo_House => k_is); (case ksa_House => k_is); (case kmk_House => k_is); (case kkc_House => k_is); (case kna_House_book => k_is); (case kna_House_here => k_is); (case kna_House_turns => k_is); (case kna_House_stands => k_is); (case kna_House_lately => k_is); (case kna_House_others => k_is); (case kna_House_pinned => k_is); (case z_len => k_is); (case z_list => k_is); (case z_isinstance => k_is); (case z_int => k_is); (case z_bool => k_is); (case z_str => k_is); (case z_tuple => k_is); (case z_dict => k_is); (case z_range => k_is); (case z_all => k_is); (case z_min => k_is); (case z_max => k_is); (case z_set => k_is); (case z_sorted => k_is); (case z_ValueError => k_is); (case y_SIGNS => k_is); (case y_LETTERS => k_is); (case y_MOST => k_is); (case y_DEEP => k_is); (case y_LAST => k_is); (case ga_HouseError => k_is); (case hb_HouseError => k_is); (case hi_HouseError => k_is); (case ht_HouseError => k_is); (case xl_NoMark => k_is); (case hb_NoMark => k_is); (case hi_NoMark => k_is); (case ht_NoMark => k_is); (case xk_NoMark => k_is); (case sa_NoMark => k_is); (case xg_NoMark => k_is); (case xh_NoMark => k_is); (case xd_NoMark => k_is); (case xo_NoMark => k_is); (case xp_NoMark => k_is); (case xq_NoMark => k_is); (case xr_NoMark => k_is); (case xj_NoMark => k_is); (case nf_NoMark_mark => k_is); (case xl_NoName => k_is); (case hb_NoName => k_is); (case hi_NoName => k_is); (case ht_NoName => k_is); (case xk_NoName => k_is); (case sa_NoName => k_is); (case xg_NoName => k_is); (case xh_NoName => k_is); (case xd_NoName => k_is); (case xo_NoName => k_is); (case xp_NoName => k_is); (case xq_NoName => k_is); (case xr_NoName => k_is); (case xj_NoName => k_is); (case nf_NoName_name => k_is); (case xl_Lack => k_is); (case hb_Lack => k_is); (case hi_Lack => k_is); (case ht_Lack => k_is); (case xk_Lack => k_is); (case sa_Lack => k_is); (case xg_Lack => k_is); (case xh_Lack => k_is); (case xd_Lack => k_is); (case xo_Lack => k_is); (case xp_Lack => k_is); (case xq_Lack => k_is); (case xr_Lack => k_is); (case xj_Lack => k_is); (case nf_Lack_name => k_is); (case xl_Stale => k_is); (case hb_Stale => k_is); (case hi_Stale => k_is); (case ht_Stale => k_is); (case xk_Stale => k_is); (case sa_Stale => k_is); (case xg_Stale => k_is); (case xh_Stale => k_is); (case xd_Stale => k_is); (case xo_Stale => k_is); (case xp_Stale => k_is); (case xq_Stale => k_is); (case xr_Stale => k_is); (case xj_Stale => k_is); (case nf_Stale_mark => k_is); (case nf_Stale_there => k_is); (case nf_Stale_why => k_is); (case xl_NotAhead => k_is); (case hb_NotAhead => k_is); (case hi_NotAhead => k_is); (case ht_NotAhead => k_is); (case xk_NotAhead => k_is); (case sa_NotAhead => k_is); (case xg_NotAhead => k_is); (case xh_NotAhead => k_is); (case xd_NotAhead => k_is); (case xo_NotAhead => k_is); (case xp_NotAhead => k_is); (case xq_NotAhead => k_is); (case xr_NotAhead => k_is); (case xj_NotAhead => k_is); (case nf_NotAhead_mark => k_is); (case nf_NotAhead_why => k_is); (case nf_NotAhead_there => k_is); (case es_NoMark_NoMark => k_is); (case es_NoName_NoMark => k_is); (case es_NoName_NoName => k_is); (case es_Lack_NoMark => k_is); (case es_Lack_NoName => k_is); (case es_Lack_Lack => k_is); (case es_Stale_NoMark => k_is); (case es_Stale_NoName => k_is); (case es_Stale_Lack => k_is); (case es_Stale_HouseError => k_is); (case es_NotAhead_NoMark => k_is); (case es_NotAhead_NoName => k_is); (case es_NotAhead_Lack => k_is); (case es_NotAhead_HouseError => k_is); (case kq_Stale_Stale => kit_is); (case kq_Stale_NotAhead => kit_is); (case kq_NotAhead_Stale => kit_is); (case kq_NotAhead_NotAhead => kit_is); (case ia_House_put => k_is); (case ia_House_held => k_is); (case ia_House_view => k_is); (case ia_House_holds => k_is); (case ia_House_changes => k_is); (case cr1_Store => k_is); (case cr2_Store => k_is); (case cv_Store___init__ => k_is)

