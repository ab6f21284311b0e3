import PyProof.Rows.All
import Wide.All
import OpenK.AllK
import Wide.FinOn
import HandS.ForMost
import HandS.Wide
import HandS.WideBits
import HandS.Conv
import HandS.IsInst
import HandS.Walk
import HandS.TupLe
import HandS.TupAny
import HandS.DictComp
import HandS.SetKeys
import HandS.ForExc
import HandS.ExcIs
import HandS.ExcInit
import HandS.ExcField
import HandS.Defaults
import HandS.CallSlots
import HandS.MakeKwOnly
import KE.DatumOrd
import PyProof.Claim2Refuses
import KE.GoesEnum
import HandS.WordsDict
import HandS.SortInts
import HandS.Zip
import PyProof.CollectIter
import PyProof.WalksMore
import HandS.TryMany
import KE.KTryMore
import HandS.TryOnly
import HandS.TupMul
import KE.KxIndex
import KE.KeyNested
import HandS.SetFor
import HandS.Strs
import HandS.SortKw
import HandS.Deep
import HandS.DictTup
import HandS.ListItems
import KE.SortData
import HandS.ClsMeth
import HandS.More
import KE.KCallOwn
import KE.KDictWalk
import HandS.ExcOwn
import PySem.Challenge.RW_fewasks_k55_pins_and_far_marks
set_option Elab.async false
set_option linter.all false
set_option maxRecDepth 100000
/-! My own small words over the layer: steps of readings as lemmas, heaps that keep. -/
namespace FW
open PySem L2
/-! ### heaps -/
/-- all that stood stands, but at the addresses M -/
def Kp (M : List Addr) (H H' : Hp) : Prop := ∀ b o, b ∉ M → H b = some o → H' b = some o
theorem Kp.refl {M : List Addr} {H : Hp} : Kp M H H := fun _ _ _ h => h
theorem Kp.trans {M : List Addr} {H H1 H2 : Hp} (a : Kp M H H1) (b : Kp M H1 H2) : Kp M H H2 := fun c o n h => b c o n (a c o n h)
theorem Kp.mono {M N : List Addr} {H H1 : Hp} (a : Kp M H H1) (s : ∀ x ∈ M, x ∈ N) : Kp N H H1 := fun c o n h => a c o (fun z => n (s c z)) h
theorem Kp.same {H H1 : Hp} (a : Kp [] H H1) : Same H H1 := fun c o h => a c o (by simp) h
theorem Kp.of {M : List Addr} {H H1 : Hp} (a : Same H H1) : Kp M H H1 := fun c o _ h => a c o h
theorem Kp.new {M : List Addr} {H : Hp} {p : Addr} {o : HO} (h : H p = none) : Kp M H (upd H p o) := fun b u _ e => by rw [upd_ne (ne_of_none e h)]; exact e
theorem Kp.mut {M : List Addr} {H : Hp} {p : Addr} {o : HO} (h : p ∈ M) : Kp M H (upd H p o) := fun b u n e => by
  rw [upd_ne (show b ≠ p from fun z => n (by rw [z]; exact h))]; exact e
/-- a new object that was mutated or laid since: it stood not at the start -/
theorem Kp.mutN {M : List Addr} {H H1 : Hp} {p : Addr} {o : HO} (k : Kp M H H1) (h : H p = none) : Kp M H (upd H1 p o) := fun b u n e => by
  rw [upd_ne (ne_of_none e h)]; exact k b u n e
theorem Same.new {H : Hp} {p : Addr} {o : HO} (h : H p = none) : Same H (upd H p o) := fun b u e => by rw [upd_ne (ne_of_none e h)]; exact e
theorem upd_get {H : Hp} {a b : Addr} {o u : HO} (h : b ≠ a) (e : H b = some u) : upd H a o b = some u := by rw [upd_ne h]; exact e
theorem upd_none {H : Hp} {a b : Addr} {o : HO} (e : upd H a o b = none) : H b = none ∧ b ≠ a := by
  by_cases h : b = a
  · subst h; rw [upd_same] at e; cases e
  · rw [upd_ne h] at e; exact ⟨e, h⟩
/-- all but p is as it was -/
def Off (p : Addr) (H H' : Hp) : Prop := ∀ b, b ≠ p → H' b = H b
theorem Off.get {p b : Addr} {H H' : Hp} {o : HO} (k : Off p H H') (n : b ≠ p) (e : H b = some o) : H' b = some o := (k b n).trans e
theorem Off.kp {p : Addr} {M : List Addr} {H H' : Hp} (k : Off p H H') (m : p ∈ M) : Kp M H H' := fun b o n e => (k b (fun z => n (by rw [z]; exact m))).trans e
theorem Off.trans {p : Addr} {H H1 H2 : Hp} (a : Off p H H1) (b : Off p H1 H2) : Off p H H2 := fun x n => (b x n).trans (a x n)
theorem Off.keep {p : Addr} {M : List Addr} {H H1 H2 : Hp} (a : Kp M H H1) (b : Off p H1 H2) (n : H p = none) : Kp M H H2 := fun x o m e => (b x (ne_of_none e n)).trans (a x o m e)
/-- a list's change keeps the tuples -/
theorem Off.tup {p b : Addr} {H H' : Hp} {xs ys : List V} (k : Off p H H') (hp : H p = some (.lst xs)) (e : H b = some (.tup ys)) : H' b = some (.tup ys) := k.get (ne_of e hp (fun z => nomatch z)) e
/-- what keeps the tuples -/
structure KT (H H' : Hp) : Prop where
  p : ∀ b xs, H b = some (.tup xs) → H' b = some (.tup xs)
  f : ∀ b o xs, H b = some (.frz o (.tup xs)) → H' b = some (.frz o (.tup xs))
instance {H H' : Hp} : CoeFun (KT H H') (fun _ => ∀ b xs, H b = some (.tup xs) → H' b = some (.tup xs)) := ⟨KT.p⟩
theorem KT.refl {H : Hp} : KT H H := ⟨fun _ _ e => e, fun _ _ _ e => e⟩
theorem KT.of {H H' : Hp} (k : Same H H') : KT H H' := ⟨fun b xs e => k _ _ e, fun b o xs e => k _ _ e⟩
theorem KT.off {p : Addr} {H H' : Hp} {xs : List V} (k : Off p H H') (e : H p = some (.lst xs)) : KT H H' := ⟨fun b ys e2 => k.tup e e2, fun b o ys e2 => k.get (ne_of e2 e (fun z => nomatch z)) e2⟩
theorem KT.trans {H H1 H2 : Hp} (a : KT H H1) (b : KT H1 H2) : KT H H2 := ⟨fun c xs e => b.p c xs (a.p c xs e), fun c o xs e => b.f c o xs (a.f c o xs e)⟩
theorem KT.kp {M : List Addr} {H H' : Hp} (k : Kp M H H') (h : ∀ b ∈ M, ∃ xs, H b = some (.lst xs)) : KT H H' := ⟨fun b ys e => k b _ (fun z => by
  obtain ⟨xs, e2⟩ := h b z
  rw [e] at e2; cases e2) e, fun b o ys e => k b _ (fun z => by
  obtain ⟨xs, e2⟩ := h b z
  rw [e] at e2; cases e2) e⟩
theorem KT.upd {H H1 : Hp} {D : Addr} {o : HO} (k : KT H H1) (h : H D = none) : KT H (upd H1 D o) := ⟨fun b xs e => by rw [upd_ne (ne_of_none e h)]; exact k.p b xs e, fun b u xs e => by rw [upd_ne (ne_of_none e h)]; exact k.f b u xs e⟩
theorem KT.updL {H : Hp} {D : Addr} {o : HO} {ys : List V} (h : H D = some (.lst ys)) : KT H (L2.upd H D o) := ⟨fun b xs e => upd_get (ne_of e h (fun z => nomatch z)) e, fun b u xs e => upd_get (ne_of e h (fun z => nomatch z)) e⟩
/-- a tuple whose object has no dict -/
def TupD (H : Hp) (r : Addr) (xs : List V) : Prop := ∃ o : Obj, H r = some (.frz o (.tup xs)) ∧ o.dict = none
theorem TupD.kt {H H' : Hp} {r : Addr} {xs : List V} (h : TupD H r xs) (k : KT H H') : TupD H' r xs := by
  obtain ⟨o, e, d⟩ := h
  exact ⟨o, k.f _ _ _ e, d⟩
theorem TupD.tx {K : PySem.W.Frag} {H : Hp} {r : Addr} {xs : List V} (h : TupD H r xs) : TyX K H (.ref r) (.type "tuple") := by
  obtain ⟨o, e, d⟩ := h
  exact .fTuple e
theorem TupD.sq {K : PySem.W.Frag} {H : Hp} {r : Addr} {xs : List V} (h : TupD H r xs) : SqT K H r xs := by
  obtain ⟨o, e, d⟩ := h
  exact .inl (.inr ⟨o, e⟩)
/-! ### rules by names -/
/-- a new object o -/
def Nw (o : HO) (H : Hp) (Q : VK) : Prop := ∀ p, H p = none → Q (.ref p) (upd H p o)
def rLen (K : PySem.W.Frag) : List V → Hp → VK → Prop := fun xs H Q => ∃ p ys, xs = [.ref p] ∧ (SqL K H p ys ∨ SqT K H p ys) ∧ Q (.int ys.length) H
def rMin2 : List V → Hp → VK → Prop := fun xs H Q => ∃ i j, xs = [.int i, .int j] ∧ Q (.int (if j < i then j else i)) H
def rMax2 : List V → Hp → VK → Prop := fun xs H Q => ∃ i j, xs = [.int i, .int j] ∧ Q (.int (if j > i then j else i)) H
def rListOf (K : PySem.W.Frag) : List V → Hp → VK → Prop := fun xs H Q => ∃ p ys, xs = [.ref p] ∧ (SqL K H p ys ∨ SqT K H p ys) ∧ ∀ l, H l = none → Q (.ref l) (upd H l (.lst ys))
def rTupOf (K : PySem.W.Frag) : List V → Hp → VK → Prop := fun xs H Q => ∃ p ys, xs = [.ref p] ∧ ((SqL K H p ys ∧ ∀ l, H l = none → Q (.ref l) (upd H l (.tup ys))) ∨ (SqT K H p ys ∧ Q (.ref p) H))
def rRg2 (x y : V) (H : Hp) (R : Int → Int → Hp → Prop) : Prop := ∃ i j, x = .int i ∧ y = .int j ∧ R i j H
def rBits (x : V) (H : Hp) (Q : VK) : Prop := ∃ i, x = .int i ∧ Q (.int (Builtin.Int.intBits i : Nat)) H
def rRng1 (vs : List V) (H : Hp) (R : It → Hp → Prop) : Prop := ∃ j : Int, vs = [.int j] ∧ -(2 ^ 62) ≤ j ∧ j < 2 ^ 62 ∧ R (Itr 0 j.toNat) H
def rRng2 (vs : List V) (H : Hp) (R : It → Hp → Prop) : Prop := ∃ i j : Int, vs = [.int i, .int j] ∧ (-(2 ^ 62) ≤ i ∧ i < 2 ^ 62 ∧ -(2 ^ 62) ≤ j ∧ j < 2 ^ 62) ∧ R (Itr i (j - i).toNat) H
def rItL (K : PySem.W.Frag) (x : V) (H : Hp) (R : It → Hp → Prop) : Prop := ∃ a, x = .ref a ∧ (∃ xs, SqL K H a xs) ∧ R (Itl K a) H
def rItT (K : PySem.W.Frag) (x : V) (H : Hp) (R : It → Hp → Prop) : Prop := ∃ a, x = .ref a ∧ (∃ xs, SqT K H a xs) ∧ R (Itt K a) H
def rDIn (x y : V) (H : Hp) (Q : VK) : Prop := ∃ a o, x = .ref a ∧ DGet H a y o ∧ Q (.bl o.isSome) H
def rDNotIn (x y : V) (H : Hp) (Q : VK) : Prop := ∃ a o, x = .ref a ∧ DGet H a y o ∧ Q (.bl (!o.isSome)) H
def rDGet (x y : V) (H : Hp) (Q : VK) : Prop := ∃ a v, x = .ref a ∧ DGet H a y (some v) ∧ Q v H
def rDGet2 (a : Addr) (y z : V) (H : Hp) (Q : VK) : Prop := ∃ o, DGet H a y o ∧ Q (o.getD z) H
def rDPut (x y v : V) (H : Hp) (R : Hp → Prop) : Prop := ∃ a H4, x = .ref a ∧ DPut H a y v H4 ∧ R H4
def rDSetd (a : Addr) (y z : V) (H : Hp) (Q : VK) : Prop := ∃ (kvs : List (Key × V)) (k : Key), H a = some (.dK kvs) ∧ y = kV k ∧ kvs.length < sizeLine ∧ (∀ v, valV kvs k = some v → Q v H) ∧ (valV kvs k = none → Q z (upd H a (.dK (putK kvs k z))))
def rIsD (x : V) (H : Hp) (R : Addr → Hp → Prop) : Prop := ∃ a, x = .ref a ∧ IsD H a ∧ R a H
def rIsBl : R2 := fun x y H Q => ∃ a b, x = .bl a ∧ y = .bl b ∧ Q (.bl (decide (a = b))) H
def rIsNon : R2 := fun x y H Q => y = .non ∧ Q (.bl (decide (x = .non))) H
def rNotNon : R2 := fun x y H Q => y = .non ∧ Q (.bl (!decide (x = .non))) H
def rTru (K : PySem.W.Frag) (x : V) (H : Hp) (R : Bool → Hp → Prop) : Prop := ∃ k, TruV K x H k ∧ R k H
def tTru (K : PySem.W.Frag) (ta : TE) : TT := fun σ H R => ta σ H fun x H' => ∃ k, TruV K x H' k ∧ R k H'
def rSortD (xs : List V) (H : Hp) (Q : VK) : Prop := ∃ (a : Addr) (kvs : List (Key × V)) (ks : List Int), xs = [.ref a] ∧ Rd H a (.dK kvs) ∧ kvs.map (·.1) = ks.map Sum.inl ∧ ks.length < 64 ∧
    ∀ (ys : List Int) (p : Addr), ys.Perm ks → ys.Pairwise (· ≤ ·) → H p = none → Q (.ref p) (upd H p (.lst (ys.map V.int)))
section
variable {X : Cx}
theorem o_isN : OpR X (compareOp .Is) rIsNon := op_isN
theorem o_notN : OpR X (compareOp .IsNot) rNotNon := op_notN
theorem c_len : CallR X (.builtin "len") (rLen X.K) := call_len_seq
theorem c_min2 (hc : X.calm = true) : CallR X (.builtin "min") rMin2 := call_min2 hc
theorem c_listOf : CallR X (.type "list") (rListOf X.K) := call_list_of
theorem c_tupOf : CallR X (.type "tuple") (rTupOf X.K) := call_tuple_of
end
theorem kb_int_int : kitB "int" "int" = some true := by decide +kernel
theorem kb_int_bool : kitB "int" "bool" = some false := by decide +kernel
theorem kb_int_str : kitB "int" "str" = some false := by decide +kernel
theorem kb_int_tuple : kitB "int" "tuple" = some false := by decide +kernel
theorem kb_int_list : kitB "int" "list" = some false := by decide +kernel
theorem kb_int_dict : kitB "int" "dict" = some false := by decide +kernel
theorem kb_bool_int : kitB "bool" "int" = some true := by decide +kernel
theorem kb_bool_bool : kitB "bool" "bool" = some true := by decide +kernel
theorem kb_bool_str : kitB "bool" "str" = some false := by decide +kernel
theorem kb_bool_tuple : kitB "bool" "tuple" = some false := by decide +kernel
theorem kb_bool_list : kitB "bool" "list" = some false := by decide +kernel
theorem kb_bool_dict : kitB "bool" "dict" = some false := by decide +kernel
theorem kb_str_int : kitB "str" "int" = some false := by decide +kernel
theorem kb_str_bool : kitB "str" "bool" = some false := by decide +kernel
theorem kb_str_str : kitB "str" "str" = some true := by decide +kernel
theorem kb_str_tuple : kitB "str" "tuple" = some false := by decide +kernel
theorem kb_str_list : kitB "str" "list" = some false := by decide +kernel
theorem kb_str_dict : kitB "str" "dict" = some false := by decide +kernel
theorem kb_tuple_int : kitB "tuple" "int" = some false := by decide +kernel
theorem kb_tuple_bool : kitB "tuple" "bool" = some false := by decide +kernel
theorem kb_tuple_str : kitB "tuple" "str" = some false := by decide +kernel
theorem kb_tuple_tuple : kitB "tuple" "tuple" = some true := by decide +kernel
theorem kb_tuple_list : kitB "tuple" "list" = some false := by decide +kernel
theorem kb_tuple_dict : kitB "tuple" "dict" = some false := by decide +kernel
theorem kb_list_int : kitB "list" "int" = some false := by decide +kernel
theorem kb_list_bool : kitB "list" "bool" = some false := by decide +kernel
theorem kb_list_str : kitB "list" "str" = some false := by decide +kernel
theorem kb_list_tuple : kitB "list" "tuple" = some false := by decide +kernel
theorem kb_list_list : kitB "list" "list" = some true := by decide +kernel
theorem kb_list_dict : kitB "list" "dict" = some false := by decide +kernel
theorem kb_dict_int : kitB "dict" "int" = some false := by decide +kernel
theorem kb_dict_bool : kitB "dict" "bool" = some false := by decide +kernel
theorem kb_dict_str : kitB "dict" "str" = some false := by decide +kernel
theorem kb_dict_tuple : kitB "dict" "tuple" = some false := by decide +kernel
theorem kb_dict_list : kitB "dict" "list" = some false := by decide +kernel
theorem kb_dict_dict : kitB "dict" "dict" = some true := by decide +kernel
theorem kb_NoneType_int : kitB "NoneType" "int" = some false := by decide +kernel
theorem kb_NoneType_bool : kitB "NoneType" "bool" = some false := by decide +kernel
theorem kb_NoneType_str : kitB "NoneType" "str" = some false := by decide +kernel
theorem kb_NoneType_tuple : kitB "NoneType" "tuple" = some false := by decide +kernel
theorem kb_NoneType_list : kitB "NoneType" "list" = some false := by decide +kernel
theorem kb_NoneType_dict : kitB "NoneType" "dict" = some false := by decide +kernel
/-! ### steps -/
section
variable {K : PySem.W.Frag} {σ : St} {H : Hp} {Q : VK} {nx bk ct : St → Hp → Prop} {rt : VK} {v : V}
theorem w_seq {t u : TS} (h : t ⟨u ⟨nx, rt, bk, ct⟩, rt, bk, ct⟩ σ H) : tSeq t u ⟨nx, rt, bk, ct⟩ σ H := h
theorem w_seqA {te : TE} {g : TG} {u : TS} (h : te σ H fun x H1 => g x σ H1 (u ⟨nx, rt, bk, ct⟩)) : tSeq (tAsg te g) u ⟨nx, rt, bk, ct⟩ σ H := h
theorem w_seqD {te : TE} {u : TS} (h : te σ H fun _ H1 => u ⟨nx, rt, bk, ct⟩ σ H1) : tSeq (tDrop te) u ⟨nx, rt, bk, ct⟩ σ H := h
theorem w_seqF {wi : TI} {g : TG} {tb u : TS} (h : tFor wi g tb ⟨u ⟨nx, rt, bk, ct⟩, rt, bk, ct⟩ σ H) : tSeq (tFor wi g tb) u ⟨nx, rt, bk, ct⟩ σ H := h
theorem w_seqW {c : TT} {tb u : TS} (h : tWhile c tb ⟨u ⟨nx, rt, bk, ct⟩, rt, bk, ct⟩ σ H) : tSeq (tWhile c tb) u ⟨nx, rt, bk, ct⟩ σ H := h
theorem w_seqG {i : Nat} {te : TE} {ti : TIp} {u : TS} (h : tAug i te ti ⟨u ⟨nx, rt, bk, ct⟩, rt, bk, ct⟩ σ H) : tSeq (tAug i te ti) u ⟨nx, rt, bk, ct⟩ σ H := h
/-- a statement whose ways meet: what follows is taken as U, of which R is enough -/
theorem w_seqJ {t u : TS} (R : St → Hp → Prop) (h2 : ∀ σ' H', R σ' H' → u ⟨nx, rt, bk, ct⟩ σ' H') (h1 : ∀ U : St → Hp → Prop, (∀ σ' H', R σ' H' → U σ' H') → t ⟨U, rt, bk, ct⟩ σ H) : tSeq t u ⟨nx, rt, bk, ct⟩ σ H := h1 _ h2
theorem w_var {i : Nat} (e : σ[i]? = some (some v)) (h : Q v H) : tVar i σ H Q := ⟨v, e, h⟩
theorem w_c (h : Q v H) : tC v σ H Q := h
theorem w_asg {te : TE} {g : TG} (h : te σ H fun x H1 => g x σ H1 nx) : tAsg te g ⟨nx, rt, bk, ct⟩ σ H := h
theorem w_name {i : Nat} {R : St → Hp → Prop} (h : R (σ.set i (some v)) H) : gName i v σ H R := h
theorem w_op {r : R2} {ta tb : TE} (h : ta σ H fun x H1 => tb σ H1 fun y H2 => r x y H2 Q) : tOp r ta tb σ H Q := h
theorem w_un {r : V → Hp → VK → Prop} {ta : TE} (h : ta σ H fun x H1 => r x H1 Q) : tUn r ta σ H Q := h
theorem w_neg {i : Int} (h : Q (.int (-i)) H) : rU (fun i => .int (-i)) (.int i) H Q := ⟨i, rfl, h⟩
theorem w_i {C : Int → Int → Prop} {g : Int → Int → V} {i j : Int} (c : C i j) (h : Q (g i j) H) : rI C g (.int i) (.int j) H Q := ⟨i, j, rfl, rfl, c, h⟩
theorem w_i0 {g : Int → Int → V} {i j : Int} (h : Q (g i j) H) : rI0 g (.int i) (.int j) H Q := ⟨i, j, rfl, rfl, h⟩
theorem w_eqI {i j : Int} (h : Q (.bl (decide (i = j))) H) : rEq (.int i) (.int j) H Q := ⟨rfl, by
  have e : decide (V.int i = V.int j) = decide (i = j) := by
    by_cases q : i = j
    · subst q; rw [decide_eq_true rfl, decide_eq_true rfl]
    · rw [decide_eq_false q, decide_eq_false (fun z => q (V.int.inj z))]
  rw [e]; exact h⟩
theorem w_neI {i j : Int} (h : Q (.bl (!decide (i = j))) H) : rNe (.int i) (.int j) H Q := ⟨rfl, by
  have e : decide (V.int i = V.int j) = decide (i = j) := by
    by_cases q : i = j
    · subst q; rw [decide_eq_true rfl, decide_eq_true rfl]
    · rw [decide_eq_false q, decide_eq_false (fun z => q (V.int.inj z))]
  rw [e]; exact h⟩
theorem w_ixL {p : Addr} {xs : List V} {i : Int} (h1 : SqL K H p xs) (h2 : atI xs i = some v) (h : Q v H) : rIxL K (.ref p) (.int i) H Q := ⟨p, xs, i, v, rfl, rfl, h1, h2, h⟩
theorem w_ixT {p : Addr} {xs : List V} {i : Int} (h1 : SqT K H p xs) (h2 : atI xs i = some v) (h : Q v H) : rIxT K (.ref p) (.int i) H Q := ⟨p, xs, i, v, rfl, rfl, h1, h2, h⟩
theorem w_ixSL {p : Addr} {xs : List V} {i : Int} (h1 : SqL K H p xs) (h2 : atI xs i = some v) (h : Q v H) : rIx K (.ref p) (.int i) H Q := .inl ⟨p, xs, i, v, rfl, rfl, h1, h2, h⟩
theorem w_ixST {p : Addr} {xs : List V} {i : Int} (h1 : SqT K H p xs) (h2 : atI xs i = some v) (h : Q v H) : rIx K (.ref p) (.int i) H Q := .inr (.inl ⟨p, xs, i, v, rfl, rfl, h1, h2, h⟩)
theorem w_neB {x y : Bool} (h : Q (.bl (!decide (x = y))) H) : rNe (.bl x) (.bl y) H Q := ⟨rfl, by
  have e : decide (V.bl x = V.bl y) = decide (x = y) := by
    by_cases q : x = y
    · subst q; rw [decide_eq_true rfl, decide_eq_true rfl]
    · rw [decide_eq_false q, decide_eq_false (fun z => q (V.bl.inj z))]
  rw [e]; exact h⟩
theorem w_eqN (h : Q (.bl true) H) : rEq .non .non H Q := ⟨rfl, h⟩
theorem w_sub {to ti : TE} {t : TSet} {R : St → Hp → Prop} (h : to σ H fun o H1 => ti σ H1 fun i H2 => t o i v H2 fun H3 => R σ H3) : gSub to ti t v σ H R := h
theorem w_setL {p : Addr} {xs ys : List V} {k : Int} {j : Nat} {R : Hp → Prop} (h1 : H p = some (.lst xs)) (h2 : ixN xs.length k = some j) (e : xs.set j v = ys) (h : ∀ H1, H1 p = some (.lst ys) → Off p H H1 → R H1) : rSetL (.ref p) (.int k) v H R :=
  ⟨p, xs, k, j, rfl, rfl, h1, h2, by rw [e]; exact h _ upd_same fun x hx => upd_ne hx⟩
theorem w_if {c : TT} {t u : TS} (h : c σ H fun b H1 => if b = true then t ⟨nx, rt, bk, ct⟩ σ H1 else u ⟨nx, rt, bk, ct⟩ σ H1) : tIfS c t u ⟨nx, rt, bk, ct⟩ σ H := h
theorem w_test {t : TE} {R : Bool → Hp → Prop} (h : t σ H fun x H' => ∃ k, x = .bl k ∧ R k H') : tTest t σ H R := h
theorem w_tb {t : TE} {R : Bool → Hp → Prop} (h : t σ H fun x H' => ∃ k, x = .bl k ∧ R k H') : tB t σ H R := h
theorem w_bl {b : Bool} {R : Bool → Prop} (h : R b) : ∃ k, V.bl b = .bl k ∧ R k := ⟨b, rfl, h⟩
theorem w_and {t u : TT} {R : Bool → Hp → Prop} (h : t σ H fun c H1 => if c = true then u σ H1 R else R false H1) : tAnd t u σ H R := h
theorem w_or {t u : TT} {R : Bool → Hp → Prop} (h : t σ H fun c H1 => if c = true then R true H1 else u σ H1 R) : tOr t u σ H R := h
theorem w_not {t : TT} {R : Bool → Hp → Prop} (h : t σ H fun c H1 => R (!c) H1) : tNot t σ H R := h
theorem w_andV {ta tb : TE} (h : ta σ H fun x H1 => ∃ c, x = .bl c ∧ if c = true then tb σ H1 Q else Q (.bl false) H1) : tAndV ta tb σ H Q := h
theorem w_orV {ta tb : TE} (h : ta σ H fun x H1 => ∃ c, x = .bl c ∧ if c = true then Q (.bl true) H1 else tb σ H1 Q) : tOrV ta tb σ H Q := h
theorem w_notV {ta : TE} (h : ta σ H fun x H1 => ∃ c, x = .bl c ∧ Q (.bl (!c)) H1) : tNotV ta σ H Q := h
theorem w_ite {p : Prop} {inst : Decidable p} {A B : Prop} (h1 : p → A) (h2 : ¬ p → B) : if decide p = true then A else B := by
  by_cases h : p
  · rw [if_pos (decide_eq_true h)]; exact h1 h
  · rw [if_neg (fun z => h (of_decide_eq_true z))]; exact h2 h
theorem w_itN {p : Prop} {inst : Decidable p} {A B : Prop} (h1 : ¬ p → A) (h2 : p → B) : if (!decide p) = true then A else B := by
  by_cases h : p
  · rw [decide_eq_true h]; exact h2 h
  · rw [decide_eq_false h]; exact h1 h
theorem w_yes {p : Prop} {inst : Decidable p} {A B : Prop} (h : p) (a : A) : if decide p = true then A else B := by rw [if_pos (decide_eq_true h)]; exact a
theorem w_no {p : Prop} {inst : Decidable p} {A B : Prop} (h : ¬ p) (b : B) : if decide p = true then A else B := by rw [if_neg (fun z => h (of_decide_eq_true z))]; exact b
theorem w_nyes {p : Prop} {inst : Decidable p} {A B : Prop} (h : p) (b : B) : if (!decide p) = true then A else B := by rw [decide_eq_true h]; exact b
theorem w_nno {p : Prop} {inst : Decidable p} {A B : Prop} (h : ¬ p) (a : A) : if (!decide p) = true then A else B := by rw [decide_eq_false h]; exact a
theorem w_itB {b : Bool} {A B : Prop} (h1 : b = true → A) (h2 : b = false → B) : if b = true then A else B := by
  cases b with
  | true => exact h1 rfl
  | false => exact h2 rfl
theorem w_nT {A B : Prop} (h : B) : if (!true) = true then A else B := h
theorem w_nF {A B : Prop} (h : A) : if (!false) = true then A else B := h
theorem w_ret {te : TE} (h : te σ H rt) : tRet te ⟨nx, rt, bk, ct⟩ σ H := h
theorem w_drop {te : TE} (h : te σ H fun _ H1 => nx σ H1) : tDrop te ⟨nx, rt, bk, ct⟩ σ H := h
theorem w_next (h : nx σ H) : tNext ⟨nx, rt, bk, ct⟩ σ H := h
theorem w_cb {r : List V → Hp → VK → Prop} {t : TA} (h : t σ H fun vs H1 => r vs H1 Q) : tCB r t σ H Q := h
theorem w_nil {R : List V → Hp → Prop} (h : R [] H) : tNil σ H R := h
theorem w_cons {ta : TE} {tr : TA} {R : List V → Hp → Prop} (h : ta σ H fun x H1 => tr σ H1 fun xs H2 => R (x :: xs) H2) : tCons ta tr σ H R := h
theorem w_call {sp : Sp} {E : XK} {t : TA} (h : t σ H fun vs H1 => sp (vs ++ []) H1 Q E) : tCall sp [] E t σ H Q := h
theorem w_lst {t : TA} (h : t σ H fun xs H1 => xs.length ≤ sizeLine ∧ Nw (.lst xs) H1 Q) : tLst t σ H Q := h
theorem w_tup {t : TA} (h : t σ H fun xs H1 => xs.length ≤ sizeLine ∧ Nw (.tup xs) H1 Q) : tTup t σ H Q := h
theorem w_new {o : HO} (h : ∀ p H2, H p = none → H2 p = some o → Same H H2 → Q (.ref p) H2) : Nw o H Q := fun p hp => h p _ hp upd_same (Same.new hp)
theorem w_sz {n : Nat} {o : HO} (h1 : n ≤ sizeLine) (h : Nw o H Q) : n ≤ sizeLine ∧ Nw o H Q := ⟨h1, h⟩
theorem w_app {p : Addr} {xs : List V} (h1 : H p = some (.lst xs)) (h2 : xs.length < sizeLine) (h : ∀ H1, H1 p = some (.lst (xs ++ [v])) → Off p H H1 → Q .non H1) : rAppend (.ref p) [v] H Q :=
  ⟨p, xs, v, rfl, rfl, h1, h2, h _ upd_same fun x hx => upd_ne hx⟩
theorem w_bm {r : V → List V → Hp → VK → Prop} {to : TE} {t : TA} (h : to σ H fun x H1 => tyV K "list" x H1 ∧ t σ H1 fun xs H2 => r x xs H2 Q) : tBM K "list" r to t σ H Q := h
theorem w_tyL {p : Addr} {xs : List V} {A : Prop} (h1 : H p = some (.lst xs)) (h : A) : tyV K "list" (.ref p) H ∧ A := ⟨.inl ⟨rfl, _, .inl (.inl h1)⟩, h⟩
theorem w_lenL {p : Addr} {ys : List V} (h1 : SqL K H p ys) (h : Q (.int ys.length) H) : rLen K [V.ref p] H Q := ⟨p, ys, rfl, .inl h1, h⟩
theorem w_lenT {p : Addr} {ys : List V} (h1 : SqT K H p ys) (h : Q (.int ys.length) H) : rLen K [V.ref p] H Q := ⟨p, ys, rfl, .inr h1, h⟩
theorem w_min2 {i j : Int} (h : Q (.int (if j < i then j else i)) H) : rMin2 [V.int i, V.int j] H Q := ⟨i, j, rfl, h⟩
theorem w_max2 {i j : Int} (h : Q (.int (if j > i then j else i)) H) : rMax2 [V.int i, V.int j] H Q := ⟨i, j, rfl, h⟩
theorem w_listL {p : Addr} {ys : List V} (h1 : SqL K H p ys) (h : ∀ l H2, H l = none → H2 l = some (.lst ys) → Same H H2 → Q (.ref l) H2) : rListOf K [V.ref p] H Q := ⟨p, ys, rfl, .inl h1, w_new h⟩
theorem w_tupL {p : Addr} {ys : List V} (h1 : SqL K H p ys) (h : ∀ l H2, H l = none → H2 l = some (.tup ys) → Same H H2 → Q (.ref l) H2) : rTupOf K [V.ref p] H Q := ⟨p, ys, rfl, .inl ⟨h1, w_new h⟩⟩
theorem w_sum {p : Addr} {ns : List Int} (h1 : SqL K H p (ns.map V.int)) (h : Q (.int ns.sum) H) : rSum K [V.ref p] H Q := ⟨p, ns, rfl, h1, h⟩
theorem w_tupRg {te : St → Hp → (Int → Int → Hp → Prop) → Prop} (h : te σ H fun a b H1 => RgOk a b ∧ Nw (.tup (rgV a b)) H1 Q) : tTupRg te σ H Q := h
theorem w_rg2 {ta tb : TE} {R : Int → Int → Hp → Prop} (h : ta σ H fun x H1 => tb σ H1 fun y H2 => rRg2 x y H2 R) : tRg2 ta tb σ H R := h
theorem w_rg2' {i j : Int} {R : Int → Int → Hp → Prop} (h : R i j H) : rRg2 (.int i) (.int j) H R := ⟨i, j, rfl, rfl, h⟩
theorem w_bits {to : TE} (h : to σ H fun x H1 => rBits x H1 Q) : tBits to σ H Q := h
theorem w_bits' {i : Int} (h : Q (.int (Builtin.Int.intBits i : Nat)) H) : rBits (.int i) H Q := ⟨i, rfl, h⟩
theorem w_isi {x : V} {a n : String} {b : Bool} (ty : TyX K H x (.type a)) (hk : kitB a n = some b) (h : Q (.bl b) H) : rIsi K [x, .ty n] H Q := ⟨x, .ty n, _, _, b, rfl, .ty n, ty, kit_ty hk, h⟩
theorem w_eqS {x y : Str} (h : Q (.bl (decide (x = y))) H) : rEq (.str x) (.str y) H Q := ⟨rfl, by
  have e : decide (V.str x = V.str y) = decide (x = y) := by
    by_cases q : x = y
    · subst q; rw [decide_eq_true rfl, decide_eq_true rfl]
    · rw [decide_eq_false q, decide_eq_false (fun z => q (V.str.inj z))]
  rw [e]; exact h⟩
theorem w_eqB {x y : Bool} (h : Q (.bl (decide (x = y))) H) : rEq (.bl x) (.bl y) H Q := ⟨rfl, by
  have e : decide (V.bl x = V.bl y) = decide (x = y) := by
    by_cases q : x = y
    · subst q; rw [decide_eq_true rfl, decide_eq_true rfl]
    · rw [decide_eq_false q, decide_eq_false (fun z => q (V.bl.inj z))]
  rw [e]; exact h⟩
/-! targets, dicts -/
theorem w_gtup {a : Addr} {xs : List V} {n : Nat} {t : TGs} {R : St → Hp → Prop} (h1 : SqT K H a xs) (h2 : xs.length = n) (h : t xs σ H R) : gTup K n t (.ref a) σ H R := ⟨a, xs, rfl, h1, h2, h⟩
theorem w_gcons {t : TG} {u : TGs} {r : List V} {R : St → Hp → Prop} (h : t v σ H fun σ' H' => u r σ' H' R) : gCons t u (v :: r) σ H R := ⟨v, r, rfl, h⟩
theorem w_gnil {R : St → Hp → Prop} (h : R σ H) : gNil [] σ H R := ⟨rfl, h⟩
theorem w_din {ty td : TE} (h : ty σ H fun y H1 => td σ H1 fun x H2 => rDIn x y H2 Q) : tDIn ty td σ H Q := h
theorem w_dnotin {ty td : TE} (h : ty σ H fun y H1 => td σ H1 fun x H2 => rDNotIn x y H2 Q) : tDNotIn ty td σ H Q := h
theorem w_dget {ty td : TE} (h : td σ H fun x H1 => ty σ H1 fun y H2 => rDGet x y H2 Q) : tDGet td ty σ H Q := h
theorem w_dinI {a : Addr} {kvs : List (Key × V)} {n : Int} (e : H a = some (.dK kvs)) (h : Q (.bl (valV kvs (Sum.inl n)).isSome) H) : rDIn (.ref a) (.int n) H Q := ⟨a, _, rfl, DGet.k (k := Sum.inl n) e, h⟩
theorem w_dnotinI {a : Addr} {kvs : List (Key × V)} {n : Int} (e : H a = some (.dK kvs)) (h : Q (.bl (!(valV kvs (Sum.inl n)).isSome)) H) : rDNotIn (.ref a) (.int n) H Q := ⟨a, _, rfl, DGet.k (k := Sum.inl n) e, h⟩
theorem w_dgetI {a : Addr} {kvs : List (Key × V)} {n : Int} (e : H a = some (.dK kvs)) (e2 : valV kvs (Sum.inl n) = some v) (h : Q v H) : rDGet (.ref a) (.int n) H Q := ⟨a, v, rfl, e2 ▸ DGet.k (k := Sum.inl n) e, h⟩
theorem w_dnewK (h : Nw (.dK []) H Q) : tDNewK σ H Q := h
theorem w_dput {td ty tv : TE} (h : tv σ H fun v H1 => td σ H1 fun x H2 => ty σ H2 fun y H3 => rDPut x y v H3 fun H4 => nx σ H4) : sDPut td ty tv ⟨nx, rt, bk, ct⟩ σ H := h
theorem w_seqP {td ty tv : TE} {u : TS} (h : tv σ H fun v H1 => td σ H1 fun x H2 => ty σ H2 fun y H3 => rDPut x y v H3 fun H4 => u ⟨nx, rt, bk, ct⟩ σ H4) : tSeq (sDPut td ty tv) u ⟨nx, rt, bk, ct⟩ σ H := h
theorem w_dputI {a : Addr} {kvs : List (Key × V)} {n : Int} {R : Hp → Prop} (e : H a = some (.dK kvs)) (hl : kvs.length < sizeLine) (h : ∀ H1, H1 a = some (.dK (putK kvs (Sum.inl n) v)) → Off a H H1 → R H1) : rDPut (.ref a) (.int n) v H R :=
  ⟨a, _, rfl, DPut.k (k := Sum.inl n) e hl, h _ upd_same fun x hx => upd_ne hx⟩
theorem w_dget2 {td ty tx : TE} (h : td σ H fun x H1 => rIsD x H1 fun a H1 => ty σ H1 fun y H2 => tx σ H2 fun z H3 => rDGet2 a y z H3 Q) : tDGet2 td ty tx σ H Q := h
theorem w_isD {a : Addr} {kvs : List (Key × V)} {R : Addr → Hp → Prop} (e : H a = some (.dK kvs)) (h : R a H) : rIsD (.ref a) H R := ⟨a, rfl, .inl ⟨kvs, .inl e⟩, h⟩
theorem w_dget2I {a : Addr} {kvs : List (Key × V)} {n : Int} {z : V} (e : H a = some (.dK kvs)) (h : Q ((valV kvs (Sum.inl n)).getD z) H) : rDGet2 a (.int n) z H Q := ⟨_, DGet.k (k := Sum.inl n) e, h⟩
theorem w_dsetd {td ty tx : TE} (h : td σ H fun x H1 => rIsD x H1 fun a H1 => ty σ H1 fun y H2 => tx σ H2 fun z H3 => rDSetd a y z H3 Q) : tDSetd td ty tx σ H Q := h
theorem w_leT2 {p q : Addr} {a b c d : Int} (h1 : SqT K H p [.int a, .int b]) (h2 : SqT K H q [.int c, .int d]) (h : Q (.bl (decide (a < c ∨ a = c ∧ b ≤ d))) H) : rLeT K (.ref p) (.ref q) H Q := by
  refine ⟨p, q, [a, b], [c, d], rfl, rfl, h1, h2, ?_⟩
  have e : Ob.lexAt (fun j => decide (([a, b] : List Int).getD j 0 = ([c, d] : List Int).getD j 0)) (fun j => decide (([a, b] : List Int).getD j 0 ≤ ([c, d] : List Int).getD j 0)) (decide (([a, b] : List Int).length ≤ ([c, d] : List Int).length)) 0 (min ([a, b] : List Int).length ([c, d] : List Int).length) = decide (a < c ∨ a = c ∧ b ≤ d) := by
    show (if decide (a = c) = true then (if decide (b = d) = true then true else decide (b ≤ d)) else decide (a ≤ c)) = _
    by_cases h1 : a = c
    · rw [if_pos (decide_eq_true h1)]
      by_cases h2 : b = d
      · rw [if_pos (decide_eq_true h2)]
        exact (decide_eq_true (by omega)).symm
      · rw [if_neg (fun z => h2 (of_decide_eq_true z))]
        rw [Bool.eq_iff_iff]; simp; omega
    · rw [if_neg (fun z => h1 (of_decide_eq_true z))]
      rw [Bool.eq_iff_iff]; simp; omega
  rw [e]
  exact h
theorem inV_ints (n : Int) (vs : List Int) : inV (.int n) (vs.map V.int) = decide (n ∈ vs) := by
  unfold inV
  rw [Bool.eq_iff_iff, List.any_eq_true]
  constructor
  · rintro ⟨y, hy, e⟩
    obtain ⟨z, hz, rfl⟩ := List.mem_map.mp hy
    have e' : z = n := by simpa [eqV] using e
    subst e'
    exact decide_eq_true hz
  · intro h
    exact ⟨.int n, List.mem_map_of_mem (of_decide_eq_true h), by simp [eqV]⟩
theorem flat_ints (vs : List Int) : (vs.map V.int).all flatV = true := by
  rw [List.all_eq_true]
  intro y hy
  obtain ⟨z, _, rfl⟩ := List.mem_map.mp hy
  rfl
theorem w_inT {p : Addr} {vs : List Int} {n : Int} (h1 : SqT K H p (vs.map V.int)) (h : Q (.bl (decide (n ∈ vs))) H) : rIn K false (.int n) (.ref p) H Q := ⟨p, _, rfl, .inr h1, rfl, flat_ints vs, by rw [inV_ints]; exact h⟩
theorem w_ninT {p : Addr} {vs : List Int} {n : Int} (h1 : SqT K H p (vs.map V.int)) (h : Q (.bl (!decide (n ∈ vs))) H) : rIn K true (.int n) (.ref p) H Q := ⟨p, _, rfl, .inr h1, rfl, flat_ints vs, by rw [inV_ints]; exact h⟩
theorem w_inL {p : Addr} {vs : List Int} {n : Int} (h1 : SqL K H p (vs.map V.int)) (h : Q (.bl (decide (n ∈ vs))) H) : rIn K false (.int n) (.ref p) H Q := ⟨p, _, rfl, .inl h1, rfl, flat_ints vs, by rw [inV_ints]; exact h⟩
theorem w_ninL {p : Addr} {vs : List Int} {n : Int} (h1 : SqL K H p (vs.map V.int)) (h : Q (.bl (!decide (n ∈ vs))) H) : rIn K true (.int n) (.ref p) H Q := ⟨p, _, rfl, .inl h1, rfl, flat_ints vs, by rw [inV_ints]; exact h⟩
def rDisp (p : Addr) (ps : List (V × V)) (H2 : Hp) (Q : VK) : Prop := H2 p = some (.dK []) ∧ ∃ kvs : List (Key × V), ps = kvs.map (fun kv => (kV kv.1, kv.2)) ∧ kvs.length ≤ 15 ∧ Q (.ref p) (upd H2 p (.dK (mergeK [] kvs)))
theorem w_pair {tk tv : TE} {r : List (TE × TE)} {R : List (V × V) → Hp → Prop} (h : tk σ H fun x H1 => tv σ H1 fun y H2 => tPairs r σ H2 fun ps H3 => R ((x, y) :: ps) H3) : tPairs ((tk, tv) :: r) σ H R := h
theorem w_pnil {R : List (V × V) → Hp → Prop} (h : R [] H) : tPairs [] σ H R := h
theorem w_callS {sp : Sp} {E : St → XK} {t : TA} (h : t σ H fun vs H1 => sp vs H1 Q (E σ)) : tCallS sp E t σ H Q := h
theorem w_isB {x y : Bool} (h : Q (.bl (decide (x = y))) H) : rIsBl (.bl x) (.bl y) H Q := ⟨x, y, rfl, rfl, h⟩
theorem w_isN (h : Q (.bl (decide (v = .non))) H) : rIsNon v .non H Q := ⟨rfl, h⟩
theorem w_notN (h : Q (.bl (!decide (v = .non))) H) : rNotNon v .non H Q := ⟨rfl, h⟩
theorem w_chain {r r' : R2} {ta tb tc : TE} (h : ta σ H fun x H1 => tb σ H1 fun y H2 => r x y H2 fun z H3 => ∃ k, z = .bl k ∧ (if k = true then tc σ H3 fun w' H4 => r' y w' H4 Q else Q (.bl false) H3)) : tChain r r' ta tb tc σ H Q := h
theorem w_trL {p : Addr} {xs : List V} {R : Bool → Hp → Prop} (h1 : SqL K H p xs) (h : R (!xs.isEmpty) H) : rTru K (.ref p) H R := ⟨_, .inl ⟨xs, h1, rfl⟩, h⟩
theorem w_trT {p : Addr} {xs : List V} {R : Bool → Hp → Prop} (h1 : SqT K H p xs) (h : R (!xs.isEmpty) H) : rTru K (.ref p) H R := ⟨_, .inr (.inl ⟨xs, h1, rfl⟩), h⟩
theorem w_tru {ta : TE} {R : Bool → Hp → Prop} (h : ta σ H fun x H1 => rTru K x H1 R) : tTru K ta σ H R := h
/-! loops -/
def Lp (J : It) (g : TG) (tb : TS) (D : Ends) (σ : St) (H1 : Hp) : Prop := ∃ W : Nat → Nat → St → Hp → Prop, (∃ m, W 0 m σ H1) ∧ ∀ i m σ H, W i m σ H →
  (J.stop i H ∧ D.nx σ H) ∨ (J.go i H ∧ ∃ N : St → Hp → Prop, (∀ σ' H', N σ' H' → ∃ m', m' < m ∧ W (i + 1) m' σ' H') ∧ ∀ x H', J.yld i H x H' → g x σ H' fun σ2 H2 => tb { D with nx := N, ct := N, bk := D.nx } σ2 H2)
theorem w_for {wi : TI} {g : TG} {tb : TS} (h : wi σ H fun J H1 => Lp J g tb ⟨nx, rt, bk, ct⟩ σ H1) : tFor wi g tb ⟨nx, rt, bk, ct⟩ σ H := h
theorem lp_it {J : It} {n : Nat} {G : Hp → Prop} {Y : Nat → Hp → V → Hp → Prop} (w : Walk J n G Y) {g : TG} {tb : TS} (Pv : Nat → St → Hp → Prop) (h0 : Pv 0 σ H) (hG : ∀ i σ H, i ≤ n → Pv i σ H → G H)
    (hs : ∀ i x σ H H', i < n → Pv i σ H → Y i H x H' → g x σ H' fun σ2 H2 => tb ⟨Pv (i + 1), rt, nx, Pv (i + 1)⟩ σ2 H2) (hd : ∀ σ H, Pv n σ H → nx σ H) : Lp J g tb ⟨nx, rt, bk, ct⟩ σ H :=
  for_it w (D := ⟨nx, rt, bk, ct⟩) Pv h0 hG hs hd
theorem lp_list {a : Addr} {xs : List V} {g : TG} {tb : TS} (Pv : Nat → St → Hp → Prop) (h0 : Pv 0 σ H) (hl : ∀ i σ H, i ≤ xs.length → Pv i σ H → SqL K H a xs)
    (hs : ∀ i x σ H, xs[i]? = some x → Pv i σ H → g x σ H fun σ2 H2 => tb ⟨Pv (i + 1), rt, nx, Pv (i + 1)⟩ σ2 H2) (hd : ∀ σ H, Pv xs.length σ H → nx σ H) : Lp (Itl K a) g tb ⟨nx, rt, bk, ct⟩ σ H :=
  for_list (D := ⟨nx, rt, bk, ct⟩) Pv h0 hl hs hd
theorem lp_tup {a : Addr} {xs : List V} {g : TG} {tb : TS} (Pv : Nat → St → Hp → Prop) (h0 : Pv 0 σ H) (hl : ∀ i σ H, i ≤ xs.length → Pv i σ H → SqT K H a xs)
    (hs : ∀ i x σ H, xs[i]? = some x → Pv i σ H → g x σ H fun σ2 H2 => tb ⟨Pv (i + 1), rt, nx, Pv (i + 1)⟩ σ2 H2) (hd : ∀ σ H, Pv xs.length σ H → nx σ H) : Lp (Itt K a) g tb ⟨nx, rt, bk, ct⟩ σ H :=
  for_tup (D := ⟨nx, rt, bk, ct⟩) Pv h0 hl hs hd
theorem lp_range {lo : Int} {n : Nat} {g : TG} {tb : TS} (Pv : Nat → St → Hp → Prop) (h0 : Pv 0 σ H)
    (hs : ∀ i σ H, i < n → Pv i σ H → g (.int (lo + i)) σ H fun σ2 H2 => tb ⟨Pv (i + 1), rt, nx, Pv (i + 1)⟩ σ2 H2) (hd : ∀ σ H, Pv n σ H → nx σ H) : Lp (Itr lo n) g tb ⟨nx, rt, bk, ct⟩ σ H :=
  for_range (D := ⟨nx, rt, bk, ct⟩) Pv h0 hs hd
theorem w_rng1 {t : TA} {R : It → Hp → Prop} (h : t σ H fun vs H1 => rRng1 vs H1 R) : iRng1 t σ H R := h
theorem w_rng1' {j : Int} {R : It → Hp → Prop} (h1 : -(2 ^ 62) ≤ j) (h2 : j < 2 ^ 62) (h : R (Itr 0 j.toNat) H) : rRng1 [.int j] H R := ⟨j, rfl, h1, h2, h⟩
theorem w_rng2 {t : TA} {R : It → Hp → Prop} (h : t σ H fun vs H1 => rRng2 vs H1 R) : iRng2 t σ H R := h
theorem w_rng2' {i j : Int} {R : It → Hp → Prop} (h1 : -(2 ^ 62) ≤ i ∧ i < 2 ^ 62 ∧ -(2 ^ 62) ≤ j ∧ j < 2 ^ 62) (h : R (Itr i (j - i).toNat) H) : rRng2 [.int i, .int j] H R := ⟨i, j, rfl, h1, h⟩
theorem w_itL {tl : TE} {R : It → Hp → Prop} (h : tl σ H fun x H1 => rItL K x H1 R) : iList K tl σ H R := h
theorem w_itL' {a : Addr} {xs : List V} {R : It → Hp → Prop} (h1 : SqL K H a xs) (h : R (Itl K a) H) : rItL K (.ref a) H R := ⟨a, rfl, ⟨xs, h1⟩, h⟩
theorem w_itT {tl : TE} {R : It → Hp → Prop} (h : tl σ H fun x H1 => rItT K x H1 R) : iTup K tl σ H R := h
theorem w_itT' {a : Addr} {xs : List V} {R : It → Hp → Prop} (h1 : SqT K H a xs) (h : R (Itt K a) H) : rItT K (.ref a) H R := ⟨a, rfl, ⟨xs, h1⟩, h⟩
/-- one turn of a while: W (by a falling number) is reached again -/
def WhT (W : Nat → St → Hp → Prop) (m : Nat) (tb : TS) (rt : VK) (nx : St → Hp → Prop) (σ : St) (H : Hp) : Prop := ∃ N : St → Hp → Prop, (∀ σ' H', N σ' H' → ∃ m', m' < m ∧ W m' σ' H') ∧ tb ⟨N, rt, nx, N⟩ σ H
/-! comprehensions -/
def LcP (J : It) (g : TG) (tt : TT) (te : TE) (vs : List Nat) (Q : VK) (σ : St) (H1 : Hp) : Prop := ∀ D, H1 D = none → ∃ W : Nat → Nat → Hp → Prop, (∃ m, W 0 m (upd H1 D (.lst []))) ∧ ∀ i m H, W i m H →
  (J.stop i H ∧ Q (.ref D) H) ∨ (J.go i H ∧ ∃ Nx : Hp → Prop, (∀ H', Nx H' → ∃ m', m' < m ∧ W (i + 1) m' H') ∧ ∀ x H', J.yld i H x H' → g x (wipe σ vs) H' fun σ2 H2 => wipe σ2 vs = wipe σ vs ∧ tt σ2 H2 fun b H3 =>
    if b = true then te σ2 H3 fun y H4 => ∃ acc, H4 D = some (.lst acc) ∧ acc.length < sizeLine ∧ Nx (upd H4 D (.lst (acc ++ [y]))) else Nx H3)
theorem w_lc {wi : TI} {g : TG} {tt : TT} {te : TE} {vs : List Nat} (h : wi σ H fun J H1 => LcP J g tt te vs Q σ H1) : tLc wi g tt te vs σ H Q := h
/-- each turn adds one: the k-th is ys[k]; what stood but M stands -/
theorem lcp_map {J : It} {n : Nat} {G : Hp → Prop} {Y : Nat → Hp → V → Hp → Prop} (w : Walk J n G Y) {g : TG} {te : TE} {vs : List Nat} (M : List Addr) (ys : List V) (hn : ys.length = n) (hz : n ≤ 1000000) (hG : ∀ H', Kp M H H' → G H')
    (hs : ∀ i x H1 H2 (R : V → Hp → Prop), i < n → Kp M H H1 → Y i H1 x H2 → (∀ y H4, ys[i]? = some y → Kp M H1 H4 → R y H4) → g x (wipe σ vs) H2 fun σ2 H3 => wipe σ2 vs = wipe σ vs ∧ te σ2 H3 R)
    (hM : ∀ b ∈ M, ∃ o, H b = some o)
    (hd : ∀ D H', H D = none → Kp M H H' → H' D = some (.lst ys) → Q (.ref D) H') : LcP J g tYes te vs Q σ H := by
  intro D hD
  have hDM : D ∉ M := fun z => by obtain ⟨o, e⟩ := hM D z; rw [hD] at e; cases e
  refine lc_it w (fun i H' => Kp M H H' ∧ H' D = some (.lst (ys.take i))) ⟨Kp.new hD, upd_same⟩ (fun i H' _ z => hG H' z.1) ?_ ?_
  · rintro i x H1 H2 hi ⟨k1, e1⟩ y
    refine (hs i x H1 H2 _ hi k1 y ?_)
    intro z H4 hz' k4
    refine ⟨ys.take i, k4 _ _ hDM e1, ?_, ?_, ?_⟩
    · rw [List.length_take]; exact Nat.lt_of_le_of_lt (Nat.min_le_left _ _) (Nat.lt_of_lt_of_le (Nat.lt_of_lt_of_le hi hz) (by decide))
    · exact (k1.trans k4).mutN hD
    · rw [upd_same, List.take_add_one, hz']; rfl
  · rintro H' ⟨k, e⟩
    rw [List.take_of_length_le (by omega)] at e
    exact hd D H' hD k e
/-- each turn adds one of which P holds (P leans on tuples alone); S: what else holds turn by turn -/
theorem lcp_gen {J : It} {n : Nat} {G : Hp → Prop} {Y : Nat → Hp → V → Hp → Prop} (w : Walk J n G Y) {g : TG} {te : TE} {vs : List Nat} (M : List Addr) (P : Nat → V → Hp → Prop) (S : Nat → Hp → Prop) (hz : n ≤ 1000000)
    (mono : ∀ i y H1 H2, KT H1 H2 → P i y H1 → P i y H2) (SD : ∀ D, H D = none → ∀ i H1 o, S i H1 → S i (upd H1 D o)) (hG : ∀ i H', Kp M H H' → S i H' → G H') (S0 : S 0 H)
    (hs : ∀ i x H1 H2 (R : V → Hp → Prop), i < n → Kp M H H1 → KT H H1 → S i H1 → Y i H1 x H2 → (∀ y H4, P i y H4 → Kp M H1 H4 → KT H1 H4 → S (i + 1) H4 → R y H4) → g x (wipe σ vs) H2 fun σ2 H3 => wipe σ2 vs = wipe σ vs ∧ te σ2 H3 R)
    (hM : ∀ b ∈ M, ∃ o, H b = some o)
    (hd : ∀ D H' ys, ys.length = n → (∀ i y, ys[i]? = some y → P i y H') → H D = none → Kp M H H' → KT H H' → S n H' → H' D = some (.lst ys) → Q (.ref D) H') : LcP J g tYes te vs Q σ H := by
  intro D hD
  have hDM : D ∉ M := fun z => by obtain ⟨o, e⟩ := hM D z; rw [hD] at e; cases e
  refine lc_it w (fun i H' => Kp M H H' ∧ KT H H' ∧ S i H' ∧ ∃ ys, ys.length = i ∧ H' D = some (.lst ys) ∧ ∀ k y, ys[k]? = some y → P k y H') ⟨Kp.new hD, KT.refl.upd hD, SD D hD _ _ _ S0, [], rfl, upd_same, by simp⟩ (fun i H' _ z => hG i H' z.1 z.2.2.1) ?_ ?_
  · rintro i x H1 H2 hi ⟨k1, t1, s1, ys, hl, e1, hp⟩ y
    refine hs i x H1 H2 _ hi k1 t1 s1 y ?_
    intro z H4 pz k4 t4 s4
    have e4 := k4 _ _ hDM e1
    refine ⟨ys, e4, ?_, (k1.trans k4).mutN hD, (t1.trans t4).upd hD, SD D hD _ _ _ s4, ys ++ [z], by rw [List.length_append, hl]; rfl, upd_same, ?_⟩
    · rw [hl]; exact Nat.lt_of_lt_of_le (Nat.lt_of_lt_of_le hi hz) (by decide)
    · intro k y' hy'
      by_cases hk : k < ys.length
      · rw [List.getElem?_append_left hk] at hy'
        exact mono _ _ _ _ (KT.updL e4) (mono _ _ _ _ t4 (hp k y' hy'))
      · rw [List.getElem?_append_right (by omega)] at hy'
        by_cases hk2 : k = ys.length
        · subst hk2
          have e : z = y' := by simpa using hy'
          subst e
          rw [hl]
          exact mono _ _ _ _ (KT.updL e4) pz
        · rw [List.getElem?_eq_none (by simp; omega)] at hy'
          cases hy'
  · rintro H' ⟨k, t, sn, ys, hl, e, hp⟩
    exact hd D H' ys hl hp hD k t sn e
end
/-! ### errors -/
/-- what the top has written of an own error class without __init__ -/
structure Exn (K : PySem.W.Frag) (mg : Str → Option Value) (x : Str) (C : Addr) : Prop where
  g : mg x = some (.ref C)
  x : PySem.W.excIn K C [.type "ValueError", .type "Exception", .type "BaseException", .type "object"] "ValueError.__new__" = true
  k : PySem.W.keepIn K (.ref C) = true
  b : PySem.W.subIn K (.ref C) (.type "BaseException") = some true
  t : PySem.W.typeIn K (.ref C) = some (.type "type")
  e : PySem.W.exmOne K (.ref C) (.ref C) = some true
theorem exm_is {K : PySem.W.Frag} {t : Value} {C : Addr} {r : Bool} (hb : PySem.W.subIn K (.ref C) (.type "BaseException") = some true) (hi : PySem.W.isClsIn K C = true) (ht : PySem.W.typeIn K (.ref C) = some (.type "type")) (hs : PySem.W.subIn K t (.ref C) = some r) : PySem.W.exmOne K t (.ref C) = some r := by
  have hi' : (PySem.W.clsIn K C).isSome = true := hi
  unfold PySem.W.exmOne
  rw [hb, if_pos (by rfl)]
  show (if ((PySem.W.clsIn K C).isSome && PySem.W.typeIn K (Value.ref C) == some (Value.type "type")) = true then PySem.W.subIn K t (Value.ref C) else none) = some r
  rw [hi', ht]
  exact hs
def tTryO (K : PySem.W.Frag) (c : Value) (tb : WX → TS) (ts : Addr → Value → Option Addr → TS) : TS := fun D σ H => tb (wOnly K c ts (fun _ _ _ _ => False) D) D σ H
section
variable {X : Cx} {x : Str} {c : Value} {body suite : List Stmt} {b₀ : Stmt} {np pos pos' : Pos} {tb : WX → TS} {ts : Addr → Value → Option Addr → TS}
end
section
variable {K : PySem.W.Frag} {σ : St} {H : Hp} {nx bk ct : St → Hp → Prop} {rt : VK}
theorem w_try {c : Value} {tb : WX → TS} {ts : Addr → Value → Option Addr → TS} (h : tb (wOnly K c ts (fun _ _ _ _ => False) ⟨nx, rt, bk, ct⟩) ⟨nx, rt, bk, ct⟩ σ H) : tTryO K c tb ts ⟨nx, rt, bk, ct⟩ σ H := h
end
/-! ### dict comprehensions -/
section
open PySem.Spec PyProof.Rows
variable {X : Cx}
/-- name = {k: v for ..}, the name a local: as the layer's rule for a list's comprehension -/
theorem ps_setDc {i : Nat} {y : Str} {py : Pos} {kx vx tg iter : Expr} {ifs : List Expr} {scope : Scope} {own : List (Str × Nat)} {pos spos : Pos} {wi : TI} {g : TG} {tt : TT} {tk tv : TE}
    (hc : X.calm = true) (hN : X.N.Nodup) (hy : X.N[i]? = some y) (hyl : X.env.scope.names.lookup y = some .local)
    (hsw : swapsWith (.DictComp kx vx [⟨tg, iter, ifs, 0⟩] scope pos) (some (.Name y py)) spos.line X.env = pure true)
    (hi : PI X tg iter wi) (ok : BlkOk X.N X.env.scope scope own)
    (hg : ∀ s0 H0 C0 cl fp, PG (X.blk s0 H0 scope (compEnvC scope cl C0 X.env) fp) tg g) (ht : ∀ s0 H0 C0 cl fp, PTs (X.blk s0 H0 scope (compEnvC scope cl C0 X.env) fp) ifs tt)
    (hk : ∀ s0 H0 C0 cl fp, PE (X.blk s0 H0 scope (compEnvC scope cl C0 X.env) fp) kx tk) (he : ∀ s0 H0 C0 cl fp, PE (X.blk s0 H0 scope (compEnvC scope cl C0 X.env) fp) vx tv)
    (hs : ∀ z, foldedSetIterable iter X.env z = pure z := by intro _; rfl) :
    PS X (.Assign [.Name y py] (.DictComp kx vx [⟨tg, iter, ifs, 0⟩] scope pos) spos) (tAsg (tDc wi g tt tk tv (own.map (·.2))) (gName i)) := by
  constructor
  intro pins s σ H Ed I h
  rw [exec_Assign_Name_used y py _ _ hsw]
  apply wpAny_bind
  apply wpAny_standAt
  apply wpAny_bind
  show wpAny _ X.A (comprehension (.DictComp kx vx [⟨tg, iter, ifs, 0⟩] scope pos) scope X.env (firstIterPos [⟨tg, iter, ifs, 0⟩] pos) newDict false (eval iter X.env) (some (assign (.Name y py) X.env)) >>= fun _ => pure ()) _ _ s
  apply wpAny_bind
  have h' : tDc wi g tt tk tv (own.map (·.2)) σ H (fun x H1 => gName i x σ H1 Ed.nx) := h
  refine thn (dc_core (Qf := fun _ s1 => SP X pins Ed .next s1) hc hN I hi ok hg ht hk he hs h' ?_) (fun _ _ z => wpAny_pure (wpAny_pure z))
  intro L C s1 m H1 I1 q hn ff
  obtain ⟨f0, f1, f2, f3, f4, f5⟩ := ff
  show wpAny _ _ (assign (.Name y py) X.env (.ref L)) _ _ _
  apply wpAny_assign_Name
  refine store_ok2 (v := V.ref L) I1 hN hy (.inl hyl) rfl ?_ (.inr hyl)
  rintro s2 I2 ⟨ad, sb, had⟩
  have hne : C ≠ ad := by
    rcases had with hz | hz
    · exact fun e => f1 (e.trans hz)
    · exact fun e => f4 y ad hz e.symm
  refine ⟨m, hn.sameBut sb hne, fun h3 sb3 => ⟨_, H1, ?_, q⟩⟩
  exact I2.turned (t' := s2.toks) (fun b o hb e => (sb3.2 b hb).trans e) f0 f1 f3 f4 f5
theorem sw_trueD {kx vx : Expr} {gs : List Comprehension} {scope : Scope} {pos py : Pos} {y : Str} {l : Nat} {env : Env} (hkd : env.scope.kind = .function) (hlk : env.scope.names.lookup y = some .local)
    (hln : (py.line == pos.line) = true) (hno : (scope.names.any fun (n, k) => n == y && (k == .local || k == .cell)) = false) : swapsWith (.DictComp kx vx gs scope pos) (some (.Name y py)) l env = pure true := by
  have e1 : env.kindOf y = some .local := hlk
  have e2 : env.blockKind = .function := by
    unfold Env.blockKind
    rw [hkd]
    rfl
  unfold swapsWith
  simp only [e2, e1, hno, Expr.pos, hln]
  rfl
end
section
variable {K : PySem.W.Frag} {σ : St} {H : Hp} {Q : VK}
def DcP (J : It) (g : TG) (tt : TT) (tk tv : TE) (vs : List Nat) (Q : VK) (σ : St) (H1 : Hp) : Prop := ∀ D, H1 D = none → ∃ W : Nat → Nat → Hp → Prop, (∃ m, W 0 m (upd H1 D (.dK []))) ∧ ∀ i m H, W i m H →
  (J.stop i H ∧ Q (.ref D) H) ∨ (J.go i H ∧ ∃ Nx : Hp → Prop, (∀ H', Nx H' → ∃ m', m' < m ∧ W (i + 1) m' H') ∧ ∀ x H', J.yld i H x H' → g x (wipe σ vs) H' fun σ2 H2 => wipe σ2 vs = wipe σ vs ∧ tt σ2 H2 fun b H3 =>
    if b = true then tk σ2 H3 fun y H4 => tv σ2 H4 fun z H5 => ∃ kvs k, y = kV k ∧ H5 D = some (.dK kvs) ∧ kvs.length < sizeLine ∧ Nx (upd H5 D (.dK (putK kvs k z))) else Nx H3)
theorem w_dc {wi : TI} {g : TG} {tt : TT} {tk tv : TE} {vs : List Nat} (h : wi σ H fun J H1 => DcP J g tt tk tv vs Q σ H1) : tDc wi g tt tk tv vs σ H Q := h
theorem putK_len' {κ : Type} [DecidableEq κ] (c : List (κ × V)) (k : κ) (x : V) : (putK c k x).length ≤ c.length + 1 := by
  unfold putK
  by_cases e : (c.any fun kv => decide (kv.1 = k)) = true
  · rw [if_pos e, List.length_map]; omega
  · rw [if_neg e, List.length_append]; simp
theorem mergeK_len (es : List (Key × V)) : ∀ acc, (mergeK acc es).length ≤ acc.length + es.length := by
  unfold mergeK
  induction es with
  | nil => intro acc; simp
  | cons e r ih =>
    intro acc
    have h1 := ih (putK acc e.1 e.2)
    have h2 := putK_len' acc e.1 e.2
    simp only [List.foldl_cons, List.length_cons] at *
    omega
theorem mergeK_snoc (acc es : List (Key × V)) (e : Key × V) : mergeK acc (es ++ [e]) = putK (mergeK acc es) e.1 e.2 := by
  unfold mergeK; rw [List.foldl_append]; rfl
/-- each turn adds a pair: the k-th is es[k]; what stood but M stands -/
theorem dcp_map {J : It} {n : Nat} {G : Hp → Prop} {Y : Nat → Hp → V → Hp → Prop} (w : Walk J n G Y) {g : TG} {tk tv : TE} {vs : List Nat} (M : List Addr) (es : List (Key × V)) (hn : es.length = n) (hz : n ≤ 1000000) (hG : ∀ H', Kp M H H' → G H')
    (hs : ∀ i x H1 H2 (R : V → V → Hp → Prop), i < n → Kp M H H1 → Y i H1 x H2 → (∀ e H4, es[i]? = some e → Kp M H1 H4 → R (kV e.1) e.2 H4) → g x (wipe σ vs) H2 fun σ2 H3 => wipe σ2 vs = wipe σ vs ∧ tk σ2 H3 fun y H4 => tv σ2 H4 fun z H5 => R y z H5)
    (hM : ∀ b ∈ M, ∃ o, H b = some o)
    (hd : ∀ D H', H D = none → Kp M H H' → H' D = some (.dK (mergeK [] es)) → Q (.ref D) H') : DcP J g tYes tk tv vs Q σ H := by
  intro D hD
  have hDM : D ∉ M := fun z => by obtain ⟨o, e⟩ := hM D z; rw [hD] at e; cases e
  refine ⟨fun i m H' => m = n - i ∧ i ≤ n ∧ Kp M H H' ∧ H' D = some (.dK (mergeK [] (es.take i))), ⟨n, by simp, Nat.zero_le _, Kp.new hD, upd_same⟩, ?_⟩
  rintro i m H1 ⟨rfl, hi, k1, e1⟩
  by_cases hlt : i < n
  · refine .inr ⟨w.goes i H1 hlt (hG _ k1), fun H' => Kp M H H' ∧ H' D = some (.dK (mergeK [] (es.take (i + 1)))), fun H' z => ⟨n - (i + 1), by omega, rfl, hlt, z.1, z.2⟩, fun x H2 y => ?_⟩
    refine hs i x H1 H2 (fun y z H5 => ∃ kvs k, y = kV k ∧ H5 D = some (.dK kvs) ∧ kvs.length < sizeLine ∧ (Kp M H (upd H5 D (.dK (putK kvs k z))) ∧ (upd H5 D (.dK (putK kvs k z))) D = some (.dK (mergeK [] (es.take (i + 1)))))) hlt k1 (w.yields i H1 x H2 hlt (hG _ k1) y) ?_
    intro e H4 he k4
    refine ⟨mergeK [] (es.take i), e.1, rfl, k4 _ _ hDM e1, ?_, (k1.trans k4).mutN hD, ?_⟩
    · have h1 := mergeK_len (es.take i) []
      have h2 : (es.take i).length ≤ 1000000 := by rw [List.length_take]; omega
      exact Nat.lt_of_le_of_lt (Nat.le_trans h1 (by simpa using h2)) (by decide)
    · rw [upd_same, List.take_add_one, he]
      show _ = some (HO.dK (mergeK [] (es.take i ++ [e])))
      rw [mergeK_snoc]
  · have e : i = n := by omega
    subst e
    rw [List.take_of_length_le (by omega)] at e1
    exact .inl ⟨w.stops H1 (hG _ k1), hd D H1 hD k1 e1⟩
end
/-! ### ints -/
theorem cmul_l {i j : Int} (h1 : -(2 ^ 64) < i) (h2 : i < 2 ^ 64) : CMul i j := .inl ⟨h1, h2⟩
theorem cmul_r {i j : Int} (h1 : -(2 ^ 64) < j) (h2 : j < 2 ^ 64) : CMul i j := .inr ⟨h1, h2⟩
theorem cdivw {i j : Int} (h1 : 0 < j) (h2 : j < 2 ^ 64) : CDivW i j := wide_div (b := 64) h1 (by omega) (by decide) (by decide)
theorem at_lt {α : Type} {xs : List α} {i : Int} (h0 : 0 ≤ i) (h1 : i < xs.length) : ∃ v, xs[i.toNat]? = some v ∧ atI xs i = some v := by
  have hl : i.toNat < xs.length := by omega
  refine ⟨xs[i.toNat], List.getElem?_eq_getElem hl, ?_⟩
  have e := atI_nat (xs := xs) (j := i.toNat) (List.getElem?_eq_getElem hl)
  rw [Int.toNat_of_nonneg h0] at e
  exact e
/-! ### the deck -/
def MOSTD : Nat := 1099511627776
structure Deck (H : Hp) (d c : Addr) (n : Nat) : Prop where
  ex : ∃ (cs : List Int) (a : Nat) (b : Int) (t : Nat), H d = some (.lst [.ref c, .int a, .int b, .int t]) ∧ H c = some (.lst (cs.map V.int)) ∧ t ≤ n
  ne : c ≠ d
theorem Deck.kp {M : List Addr} {H H' : Hp} {d c : Addr} {n : Nat} (k : Kp M H H') (h1 : d ∉ M) (h2 : c ∉ M) (D : Deck H d c n) : Deck H' d c n := by
  obtain ⟨⟨cs, a, b, t, e1, e2, e3⟩, ne⟩ := D
  exact ⟨⟨cs, a, b, t, k _ _ h1 e1, k _ _ h2 e2, e3⟩, ne⟩
theorem Deck.new {H : Hp} {d c : Addr} {n : Nat} {p : Addr} {o : HO} (h : H p = none) (D : Deck H d c n) : Deck (upd H p o) d c n := D.kp (M := []) (Kp.new h) (by simp) (by simp)
theorem Deck.mut {H : Hp} {d c : Addr} {n : Nat} {p : Addr} {o : HO} (h1 : p ≠ d) (h2 : p ≠ c) (D : Deck H d c n) : Deck (upd H p o) d c n :=
  D.kp (M := [p]) (Kp.mut (by simp)) (by simpa using Ne.symm h1) (by simpa using Ne.symm h2)
theorem Deck.mono {H : Hp} {d c : Addr} {n m : Nat} (D : Deck H d c n) (h : n ≤ m) : Deck H d c m := by
  obtain ⟨⟨cs, a, b, t, e1, e2, e3⟩, ne⟩ := D
  exact ⟨⟨cs, a, b, t, e1, e2, Nat.le_trans e3 h⟩, ne⟩
theorem Deck.at {H : Hp} {d c : Addr} {n : Nat} (D : Deck H d c n) : (∃ xs, H d = some (.lst xs)) ∧ ∃ xs, H c = some (.lst xs) := by
  obtain ⟨⟨cs, a, b, t, e1, e2, e3⟩, ne⟩ := D
  exact ⟨⟨_, e1⟩, ⟨_, e2⟩⟩
theorem Deck.ne1 {H : Hp} {d c p : Addr} {n : Nat} (D : Deck H d c n) (h : H p = none) : p ≠ d ∧ p ≠ c := by
  obtain ⟨⟨xs, e1⟩, ys, e2⟩ := D.at
  exact ⟨(ne_of_none e1 h).symm, (ne_of_none e2 h).symm⟩
end FW

set_option Elab.async false
set_option linter.all false
set_option maxRecDepth 100000
set_option maxHeartbeats 4000000
/-! {key: value for a in as if .. for b in bs if ..}: a dict by two clauses, as a rule of the layer (my own: the layer has it for lists). -/
namespace FW
open PySem PySem.Spec PyProof.Rows L2
section
variable {kx vx ta ia tb ib : Expr} {fa fb : List Expr} {sc : Scope} {ps : Pos}
abbrev two (kx vx ta ia : Expr) (fa : List Expr) (tb ib : Expr) (fb : List Expr) (sc : Scope) (ps : Pos) : Expr := .DictComp kx vx [⟨ta, ia, fa, 0⟩, ⟨tb, ib, fb, 0⟩] sc ps
/-- the tests of a clause, one behind the other -/
abbrev testsOf2 (fs : List Expr) (env : Env) : Sem Bool := forIn fs true fun c r => if r = true then do let ok ← isTrue c env (eval c env); pure (ForInStep.yield ok) else pure (ForInStep.yield r)
variable {pg : Program} {wd : World} {A : Around} {R : Result → Shared → Prop} {st : Shared} {it : Value} {D : Addr} {env : Env}
end
section
variable {X : Cx} {kx vx ta ia tb ib : Expr} {fa fb : List Expr} {sc : Scope} {ps qs : Pos} {own : List (Str × Nat)} {us : List Nat} {wa wb : TI} {ga gb : TG} {ra rb : TT} {tk tv : TE}
/-- the inner walk of one turn: from it Nx is reached -/
def Inner2 (J : It) (gb : TG) (rb : TT) (tk tv : TE) (us : List Nat) (D : Addr) (σ : L2.St) (H : Hp) (Nx : Hp → Prop) : Prop := ∃ W : Nat → Nat → Hp → Prop, (∃ m, W 0 m H) ∧ ∀ j k H1, W j k H1 →
  (J.stop j H1 ∧ Nx H1) ∨ (J.go j H1 ∧ ∃ Ny : Hp → Prop, (∀ H2, Ny H2 → ∃ k', k' < k ∧ W (j + 1) k' H2) ∧ ∀ x H2, J.yld j H1 x H2 → gb x (wipe σ us) H2 fun σ3 H3 => wipe σ3 us = wipe σ us ∧ rb σ3 H3 fun b H4 =>
    if b = true then tk σ3 H4 fun y H5 => tv σ3 H5 fun z H6 => ∃ kvs key, y = kV key ∧ H6 D = some (.dK kvs) ∧ kvs.length < sizeLine ∧ Ny (upd H6 D (.dK (putK kvs key z))) else Ny H4)
/-- the whole -/
def tDc2 (wa : TI) (ga : TG) (ra : TT) (wb : TI) (gb : TG) (rb : TT) (tk tv : TE) (os us : List Nat) : TE := fun σ H Q => wa σ H fun J H1 => ∀ D, H1 D = none → ∃ W : Nat → Nat → Hp → Prop, (∃ m, W 0 m (upd H1 D (.dK []))) ∧ ∀ i m H2, W i m H2 →
  (J.stop i H2 ∧ Q (.ref D) H2) ∨ (J.go i H2 ∧ ∃ Nx : Hp → Prop, (∀ H3, Nx H3 → ∃ m', m' < m ∧ W (i + 1) m' H3) ∧ ∀ x H3, J.yld i H2 x H3 → ga x (wipe σ os) H3 fun σ2 H4 => wipe σ2 os = wipe σ os ∧ ra σ2 H4 fun b H5 =>
    if b = true then wb σ2 H5 fun J1 H6 => Inner2 J1 gb rb tk tv us D σ2 H6 Nx else Nx H5)
end
/-! ### its steps -/
section
variable {K : PySem.W.Frag} {σ : L2.St} {H : Hp} {Q : VK}
def Dc2P (J : It) (ga : TG) (ra : TT) (wb : TI) (gb : TG) (rb : TT) (tk tv : TE) (os us : List Nat) (Q : VK) (σ : L2.St) (H1 : Hp) : Prop := ∀ D, H1 D = none → ∃ W : Nat → Nat → Hp → Prop, (∃ m, W 0 m (upd H1 D (.dK []))) ∧ ∀ i m H2, W i m H2 →
  (J.stop i H2 ∧ Q (.ref D) H2) ∨ (J.go i H2 ∧ ∃ Nx : Hp → Prop, (∀ H3, Nx H3 → ∃ m', m' < m ∧ W (i + 1) m' H3) ∧ ∀ x H3, J.yld i H2 x H3 → ga x (wipe σ os) H3 fun σ2 H4 => wipe σ2 os = wipe σ os ∧ ra σ2 H4 fun b H5 =>
    if b = true then wb σ2 H5 fun J1 H6 => Inner2 J1 gb rb tk tv us D σ2 H6 Nx else Nx H5)
theorem w_dc2 {wa wb : TI} {ga gb : TG} {ra rb : TT} {tk tv : TE} {os us : List Nat} (h : wa σ H fun J H1 => Dc2P J ga ra wb gb rb tk tv os us Q σ H1) : tDc2 wa ga ra wb gb rb tk tv os us σ H Q := h
/-- a comprehension with a test: the turn i gives sel i, or nothing -/
theorem lcp_sel {J : It} {n : Nat} {G : Hp → Prop} {Y : Nat → Hp → V → Hp → Prop} (w : Walk J n G Y) {g : TG} {tt : TT} {te : TE} {vs : List Nat} (M : List Addr) (sel : Nat → Option V) (hz : n ≤ 1000000) (hG : ∀ H', Kp M H H' → G H')
    (hs : ∀ i x H1 H2 (R : V → Hp → Prop) (R0 : Hp → Prop), i < n → Kp M H H1 → Y i H1 x H2 → (∀ y H4, sel i = some y → Kp M H1 H4 → R y H4) → (∀ H4, sel i = none → Kp M H1 H4 → R0 H4) → g x (wipe σ vs) H2 fun σ2 H3 => wipe σ2 vs = wipe σ vs ∧ tt σ2 H3 fun b H4 => if b = true then te σ2 H4 R else R0 H4)
    (hM : ∀ b ∈ M, ∃ o, H b = some o)
    (hd : ∀ D H', H D = none → Kp M H H' → H' D = some (.lst ((List.range n).filterMap sel)) → Q (.ref D) H') : LcP J g tt te vs Q σ H := by
  intro D hD
  have hDM : D ∉ M := fun z => by obtain ⟨o, e⟩ := hM D z; rw [hD] at e; cases e
  refine lc_it w (fun i H' => Kp M H H' ∧ H' D = some (.lst ((List.range i).filterMap sel))) ⟨Kp.new hD, upd_same⟩ (fun i H' _ z => hG H' z.1) ?_ ?_
  · rintro i x H1 H2 hi ⟨k1, e1⟩ y
    refine hs i x H1 H2 _ _ hi k1 y ?_ ?_
    · intro z H4 hz' k4
      refine ⟨_, k4 _ _ hDM e1, ?_, (k1.trans k4).mutN hD, ?_⟩
      · refine Nat.lt_of_le_of_lt (List.length_filterMap_le _ _) ?_
        rw [List.length_range]
        exact Nat.lt_of_lt_of_le (Nat.lt_of_lt_of_le hi hz) (by decide)
      · rw [upd_same, List.range_succ, List.filterMap_append]
        simp [hz']
    · intro H4 hz' k4
      refine ⟨k1.trans k4, ?_⟩
      rw [k4 _ _ hDM e1, List.range_succ, List.filterMap_append]
      simp [hz']
  · rintro H' ⟨k, e⟩
    exact hd D H' hD k e
/-! ### a dict that is walked; any, sorted, insert -/
def rInsert : V → List V → Hp → VK → Prop := fun x vs H Q => ∃ (l : Addr) (xs : List V) (i : Int) (y : V), x = .ref l ∧ vs = [.int i, y] ∧ H l = some (.lst xs) ∧ xs.length < sizeLine ∧ 0 ≤ i ∧ i < 2 ^ 63 ∧ Q .non (upd H l (.lst (xs.take i.toNat ++ [y] ++ xs.drop i.toNat)))
theorem w_any {p : Addr} {bs : List Bool} (h1 : SqL K H p (bs.map V.bl)) (h : Q (.bl (bs.any id)) H) : rAny K [.ref p] H Q := ⟨p, bs, rfl, h1, h⟩
section
variable {nx bk ct : L2.St → Hp → Prop} {rt : VK}
theorem w_lock {t : TS} {d : Addr} {kvs : List (Key × V)} (e : H d = some (.dK kvs)) (h : ∀ od H1, H1 d = some (.frz od (.dK kvs)) → Off d H H1 → t ⟨fun σ' H' => H' d = some (.frz od (.dK kvs)) ∧ nx σ' (upd H' d (.dK kvs)), fun v H' => H' d = some (.frz od (.dK kvs)) ∧ rt v (upd H' d (.dK kvs)), fun σ' H' => H' d = some (.frz od (.dK kvs)) ∧ bk σ' (upd H' d (.dK kvs)), fun σ' H' => H' d = some (.frz od (.dK kvs)) ∧ ct σ' (upd H' d (.dK kvs))⟩ σ H1) : tLock t ⟨nx, rt, bk, ct⟩ σ H :=
  ⟨d, _, e, trivial, fun od => h od _ upd_same fun x hx => upd_ne hx⟩
def rKeys (x : V) (H1 : Hp) (R : It → Hp → Prop) : Prop := ∃ d o, x = .ref d ∧ ((∃ kvs, H1 d = some (.frz o (.dK kvs)) ∧ R (Itk d o kvs) H1) ∨ ∃ kvs, H1 d = some (.frz o (.dT kvs)) ∧ R (Itkt d o kvs) H1)
theorem w_keys {td : TE} {R : It → Hp → Prop} (h : td σ H fun x H1 => rKeys x H1 R) : iKeys td σ H R := h
theorem w_keys' {d : Addr} {o : Obj} {kvs : List (Key × V)} {R : It → Hp → Prop} (e : H d = some (.frz o (.dK kvs))) (h : R (Itk d o kvs) H) : rKeys (.ref d) H R := ⟨d, o, rfl, .inl ⟨kvs, e, h⟩⟩
theorem lp_keys {d : Addr} {o : Obj} {kvs : List (Key × V)} {ks : List Int} {g : TG} {tb : TS} (hk : kvs.map (·.1) = ks.map (Sum.inl : Int → Key)) (Pv : Nat → L2.St → Hp → Prop) (h0 : Pv 0 σ H) (hl : ∀ i σ H, i ≤ ks.length → Pv i σ H → H d = some (.frz o (.dK kvs)))
    (hs : ∀ i x σ H, ks[i]? = some x → Pv i σ H → g (.int x) σ H fun σ2 H2 => tb ⟨Pv (i + 1), rt, nx, Pv (i + 1)⟩ σ2 H2) (hd : ∀ σ H, Pv ks.length σ H → nx σ H) : Lp (Itk d o kvs) g tb ⟨nx, rt, bk, ct⟩ σ H := by
  have hn : kvs.length = ks.length := by
    have := congrArg List.length hk
    simpa using this
  refine lp_it walk_keys Pv h0 (fun i σ H hi => hl i σ H (by omega)) ?_ (by rw [hn]; exact hd)
  rintro i x σ H H' hi p ⟨rfl, k, v, e, rfl⟩
  have e2 : (kvs.map (·.1))[i]? = some k := by rw [List.getElem?_map, e]; rfl
  rw [hk, List.getElem?_map] at e2
  obtain ⟨z, e3, rfl⟩ := Option.map_eq_some_iff.mp e2
  exact hs i z σ H' e3 p
end
theorem w_tyes {R : Bool → Hp → Prop} (h : R true H) : tYes σ H R := h
theorem w_dinF {a : Addr} {o : Obj} {kvs : List (Key × V)} {n : Int} (e : H a = some (.frz o (.dK kvs))) (h : Q (.bl (valV kvs (Sum.inl n)).isSome) H) : rDIn (.ref a) (.int n) H Q := ⟨a, _, rfl, .inl ⟨kvs, Sum.inl n, .inr ⟨o, e⟩, rfl, rfl⟩, h⟩
theorem w_dgetF {a : Addr} {o : Obj} {kvs : List (Key × V)} {n : Int} {v : V} (e : H a = some (.frz o (.dK kvs))) (e2 : valV kvs (Sum.inl n) = some v) (h : Q v H) : rDGet (.ref a) (.int n) H Q := ⟨a, v, rfl, .inl ⟨kvs, Sum.inl n, .inr ⟨o, e⟩, rfl, e2.symm⟩, h⟩
/-! ### get, reversed, slices, pop -/
def rDGet1 (a : Addr) (y : V) (H : Hp) (Q : VK) : Prop := ∃ o, DGet H a y o ∧ Q (o.getD .non) H
theorem w_dget1 {td ty : TE} (h : td σ H fun x H1 => rIsD x H1 fun a H1 => ty σ H1 fun y H2 => rDGet1 a y H2 Q) : tDGet1 td ty σ H Q := h
theorem w_dget1I {a : Addr} {kvs : List (Key × V)} {n : Int} (e : H a = some (.dK kvs)) (h : Q ((valV kvs (Sum.inl n)).getD .non) H) : rDGet1 a (.int n) H Q := ⟨_, DGet.k (k := Sum.inl n) e, h⟩
def rRev (K : PySem.W.Frag) (vs : List V) (H : Hp) (R : It → Hp → Prop) : Prop := ∃ (a : Addr) (xs : List V), vs = [.ref a] ∧ SqL K H a xs ∧ R (Itv K a xs.length) H
theorem w_rev {ta : TA} {R : It → Hp → Prop} (h : ta σ H fun vs H1 => rRev K vs H1 R) : iRev K ta σ H R := h
theorem w_rev' {a : Addr} {xs : List V} {R : It → Hp → Prop} (h1 : SqL K H a xs) (h : R (Itv K a xs.length) H) : rRev K [.ref a] H R := ⟨a, xs, rfl, h1, h⟩
def rPart (x : V) (H : Hp) (R : Option Int → Hp → Prop) : Prop := ∃ i, x = .int i ∧ R (some i) H
theorem w_slice {r : V → Option Int → Option Int → Hp → VK → Prop} {te : TE} {tl th : TO} (h : te σ H fun x H1 => tl σ H1 fun l H2 => th σ H2 fun u H3 => r x l u H3 Q) : L2.tSl r te tl th σ H Q := h
theorem w_noPart {R : Option Int → Hp → Prop} (h : R none H) : tNoPart σ H R := h
theorem w_part {te : TE} {R : Option Int → Hp → Prop} (h : te σ H fun x H1 => rPart x H1 R) : tPart te σ H R := h
theorem w_part' {i : Int} {R : Option Int → Hp → Prop} (h : R (some i) H) : rPart (.int i) H R := ⟨i, rfl, h⟩
theorem w_bm0 {r : V → List V → Hp → VK → Prop} {to : TE} (h : to σ H fun x H1 => tyV K "list" x H1 ∧ r x [] H1 Q) : tBM0 K "list" r to σ H Q := h
theorem w_retN {nx bk ct : L2.St → Hp → Prop} {rt : VK} (h : rt .non H) : tRetN ⟨nx, rt, bk, ct⟩ σ H := h
theorem range_fm {α β : Type} (f : α → Option β) : ∀ xs : List α, (List.range xs.length).filterMap (fun i => xs[i]?.bind f) = xs.filterMap f
  | [] => rfl
  | x :: r => by
    rw [List.length_cons, List.range_succ_eq_map, List.filterMap_cons, List.filterMap_map, List.filterMap_cons]
    have h := range_fm f r
    show (match f x with | none => List.filterMap (fun i => r[i]?.bind f) (List.range r.length) | some b => b :: List.filterMap (fun i => r[i]?.bind f) (List.range r.length)) = _
    rw [h]
    cases f x <;> rfl
end
end FW

set_option Elab.async false
set_option linter.all false
set_option maxRecDepth 100000
set_option maxHeartbeats 4000000
/-! Data of any kind: what isinstance says of them, and tuples of them to a depth. -/
namespace FW
open PySem PySem.Spec PyProof.Rows L2
inductive Ty (H : Hp) : V → String → Prop where
  | non : Ty H .non "NoneType"
  | bl (b : Bool) : Ty H (.bl b) "bool"
  | int (i : Int) : Ty H (.int i) "int"
  | str (z : Str) : Ty H (.str z) "str"
  | lst {a : Addr} {xs : List V} (e : H a = some (.lst xs)) : Ty H (.ref a) "list"
  | tup {a : Addr} {xs : List V} (e : H a = some (.tup xs)) : Ty H (.ref a) "tuple"
  | dK {a : Addr} {kvs : List (Key × V)} (e : H a = some (.dK kvs)) : Ty H (.ref a) "dict"
section
variable {K : PySem.W.Frag} {σ : L2.St} {H : Hp} {Q : VK} {x : V} {a : String}
theorem Ty.tx (t : Ty H x a) : TyX K H x (.type a) := by
  cases t with
  | non => exact .base .non
  | bl b => exact .base (.bl b)
  | int i => exact .base (.int i)
  | str z => exact .base (.str z)
  | lst e => exact .base (.lst e)
  | tup e => exact .base (.tup e)
  | dK e => exact .base (.dK e)
theorem Ty.kTup (t : Ty H x a) : kitB a "tuple" = some (decide (a = "tuple")) := by
  cases t with
  | non => exact kb_NoneType_tuple
  | bl b => exact kb_bool_tuple
  | int i => exact kb_int_tuple
  | str z => exact kb_str_tuple
  | lst e => exact kb_list_tuple
  | tup e => exact kb_tuple_tuple
  | dK e => exact kb_dict_tuple
theorem Ty.kInt (t : Ty H x a) : kitB a "int" = some (decide (a = "int") || decide (a = "bool")) := by
  cases t with
  | non => exact kb_NoneType_int
  | bl b => exact kb_bool_int
  | int i => exact kb_int_int
  | str z => exact kb_str_int
  | lst e => exact kb_list_int
  | tup e => exact kb_tuple_int
  | dK e => exact kb_dict_int
theorem Ty.kBool (t : Ty H x a) : kitB a "bool" = some (decide (a = "bool")) := by
  cases t with
  | non => exact kb_NoneType_bool
  | bl b => exact kb_bool_bool
  | int i => exact kb_int_bool
  | str z => exact kb_str_bool
  | lst e => exact kb_list_bool
  | tup e => exact kb_tuple_bool
  | dK e => exact kb_dict_bool
theorem w_isTup (t : Ty H x a) (h : Q (.bl (decide (a = "tuple"))) H) : rIsi K [x, .ty "tuple"] H Q := w_isi t.tx t.kTup h
theorem w_isInt (t : Ty H x a) (h : Q (.bl (decide (a = "int") || decide (a = "bool"))) H) : rIsi K [x, .ty "int"] H Q := w_isi t.tx t.kInt h
theorem w_isBool (t : Ty H x a) (h : Q (.bl (decide (a = "bool"))) H) : rIsi K [x, .ty "bool"] H Q := w_isi t.tx t.kBool h
theorem Ty.isInt (t : Ty H x a) (e : a = "int") : ∃ i, x = .int i := by
  cases t with
  | int i => exact ⟨i, rfl⟩
  | non => exact absurd e (by decide)
  | bl _ => exact absurd e (by decide)
  | tup _ => exact absurd e (by decide)
  | str _ => exact absurd e (by decide)
  | lst _ => exact absurd e (by decide)
  | dK _ => exact absurd e (by decide)
theorem Ty.ofInt {i : Int} (t : Ty H (.int i) a) : a = "int" := by
  cases t with
  | int i => rfl
theorem Ty.ofTup {p : Addr} {xs : List V} (t : Ty H (.ref p) a) (e : H p = some (.tup xs)) : a = "tuple" := by
  cases t with
  | tup h => rfl
  | lst h => rw [e] at h; cases h
  | dK h => rw [e] at h; cases h
end
/-- data: a tuple of data, or another thing -/
inductive Dat (B : Nat) (H : Hp) : V → Prop where
  | leaf {x : V} {a : String} (t : Ty H x a) (h : a ≠ "tuple") : Dat B H x
  | tup {p : Addr} {xs : List V} (e : H p = some (.tup xs)) (l : xs.length ≤ B) (h : ∀ y ∈ xs, Dat B H y) : Dat B H (.ref p)
theorem Dat.int {B : Nat} {H : Hp} {i : Int} : Dat B H (.int i) := .leaf (.int i) (by decide)
theorem Dat.ty {B : Nat} {H : Hp} {x : V} (h : Dat B H x) : ∃ a, Ty H x a := by
  cases h with
  | leaf t _ => exact ⟨_, t⟩
  | tup e _ _ => exact ⟨_, .tup e⟩
/-- what keeps tuples, and of lists and dicts their kind -/
structure KD (H H' : Hp) : Prop where
  t : KT H H'
  l : ∀ b xs, H b = some (.lst xs) → ∃ ys, H' b = some (.lst ys)
  d : ∀ b kvs, H b = some (.dK kvs) → ∃ kws, H' b = some (.dK kws)
theorem KD.of {H H' : Hp} (k : Same H H') : KD H H' := ⟨KT.of k, fun b xs e => ⟨xs, k _ _ e⟩, fun b kvs e => ⟨kvs, k _ _ e⟩⟩
theorem KD.refl {H : Hp} : KD H H := ⟨KT.refl, fun b xs e => ⟨xs, e⟩, fun b kvs e => ⟨kvs, e⟩⟩
theorem KD.trans {H H1 H2 : Hp} (a : KD H H1) (b : KD H1 H2) : KD H H2 := ⟨a.t.trans b.t, fun c xs e => by
  obtain ⟨ys, e⟩ := a.l c xs e
  exact b.l c ys e, fun c xs e => by
  obtain ⟨ys, e⟩ := a.d c xs e
  exact b.d c ys e⟩
theorem KD.off {p : Addr} {H H' : Hp} {xs ys : List V} (k : Off p H H') (e : H p = some (.lst xs)) (e' : H' p = some (.lst ys)) : KD H H' := ⟨KT.off k e, fun b zs h => by
  by_cases q : b = p
  · subst q; exact ⟨ys, e'⟩
  · exact ⟨zs, k.get q h⟩, fun b kvs h => ⟨kvs, k.get (ne_of h e (fun z => nomatch z)) h⟩⟩
theorem Ty.kd {H H' : Hp} {x : V} {a : String} (t : Ty H x a) (k : KD H H') : Ty H' x a := by
  cases t with
  | non => exact .non
  | bl b => exact .bl b
  | int i => exact .int i
  | str z => exact .str z
  | lst e => obtain ⟨ys, e⟩ := k.l _ _ e; exact .lst e
  | tup e => exact .tup (k.t _ _ e)
  | dK e => obtain ⟨ys, e⟩ := k.d _ _ e; exact .dK e
theorem Dat.kd {B : Nat} {H H' : Hp} {x : V} (h : Dat B H x) (k : KD H H') : Dat B H' x := by
  induction h with
  | leaf t h => exact .leaf (t.kd k) h
  | tup e l _ ih => exact .tup (k.t _ _ e) l fun y hy => ih y hy
theorem Dat.mono {B C : Nat} (hB : B ≤ C) {H : Hp} {x : V} (h : Dat B H x) : Dat C H x := by
  induction h with
  | leaf t h => exact .leaf t h
  | tup e l _ ih => exact .tup e (Nat.le_trans l hB) fun y hy => ih y hy
theorem Dat.cases {B : Nat} {H : Hp} {x : V} (h : Dat B H x) : (∃ a, Ty H x a ∧ a ≠ "tuple") ∨ ∃ (p : Addr) (xs : List V), x = .ref p ∧ H p = some (.tup xs) ∧ xs.length ≤ B ∧ ∀ y ∈ xs, Dat B H y := by
  cases h with
  | leaf t h => exact .inl ⟨_, t, h⟩
  | tup e l h => exact .inr ⟨_, _, rfl, e, l, h⟩
theorem Deck.kd {H H' : Hp} {d c : Addr} {n m : Nat} (D : Deck H d c n) (D' : Deck H' d c m) (o : Off d H H') : KD H H' := by
  obtain ⟨⟨xs, e⟩, _⟩ := D.at
  obtain ⟨⟨ys, e'⟩, _⟩ := D'.at
  exact KD.off o e e'
section
variable {K : PySem.W.Frag} {H : Hp} {Q : VK}
end
/-! ### except X as e -/
def tTryA (K : PySem.W.Frag) (c : Value) (i : Nat) (tb : WX → TS) (ts : Addr → Value → Option Addr → TS) : TS := fun D σ H => tb (wAs K c i ts (fun _ _ _ _ => False) D) D σ H
def tGuard (P : Prop) (t : TS) : TS := fun D σ H => P ∧ t D σ H
section
variable {X : Cx} {x n : Str} {c : Value} {i : Nat} {body suite : List Stmt} {b₀ : Stmt} {np pos pos' : Pos} {tb : WX → TS} {ts : Addr → Value → Option Addr → TS}
theorem pss_guard {P : Prop} {ss : List Stmt} {t : TS} (h : P → PSs X ss t) : PSs X ss (tGuard P t) := ⟨fun pins s σ H D I hw => (h hw.1).run pins s σ H D I hw.2⟩
theorem zc_of {C : Addr} {cls : Value} {d : Option Addr} {oe : Obj} (hg : cls = .ref C ∧ d = none) (hz : Zc cls d oe) : Zc (.ref C) none oe := by
  obtain ⟨rfl, rfl⟩ := hg
  exact hz
end
section
variable {K : PySem.W.Frag} {σ : L2.St} {H : Hp} {Q : VK} {nx bk ct : L2.St → Hp → Prop} {rt : VK}
theorem w_guard {P : Prop} {t : TS} (p : P) (h : t ⟨nx, rt, bk, ct⟩ σ H) : tGuard P t ⟨nx, rt, bk, ct⟩ σ H := ⟨p, h⟩
theorem w_isE {a D C : Addr} {b : Bool} (e : PySem.W.kitOne K (.ref D) (.ref C) = some b) (h : Q (.bl b) H) : rIsE K D a [.ref a, .ref C] H Q := ⟨.ref C, .ref C, b, rfl, fun u r => r, e, h⟩
theorem w_isEt {a D : Addr} {n : String} {b : Bool} (e : PySem.W.kitOne K (.ref D) (.type n) = some b) (h : Q (.bl b) H) : rIsE K D a [.ref a, .ty n] H Q := ⟨.ty n, .type n, b, rfl, fun u r => r, e, h⟩
end
end FW

set_option Elab.async false
set_option linter.all false
set_option maxRecDepth 100000
set_option maxHeartbeats 4000000
/-! own errors with fields: made, caught, looked at; min of pairs; defaults by keyword -/
namespace FW
section
open PySem PySem.W PySem.Calls PyProof.Rows
variable {prog : Program} {w : World} {A : Around} {E : Value → Shared → Prop} {s : Shared} {K : Frag} {x D : Addr} {ox : Obj} {od : Option Obj}
end
open PySem PySem.Spec PyProof.Rows L2
/-- isinstance(e, c), e the error that the suite holds, with its fields at d -/
def rIsF (K : PySem.W.Frag) (D a : Addr) (d : Option Addr) : List V → Hp → VK → Prop := fun xs H Q => ∃ (c : V) (cv : Value) (b : Bool) (dd : Addr) (fs : List (Str × V)), xs = [.ref a, c] ∧ d = some dd ∧ H dd = some (.xd fs) ∧ (∀ u, RelV c u → u = cv) ∧ PySem.W.kitOne K (.ref D) cv = some b ∧ Q (.bl b) H
/-- an own error with __init__ -/
structure ExnI (K : PySem.W.Frag) (mg : Str → Option Value) (x : Str) (C fI : Addr) (fd : FuncData) (ps : List Str) (fs : List Str) : Prop where
  g : mg x = some (.ref C)
  T : OexC K C
  i : PySem.W.findIn K (.ref C) "__init__" = some (some (.ref fI))
  t : PySem.W.typeIn K (.ref fI) = some (.type "function")
  b : Binds K fd ps []
  f : XfC K C
  ec : ExcC K C
  nf : ∀ y ∈ fs, PySem.W.findIn K (.ref C) y = some none
/-- a def with keyword-only defaults -/
structure DfK (K : PySem.W.Frag) (mg : Str → Option Value) (x : Str) (st : Stmt) (ps : List Str) (kws : List (Str × V)) (dvs : List V) (f : Addr) (fd : FuncData) : Prop where
  fn : FunD K x x (defArgs st) (defBody st) (defScope st) [] kws f fd
  g : mg x = some (.ref f)
  kp : PySem.W.keepIn K (.ref f) = true
  b : ∃ ds, Vals dvs ds ∧ Binds K fd ps ds
  kb : ∃ g, KBn K fd ps (ps.length - kws.length) (kws.map (·.1)) g (fun vs zs => vs ++ zs)
/-- raise C(..) of two fields -/
def tRaiseO (C : Addr) (W : WX) (sp : Sp) (ta : TA) : TS := fun _ σ H => tMkO C sp [] ta σ H fun cls d H' => W cls d σ H'
section
variable {K : PySem.W.Frag} {σ : L2.St} {H : Hp} {Q : VK} {nx bk ct : L2.St → Hp → Prop} {rt : VK}
theorem w_mkO {C : Addr} {sp : Sp} {ta : TA} {Qx : XK} (h : ta σ H fun vs H1 => vs.length ≤ 1000 ∧ ∀ a, H1 a = none → sp (.ref a :: (vs ++ [])) (upd H1 a (exo a C none)) (fun v H2 => v = .non ∧ ∃ (d : Addr) (fs : List (Str × V)), H2 a = some (exo a C (some d)) ∧ H2 d = some (exd d fs) ∧ H1 d = none ∧ Qx (.ref C) (some d) (upd (del H2 a) d (.xd fs))) (fun _ _ _ => False)) : tMkO C sp [] ta σ H Qx := h
theorem w_callN {n m : Nat} {sp : Sp} {gV : List V → List V → List V} {E : XK} {t tk : TA} (h : t σ H fun vs H1 => tk σ H1 fun zs H2 => vs.length = n ∧ zs.length = m ∧ sp (gV vs zs) H2 Q E) : tCallN n m sp gV E t tk σ H Q := h
theorem w_xf {a C : Addr} {cls : Value} {d : Option Addr} {f : Str} {te : TE} (h : te σ H fun x H1 => x = .ref a ∧ cls = .ref C ∧ ∃ (dd : Addr) (fs : List (Str × V)) (v : V), d = some dd ∧ H1 dd = some (.xd fs) ∧ fs.lookup f = some v ∧ Q v H1) : tXf a cls d C f te σ H Q := h
theorem w_ost {f : Str} {to te : TE} {D : Ends} (h : te σ H fun y H1 => to σ H1 fun x H2 => ∃ a C : Addr, x = .ref a ∧ OexC K C ∧ PySem.W.findIn K (.ref C) f = some none ∧ ((H2 a = some (exo a C none) ∧ ∀ dx, H2 dx = none → dx ≠ a → D.nx σ (upd (upd H2 dx (exd dx [(f, y)])) a (exo a C (some dx)))) ∨ ∃ (dx : Addr) (fs : List (Str × V)), H2 a = some (exo a C (some dx)) ∧ H2 dx = some (exd dx fs) ∧ fs.length ≤ 900 ∧ D.nx σ (upd H2 dx (exd dx ((f, y) :: fs))))) : tOst K f to te D σ H := h
end
/-- what __init__ of two fields leaves -/
def spInit2 (K : PySem.W.Frag) (C : Addr) (f g : Str) : Sp := fun vs H Q _ => ∃ (a : Addr) (x y : V), vs = [.ref a, x, y] ∧ H a = some (exo a C none) ∧ ∀ dx, H dx = none → dx ≠ a → Q .non (upd (upd (upd H dx (exd dx [(f, x)])) a (exo a C (some dx))) dx (exd dx [(g, y), (f, x)]))
def spInit1 (K : PySem.W.Frag) (C : Addr) (f : Str) : Sp := fun vs H Q _ => ∃ (a : Addr) (x : V), vs = [.ref a, x] ∧ H a = some (exo a C none) ∧ ∀ dx, H dx = none → dx ≠ a → Q .non (upd (upd H dx (exd dx [(f, x)])) a (exo a C (some dx)))
/-! ### min of a list of pairs -/
def LtP (p q : Int × Int) : Prop := p.1 < q.1 ∨ p.1 = q.1 ∧ p.2 < q.2
def rMinP (K : PySem.W.Frag) : List V → Hp → VK → Prop := fun vs H Q => ∃ (a : Addr) (ps : List (Addr × Int × Int)), vs = [V.ref a] ∧ SqL K H a (ps.map fun q => .ref q.1) ∧ (∀ q ∈ ps, H q.1 = some (.tup [.int q.2.1, .int q.2.2])) ∧ ps ≠ [] ∧ ∀ q ∈ ps, (∀ r ∈ ps, ¬ LtP r.2 q.2) → Q (.ref q.1) H
section
variable {X : Cx} {pins : List (Addr × Obj)} {σ : L2.St} {H : Hp} {s : Shared}
end
theorem room100 {k : Nat} {A : Around} (r : Room k A) : A.units + 100 < cLine := by have := r.un; omega
end FW

set_option Elab.async false
set_option linter.all false
set_option maxRecDepth 100000
set_option maxHeartbeats 4000000
/-! for i, x in enumerate(t), t a tuple -/
namespace FW
open PySem PySem.Spec PyProof.Rows L2
def ItU (K : PySem.W.Frag) (a : Addr) : It :=
  ⟨fun i H => ∃ (xs : List V) (x : V), SqT K H a xs ∧ xs[i]? = some x,
   fun i H v H' => ∃ T x, v = .ref T ∧ H T = none ∧ H' = upd H T (.tup [.int (i : Nat), x]) ∧ ∀ xs, SqT K H a xs → xs[i]? = some x,
   fun i H => ∃ xs : List V, SqT K H a xs ∧ xs.length = i⟩
section
variable {P : Program} {w : World} {K : PySem.W.Frag} {elts : List Expr} {kk : Nat} {tpos : Pos}
end
section
variable {prog : Program} {w : World} {A : Around} {E : Value → Shared → Prop} {s : Shared}
end
def rEnumT (K : PySem.W.Frag) (vs : List V) (H : Hp) (R : It → Hp → Prop) : Prop := ∃ a xs, vs = [.ref a] ∧ SqT K H a xs ∧ R (ItU K a) H
def iEnumT (K : PySem.W.Frag) (ta : TA) : TI := fun σ H R => ta σ H fun vs H1 => rEnumT K vs H1 R
def rLenD (vs : List V) (H : Hp) (Q : VK) : Prop := ∃ a kvs, vs = [V.ref a] ∧ H a = some (.dK kvs) ∧ Q (.int kvs.length) H
theorem c_lenD {X : Cx} : CallR X (.builtin "len") rLenD := call_lenD
theorem w_lenD {H : Hp} {Q : VK} {a : Addr} {kvs : List (Key × V)} (e : H a = some (.dK kvs)) (h : Q (.int kvs.length) H) : rLenD [.ref a] H Q := ⟨a, kvs, rfl, e, h⟩
section
variable {K : PySem.W.Frag} {σ : L2.St} {H : Hp} {a : Addr} {xs : List V}
theorem w_enum {ta : TA} {R : It → Hp → Prop} (h : ta σ H fun vs H1 => rEnumT K vs H1 R) : iEnumT K ta σ H R := h
theorem w_enum' {R : It → Hp → Prop} (h1 : SqT K H a xs) (h : R (ItU K a) H) : rEnumT K [.ref a] H R := ⟨a, xs, rfl, h1, h⟩
end
/-! ### what keeps all but the deck -/
structure KX (dk : Addr) (H H' : Hp) : Prop extends KD H H' where
  p : Kp [dk] H H'
theorem KX.of {d : Addr} {H H' : Hp} (k : Same H H') : KX d H H' := ⟨KD.of k, Kp.of k⟩
theorem KX.refl {d : Addr} {H : Hp} : KX d H H := ⟨KD.refl, Kp.refl⟩
theorem KX.trans {d : Addr} {H H1 H2 : Hp} (a : KX d H H1) (b : KX d H1 H2) : KX d H H2 := ⟨a.toKD.trans b.toKD, a.p.trans b.p⟩
theorem Deck.kx {H H' : Hp} {d c : Addr} {n m : Nat} (D : Deck H d c n) (D' : Deck H' d c m) (o : Off d H H') : KX d H H' := ⟨D.kd D' o, o.kp (by simp)⟩
instance {d : Addr} {H H' : Hp} : CoeOut (KX d H H') (KD H H') := ⟨KX.toKD⟩
/-- [x for .. if ..]: which are taken is left open; S goes on from turn to turn -/
theorem lcp_some {σ : L2.St} {H : Hp} {Q : VK} {J : It} {n : Nat} {G : Hp → Prop} {Y : Nat → Hp → V → Hp → Prop} (w : Walk J n G Y) {g : TG} {tt : TT} {te : TE} {vs : List Nat} (M : List Addr) (P : V → Prop) (S : Nat → Hp → Prop) (hz : n ≤ 1000000)
    (SD : ∀ D, H D = none → ∀ i H1 o, S i H1 → S i (upd H1 D o)) (hG : ∀ i H', Kp M H H' → S i H' → G H') (S0 : S 0 H)
    (hs : ∀ i x H1 H2 (R : V → Hp → Prop) (R0 : Hp → Prop), i < n → Kp M H H1 → S i H1 → Y i H1 x H2 → (∀ y H4, P y → Kp M H1 H4 → S (i + 1) H4 → R y H4) → (∀ H4, Kp M H1 H4 → S (i + 1) H4 → R0 H4) → g x (wipe σ vs) H2 fun σ2 H3 => wipe σ2 vs = wipe σ vs ∧ tt σ2 H3 fun b H4 => if b = true then te σ2 H4 R else R0 H4)
    (hM : ∀ b ∈ M, ∃ o, H b = some o)
    (hd : ∀ D H' ys, ys.length ≤ n → (∀ y ∈ ys, P y) → H D = none → Kp M H H' → S n H' → H' D = some (.lst ys) → Q (.ref D) H') : LcP J g tt te vs Q σ H := by
  intro D hD
  have hDM : D ∉ M := fun z => by obtain ⟨o, e⟩ := hM D z; rw [hD] at e; cases e
  refine lc_it w (fun i H' => Kp M H H' ∧ S i H' ∧ ∃ ys, ys.length ≤ i ∧ H' D = some (.lst ys) ∧ ∀ y ∈ ys, P y) ⟨Kp.new hD, SD D hD _ _ _ S0, [], Nat.le_refl _, upd_same, by simp⟩ (fun i H' _ z => hG i H' z.1 z.2.1) ?_ ?_
  · rintro i x H1 H2 hi ⟨k1, s1, ys, hl, e1, hp⟩ y
    refine hs i x H1 H2 _ _ hi k1 s1 y ?_ ?_
    · intro z H4 pz k4 s4
      refine ⟨ys, k4 _ _ hDM e1, Nat.lt_of_le_of_lt hl (Nat.lt_of_lt_of_le (Nat.lt_of_lt_of_le hi hz) (by decide)), (k1.trans k4).mutN hD, SD D hD _ _ _ s4, ys ++ [z], by rw [List.length_append]; simpa using hl, upd_same, fun y' hy' => ?_⟩
      rcases List.mem_append.mp hy' with h | h
      · exact hp y' h
      · have e : y' = z := by simpa using h
        rw [e]
        exact pz
    · intro H4 k4 s4
      exact ⟨k1.trans k4, s4, ys, Nat.le_succ_of_le hl, k4 _ _ hDM e1, hp⟩
  · rintro H' ⟨k, sn, ys, hl, e, hp⟩
    exact hd D H' ys hl hp hD k sn e
end FW

set_option Elab.async false
set_option linter.all false
set_option maxRecDepth 100000
set_option maxHeartbeats 4000000
/-! sorted(d) of a dict of ints, of any length -/
namespace FW
open PySem PySem.Spec PyProof.Rows L2
def rSortA (xs : List V) (H : Hp) (Q : VK) : Prop := ∃ (a : Addr) (kvs : List (Key × V)) (ks : List Int), xs = [.ref a] ∧ Rd H a (.dK kvs) ∧ kvs.map (·.1) = ks.map Sum.inl ∧ ks.length ≤ 100000 ∧
    ∀ (ys : List Int) (p : Addr), ys.Perm ks → ys.Pairwise (· ≤ ·) → H p = none → Q (.ref p) (upd H p (.lst (ys.map V.int)))
theorem c_sortA {X : Cx} (hcalm : X.calm = true) : CallR X (.builtin "sorted") rSortA := by
  intro pins s σ H xs us Q I r ⟨a, kvs, ks, ex, hd, hks, hlk, q⟩
  subst ex
  obtain ⟨u, eu, rx⟩ := vals1 r
  subst eu
  cases rx
  obtain ⟨z, lo, vs, rel, dd⟩ := dk_rd I.hok hd
  obtain ⟨ep, hat⟩ := dd.dictAt
  have hkeys : vs.map (·.1) = ks.map Sum.inl := rel.keys.symm.trans hks
  have hl : vs.length = ks.length := by
    have e := congrArg List.length hkeys
    simpa using e
  have h16 : vs.length ≤ sizeLine := by rw [hl, sizeLine_eq]; omega
  refine Calls.call_function_entry kind_sorted plain_sorted entry_sorted (args_sorted1 _) ?_
  unfold Builtin.«sorted»; refine wpAny_bind (m := checkCount "sorted" 1 1 _) (wpAny_pure ?_)
  refine wpAny_bind (PySem.W.kdu_collect (A := X.A.in1) (PySem.W.kdl_dict (knd := mixKind X.prog X.w) (kvs := vs) (ep := ep) lo) (I.ok.hd hcalm) hat h16 fun h' tk acc hk hacc => ?_)
  have hal : acc.toList.length = ks.length := by rw [Array.length_toList, hacc.1, hl]
  have hS : IntsAre acc.toList ks := ints_each hal fun j v e => by
    obtain ⟨k, x, e1, e2⟩ := hacc.2 j v (by rw [← Array.getElem?_toList]; exact e)
    have e3 : (vs.map (·.1))[j]? = some k := by rw [List.getElem?_map, e1]; rfl
    rw [hkeys, List.getElem?_map] at e3
    obtain ⟨y, e4, e5⟩ := Option.map_eq_some_iff.mp e3
    subst e5
    rcases keyIs_shape (show keyIs (Sum.inl y) v = true from e2) with ⟨i, t, ek, ev⟩ | ⟨z, t, ek, ev⟩
    · cases ek
      exact ⟨y, t, e4, ev⟩
    · cases ek
  have I1 : Inv X pins σ H { s with heap := h', toks := tk } := I.kept hk
  have hz : acc.toList.length ≤ sizeLine := by rw [hal, sizeLine_eq]; omega
  refine wpAny_bind (wpAny_newList ?_ hz)
  have hoL : (h'.push (seqObj "list" acc.toList.toArray 0)).get? h'.objs.size = some (seqObj "list" acc.toList.toArray 0) := Heap.get?_push_size _ rfl
  show wpAny _ _ _ _ _ { s with heap := h'.push (seqObj "list" acc.toList.toArray 0), toks := tk }
  refine wpAny_bind (wpAny_holding (wpAny_call_entry slot_list_sort ⟨_, hoL, rfl⟩ entry_list_sort (SrtO.list_sort_ord (s := { s with heap := h'.push (seqObj "list" acc.toList.toArray 0), toks := tk }) SrtO.swo_int hoL hz (fun h2 => SrtO.ints_sortable hS h2) fun out h1 h2 => ⟨_, rfl, ?_⟩) (args_list_sort _)))
  obtain ⟨g1, g2, g3⟩ := SrtO.ints_out hS h1 h2
  obtain ⟨e', he'⟩ := sortedHeap_at (vs := acc.toList) (out := out.toArray) hoL
  have hlen : ((out.map SrtO.iv).map V.int).length ≤ sizeLine := by rw [List.length_map, g2.length_eq, ← hal]; exact hz
  refine wpAny_pure ⟨_, rfl, .ref h'.objs.size, upd H h'.objs.size (.lst ((out.map SrtO.iv).map V.int)), I1.laid (t' := tk) (fun b u e => ?_) (Nat.le_refl _) (show ObjOk X.prog X.w _ _ _ (.lst ((out.map SrtO.iv).map V.int)) from ⟨hlen, out, e', vals_of_ints g1, he'⟩), rfl, q _ _ g2 g3 (I1.hok.fresh (Nat.le_refl _))⟩
  have hb : b < h'.objs.size := Heap.lt_size e
  rw [sortedHeap_old (Nat.ne_of_lt hb) (by rw [size_push']; exact Nat.lt_succ_of_lt hb)]
  exact Heap.get?_push_of_some _ e
theorem w_sortA {H : Hp} {Q : VK} {a : Addr} {kvs : List (Key × V)} {ks : List Int} (e : H a = some (.dK kvs)) (hk : kvs.map (·.1) = ks.map Sum.inl) (hl : ks.length ≤ 100000) (h : ∀ (ys : List Int) p H1, ys.Perm ks → ys.Pairwise (· ≤ ·) → H p = none → H1 p = some (.lst (ys.map V.int)) → Same H H1 → Q (.ref p) H1) : rSortA [.ref a] H Q :=
  ⟨a, kvs, ks, rfl, .inl e, hk, hl, fun ys p g1 g2 hp => h ys p _ g1 g2 hp upd_same (Same.new hp)⟩
end FW

set_option Elab.async false
set_option linter.all false
set_option maxRecDepth 100000
set_option maxHeartbeats 4000000
/-! t[k::w] of a tuple; extend by a tuple; pairs in a list -/
namespace HT
open PySem PySem.Spec PyProof.Rows
section
variable {prog : Program} {w : World} {A : Around} {E : Value → Shared → Prop} {s : Shared}
def places (n k w : Nat) : Nat := (n - k - 1) / w + 1
def stepL {α : Type} (xs : List α) (k c : Nat) : List α := (List.range (places xs.length k c)).filterMap fun j => xs[k + j * c]?
end
end HT
namespace FW
open PySem PySem.Spec PyProof.Rows L2
/-- t[k::w] -/
def rStep (K : PySem.W.Frag) (x y z : V) (H : Hp) (Q : VK) : Prop := ∃ (a : Addr) (xs : List V) (k c : Nat), x = .ref a ∧ y = .int k ∧ z = .int c ∧ SqT K H a xs ∧ k < xs.length ∧ 0 < c ∧ (k = 0 → c = 1 → Q (.ref a) H) ∧ (¬ (k = 0 ∧ c = 1) → Nw (.tup (HT.stepL xs k c)) H Q)
def tStep (K : PySem.W.Frag) (te tl ts : TE) : TE := fun σ H Q => te σ H fun x H1 => tl σ H1 fun y H2 => ts σ H2 fun z H3 => rStep K x y z H3 Q
section
variable {X : Cx}
def rExtT (K : PySem.W.Frag) : V → List V → Hp → VK → Prop := fun x vs H Q => ∃ l b xs zs, x = .ref l ∧ vs = [.ref b] ∧ H l = some (.lst xs) ∧ H b = some (.tup zs) ∧ xs.length + zs.length ≤ sizeLine ∧ Q .non (upd H l (.lst (xs ++ zs)))
/-- a pair (int, truth) that is not in a list of such -/
def rNotInP (K : PySem.W.Frag) : R2 := fun x y H Q => ∃ (p a : Addr) (v : Int) (b : Bool) (an : List (Addr × Int × Bool)), x = .ref p ∧ y = .ref a ∧ H p = some (.tup [.int v, .bl b]) ∧ SqL K H a (an.map fun q => .ref q.1) ∧ (∀ q ∈ an, H q.1 = some (.tup [.int q.2.1, .bl q.2.2])) ∧ Q (.bl (decide ((v, b) ∉ an.map (·.2)))) H
end
section
variable {K : PySem.W.Frag} {σ : L2.St} {H : Hp} {Q : VK}
theorem w_step {te tl ts : TE} (h : te σ H fun x H1 => tl σ H1 fun y H2 => ts σ H2 fun z H3 => rStep K x y z H3 Q) : tStep K te tl ts σ H Q := h
end
end FW

set_option Elab.async false
set_option linter.all false
set_option maxRecDepth 100000
set_option maxHeartbeats 4000000
/-! a, .., *rest = t: the last target starred, t a tuple -/
namespace FW
open PySem PySem.Spec PyProof.Rows L2
section
variable {prog : Program} {w : World} {A : Around} {E : Value → Shared → Prop} {s : Shared}
end
/-- n names, then a starred one -/
def gStar (K : PySem.W.Frag) (j : Nat) (t : TGs) : TG := fun v σ H Q => ∃ a xs, v = .ref a ∧ SqT K H a xs ∧ j ≤ xs.length ∧ ∀ L, H L = none → t (xs.take j ++ [.ref L]) σ (upd H L (.lst (xs.drop j))) Q
section
variable {X : Cx} {pos : Pos}
end
end FW

set_option Elab.async false
set_option linter.all false
set_option maxRecDepth 100000
set_option maxHeartbeats 4000000
/-! try with several except clauses, each with or without a name -/
namespace FW
open PySem PySem.Spec PyProof.Rows L2
abbrev Suite := Addr → Value → Option Addr → TS
/-- the ends behind a suite whose name goes -/
def unset (i : Nat) (D : Ends) : Ends := ⟨fun σ H => D.nx (σ.set i none) H, D.rt, fun σ H => D.bk (σ.set i none) H, fun σ H => D.ct (σ.set i none) H⟩
def runCl (o : Option Nat) (ts : Suite) (a : Addr) (cls : Value) (d : Option Addr) (D : Ends) (σ : L2.St) (H : Hp) : Prop :=
  match o with
  | none => ts a cls d D σ H
  | some i => ts a cls d (unset i D) (σ.set i (some (.ref a))) H
def wCl (K : PySem.W.Frag) (Wo : WX) (D : Ends) : List (Value × Option Nat × Suite) → WX
  | [] => Wo
  | (c, o, ts) :: r => fun cls d σ H => ∃ b, PySem.W.exmOne K cls c = some b ∧ (b = true → ∀ a, H a = none → runCl o ts a cls d D σ H) ∧ (b = false → wCl K Wo D r cls d σ H)
inductive ClOk (X : Cx) : List ExceptHandler → List (Value × Option Nat × Suite) → Prop
  | nil : ClOk X [] []
  | only {x : Str} {c : Value} {ts : Suite} {st : Stmt} {sts : List Stmt} {p1 p2 : Pos} {hs : List ExceptHandler} {l : List (Value × Option Nat × Suite)} (nm : Names X x c)
      (su : ∀ a oe cls d pn, Zc cls d oe → (∃ vs, oe.data = .fields vs) → PSs (X.suite a ((a, oe) :: pn)) (st :: sts) (ts a cls d)) (r : ClOk X hs l) :
      ClOk X (.ExceptHandler (some (.Name x p1)) none (st :: sts) p2 :: hs) ((c, none, ts) :: l)
  | as {x n : Str} {c : Value} {i : Nat} {ts : Suite} {st : Stmt} {sts : List Stmt} {p1 p2 : Pos} {hs : List ExceptHandler} {l : List (Value × Option Nat × Suite)} (hi : X.N[i]? = some n) (hl : X.env.kindOf n = some .local) (nm : Names X x c)
      (su : ∀ a oe cls d pn, Zc cls d oe → (∃ vs, oe.data = .fields vs) → PSs (X.suite a ((a, oe) :: pn)) (st :: sts) (ts a cls d)) (r : ClOk X hs l) :
      ClOk X (.ExceptHandler (some (.Name x p1)) (some n) (st :: sts) p2 :: hs) ((c, some i, ts) :: l)
def tTryG (K : PySem.W.Frag) (l : List (Value × Option Nat × Suite)) (Wo : WX) (tb : WX → TS) : TS := fun D σ H => tb (wCl K Wo D l) D σ H
section
variable {X : Cx} {body : List Stmt} {h1 : ExceptHandler} {hs : List ExceptHandler} {l : List (Value × Option Nat × Suite)} {pos : Pos} {tb : WX → TS} {Wo : WX}
theorem p_tryG (stk : X.stack = X.env :: X.outer) (fr : X.env.frame = some X.env.locals) (nd : X.N.Nodup) (tk : Takes X Wo)
    (pb : ∀ W pn xe, Takes (X.tr pn xe) W → PassesOwn (model X.prog X.w) X.A X.env xe → PSs (X.tr pn xe) body (tb W))
    (cl : ClOk X (h1 :: hs) l) : PS X (.Try body (h1 :: hs) [] [] pos) (tTryG X.K l Wo tb) := by
  constructor
  intro pins s σ H D I h
  have ok := I.ok
  have frm : X.A.frames = some (X.env :: X.outer) := by rw [ok.frames, stk]
  apply wpAny_Try_except
  have run := (pb (wCl X.K Wo D l) (X.pn ++ pins) (fun e z1 => wpAny (model X.prog X.w) X.A (noteFrame e X.env) (fun _ z2 => wpAny (model X.prog X.w) X.A (setFlight e none) (fun _ z3 => wpAny (model X.prog X.w) X.A (handleBy e X.env (h1 :: hs)) (SP X pins D) X.xe z3) X.xe z2) X.xe z1) ?caught PassesOwn.looking).run [] s σ H D (I.toTry _) h
  case caught =>
    intro u z xx
    obtain ⟨a, B, zI, pins', σ1, H1, cls, d, rfl, J', nb, up, sky, na, os, ag, wish⟩ := xx
    have J : Inv X pins σ1 H1 zI := J'.ofTry ok
    have sky1 : Sky B (X.env :: X.outer) a (Zc cls d) X.env.locals z.heap := by rw [← stk]; exact sky
    show wpAny (model X.prog X.w) X.A (noteFrame (.ref a) X.env) _ _ _
    refine Sky.land Zc.steady frm fr sky1 ?_
    intro g3 fl up3
    have J3 : Inv X pins σ1 H1 { z with heap := g3 } := J.landed nb fl.1 (up.trans up3) os ag
    obtain ⟨oe, vs, he, hz, hd⟩ := fl.there
    have far : a ∉ frs (X.env :: X.outer) := by
      intro hm
      obtain ⟨_, o2, e2, no⟩ := fl.2.2.1.mem hm
      rw [he] at e2
      cases e2
      exact no _ hd
    have farL : a ≠ X.env.locals := fun q => far (List.mem_filterMap.mpr ⟨X.env, by simp, by rw [fr, q]⟩)
    have farF : a ∉ X.fs := by
      intro hm
      obtain ⟨e, he', q⟩ := List.mem_filterMap.mp hm
      exact far (List.mem_filterMap.mpr ⟨e, by simp [he'], q⟩)
    have S3 := J3.suite he hd na farL farF
    have look : PySem.W.Looks (model X.prog X.w) g3 (typeOf (.ref a)) cls := fun _ _ _ _ k q => wpAny_typeOf_ref (k _ _ he) (by rw [hz.1]; exact q)
    have name : ∀ {x : Str} {c : Value} {p1 : Pos} {Q E : Value → Shared → Prop}, Names X x c → Q c { z with heap := g3 } → wpAny (model X.prog X.w) (X.A.mark (some (.ref a))) (eval (.Name x p1) X.env) Q E { z with heap := g3 } := by
      rintro x c p1 Q E ⟨hg, hdb, hm | ⟨hm, hv, hnn⟩⟩ q
      · exact ld_glob (X := X.suite a ((a, oe) :: (X.pn ++ pins))) S3 hg hm q hdb
      · exact ld_blt (X := X.suite a ((a, oe) :: (X.pn ++ pins))) S3 hg hm hv q hnn hdb
    have all : ∀ {hs' : List ExceptHandler} {l' : List (Value × Option Nat × Suite)}, ClOk X hs' l' → wCl X.K Wo D l' cls d σ1 H1 → wpAny (model X.prog X.w) X.A (handleBy (.ref a) X.env hs') (SP X pins D) X.xe { z with heap := g3 } := by
      intro hs' l' ck
      induction ck with
      | nil =>
        intro wish
        apply wpAny_handleBy_nil
        obtain ⟨_, _, _, oe', vs', T', oT, ts', he', hz', hd', hT, _⟩ := id fl
        unfold PySem.passOn
        apply wpAny_bind
        refine wpAny_field he' hd' hT ?_
        rw [if_neg (by simp)]
        have out : wpAny (model X.prog X.w) X.A (setFlight (.ref a) X.env.frame) (fun _ z4 => wpAny (model X.prog X.w) X.A (throw (.ref a) : Sem Flow) (SP X pins D) X.xe z4) X.xe { z with heap := g3 } := by
          rw [fr]
          refine HandSPX.setFlight_upZ fl ?_
          intro g4 hh4 up4
          exact wpAny_throw (tk _ _ ⟨a, B, zI, pins, σ1, H1, cls, d, rfl, J, nb, (up.trans up3).trans up4, .inr (.inr (by rw [stk]; exact hh4)), na, os, ag, wish⟩)
        first
        | exact wpAny_bind out
        | exact wpAny_bind (wpAny_pure (wpAny_bind out))
      | @only x c ts st sts p1 p2 hs2 l2 nm su r ih =>
        rintro ⟨b, hb, yes, no⟩
        refine wpAny_handleBy_cons (codeAny_handlers_test ?_) (by intro q; cases q)
        have lm := PySem.W.exm_one (M := model X.prog X.w) (J3.kIn) look hb
        refine name nm (lm.here ?_)
        cases b with
        | false => exact ih (no rfl)
        | true =>
          apply codeAny_handlers_suite
          refine HandSPX.lands_againZ fl ?_
          intro g4 fl4 up4
          have J4 : Inv X pins σ1 H1 { z with heap := g4 } := J.landed nb fl4.1 ((up.trans up3).trans up4) os ag
          obtain ⟨oe4, vs4, he4, hz4, hd4⟩ := fl4.there
          have S4 := J4.suite he4 hd4 na farL farF
          refine wpAny_mono ((su a oe4 cls d (X.pn ++ pins) hz4 ⟨_, hd4⟩).run [] _ _ H1 _ S4 (yes rfl a na)) ?_ (fun _ _ q => False.elim q)
          intro f z6 sp
          cases f with
          | ret u =>
            obtain ⟨v6, σ6, H6, S6, r6, q6⟩ := sp
            exact ⟨v6, σ6, H6, S6.unsuite ok, r6, q6⟩
          | _ =>
            obtain ⟨σ6, H6, S6, q6⟩ := sp
            exact ⟨σ6, H6, S6.unsuite ok, q6⟩
      | @as x n c i ts st sts p1 p2 hs2 l2 hi hl nm su r ih =>
        rintro ⟨b, hb, yes, no⟩
        refine wpAny_handleBy_cons (codeAny_handlers_test ?_) (by intro q; cases q)
        have lm := PySem.W.exm_one (M := model X.prog X.w) (J3.kIn) look hb
        refine name nm (lm.here ?_)
        cases b with
        | false => exact ih (no rfl)
        | true =>
          apply codeAny_handlers_suite_as
          refine HandSPX.lands_againZ fl ?_
          intro g4 fl4 up4
          have J4 : Inv X pins σ1 H1 { z with heap := g4 } := J.landed nb fl4.1 ((up.trans up3).trans up4) os ag
          obtain ⟨oe4, vs4, he4, hz4, hd4⟩ := fl4.there
          have S4 := J4.suite he4 hd4 na farL farF
          refine store_ok (X := X.suite a ((a, oe4) :: (X.pn ++ pins))) (v := .ref a) S4 nd hi (.inl hl) rfl ?_ (.inr hl)
          intro z5 S5
          refine wpAny_mono ((su a oe4 cls d (X.pn ++ pins) hz4 ⟨_, hd4⟩).run [] z5 _ H1 _ S5 (yes rfl a na)) ?_ (fun _ _ q => False.elim q)
          intro f z6 sp
          have goes : ∀ {σ6 : L2.St} {H6 : Hp} {Q : Shared → Prop}, Inv (X.suite a ((a, oe4) :: (X.pn ++ pins))) [] σ6 H6 z6 → (∀ z7, Inv X pins (σ6.set i none) H6 z7 → Q z7) → wpAny (model X.prog X.w) X.A (do bindName X.env n .none; unbindBehindTheSuite X.env n p2) (fun _ z7 => Q z7) X.xe z6 :=
            fun S6 hq => gone_ok (S6.unsuite ok) nd hi hl hq
          cases f with
          | ret u =>
            obtain ⟨v6, σ6, H6, S6, r6, q6⟩ := sp
            exact goes S6 fun z7 J7 => ⟨v6, _, _, J7, r6, q6⟩
          | next =>
            obtain ⟨σ6, H6, S6, q6⟩ := sp
            exact goes S6 fun z7 J7 => ⟨_, _, J7, q6⟩
          | brk =>
            obtain ⟨σ6, H6, S6, q6⟩ := sp
            exact goes S6 fun z7 J7 => ⟨_, _, J7, q6⟩
          | cont =>
            obtain ⟨σ6, H6, S6, q6⟩ := sp
            exact goes S6 fun z7 J7 => ⟨_, _, J7, q6⟩
    exact all cl wish
  refine wpAny_mono run ?_ (fun _ _ q => q)
  intro f z1 sp
  cases f with
  | next =>
    obtain ⟨σ1, H1, J1, q⟩ := sp
    exact wpAny_execs_nil ⟨σ1, H1, J1.ofTry ok, q⟩
  | ret u =>
    obtain ⟨v, σ1, H1, J1, r, q⟩ := sp
    exact ⟨v, σ1, H1, J1.ofTry ok, r, q⟩
  | brk =>
    obtain ⟨σ1, H1, J1, q⟩ := sp
    exact ⟨σ1, H1, J1.ofTry ok, q⟩
  | cont =>
    obtain ⟨σ1, H1, J1, q⟩ := sp
    exact ⟨σ1, H1, J1.ofTry ok, q⟩
end
section
variable {K : PySem.W.Frag} {σ : L2.St} {H : Hp} {nx bk ct : L2.St → Hp → Prop} {rt : VK}
theorem w_tryG {l : List (Value × Option Nat × Suite)} {Wo : WX} {tb : WX → TS} (h : tb (wCl K Wo ⟨nx, rt, bk, ct⟩ l) ⟨nx, rt, bk, ct⟩ σ H) : tTryG K l Wo tb ⟨nx, rt, bk, ct⟩ σ H := h
theorem w_clY {c cls : Value} {o : Option Nat} {ts : Suite} {d : Option Addr} {Wo : WX} {D : Ends} {l : List (Value × Option Nat × Suite)} (e : PySem.W.exmOne K cls c = some true) (h : ∀ a, H a = none → runCl o ts a cls d D σ H) : wCl K Wo D ((c, o, ts) :: l) cls d σ H := ⟨true, e, fun _ => h, fun z => nomatch z⟩
theorem w_clN {c cls : Value} {o : Option Nat} {ts : Suite} {d : Option Addr} {Wo : WX} {D : Ends} {l : List (Value × Option Nat × Suite)} (e : PySem.W.exmOne K cls c = some false) (h : wCl K Wo D l cls d σ H) : wCl K Wo D ((c, o, ts) :: l) cls d σ H := ⟨false, e, (fun z => nomatch z), fun _ => h⟩
end
end FW

set_option Elab.async false
set_option linter.all false
set_option maxRecDepth 100000
set_option maxHeartbeats 4000000
/-! {tuple: value for a in as if ..}: a dict keyed by tuples, one clause; pairs looked for in tuples; zip of tuples -/
namespace FW
open PySem PySem.Spec PyProof.Rows L2
section
variable {kx vx ta ia : Expr} {fa : List Expr} {sc : Scope} {ps : Pos}
abbrev one (kx vx ta ia : Expr) (fa : List Expr) (sc : Scope) (ps : Pos) : Expr := .DictComp kx vx [⟨ta, ia, fa, 0⟩] sc ps
variable {pg : Program} {wd : World} {A : Around} {R : Result → Shared → Prop} {st : Shared} {it : Value} {D : Addr} {env : Env}
end
section
variable {X : Cx}
variable {kx vx ta ia : Expr} {fa : List Expr} {sc : Scope} {ps qs : Pos} {own : List (Str × Nat)} {wa : TI} {ga : TG} {ra : TT} {tk tv : TE}
def DcTP (J : It) (g : TG) (tt : TT) (tk tv : TE) (vs : List Nat) (Q : VK) (σ : L2.St) (H1 : Hp) : Prop := ∀ D, H1 D = none → ∃ W : Nat → Nat → Hp → Prop, (∃ m, W 0 m (upd H1 D (.dT []))) ∧ ∀ i m H, W i m H →
  (J.stop i H ∧ Q (.ref D) H) ∨ (J.go i H ∧ ∃ Nx : Hp → Prop, (∀ H', Nx H' → ∃ m', m' < m ∧ W (i + 1) m' H') ∧ ∀ x H', J.yld i H x H' → g x (wipe σ vs) H' fun σ2 H2 => wipe σ2 vs = wipe σ vs ∧ tt σ2 H2 fun b H3 =>
    if b = true then tk σ2 H3 fun y H4 => tv σ2 H4 fun z H5 => ∃ kvs k b, y = .ref b ∧ H5 b = some (.tup (k.map kV)) ∧ H5 D = some (.dT kvs) ∧ kvs.length < sizeLine ∧ Nx (upd H5 D (.dT (putK kvs k z))) else Nx H3)
def tDcT (wi : TI) (g : TG) (tt : TT) (tk tv : TE) (vs : List Nat) : TE := fun σ H Q => wi σ H fun J H1 => DcTP J g tt tk tv vs Q σ H1
/-- a pair of ints that is not in a tuple of such -/
def rNotInT (K : PySem.W.Frag) : R2 := fun x y H Q => ∃ (p a : Addr) (v b : Int) (an : List (Addr × Int × Int)), x = .ref p ∧ y = .ref a ∧ H p = some (.tup [.int v, .int b]) ∧ SqT K H a (an.map fun q => .ref q.1) ∧ (∀ q ∈ an, H q.1 = some (.tup [.int q.2.1, .int q.2.2])) ∧ Q (.bl (decide ((v, b) ∉ an.map (·.2)))) H
end
section
variable {K : PySem.W.Frag} {σ : L2.St} {H : Hp} {Q : VK} {nx bk ct : L2.St → Hp → Prop} {rt : VK}
theorem w_dct {wi : TI} {g : TG} {tt : TT} {tk tv : TE} {vs : List Nat} (h : wi σ H fun J H1 => DcTP J g tt tk tv vs Q σ H1) : tDcT wi g tt tk tv vs σ H Q := h
theorem w_dinT {a b : Addr} {kvs : List (List Key × V)} {k : List Key} (e : H a = some (.dT kvs)) (eb : H b = some (.tup (k.map kV))) (h : Q (.bl (valV kvs k).isSome) H) : rDIn (.ref a) (.ref b) H Q := ⟨a, _, rfl, DGet.t e eb, h⟩
/-- for a, b in zip(tuple, tuple) -/
def rZipA (K : PySem.W.Frag) (vs : List V) (H : Hp) (R : It → Hp → Prop) : Prop := ∃ a b xs ys, vs = [.ref a, .ref b] ∧ ((SqL K H a xs ∧ SqL K H b ys ∧ R (Itz K a b) H) ∨ (SqT K H a xs ∧ SqT K H b ys ∧ R (RZ.ItzT K a b) H))
theorem w_zipA {ta : TA} {R : It → Hp → Prop} (h : ta σ H fun vs H1 => rZipA K vs H1 R) : RZ.iZipA K ta σ H R := h
theorem w_zipT' {a b : Addr} {xs ys : List V} {R : It → Hp → Prop} (h1 : SqT K H a xs) (h2 : SqT K H b ys) (h : R (RZ.ItzT K a b) H) : rZipA K [.ref a, .ref b] H R := ⟨a, b, xs, ys, rfl, .inr ⟨h1, h2, h⟩⟩
end
end FW

set_option Elab.async false
set_option linter.all false
set_option maxRecDepth 100000
set_option maxHeartbeats 4000000
/-! try: .. except (A, B): .. -/
namespace FW
open PySem PySem.Spec PyProof.Rows L2
def wTwo (K : PySem.W.Frag) (c1 c2 : Value) (ts : Suite) (D : Ends) : WX := fun cls d σ H => PySem.W.exmAny K cls [c1, c2] = some true ∧ ∀ a, H a = none → ts a cls d D σ H
def tTry2 (K : PySem.W.Frag) (c1 c2 : Value) (tb : WX → TS) (ts : Suite) : TS := fun D σ H => tb (wTwo K c1 c2 ts D) D σ H
section
variable {X : Cx} {body sts : List Stmt} {st : Stmt} {x1 x2 : Str} {c1 c2 : Value} {p1 p2 p3 p4 p5 : Pos} {kk : Nat} {tb : WX → TS} {ts : Suite}
end
end FW

set_option Elab.async false
set_option linter.all false
set_option maxRecDepth 100000
set_option maxHeartbeats 4000000
/-! texts: len, in, signs one by one, join; lists taken apart; all -/
namespace FW
open PySem PySem.Spec PyProof.Rows L2
def rLenS : List V → Hp → VK → Prop := fun xs H Q => ∃ z, xs = [.str z] ∧ z.length ≤ sizeLine ∧ Q (.int z.length) H
def rInS : R2 := fun x y H Q => ∃ (c : Nat) (z : Str), x = .str ⟨#[c]⟩ ∧ y = .str z ∧ Q (.bl (decide (c ∈ z.cps.toList))) H
def rJoin (K : PySem.W.Frag) : V → List V → Hp → VK → Prop := fun x xs H Q => ∃ a p, ∃ ys : List Str, x = .str a ∧ xs = [.ref p] ∧ (SqL K H p (ys.map V.str) ∨ SqT K H p (ys.map V.str)) ∧ (ys.map (·.length)).sum + ys.length * a.length ≤ 16777216 ∧ Q (.str (Txt.join a ys)) H
def rIStr (v : V) (H : Hp) (R : It → Hp → Prop) : Prop := ∃ x, v = .str x ∧ R (Its x) H
def rLtS : R2 := fun x y H Q => ∃ i j : Str, x = .str i ∧ y = .str j ∧ Q (.bl (decide (i.cps.toList < j.cps.toList))) H
def rGtS : R2 := fun x y H Q => ∃ i j : Str, x = .str i ∧ y = .str j ∧ Q (.bl (decide (j.cps.toList < i.cps.toList))) H
section
variable {X : Cx}
theorem o_ltS : OpR X (compareOp .Lt) rLtS := op_lt_str
theorem c_lenS : CallR X (.builtin "len") rLenS := call_len_str
theorem o_inS : OpR X (compareOp .In) rInS := op_in_sign
theorem p_join {o e : Expr} {to te : TE} {apos pos : Pos} (ho : PE X o to) (he : PE X e te) (hs : starEach [e] X.env = [(false, eval e X.env)] := by rfl) (hbase : attributeBase o "join" X.env (eval o X.env) = eval o X.env := by rfl) (hline : (apos.endLine == pos.line) = true := by rfl) :
    PE X (.Call (.Attribute o "join" apos) [e] [] pos) (tM1 (rJoin X.K) to te) := pe_join ho he hs hbase hline
end
section
variable {K : PySem.W.Frag} {σ : L2.St} {H : Hp} {Q : VK} {nx bk ct : L2.St → Hp → Prop} {rt : VK}
theorem w_callD {sp : Sp} {dvs : List V} {E : XK} {t : TA} (h : t σ H fun vs H1 => sp (vs ++ dvs) H1 Q E) : tCall sp dvs E t σ H Q := h
theorem w_ipI {g : Int → Int → Int} {i j : Int} (h : Q (.int (g i j)) H) : ipI g (.int i) (.int j) H Q := ⟨i, j, rfl, rfl, h⟩
theorem w_ltS {x y : Str} (h : Q (.bl (decide (x.cps.toList < y.cps.toList))) H) : rLtS (.str x) (.str y) H Q := ⟨x, y, rfl, rfl, h⟩
theorem w_gtS {x y : Str} (h : Q (.bl (decide (y.cps.toList < x.cps.toList))) H) : rGtS (.str x) (.str y) H Q := ⟨x, y, rfl, rfl, h⟩
theorem w_neS {x y : Str} (h : Q (.bl (!decide (x = y))) H) : rNe (.str x) (.str y) H Q := ⟨rfl, by
  have e : decide (V.str x = V.str y) = decide (x = y) := by
    by_cases q : x = y
    · subst q; rw [decide_eq_true rfl, decide_eq_true rfl]
    · rw [decide_eq_false q, decide_eq_false (fun z => q (V.str.inj z))]
  rw [e]; exact h⟩
theorem w_lenS {z : Str} (h1 : z.length ≤ sizeLine) (h : Q (.int z.length) H) : rLenS [.str z] H Q := ⟨z, rfl, h1, h⟩
theorem w_inS {c : Nat} {z : Str} (h : Q (.bl (decide (c ∈ z.cps.toList))) H) : rInS (.str ⟨#[c]⟩) (.str z) H Q := ⟨c, z, rfl, rfl, h⟩
theorem w_ixS {z : Str} {i : Int} {c : Nat} (h1 : z.length ≤ sizeLine) (h2 : atI z.cps.toList i = some c) (h : Q (.str ⟨#[c]⟩) H) : rIxS (.str z) (.int i) H Q := ⟨z, i, c, rfl, rfl, h1, h2, h⟩
theorem w_m1 {r : V → List V → Hp → VK → Prop} {to te : TE} (h : to σ H fun x H1 => (∃ a, x = .str a) ∧ te σ H1 fun y H2 => r x [y] H2 Q) : tM1 r to te σ H Q := h
theorem w_isS {z : Str} {A : Prop} (h : A) : (∃ a, V.str z = .str a) ∧ A := ⟨⟨z, rfl⟩, h⟩
theorem w_joinL {a : Str} {p : Addr} {ys : List Str} (h1 : SqL K H p (ys.map V.str)) (h2 : (ys.map (·.length)).sum + ys.length * a.length ≤ 16777216) (h : Q (.str (Txt.join a ys)) H) : rJoin K (.str a) [.ref p] H Q := ⟨a, p, ys, rfl, rfl, .inl h1, h2, h⟩
theorem w_istr {te : TE} {R : It → Hp → Prop} (h : te σ H fun v H1 => rIStr v H1 R) : iStr te σ H R := h
theorem w_istr' {z : Str} {R : It → Hp → Prop} (h : R (Its z) H) : rIStr (.str z) H R := ⟨z, rfl, h⟩
theorem walk_str (x : Str) : Walk (Its x) x.cps.size (fun _ => True) (fun i H v H' => H' = H ∧ ∃ c, x.cps[i]? = some c ∧ v = .str ⟨#[c]⟩) := ⟨fun _ _ hi _ => hi, fun _ _ => Nat.le_refl _, fun _ _ _ _ _ _ y => y⟩
theorem w_glst {a : Addr} {xs : List V} {n : Nat} {t : TGs} {R : L2.St → Hp → Prop} (h1 : SqL K H a xs) (h2 : xs.length = n) (h : t xs σ H R) : gLst K n t (.ref a) σ H R := ⟨a, xs, rfl, h1, h2, h⟩
theorem w_all {p : Addr} {bs : List Bool} (h1 : SqL K H p (bs.map V.bl)) (h : Q (.bl (bs.all id)) H) : rAll K [.ref p] H Q := ⟨p, bs, rfl, h1, h⟩
theorem w_augI {i : Nat} {te : TE} {ti : TIp} {v : V} (e : σ[i]? = some (some v)) (h : te σ H fun x H1 => ti v x H1 fun z H2 => nx (σ.set i (some z)) H2) : tAug i te ti ⟨nx, rt, bk, ct⟩ σ H := ⟨v, e, h⟩
end
section
variable {P : Program} {w : World} {K : PySem.W.Frag} {mg : Str → Option Value} {base : Heap} {x qual : Str} {params : Arguments} {body : List Stmt} {scope : Scope} {dvs : List V} {kws : List (Str × V)} {f : Addr} {fd : FuncData}
/-- a def with defaults that lets nothing out -/
theorem okD {N ps : List Str} {k : Nat} {sp : Sp} (F : FunD K x qual params body scope dvs kws f fd) (S : FnScope N ps scope) (len : ∀ vs H Q E, sp vs H Q E → vs.length = ps.length)
    (hb : ∀ cdv A outer s H vs Q E, Room k (A.deeper (envOfC qual scope s.heap.objs.size f cdv)) → sp vs H Q E → ∃ t, PSs (cxOf CX0 P w K mg base N qual scope f cdv A outer s H E).nox body t ∧ t { nx := fun _ H' => Q .non H', rt := Q } (L2.start N vs) H) : FnOk P w K mg base CX0 (k + 1) f fd ps sp :=
  F.ok S len fun cdv A outer s H vs Q E hr h => by
    obtain ⟨t, p, q⟩ := hb cdv A outer s H vs Q E hr h
    exact ⟨t, p.nox, q⟩
end
/-- a def with defaults -/
structure DfD (K : PySem.W.Frag) (mg : Str → Option Value) (x : Str) (st : Stmt) (ps : List Str) (dvs : List V) (f : Addr) (fd : FuncData) : Prop where
  fn : FunD K x x (defArgs st) (defBody st) (defScope st) dvs [] f fd
  g : mg x = some (.ref f)
  kp : PySem.W.keepIn K (.ref f) = true
  b : ∃ ds, Vals dvs ds ∧ Binds K fd ps ds
/-- a def with several keyword-only defaults -/
structure DfKs (K : PySem.W.Frag) (mg : Str → Option Value) (x : Str) (st : Stmt) (ps : List Str) (kws : List (Str × V)) (dvs : List V) (f : Addr) (fd : FuncData) : Prop where
  fn : FunD K x x (defArgs st) (defBody st) (defScope st) [] kws f fd
  g : mg x = some (.ref f)
  kp : PySem.W.keepIn K (.ref f) = true
  b : ∃ ds, Vals dvs ds ∧ Binds K fd ps ds
theorem join_cps' : ∀ ys : List Str, (Str.join (Str.ofString "") ys).cps.toList = (ys.map fun y => y.cps.toList).flatten
  | [] => rfl
  | [y] => by
    show y.cps.toList = _
    simp
  | y :: z :: r => by
    have ih := join_cps' (z :: r)
    show (y.cps ++ (Str.ofString "").cps ++ (Str.join (Str.ofString "") (z :: r)).cps).toList = _
    rw [Array.toList_append, Array.toList_append, ih, List.map_cons (l := z :: r), List.flatten_cons]
    show y.cps.toList ++ [] ++ _ = _
    rw [List.append_nil]
theorem join_cps (ys : List Str) : (Txt.join (Str.ofString "") ys).cps.toList = (ys.map fun y => y.cps.toList).flatten := by
  have e : Txt.join (Str.ofString "") ys = Str.join (Str.ofString "") ys := StrLaws.glued_eq_join _ _
  rw [e]
  exact join_cps' ys
end FW

set_option Elab.async false
set_option linter.all false
set_option maxRecDepth 100000
set_option maxHeartbeats 4000000
/-! t[::-1] of a tuple -/
namespace HT
open PySem PySem.Spec PyProof.Rows
section
variable {prog : Program} {w : World} {A : Around} {E : Value → Shared → Prop} {s : Shared}
end
end HT
namespace FW
open PySem PySem.Spec PyProof.Rows L2
/-- t[::-1] -/
def rRevT (K : PySem.W.Frag) (x z : V) (H : Hp) (Q : VK) : Prop := ∃ (a : Addr) (xs : List V), x = .ref a ∧ z = .int (-1) ∧ SqT K H a xs ∧ Nw (.tup xs.reverse) H Q
def tRevT (K : PySem.W.Frag) (te ts : TE) : TE := fun σ H Q => te σ H fun x H1 => ts σ H1 fun z H3 => rRevT K x z H3 Q
section
variable {X : Cx}
end
section
variable {K : PySem.W.Frag} {σ : L2.St} {H : Hp} {Q : VK}
theorem w_revT {te ts : TE} (h : te σ H fun x H1 => ts σ H1 fun z H3 => rRevT K x z H3 Q) : tRevT K te ts σ H Q := h
end
end FW

set_option Elab.async false
set_option linter.all false
set_option maxRecDepth 100000
set_option maxHeartbeats 4000000
/-! text * number, tuple * number, texts put together -/
namespace FW
open PySem PySem.Spec PyProof.Rows L2
def rRepS : R2 := fun x y H Q => ∃ (z : Str) (k : Int), x = .str z ∧ y = .int k ∧ z.length ≤ 16 ∧ 0 ≤ k ∧ k ≤ 1000 ∧ Q (.str (Txt.mul z k)) H
def rAddS : R2 := fun x y H Q => ∃ i j : Str, x = .str i ∧ y = .str j ∧ i.length + j.length ≤ sizeLine ∧ Q (.str (i ++ j)) H
section
variable {K : PySem.W.Frag} {H : Hp} {Q : VK}
end
end FW

set_option Elab.async false
set_option linter.all false
set_option maxRecDepth 100000
set_option maxHeartbeats 4000000
/-! dicts whose keys are nested tuples of ints, texts and None -/
namespace FW
open PySem PySem.Spec PyProof.Rows L2
mutual
/-- the thing v is the key k -/
inductive NAt (H : Hp) : NestedKey → V → Prop
  | non : NAt H .none .non
  | int (i : Int) : NAt H (.num i) (.int i)
  | str (x : Str) : NAt H (.text x) (.str x)
  | tup {a : Addr} {ks : List NestedKey} {xs : List V} : H a = some (.tup xs) → NAll H ks xs → NAt H (.tup ks) (.ref a)
  | frz {a : Addr} {o : Obj} {ks : List NestedKey} {xs : List V} : H a = some (.frz o (.tup xs)) → NAll H ks xs → NAt H (.tup ks) (.ref a)
inductive NAll (H : Hp) : List NestedKey → List V → Prop
  | nil : NAll H [] []
  | cons {k : NestedKey} {v : V} {ks : List NestedKey} {vs : List V} : NAt H k v → NAll H ks vs → NAll H (k :: ks) (v :: vs)
end
mutual
theorem NAt.kt {H H' : Hp} (t : KT H H') : ∀ (k : NestedKey) (v : V), NAt H k v → NAt H' k v
  | .none, _, h => by cases h; exact .non
  | .num i, _, h => by cases h; exact .int i
  | .text x, _, h => by cases h; exact .str x
  | .tup ks, _, h => by
    cases h with
    | tup e all => exact .tup (t _ _ e) (NAll.kt t ks _ all)
    | frz e all => exact .frz (t.f _ _ _ e) (NAll.kt t ks _ all)
theorem NAll.kt {H H' : Hp} (t : KT H H') : ∀ (ks : List NestedKey) (vs : List V), NAll H ks vs → NAll H' ks vs
  | [], _, h => by cases h; exact .nil
  | k :: ks, _, h => by
    cases h with
    | cons a b => exact .cons (NAt.kt t k _ a) (NAll.kt t ks _ b)
end
mutual
theorem NAt.inj {H : Hp} : ∀ (k k' : NestedKey) (v : V), NAt H k v → NAt H k' v → k = k'
  | .none, _, _, h, h' => by cases h; cases h'; rfl
  | .num i, _, _, h, h' => by cases h; cases h'; rfl
  | .text x, _, _, h, h' => by cases h; cases h'; rfl
  | .tup ks, _, _, h, h' => by
    cases h with
    | tup e all =>
      cases h' with
      | tup e' all' =>
        rw [e] at e'
        cases e'
        rw [NAll.inj ks _ _ all all']
      | frz e' all' =>
        rw [e] at e'
        cases e'
    | frz e all =>
      cases h' with
      | tup e' all' =>
        rw [e] at e'
        cases e'
      | frz e' all' =>
        rw [e] at e'
        cases e'
        rw [NAll.inj ks _ _ all all']
theorem NAll.inj {H : Hp} : ∀ (ks ks' : List NestedKey) (vs : List V), NAll H ks vs → NAll H ks' vs → ks = ks'
  | [], _, _, h, h' => by cases h; cases h'; rfl
  | k :: ks, _, _, h, h' => by
    cases h with
    | cons a b =>
      cases h' with
      | cons a' b' => rw [NAt.inj k _ _ a a', NAll.inj ks _ _ b b']
end
section
variable {X : Cx} {pins : List (Addr × Obj)} {σ : L2.St} {H : Hp} {s : Shared}
mutual
theorem NAt.is (I : Inv X pins σ H s) : ∀ (k : NestedKey) (v : V) (u : Value), NAt H k v → RelV v u → NestedIs s.heap k u
  | .none, _, _, h, r => by
    cases h
    cases r
    exact .none
  | .num i, _, _, h, r => by
    cases h
    obtain ⟨t, rfl⟩ := r
    exact .int i t
  | .text x, _, _, h, r => by
    cases h
    obtain ⟨t, rfl⟩ := r
    exact .text x t
  | .tup ks, _, _, h, r => by
    cases h with
    | @tup a _ xs e all =>
      cases r
      obtain ⟨_, its, rel, o, h1, h2, n, h3⟩ := (show ObjOk X.prog X.w H s.heap a (.tup xs) from I.hok a _ e)
      exact .tup h1 h2 h3 (NAll.is I ks _ _ all rel)
    | @frz a ob _ xs e all =>
      cases r
      obtain ⟨_, _, its, rel, o, h1, h2, n, h3⟩ := (show ObjOk X.prog X.w H s.heap a (.frz ob (.tup xs)) from I.hok a _ e)
      exact .tup h1 h2 h3 (NAll.is I ks _ _ all rel)
theorem NAll.is (I : Inv X pins σ H s) : ∀ (ks : List NestedKey) (vs : List V) (us : List Value), NAll H ks vs → Vals vs us → NestedAll s.heap ks us
  | [], _, _, h, r => by
    cases h
    cases r
    exact .nil
  | k :: ks, _, _, h, r => by
    cases h with
    | cons a b =>
      cases r with
      | cons ra rb => exact .cons (NAt.is I k _ _ a ra) (NAll.is I ks _ _ b rb)
end
end
abbrev NEnt := NestedKey × Addr × V
def NVal (xs : List NEnt) (k : NestedKey) : Option V := (xs.find? fun x => decide (x.1 = k)).map (·.2.2)
def NPut (xs : List NEnt) (k : NestedKey) (a : Addr) (v : V) : List NEnt := if (NVal xs k).isSome then xs.map (fun x => if x.1 = k then (x.1, x.2.1, v) else x) else xs ++ [(k, a, v)]
abbrev NRel : List NEnt → List (NestedKey × Addr × Value) → Prop := Paired fun p q => p.1 = q.1 ∧ p.2.1 = q.2.1 ∧ RelV p.2.2 q.2.2
theorem NRel.val {xs : List NEnt} {ys : List (NestedKey × Addr × Value)} (r : NRel xs ys) (k : NestedKey) : RelO (NVal xs k) ((atKey ys k).map (·.2)) := by
  induction r with
  | nil => exact True.intro
  | @cons p q ps qs h t ih =>
    obtain ⟨h1, _, h2⟩ := h
    by_cases e : p.1 = k
    · have e' : q.1 = k := h1.symm.trans e
      have b : atKey (q :: qs) k = some q.2 := by simp [atKey, List.find?_cons, e']
      have c : NVal (p :: ps) k = some p.2.2 := by simp [NVal, List.find?_cons, e]
      rw [c, b]
      exact h2
    · have e' : ¬ q.1 = k := fun z => e (h1.trans z)
      have b : atKey (q :: qs) k = atKey qs k := by simp [atKey, List.find?_cons, e']
      have c : NVal (p :: ps) k = NVal ps k := by simp [NVal, List.find?_cons, e]
      rw [c, b]
      exact ih
theorem NRel.put {xs : List NEnt} {ys : List (NestedKey × Addr × Value)} (r : NRel xs ys) (k : NestedKey) (b : Addr) {y : V} {u : Value} (ry : RelV y u) : NRel (NPut xs k b y) (storedH ys k b u) := by
  have e : (NVal xs k).isSome = (atKey ys k).isSome := by rw [(r.val k).isSome_eq, Option.isSome_map]
  unfold NPut storedH
  rw [e]
  by_cases q : (atKey ys k).isSome = true
  · rw [if_pos q, if_pos q]
    clear e q
    induction r with
    | nil => exact .nil
    | @cons p q ps qs h t ih =>
      rw [List.map_cons, List.map_cons]
      refine .cons ?_ ih
      obtain ⟨h1, h2, h3⟩ := h
      unfold putAt
      by_cases e : p.1 = k
      · rw [if_pos e, if_pos (h1.symm.trans e)]
        exact ⟨h1, h2, ry⟩
      · rw [if_neg e, if_neg (fun z => e (h1.trans z))]
        exact ⟨h1, h2, h3⟩
  · rw [if_neg q, if_neg q]
    exact Paired.snoc r ⟨rfl, rfl, ry⟩
/-- the dict at a, keyed by nested tuples -/
def NO (P : Program) (w : World) (a : Addr) (xs : List NEnt) : HO := .ext fun h => xs.length ≤ sizeLine ∧ (a == sysModules) = false ∧ ∃ ys : List (NestedKey × Addr × Value), NRel xs ys ∧
  ∃ o es ep, h.get? a = some o ∧ o.ExactDict ∧ o.data = .dict es ep ∧ es.toList = ys.map (entryOfKey (nestedKind P w)) ∧ (ys.map (·.1)).Nodup
structure NDict (P : Program) (w : World) (H : Hp) (a : Addr) (xs : List NEnt) : Prop where
  at' : H a = some (NO P w a xs)
  keys : ∀ p ∈ xs, NAt H p.1 (.ref p.2.1) ∧ p.1.depth ≤ 8
theorem NDict.kp {P : Program} {w : World} {M : List Addr} {H H' : Hp} {a : Addr} {xs : List NEnt} (d : NDict P w H a xs) (k : Kp M H H') (t : KT H H') (h : a ∉ M) : NDict P w H' a xs :=
  ⟨k _ _ h d.at', fun p hp => ⟨NAt.kt t _ _ (d.keys p hp).1, (d.keys p hp).2⟩⟩
section
variable {X : Cx} {pins : List (Addr × Obj)} {σ : L2.St} {H : Hp} {s : Shared} {a : Addr} {xs : List NEnt}
theorem nd_of (I : Inv X pins σ H s) (d : NDict X.prog X.w H a xs) : xs.length ≤ sizeLine ∧ (a == sysModules) = false ∧ ∃ ys, NRel xs ys ∧ s.heap.DictOfH (nestedKind X.prog X.w) a ys := by
  obtain ⟨⟨z, y, ys, r, o, es, ep, h1, h2, h3, h4, h5⟩, hex, hst⟩ := (show ObjOk X.prog X.w H s.heap a (NO X.prog X.w a xs) from I.hok a _ d.at')
  refine ⟨z, y, ys, r, o, es, ep, h1, h2, h3, h4, ?_, h5⟩
  have hk := d.keys
  clear h4 h5 z d hex hst
  induction r with
  | nil => intro x hx; cases hx
  | @cons p q ps qs h t ih =>
    intro x hx
    rcases List.mem_cons.mp hx with rfl | hx
    · obtain ⟨g1, g2⟩ := hk p (by simp)
      have e1 : p.1 = x.1 := h.1
      have e2 : p.2.1 = x.2.1 := h.2.1
      rw [e1] at g1 g2
      rw [e2] at g1
      exact ⟨NAt.is I _ _ _ g1 rfl, g2⟩
    · exact ih (fun p hp => hk p (by simp [hp])) x hx
theorem nd_type (I : Inv X pins σ H s) (d : NDict X.prog X.w H a xs) : s.TypeIs (.ref a) "dict" ∧ (∀ b, Value.ref a = .ref b → ∃ ob, s.heap.get? b = some ob ∧ ob.dict = none) := by
  obtain ⟨_, _, ys, _, dd⟩ := nd_of I d
  refine ⟨dd.typeIs, fun b q => ?_⟩
  cases q
  obtain ⟨ob, _, _, h1, h2, _⟩ := dd
  exact ⟨ob, h1, h2.2.1⟩
theorem nk_is (I : Inv X pins σ H s) {b : Addr} {k : NestedKey} (h : NAt H k (.ref b)) (h8 : k.depth ≤ 8) : (nestedKind X.prog X.w).is s.heap k b := ⟨NAt.is I _ _ _ h rfl, h8⟩
variable {b : Addr} {k : NestedKey} {A : Around} {E : Value → Shared → Prop} {v : V} {r : Value}
theorem n_in {Q : Value → Shared → Prop} (hu : A.units + 9 < cLine) (I : Inv X pins σ H s) (d : NDict X.prog X.w H a xs) (hk : NAt H k (.ref b)) (h8 : k.depth ≤ 8) (h : ∀ s', Inv X pins σ H s' → Q (.bool (NVal xs k).isSome) s') :
    wpAny (model X.prog X.w) A (compareOp .In (.ref b) (.ref a)) Q E s := by
  obtain ⟨z, hd, ys, rel, dd⟩ := nd_of I d
  refine wpAny_in_heap (knd := nestedKind X.prog X.w) (show A.in1.units + 8 < cLine from by show A.units + 1 + 8 < cLine; omega) (nk_is I hk h8) hd dd ?_
  have q := (rel.val k).isSome_eq
  rw [Option.isSome_map] at q
  rw [← q]
  exact h _ (I.tok _)
theorem n_getItem {Q : Value → Shared → Prop} (hu : A.units + 9 < cLine) (I : Inv X pins σ H s) (d : NDict X.prog X.w H a xs) (hk : NAt H k (.ref b)) (h8 : k.depth ≤ 8) (l : NVal xs k = some v) (h : ∀ w' s', Inv X pins σ H s' → RelV v w' → Q w' s') :
    wpAny (model X.prog X.w) A (getItem (.ref a) (.ref b)) Q E s := by
  obtain ⟨z, hd, ys, rel, dd⟩ := nd_of I d
  obtain ⟨w', hw, rw'⟩ := RelO.some_of (v := v) (o := (atKey ys k).map (·.2)) (by rw [← l]; exact rel.val k)
  obtain ⟨p, hp, hp2⟩ := Option.map_eq_some_iff.mp hw
  refine wpAny_getItem_heap (knd := nestedKind X.prog X.w) (show A.in1.units + 8 < cLine from by show A.units + 1 + 8 < cLine; omega) (nk_is I hk h8) dd hp ?_
  rw [hp2]
  exact h w' _ (I.tok _) rw'
theorem n_setItem {Q : Unit → Shared → Prop} (hu : A.units + 9 < cLine) (I : Inv X pins σ H s) (d : NDict X.prog X.w H a xs) (hk : NAt H k (.ref b)) (h8 : k.depth ≤ 8) (hl : xs.length < sizeLine) (rv : RelV v r) (h : ∀ s', Inv X pins σ (upd H a (NO X.prog X.w a (NPut xs k b v))) s' → Q () s') :
    wpAny (model X.prog X.w) A (setItem (.ref a) (.ref b) r) Q E s := by
  obtain ⟨z, hd, ys, rel, dd⟩ := nd_of I d
  have hz : ys.length ≤ sizeLine := by rw [← Paired.length rel]; exact z
  have hl' : (NPut xs k b v).length ≤ sizeLine := by
    unfold NPut
    split
    · rw [List.length_map]; exact z
    · rw [List.length_append]; exact hl
  refine wpAny_setItem_heap (knd := nestedKind X.prog X.w) (hsz := hz) (show A.in1.units + 8 < cLine from by show A.units + 1 + 8 < cLine; omega) (nk_is I hk h8) dd fun h' dd' hs => h _ ?_
  obtain ⟨q, es, ep, hq, h2, h3, h4, _, h5⟩ := dd'
  refine d_write I (by rw [d.at']; exact True.intro) hs ⟨q, hq⟩ ⟨⟨hl', hd, _, rel.put k b rv, q, es, ep, hq, h2, h3, h4, h5⟩, ⟨q, hq⟩, ?_⟩
  rintro h1 h2' ⟨g1, g2, ys', g3, o, es, ep, g4, g5⟩ keep
  exact ⟨g1, g2, ys', g3, o, es, ep, keep _ g4, g5⟩
end
/-! ### the rules -/
def rNIn (P : Program) (w : World) (x y : V) (H : Hp) (Q : VK) : Prop := ∃ a b xs k, x = .ref a ∧ y = .ref b ∧ NDict P w H a xs ∧ NAt H k (.ref b) ∧ k.depth ≤ 8 ∧ Q (.bl (NVal xs k).isSome) H
def rNGet (P : Program) (w : World) (x y : V) (H : Hp) (Q : VK) : Prop := ∃ a b xs k v, x = .ref a ∧ y = .ref b ∧ NDict P w H a xs ∧ NAt H k (.ref b) ∧ k.depth ≤ 8 ∧ NVal xs k = some v ∧ Q v H
def rNIs (P : Program) (w : World) (x : V) (H : Hp) (R : Addr → Hp → Prop) : Prop := ∃ a xs, x = .ref a ∧ NDict P w H a xs ∧ R a H
def rNGet1 (P : Program) (w : World) (a : Addr) (y : V) (H : Hp) (Q : VK) : Prop := ∃ b xs k, y = .ref b ∧ NDict P w H a xs ∧ NAt H k (.ref b) ∧ k.depth ≤ 8 ∧ Q ((NVal xs k).getD .non) H
def rNPut (P : Program) (w : World) (x y v : V) (H : Hp) (R : Hp → Prop) : Prop := ∃ a b xs k, x = .ref a ∧ y = .ref b ∧ NDict P w H a xs ∧ NAt H k (.ref b) ∧ k.depth ≤ 8 ∧ xs.length < sizeLine ∧ R (upd H a (NO P w a (NPut xs k b v)))
def tNIn (P : Program) (w : World) (ty td : TE) : TE := fun σ H Q => ty σ H fun y H1 => td σ H1 fun x H2 => rNIn P w x y H2 Q
def tNGet (P : Program) (w : World) (td ty : TE) : TE := fun σ H Q => td σ H fun x H1 => ty σ H1 fun y H2 => rNGet P w x y H2 Q
def tNGet1 (P : Program) (w : World) (td ty : TE) : TE := fun σ H Q => td σ H fun x H1 => rNIs P w x H1 fun a H1 => ty σ H1 fun y H2 => rNGet1 P w a y H2 Q
def sNPut (P : Program) (w : World) (td ty tv : TE) : TS := fun D σ H => tv σ H fun v H1 => td σ H1 fun x H2 => ty σ H2 fun y H3 => rNPut P w x y v H3 fun H4 => D.nx σ H4
def tNNew (P : Program) (w : World) : TE := fun _ H Q => ∀ p, H p = none → Q (.ref p) (upd H p (NO P w p []))
section
variable {X : Cx} {o i e value : Expr} {pos pos' tpos apos cpos : Pos} {td ty tv : TE}
theorem pc_nin (hu : X.A.units + 64 < cLine) (hi : PE X i ty) (ho : PE X o td) : PC X .In i o (tNIn X.prog X.w ty td) := by
  refine ⟨fun pins s σ H Q I h => ?_⟩
  refine thn (hi.run pins s σ H _ I h) fun iv s1 ⟨y, H1, I1, ry, q1⟩ => thn (ho.run pins s1 σ H1 _ I1 q1) fun u s2 ⟨x, H2, I2, rx, a, b, xs, k, ex, ey, d, hk, h8, q2⟩ => ?_
  subst ex ey
  obtain rfl : u = Value.ref a := rx
  obtain rfl : iv = Value.ref b := ry
  exact n_in (by omega) I2 d hk h8 fun s3 I3 => ⟨.bl _, H2, I3, rfl, q2⟩
theorem pe_nget (hu : X.A.units + 64 < cLine) (ho : PE X o td) (hi : PE X i ty) (hs : NoSl i) : PE X (.Subscript o i pos) (tNGet X.prog X.w td ty) := by
  refine ⟨fun pins s σ H Q I h => ?_⟩
  refine subD_of PySem.F.slot_dict_getitem.lookup hs (thn (ho.run pins s σ H _ I h) fun u s1 ⟨x, H1, I1, rx, q1⟩ => thn (hi.run pins s1 σ H1 _ I1 q1) fun iv s2 ⟨y, H2, I2, ry, a, b, xs, k, v, ex, ey, d, hk, h8, l, q2⟩ => ?_)
  subst ex ey
  obtain rfl : u = Value.ref a := rx
  obtain rfl : iv = Value.ref b := ry
  exact ⟨(nd_type I2 d).1, n_getItem (by omega) I2 d hk h8 l fun w' s3 I3 rw' => ⟨v, H2, I3, rw', q2⟩⟩
theorem ps_nput (hu : X.A.units + 64 < cLine) (ho : PE X o td) (hi : PE X i ty) (hv : PE X value tv) (hs : swapsWith value (some (.Subscript o i pos')) pos.line X.env = pure false) :
    PS X (.Assign [.Subscript o i pos'] value pos) (sNPut X.prog X.w td ty tv) := by
  refine ⟨fun pins s σ H D I h => ?_⟩
  refine wpAny_Assign_Subscript (thn (hv.run pins s σ H _ I h) fun r s1 ⟨v, H1, I1, rv, q1⟩ => thn (ho.run pins s1 σ H1 _ I1 q1) fun u s2 ⟨x, H2, I2, rx, q2⟩ => thn (hi.run pins s2 σ H2 _ I2 q2) fun iv s3 ⟨y, H3, I3, ry, a, b, xs, k, ex, ey, d, hk, h8, hl, q3⟩ => ?_) hs
  subst ex ey
  obtain rfl : u = Value.ref a := rx
  obtain rfl : iv = Value.ref b := ry
  exact n_setItem (by omega) I3 d hk h8 hl rv fun s4 I4 => ⟨σ, _, I4, q3⟩
theorem pe_nnew : PE X (.Dict [] [] pos) (tNNew X.prog X.w) := ⟨fun pins s σ H Q I h =>
  wpAny_Dict_empty ⟨.ref s.heap.objs.size, _, I.laid (a := s.heap.objs.size) (o := NO X.prog X.w s.heap.objs.size []) (t' := s.toks) (fun _ _ q => Heap.get?_push_of_some _ q) (Nat.le_refl _)
    ⟨⟨Nat.zero_le _, beq_eq_false_iff_ne.mpr (Ne.symm (Nat.ne_of_lt I.big)), [], .nil, _, #[], 0, Heap.get?_push_size _ rfl, ⟨rfl, rfl, rfl⟩, rfl, rfl, List.nodup_nil⟩, ⟨_, Heap.get?_push_size _ rfl⟩, by
      rintro h1 h2' ⟨g1, g2, ys', g3, o, es, ep, g4, g5⟩ keep
      exact ⟨g1, g2, ys', g3, o, es, ep, keep _ g4, g5⟩⟩, rfl, h _ (I.hok.fresh (Nat.le_refl _))⟩⟩
end
section
variable {P : Program} {w : World} {K : PySem.W.Frag} {σ : L2.St} {H : Hp} {Q : VK} {nx bk ct : L2.St → Hp → Prop} {rt : VK} {v : V}
theorem w_nin {ty td : TE} (h : ty σ H fun y H1 => td σ H1 fun x H2 => rNIn P w x y H2 Q) : tNIn P w ty td σ H Q := h
theorem w_nget {td ty : TE} (h : td σ H fun x H1 => ty σ H1 fun y H2 => rNGet P w x y H2 Q) : tNGet P w td ty σ H Q := h
theorem w_nget1 {td ty : TE} (h : td σ H fun x H1 => rNIs P w x H1 fun a H1 => ty σ H1 fun y H2 => rNGet1 P w a y H2 Q) : tNGet1 P w td ty σ H Q := h
theorem w_nput {td ty tv : TE} (h : tv σ H fun v H1 => td σ H1 fun x H2 => ty σ H2 fun y H3 => rNPut P w x y v H3 fun H4 => nx σ H4) : sNPut P w td ty tv ⟨nx, rt, bk, ct⟩ σ H := h
theorem w_seqNP {td ty tv : TE} {u : TS} (h : tv σ H fun v H1 => td σ H1 fun x H2 => ty σ H2 fun y H3 => rNPut P w x y v H3 fun H4 => u ⟨nx, rt, bk, ct⟩ σ H4) : tSeq (sNPut P w td ty tv) u ⟨nx, rt, bk, ct⟩ σ H := h
theorem w_nin' {a b : Addr} {xs : List NEnt} {k : NestedKey} (d : NDict P w H a xs) (hk : NAt H k (.ref b)) (h8 : k.depth ≤ 8) (h : Q (.bl (NVal xs k).isSome) H) : rNIn P w (.ref a) (.ref b) H Q := ⟨a, b, xs, k, rfl, rfl, d, hk, h8, h⟩
theorem w_nget' {a b : Addr} {xs : List NEnt} {k : NestedKey} (d : NDict P w H a xs) (hk : NAt H k (.ref b)) (h8 : k.depth ≤ 8) (l : NVal xs k = some v) (h : Q v H) : rNGet P w (.ref a) (.ref b) H Q := ⟨a, b, xs, k, v, rfl, rfl, d, hk, h8, l, h⟩
theorem w_nput' {a b : Addr} {xs : List NEnt} {k : NestedKey} {R : Hp → Prop} (d : NDict P w H a xs) (hk : NAt H k (.ref b)) (h8 : k.depth ≤ 8) (hl : xs.length < sizeLine) (h : ∀ H1, NDict P w H1 a (NPut xs k b v) → Off a H H1 → R H1) : rNPut P w (.ref a) (.ref b) v H R := by
  refine ⟨a, b, xs, k, rfl, rfl, d, hk, h8, hl, h _ ⟨upd_same, fun p hp => ?_⟩ fun x hx => upd_ne hx⟩
  have t : KT H (upd H a (NO P w a (NPut xs k b v))) := ⟨fun c ys ec => upd_get (ne_of ec d.at' (fun z => nomatch z)) ec, fun c _ ys ec => upd_get (ne_of ec d.at' (fun z => nomatch z)) ec⟩
  have hp' : (NAt H p.1 (.ref p.2.1) ∧ p.1.depth ≤ 8) := by
    unfold NPut at hp
    split at hp
    · obtain ⟨q, hq, rfl⟩ := List.mem_map.mp hp
      have := d.keys q hq
      split <;> exact this
    · rcases List.mem_append.mp hp with hp | hp
      · exact d.keys p hp
      · have e : p = (k, b, v) := by simpa using hp
        subst e
        exact ⟨hk, h8⟩
  exact ⟨NAt.kt t _ _ hp'.1, hp'.2⟩
theorem w_nnew (h : ∀ p H1, H p = none → NDict P w H1 p [] → Same H H1 → Q (.ref p) H1) : tNNew P w σ H Q := fun p hp => h p _ hp ⟨upd_same, fun q hq => by cases hq⟩ (Same.new hp)
end
end FW

set_option Elab.async false
set_option linter.all false
set_option maxRecDepth 100000
set_option maxHeartbeats 4000000
/-! sets of ints out of lists, sorted at any length -/
namespace FW
open PySem PySem.Spec PyProof.Rows L2
/-- an empty set, as set.__new__ lays it -/
abbrev es0 (w : World) : Obj := { cls := .type "set", dict := none, data := .set #[] 0 (.fresh 0 0 (!w.params.followText "set-order")) }
section
variable {P : Program} {w : World} {A : Around} {E : Value → Shared → Prop} {s : Shared}
theorem set_of_list {l : Addr} {xs : Array Value} (ns : List Int) {Q : Value → Shared → Prop} (calm : A.handled = none) (isL : s.heap.IsList l xs) (are : IntsAre xs.toList ns) (few : ns.length + 1 < scanBound)
    (fin : ∀ (g : Heap) (tk c : Nat), SetR w g s.heap.objs.size (fun j => decide (j ∈ ns)) c → c ≤ ns.length → (∀ b o, s.heap.get? b = some o → g.get? b = some o) → Q (.ref s.heap.objs.size) { s with heap := g, toks := tk }) :
    wpAny (model P w) A (call (.type "set") [.ref l]) Q E s := by
  have size : xs.size = ns.length := by rw [← Array.length_toList]; exact IntsAre.length are
  obtain ⟨c0, tl, c1⟩ := F.called_set.mro
  have c2 := F.called_set.made
  have c3 := F.called_set.sub
  have c4 := F.called_set.notType
  have c5 := F.called_set.canCreate
  have c6 := F.typeCall_set_1 (.ref l)
  refine wpAny_call (codeAny_of_tree ?_)
  show wpAny (model P w) _ (callAny (.type "set") ⟨[.ref l], []⟩) _ _ s
  refine wpAny_pure ⟨Code.quiet_builtin _ (by decide +kernel), ?_⟩
  refine codeAny_builtin F.entry_type_call ?_
  rw [Around.under_plain (weight_type_call_type "set" [.ref l] []) rfl]
  repeat (any_goals (first | assumption | wp_step))
  refine codeAny_mono (code_set_led1 (w := w) (.ref l) (E := E) (Q₁ := fun y t => y = .ref s.heap.objs.size ∧ t = { s with heap := s.heap.push (es0 w) }) ⟨rfl, rfl⟩) fun r t hr => ?_
  match r, hr with
  | .error e, hr => exact hr
  | .ok (.ret y), hr =>
    obtain ⟨ey, et⟩ := hr
    subst ey et
    have at0 : (s.heap.push (es0 w)).get? s.heap.objs.size = some (es0 w) := Heap.get?_push_size _ rfl
    have ty0 : Shared.TypeIs { s with heap := s.heap.push (es0 w) } (.ref s.heap.objs.size) "set" := ⟨_, at0, rfl⟩
    have d1 := F.called_set.init.lookup
    have d2 := F.called_set.init.bind (.ref s.heap.objs.size)
    repeat (any_goals (first | assumption | wp_step))
    refine codeAny_mono (codeAny_call_builtin (R := wants (fun y t => y = .none ∧ ∃ g tk c, t = { s with heap := g, toks := tk } ∧ SetR w g s.heap.objs.size (fun j => decide (j ∈ ns)) c ∧ c ≤ ns.length ∧ (∀ b o, s.heap.get? b = some o → g.get? b = some o)) E) F.called_set.init.plain F.entry_set_init (check_set_init_1 ty0 ?_)) fun r2 t2 hr2 => ?_
    · obtain ⟨⟨kl, dc, dt, sl⟩, hol, hcl, nl, hdl⟩ := isL
      simp only at hcl hdl
      subst hcl
      subst hdl
      have at1 : (s.heap.push (es0 w)).get? l = some { cls := .type "list", dict := dc, data := .seq xs nl, slots := sl } := Heap.get?_push_of_some _ hol
      have n1 := F.sub_list_set
      have n2 := F.sub_list_frozenset
      have n3 : (Value.type "list" == Value.type "dict") = false := by decide
      have isL1 : (s.heap.push (es0 w)).IsList l xs := ⟨_, at1, rfl, nl, rfl⟩
      unfold Builtin.«set.__init__» noKeywords Builtin.Frozenset.updateFrom
      generalize gi : pyIter = it
      wp_walk
      subst gi
      refine wpAny_pyIter_list isL1 ?_
      refine wpAny_bind (wpAny_runValue ?_)
      have ll : l < s.heap.objs.size := Heap.lt_size hol
      have calm3 : A.in1.in1.in1.handled = none := by simp [calm]
      have sz1 : (s.heap.push (es0 w)).objs.size = s.heap.objs.size + 1 := Heap.size_push ..
      have ne1 : l ≠ (s.heap.push (es0 w)).objs.size := by rw [sz1]; exact Nat.ne_of_lt (Nat.lt_succ_of_lt ll)
      have ne2 : s.heap.objs.size ∉ [(s.heap.push (es0 w)).objs.size, l] := by
        rw [sz1]
        simp only [List.mem_cons, List.not_mem_nil, or_false, not_or]
        exact ⟨Nat.ne_of_lt (Nat.lt_succ_self _), Nat.ne_of_gt ll⟩
      have vals : ∀ (i : Nat) (v : Value), xs[i]? = some v → ∃ k t, ns[i]? = some k ∧ v = .int k t := fun i v hv => by
        have hi : i < ns.length := by rw [← size]; exact (Array.getElem?_eq_some_iff.mp hv).1
        obtain ⟨t, e⟩ := PyProof.Rows.IntsAre.int_at are i v (by rw [Array.getElem?_toList]; exact hv)
        exact ⟨ns[i], t, List.getElem?_eq_getElem hi, by rw [e, List.getD_eq_getElem?_getD, List.getElem?_eq_getElem hi]; rfl⟩
      refine set_update_ints (Walks.list calm3 _ l ne1 xs).toS s.heap.objs.size ne2 ns size few vals xs.size 0 _ (Nat.sub_zero _) (Nat.zero_le _) ⟨⟨_, Heap.get?_push_size _ rfl, rfl, rfl⟩, isL1.push _⟩ ⟨0, Nat.le_refl 0, setR_new_at (Heap.get?_push_of_some _ at0)⟩ ?_
      intro t c mv hc hS
      obtain ⟨g, g2, g3, tk, g5⟩ := t
      have q1 : g2 = s.gens := mv.gens
      have q2 : g3 = s.drawn := mv.drawn
      have q3 : g5 = s.os := mv.os
      subst q1 q2 q3
      show wpAny _ _ _ _ _ _
      refine wpAny_pure ?_
      show wpAny _ _ (ret Value.none) _ _ _
      rw [size] at hc
      refine wpAny_pure ⟨rfl, g, tk, c, rfl, hS, hc, fun b o e => ?_⟩
      have lb : b < s.heap.objs.size := Heap.lt_size e
      exact mv.heap b o (by rw [sz1]; simp only [List.mem_cons, List.not_mem_nil, or_false, not_or]; exact ⟨Nat.ne_of_lt lb, Nat.ne_of_lt (Nat.lt_succ_of_lt lb)⟩) (Heap.get?_push_of_some _ (Heap.get?_push_of_some _ e))
    · match r2, hr2 with
      | .error e, hr2 => exact hr2
      | .ok (.ret y), hr2 =>
        obtain ⟨ey, g, tk, c, et, hS, hc, keep⟩ := hr2
        subst ey et
        repeat (any_goals (first | assumption | wp_step))
        exact fin _ _ _ hS hc keep
      | .ok .next, hr2 => exact hr2.elim
      | .ok .brk, hr2 => exact hr2.elim
      | .ok .cont, hr2 => exact hr2.elim
  | .ok .next, hr => exact hr.elim
  | .ok .brk, hr => exact hr.elim
  | .ok .cont, hr => exact hr.elim
end
def rSetL (K : PySem.W.Frag) (w : World) (vs : List V) (H : Hp) (Q : VK) : Prop := ∃ (l : Addr) (ns : List Int), vs = [.ref l] ∧ SqL K H l (ns.map V.int) ∧ ns.length ≤ 4000 ∧ ∀ (p : Addr) (c : Nat), H p = none → c ≤ ns.length → Q (.ref p) (upd H p (SetO w p (fun j => decide (j ∈ ns)) c))
def rSortS (w : World) (vs : List V) (H : Hp) (Q : VK) : Prop := ∃ (a : Addr) (S : Int → Bool) (n : Nat), vs = [V.ref a] ∧ H a = some (SetO w a S n) ∧ n ≤ 4000 ∧ ∀ (ns : List Int) (p : Addr), ns.Pairwise (· < ·) → (∀ k : Int, k ∈ ns ↔ S k = true) → H p = none → Q (.ref p) (upd H p (.lst (ns.map V.int)))
section
variable {X : Cx}
theorem c_setL (calm : X.calm = true) : CallR X (.type "set") (rSetL X.K X.w) := by
  intro pins s σ H vs us Q I r h
  obtain ⟨l, ns, rfl, hl, hn, q⟩ := h
  rw [Vals.ref1 r]
  obtain ⟨its, rv, pl, hz⟩ := I.list hl
  refine set_of_list ns (I.ok.hd calm) pl.isList (by simpa using RZ.intsAre_vals rv) (by unfold scanBound; omega) fun g tk c R hc keep => ?_
  have free : H s.heap.objs.size = none := I.hok.fresh (Nat.le_refl _)
  exact ⟨.ref s.heap.objs.size, _, I.laid (t' := tk) keep (Nat.le_refl _) (setO_new R), rfl, q _ c free hc⟩
theorem c_sortS (calm : X.calm = true) : CallR X (.builtin "sorted") (rSortS X.w) := by
  intro pins s σ H vs us Q I r h
  obtain ⟨a, S, n, rfl, ha, hn4, q⟩ := h
  rw [Vals.ref1 r]
  obtain ⟨o, es, ep, t, ho, hex, hd, good, nd, hm, hb, hf, hn, ris, led⟩ := setO_get I ha
  refine Calls.call_function_entry kind_sorted plain_sorted entry_sorted (args_sorted1 _) ?_
  unfold Builtin.«sorted»; refine wpAny_bind (m := checkCount "sorted" 1 1 _) (wpAny_pure ?_)
  refine wpAny_bind (collect_set (A := X.A.in1) (I.ok.hd calm) ⟨o, ho, hex.1, hd⟩ hf hb ris led fun s1 xs k1 z1 g1 o1 pm => ?_)
  have xl : xs.length = n := by rw [pm.length_eq, List.length_map, Array.length_toList]; exact hn
  have xI : IntsAre xs (xs.map Builtin.Re.reRawOf) := L2.ints_of xs fun v hv => by
    obtain ⟨e, he, rfl⟩ := List.mem_map.mp (pm.mem_iff.mp hv)
    obtain ⟨k, tk, h1, _⟩ := good e he
    exact ⟨k, tk, h1⟩
  have pk : (xs.map Builtin.Re.reRawOf).Perm (es.toList.map keyOf) := by
    have q := pm.map Builtin.Re.reRawOf
    rwa [List.map_map] at q
  have hz : xs.length ≤ sizeLine := by rw [xl, sizeLine_eq]; omega
  refine wpAny_bind (wpAny_newList ?_ hz)
  have atL : (s1.heap.push (seqObj "list" xs.toArray 0)).get? s1.heap.objs.size = some (seqObj "list" xs.toArray 0) := Heap.get?_push_size _ rfl
  refine wpAny_bind (wpAny_holding (wpAny_call_entry slot_list_sort ⟨_, atL, rfl⟩ entry_list_sort (SrtO.list_sort_ord (s := { s1 with heap := s1.heap.push (seqObj "list" xs.toArray 0) }) SrtO.swo_int atL hz (fun h2 => SrtO.ints_sortable xI h2) fun out h1 h2 => ⟨_, rfl, ?_⟩) (args_list_sort _)))
  obtain ⟨i1, i2, i3⟩ := SrtO.ints_out xI h1 h2
  obtain ⟨e', he'⟩ := sortedHeap_at (vs := xs) (out := out.toArray) atL
  have pn : (out.map SrtO.iv).Perm (es.toList.map keyOf) := i2.trans pk
  have hlen : ((out.map SrtO.iv).map V.int).length ≤ sizeLine := by rw [List.length_map, i2.length_eq, List.length_map]; exact hz
  have free : H s1.heap.objs.size = none := I.hok.fresh z1
  have keep : ∀ b u, s.heap.get? b = some u → (sortedHeap (s1.heap.push (seqObj "list" xs.toArray 0)) s1.heap.objs.size xs out.toArray).get? b = some u := fun b u e => by
    have e1 := k1 b u e
    have lb : b < s1.heap.objs.size := Heap.lt_size e1
    rw [sortedHeap_old (Nat.ne_of_lt lb) (by rw [size_push']; exact Nat.lt_succ_of_lt lb)]
    exact Heap.get?_push_of_some _ e1
  have J : Inv X pins σ (upd H s1.heap.objs.size (.lst ((out.map SrtO.iv).map V.int))) { s with heap := sortedHeap (s1.heap.push (seqObj "list" xs.toArray 0)) s1.heap.objs.size xs out.toArray, gens := s1.gens, drawn := s1.drawn, toks := s1.toks } := I.call (ch := []) (Un.laid keep z1 free) (I.hok.laid (o := .lst ((out.map SrtO.iv).map V.int)) keep z1 ⟨hlen, out, e', vals_of_ints i1, he'⟩) (by rw [g1]; exact I.bare) (fun _ z => nomatch z)
  refine wpAny_pure ⟨_, rfl, .ref s1.heap.objs.size, upd H s1.heap.objs.size (.lst ((out.map SrtO.iv).map V.int)), ?_, rfl, q _ _ (lt_of_le_nodup _ i3 (pn.nodup_iff.mpr nd)) (fun k => by rw [pn.mem_iff, ← hm k]) free⟩
  cases s1
  cases s
  cases o1
  exact J
end
section
variable {K : PySem.W.Frag} {w : World} {H : Hp} {Q : VK}
theorem w_setOf {l : Addr} {ns : List Int} (h1 : SqL K H l (ns.map V.int)) (h2 : ns.length ≤ 4000) (h : ∀ p c H1, H p = none → c ≤ ns.length → H1 p = some (SetO w p (fun j => decide (j ∈ ns)) c) → Same H H1 → Q (.ref p) H1) : rSetL K w [.ref l] H Q :=
  ⟨l, ns, rfl, h1, h2, fun p c hp hc => h p c _ hp hc upd_same (Same.new hp)⟩
theorem w_sortS {a : Addr} {S : Int → Bool} {n : Nat} (h1 : H a = some (SetO w a S n)) (h2 : n ≤ 4000) (h : ∀ (ns : List Int) p H1, ns.Pairwise (· < ·) → (∀ k : Int, k ∈ ns ↔ S k = true) → H p = none → H1 p = some (.lst (ns.map V.int)) → Same H H1 → Q (.ref p) H1) : rSortS w [.ref a] H Q :=
  ⟨a, S, n, rfl, h1, h2, fun ns p hs hm hp => h ns p _ hs hm hp upd_same (Same.new hp)⟩
end
end FW

set_option Elab.async false
set_option linter.all false
set_option maxRecDepth 100000
set_option maxHeartbeats 4000000
/-! objects of own classes; max with a default; data in lists -/
namespace FW
open PySem PySem.Spec PyProof.Rows L2
/-! ### max(list, default=d) -/
def rMaxD (K : PySem.W.Frag) (vs zs : List V) (H : Hp) (Q : VK) : Prop := ∃ (a : Addr) (ns : List Int) (d : Int), vs = [.ref a] ∧ zs = [.int d] ∧ SqL K H a (ns.map V.int) ∧ (ns = [] → Q (.int d) H) ∧ ∀ m, m ∈ ns → (∀ y ∈ ns, y ≤ m) → Q (.int m) H
theorem maxOf_ge (ys : List Int) : ∀ y : Int, ∀ z ∈ y :: ys, z ≤ PySem.W.maxOf y ys := by
  induction ys with
  | nil => intro y z hz; have : z = y := by simpa using hz
           subst this; exact Int.le_refl _
  | cons x ys ih =>
    intro y z hz
    show z ≤ PySem.W.maxOf (if PySem.W.DatumOrd.lt y x = true then x else y) ys
    have e : PySem.W.DatumOrd.lt y x = decide (y < x) := rfl
    rw [e]
    by_cases h : y < x
    · rw [if_pos (decide_eq_true h)]
      have h1 := ih x
      rcases List.mem_cons.mp hz with rfl | hz
      · have := h1 x (by simp)
        omega
      · exact h1 z hz
    · rw [if_neg (fun q => h (of_decide_eq_true q))]
      have h1 := ih y
      rcases List.mem_cons.mp hz with rfl | hz
      · exact h1 z (by simp)
      · rcases List.mem_cons.mp hz with rfl | hz
        · have := h1 y (by simp)
          omega
        · exact h1 z (by simp [hz])
section
variable {X : Cx} {pins : List (Addr × Obj)} {σ : L2.St} {H : Hp} {s : Shared}
theorem hold_ints (h : Heap) : ∀ (ns : List Int) (its : List Value), Vals (ns.map V.int) its → PySem.W.HoldAll h its ns
  | [], _, r => by cases r; exact PySem.W.HoldAll.nil
  | n :: ns, _, r => by
    cases r with
    | cons r1 rr =>
      obtain ⟨t, rfl⟩ := r1
      exact PySem.W.HoldAll.cons ⟨_, Reads.int n t⟩ (hold_ints h ns _ rr)
theorem int_at {ns : List Int} {its : List Value} (r : Vals (ns.map V.int) its) {i : Nat} {v : Value} (h : its[i]? = some v) : ∃ k t, ns[i]? = some k ∧ v = .int k t := by
  induction ns generalizing its i with
  | nil =>
    cases r
    simp at h
  | cons n ns ih =>
    cases r with
    | cons r1 rr =>
      obtain ⟨t, rfl⟩ := r1
      cases i with
      | zero => exact ⟨n, t, rfl, by simpa using h.symm⟩
      | succ i => exact ih rr (by simpa using h)
theorem c_maxD (calm : X.calm = true) (hu : X.A.units + 64 < cLine) : CallRK X (.builtin "max") ["default"] (rMaxD X.K) := by
  intro pins s σ H vs zs us ws Q I r rz ⟨a, ns, d, e1, e2, hs, q0, q1⟩
  subst e1 e2
  obtain ⟨its, rv, hl, _⟩ := I.list hs
  rw [Vals.ref1 r]
  cases rz with
  | cons r1 rr =>
    cases rr
    obtain ⟨t, rfl⟩ := r1
    have hdp : PySem.W.Datum.depth Int ≤ 50 := by decide
    refine PySem.W.max_list_datum_default (d := .int d t) (xs := ns) (I.ok.hd calm) hl.isList (by simpa using hold_ints s.heap ns its rv) (by omega) (fun e h' tk hk => ?_) fun y ys i v h' tk e hi hv hk => ?_
    · exact ⟨.int d, H, I.kept (t' := tk) hk, ⟨_, rfl⟩, q0 e⟩
    · obtain ⟨k, t', hk', rfl⟩ := int_at rv (by simpa using hi)
      have ek : k = PySem.W.maxOf y ys := by
        obtain ⟨as, ra⟩ := hv
        cases ra
        rfl
      refine ⟨.int k, H, I.kept (t' := tk) hk, ⟨_, rfl⟩, q1 k (List.mem_of_getElem? hk') fun z hz => ?_⟩
      rw [ek]
      exact maxOf_ge ys y z (by rw [← e]; exact hz)
end
/-! ### fields, methods, makings -/
/-- a class as the top has left it, with the names of its fields -/
structure Kl (K : PySem.W.Frag) (mg : Str → Option Value) (x : Str) (C : Addr) (as : List Str) : Prop where
  g : mg x = some (.ref C)
  cl : Cls K C
  na : ∀ f ∈ as, NoAttr K C f
/-- a method -/
structure DfM (K : PySem.W.Frag) (C : Addr) (m qual : Str) (st : Stmt) (ps : List Str) (f : Addr) (fd : FuncData) : Prop where
  fn : Fun K m qual st f fd
  b : Binds K fd ps []
  m : Meth K C m f
def rFld (K : PySem.W.Frag) (f : Str) (x : V) (H : Hp) (Q : VK) : Prop := ∃ a C dx fs v, x = .ref a ∧ H a = some (.ins C dx fs) ∧ Cls K C ∧ NoAttr K C f ∧ fs.lookup f = some v ∧ Q v H
def rFldS (K : PySem.W.Frag) (f : Str) (x y : V) (H : Hp) (R : Hp → Prop) : Prop := ∃ a C dx fs, x = .ref a ∧ H a = some (.ins C dx fs) ∧ Cls K C ∧ NoAttr K C f ∧ fs.length < 1000 ∧ R (upd H a (.ins C dx (putF f y fs)))
def rMeth (C : Addr) (m : Str) (x : V) (H : Hp) (A : Prop) : Prop := ∃ a dx fs, x = .ref a ∧ H a = some (.ins C dx fs) ∧ fs.lookup m = none ∧ A
def rMake (C : Addr) (sp : Sp) (vs : List V) (H : Hp) (Q : VK) (E : XK) : Prop := ∀ x dx, H x = none → H dx = none → dx ≠ x → sp (.ref x :: vs) (upd (upd H dx (.own x)) x (.ins C dx [])) (fun v H2 => v = .non ∧ Q (.ref x) H2) E
section
variable {K : PySem.W.Frag} {σ : L2.St} {H : Hp} {Q : VK} {nx bk ct : L2.St → Hp → Prop} {rt : VK} {v : V}
theorem w_fld {ta : TE} {f : Str} (h : ta σ H fun x H1 => rFld K f x H1 Q) : tFld K ta f σ H Q := h
theorem w_fld' {f : Str} {a C dx : Addr} {fs : List (Str × V)} (h1 : H a = some (.ins C dx fs)) (h2 : Cls K C) (h3 : NoAttr K C f) (h4 : fs.lookup f = some v) (h : Q v H) : rFld K f (.ref a) H Q := ⟨a, C, dx, fs, v, rfl, h1, h2, h3, h4, h⟩
theorem w_fldS {ta tv : TE} {f : Str} (h : tv σ H fun y H1 => ta σ H1 fun x H2 => rFldS K f x y H2 fun H3 => nx σ H3) : sFld K ta tv f ⟨nx, rt, bk, ct⟩ σ H := h
theorem w_seqFS {ta tv : TE} {f : Str} {u : TS} (h : tv σ H fun y H1 => ta σ H1 fun x H2 => rFldS K f x y H2 fun H3 => u ⟨nx, rt, bk, ct⟩ σ H3) : tSeq (sFld K ta tv f) u ⟨nx, rt, bk, ct⟩ σ H := h
theorem w_fldS' {f : Str} {a C dx : Addr} {fs : List (Str × V)} {R : Hp → Prop} (h1 : H a = some (.ins C dx fs)) (h2 : Cls K C) (h3 : NoAttr K C f) (h4 : fs.length < 1000) (h : ∀ H1, H1 a = some (.ins C dx (putF f v fs)) → Off a H H1 → R H1) : rFldS K f (.ref a) v H R :=
  ⟨a, C, dx, fs, rfl, h1, h2, h3, h4, h _ upd_same fun x hx => upd_ne hx⟩
theorem w_meth {C : Addr} {m : Str} {sp : Sp} {E : XK} {ta : TE} {t : TA} (h : ta σ H fun x H1 => rMeth C m x H1 (t σ H1 fun vs H2 => sp (x :: (vs ++ [])) H2 Q E)) : tMeth C m sp [] E ta t σ H Q := by
  unfold tMeth
  exact h
theorem w_meth' {C a dx : Addr} {m : Str} {fs : List (Str × V)} {A : Prop} (h1 : H a = some (.ins C dx fs)) (h2 : fs.lookup m = none) (h : A) : rMeth C m (.ref a) H A := ⟨a, dx, fs, rfl, h1, h2, h⟩
theorem w_make {C : Addr} {sp : Sp} {E : XK} {t : TA} (h : t σ H fun vs H1 => rMake C sp (vs ++ []) H1 Q E) : tMake C sp [] E t σ H Q := h
theorem w_make' {C : Addr} {sp : Sp} {vs : List V} {E : XK} (h : ∀ x dx H1, H x = none → H dx = none → dx ≠ x → H1 x = some (.ins C dx []) → Same H H1 → sp (.ref x :: vs) H1 (fun v H2 => v = .non ∧ Q (.ref x) H2) E) : rMake C sp vs H Q E := fun x dx hx hd hne =>
  h x dx _ hx hd hne upd_same fun b o e => by
    rw [upd_ne (ne_of_none e hx), upd_ne (ne_of_none e hd)]
    exact e
theorem w_maxD {r : List V → List V → Hp → VK → Prop} {t tk : TA} (h : t σ H fun vs H1 => tk σ H1 fun zs H2 => r vs zs H2 Q) : tCKw r t tk σ H Q := h
theorem w_maxD' {a : Addr} {ns : List Int} {d : Int} (h1 : SqL K H a (ns.map V.int)) (h0 : ns = [] → Q (.int d) H) (h : ∀ m, m ∈ ns → (∀ y ∈ ns, y ≤ m) → Q (.int m) H) : rMaxD K [.ref a] [.int d] H Q := ⟨a, ns, d, rfl, rfl, h1, h0, h⟩
end
theorem pe_fldK {X : Cx} {K : PySem.W.Frag} {e : Expr} {f : Str} {pos : Pos} {ta : TE} (hk : X.K = K) (he : PE X e ta) (hb : attributeBase e f X.env (eval e X.env) = eval e X.env) : PE X (.Attribute e f pos) (tFld K ta f) := by
  subst hk
  exact pe_fld he hb
end FW

set_option Elab.async false
set_option linter.all false
set_option maxRecDepth 100000
set_option maxHeartbeats 4000000
/-! l[::-1] of a list; set of a tuple of ints; two promises of one def -/
namespace FW
open PySem PySem.Spec PyProof.Rows L2
def rRevL (K : PySem.W.Frag) (x z : V) (H : Hp) (Q : VK) : Prop := ∃ (a : Addr) (xs : List V), x = .ref a ∧ z = .int (-1) ∧ SqL K H a xs ∧ Nw (.lst xs.reverse) H Q
def tRevL (K : PySem.W.Frag) (te ts : TE) : TE := fun σ H Q => te σ H fun x H1 => ts σ H1 fun z H3 => rRevL K x z H3 Q
section
variable {X : Cx}
end
def rSetT (K : PySem.W.Frag) (w : World) (vs : List V) (H : Hp) (Q : VK) : Prop := ∃ (l : Addr) (ns : List Int), vs = [.ref l] ∧ SqT K H l (ns.map V.int) ∧ ns.length ≤ 4000 ∧ ∀ (p : Addr) (c : Nat), H p = none → c ≤ ns.length → Q (.ref p) (upd H p (SetO w p (fun j => decide (j ∈ ns)) c))
section
variable {K : PySem.W.Frag} {w : World} {σ : L2.St} {H : Hp} {Q : VK}
theorem w_revL {te ts : TE} (h : te σ H fun x H1 => ts σ H1 fun z H3 => rRevL K x z H3 Q) : tRevL K te ts σ H Q := h
end
theorem FnOk.or {P : Program} {w : World} {K : PySem.W.Frag} {mg : Str → Option Value} {base : Heap} {CX : CXT} {k : Nat} {f : Addr} {fd : FuncData} {ps : List Str} {sp sp' : Sp} (F : FnOk P w K mg base CX k f fd ps sp) (G : FnOk P w K mg base CX k f fd ps sp') : FnOk P w K mg base CX k f fd ps (fun vs H Q E => sp vs H Q E ∨ sp' vs H Q E) :=
  ⟨fun vs H Q E q => q.elim (F.len vs H Q E) (G.len vs H Q E), fun A outer s H args us vs Q E hr he hb hv hs => hs.elim (F.run A outer s H args us vs Q E hr he hb hv) (G.run A outer s H args us vs Q E hr he hb hv)⟩
end FW

set_option Elab.async false
set_option linter.all false
set_option maxRecDepth 100000
set_option maxHeartbeats 4000000
/-! d.items() of a dict of texts and ints, and sorted of it -/
namespace FW
open PySem PySem.Spec PyProof.Rows L2
def rItemsK : V → List V → Hp → VK → Prop := fun x xs H Q => ∃ (a : Addr) (kvs : List (Key × V)), x = .ref a ∧ xs = [] ∧ H a = some (.dK kvs) ∧ ∀ p, H p = none → Q (.ref p) (upd H p (L2.DX.itemsO p a))
theorem mt_itemsK {X : Cx} : MtR X "dict.items" rItemsK := by
  intro pins s σ H x xs v us Q I rx rxs h
  obtain ⟨a, kvs, rfl, rfl, ha, q⟩ := h
  cases rx
  cases rxs
  obtain ⟨z, lo, vs, rel, dd⟩ := dk_of I.hok ha
  refine call_meetsIn PySem.F.slot_dict_items dd.typeIs PySem.F.entry_dict_items (PySem.F.args_dict_items_1 _) (meets_dict_items (mixKind X.prog X.w) a lo) ⟨⟨vs, dd⟩, ?_⟩
  have hf : H s.heap.objs.size = none := I.hok.fresh (Nat.le_refl _)
  exact ⟨.ref s.heap.objs.size, upd H s.heap.objs.size (L2.DX.itemsO s.heap.objs.size a), I.laid (t' := s.toks) (fun b u e => Heap.get?_push_of_some _ e) (Nat.le_refl _) (L2.DX.itemsO_ok (Heap.get?_push_size _ rfl)), rfl, q _ hf⟩
/-! ### the order of pairs of a text and an int -/
abbrev TI := Addr × Str × Int
def encTI (b : TI) : PyData := .tuple [.str b.2.1, .int b.2.2]
abbrev txLt (x y : Str) : Prop := x.cps.toList < y.cps.toList
theorem eqv_strs (x y : Str) : PyData.eqv (.str x) (.str y) = true ↔ x = y := by
  simp [PyData.eqv]
theorem le_TI (a b : TI) : PySem.W.dataLe false encTI a b = !(decide (txLt b.2.1 a.2.1) || (decide (a.2.1 = b.2.1) && decide (b.2.2 < a.2.2))) := by
  show (!PySem.W.dataLt (encTI b) (encTI a)) = _
  unfold encTI
  rw [PySem.W.dataLt_pair (by simp [PySem.W.alike]) (by simp [PySem.W.alike]), PySem.W.dataLt_str, PySem.W.dataLt_int]
  by_cases h : b.2.1 = a.2.1
  · rw [if_pos ((eqv_strs _ _).mpr h)]
    have h1 : ¬ txLt b.2.1 a.2.1 := by rw [h]; exact List.lt_irrefl _
    have h2 : a.2.1 = b.2.1 := h.symm
    rw [decide_eq_false h1, decide_eq_true h2]
    simp only [PyData.eqv, beq_iff_eq, Bool.false_or, Bool.true_and]
    by_cases e : b.2.2 = a.2.2
    · rw [if_pos e, decide_eq_false (by omega)]
    · rw [if_neg e]
  · rw [if_neg (fun z => h ((eqv_strs _ _).mp z))]
    have h2 : ¬ a.2.1 = b.2.1 := fun e => h e.symm
    rw [decide_eq_false h2, Bool.false_and, Bool.or_false]
theorem tx_tri {x y : Str} (h : ¬ txLt x y) : txLt y x ∨ x = y := by
  by_cases h2 : txLt y x
  · exact .inl h2
  · exact .inr (PySem.W.str_of_cps (List.le_antisymm (List.not_lt.mp h2) (List.not_lt.mp h)))
theorem le_TI_iff (a b : TI) : PySem.W.dataLe false encTI a b = true ↔ (txLt a.2.1 b.2.1 ∨ (a.2.1 = b.2.1 ∧ a.2.2 ≤ b.2.2)) := by
  rw [le_TI]
  simp only [Bool.not_eq_true', Bool.or_eq_false_iff, decide_eq_false_iff_not, Bool.and_eq_false_iff]
  constructor
  · rintro ⟨h1, h2⟩
    rcases tx_tri h1 with h | h
    · exact .inl h
    · right
      refine ⟨h.symm, ?_⟩
      rcases h2 with h2 | h2
      · exact absurd h.symm h2
      · omega
  · rintro (h | ⟨h1, h2⟩)
    · refine ⟨List.lt_asymm h, .inl fun e => ?_⟩
      rw [e] at h
      exact List.lt_irrefl _ h
    · refine ⟨?_, .inr (by omega)⟩
      rw [h1]
      exact List.lt_irrefl _
theorem totTI : PySem.W.TotalLe (PySem.W.dataLe false encTI) where
  trans a b c h1 h2 := by
    rw [le_TI_iff] at *
    rcases h1 with h1 | ⟨h1, g1⟩
    · rcases h2 with h2 | ⟨h2, g2⟩
      · exact .inl (List.lt_trans h1 h2)
      · exact .inl (h2 ▸ h1)
    · rcases h2 with h2 | ⟨h2, g2⟩
      · exact .inl (h1 ▸ h2)
      · exact .inr ⟨h1.trans h2, by omega⟩
  total a b := by
    rw [le_TI_iff, le_TI_iff]
    by_cases h : txLt a.2.1 b.2.1
    · exact .inl (.inl h)
    · rcases tx_tri h with h | h
      · exact .inr (.inl h)
      · by_cases g : a.2.2 ≤ b.2.2
        · exact .inl (.inr ⟨h, g⟩)
        · exact .inr (.inr ⟨h.symm, by omega⟩)
theorem sorted_TI {bs : List TI} (nd : (bs.map (·.2.1)).Nodup) : (bs.mergeSort (PySem.W.dataLe false encTI)).Pairwise (fun x y => txLt x.2.1 y.2.1) := by
  have h := PySem.W.sort_pairwise totTI bs
  have hp := List.mergeSort_perm bs (PySem.W.dataLe false encTI)
  have nd2 : ((bs.mergeSort (PySem.W.dataLe false encTI)).map (·.2.1)).Nodup := ((hp.map (·.2.1)).nodup_iff).mpr nd
  unfold List.Nodup at nd2
  rw [List.pairwise_map] at nd2
  refine (h.and nd2).imp fun {x y} ⟨h1, h2⟩ => ?_
  rcases (le_TI_iff _ _).mp h1 with h | ⟨h, _⟩
  · exact h
  · exact absurd h h2
/-! ### the tuples laid -/
def kvTI (qs : List (Str × Int)) : List (Key × V) := qs.map fun q => ((Sum.inr q.1 : Key), V.int q.2)
theorem tups_laid {X : Cx} {pins : List (Addr × Obj)} {σ : L2.St} {H : Hp} {s : Shared} {h' : Heap} {tk : Nat} {kvs : List (Key × V)} {vs : List (Key × Value)} {as : List Addr} (I : Inv X pins σ H s) (kv : KV kvs vs)
    (hk : ∀ b o, s.heap.get? b = some o → h'.get? b = some o) (hl : as.length = vs.length) (hG : PySem.W.KdxG (mixKind X.prog X.w) vs s.heap.objs.size h' as) :
    (∀ t ∈ as, H t = none) ∧ (∀ b o, H b = some o → LiI.putT H as kvs b = some o) ∧ Paired (fun (t : Addr) (q : Key × V) => LiI.putT H as kvs t = some (.tup [kV q.1, q.2])) as kvs ∧ Inv X pins σ (LiI.putT H as kvs) { s with heap := h', toks := tk } := by
  have lk : kvs.length = vs.length := Paired.length kv
  have nd : as.Nodup := List.Pairwise.imp (fun {a b} (h : a < b) => Nat.ne_of_lt h) hG.rise
  have new : ∀ t ∈ as, H t = none := fun t ht => I.hok.fresh (Nat.le_of_lt (hG.above t ht))
  have atP := LiI.putT_at as kvs H (by omega) nd
  have off : ∀ b, b ∉ as → LiI.putT H as kvs b = H b := fun b h1 => LiI.putT_off as kvs _ h1
  have kp : ∀ b u, H b = some u → (LiI.putT H as kvs) b = some u := fun b u e => by
    rw [off b (fun z => by rw [new b z] at e; cases e)]
    exact e
  refine ⟨new, kp, atP, ?_⟩
  refine I.call' (ch := []) rfl ⟨fun b o q _ _ _ => hk b o q, fun b o q _ _ _ => ⟨o.slots, hk b o q⟩, fun b o q n _ => ?_, fun b o q _ => ⟨o, hk b o q⟩, fun b xs q => kp b _ q, fun b o u q => kp b _ q, fun b ps q => ⟨#[], by rw [kp b _ q]; simp⟩⟩ (fun b u q => ?_) I.bare fun b z => by simp at z
  · rw [off b fun z => absurd (Heap.lt_size q) (Nat.not_lt.mpr (Nat.le_of_lt (hG.above b z)))]
    exact n
  · by_cases hb : b ∈ as
    · obtain ⟨j, pk, e1, e2, e3⟩ := LiI.paired_ix atP hb
      rw [e3] at q
      cases q
      obtain ⟨key, k, x, f1, f2, f3⟩ := hG.pairs j b e1
      obtain ⟨qv, g1, g2, g3⟩ := LiI.paired_get kv e2
      rw [f1] at g1
      cases g1
      have rk : RelV (kV pk.1) key := by
        rw [g2]
        exact relV_key (show keyIs k key = true from f2)
      exact ⟨by show 2 ≤ sizeLine; decide, [key, x], .cons rk (.cons g3 .nil), ⟨_, f3, rfl, _, rfl⟩⟩
    · rw [off b hb] at q
      exact (I.hok b u q).stay (fun d v _ y => hk d v y) (fun d y => kp d _ y) fun d xs y => kp d _ y
def rSortI (vs : List V) (H : Hp) (Q : VK) : Prop := ∃ (a d : Addr) (qs : List (Str × Int)), vs = [.ref a] ∧ H a = some (L2.DX.itemsO a d) ∧ H d = some (.dK (kvTI qs)) ∧ (qs.map (·.1)).Nodup ∧
  ∀ (H' : Hp) (p : Addr) (ts : List TI), (∀ b o, H b = some o → H' b = some o) → H p = none → H' p = some (.lst (ts.map fun t => .ref t.1)) → (∀ t ∈ ts, H' t.1 = some (.tup [.str t.2.1, .int t.2.2])) → (ts.map (·.2)).Perm qs → ts.Pairwise (fun x y => txLt x.2.1 y.2.1) → Q (.ref p) H'
theorem each_refs {out : List Value} {bs : List TI} (h : PySem.W.EachIs (fun v (b : TI) => v = Value.ref b.1) out bs) : out = bs.map fun b => Value.ref b.1 := by
  induction h with
  | nil => rfl
  | cons h1 _ ih => rw [h1, ih]; rfl
theorem zip_map2 {as : List Addr} {qs : List (Str × Int)} (h : as.length = qs.length) : (as.zip qs).map (·.2) = qs := List.map_snd_zip (by omega)
theorem c_sortI {X : Cx} (hcalm : X.calm = true) (hu : X.A.units + 64 < cLine) : CallR X (.builtin "sorted") rSortI := by
  intro pins s σ H xs us Q I r ⟨a, d, qs, ex, hv, hd, nd, q⟩
  subst ex
  obtain ⟨u, eu, rx⟩ := vals1 r
  subst eu
  cases rx
  obtain ⟨z, lo, vs, rel, dd⟩ := dk_of I.hok hd
  obtain ⟨ep, hat⟩ := dd.dictAt
  obtain ⟨hview, _, _⟩ : ObjOk X.prog X.w H s.heap a (L2.DX.itemsO a d) := I.hok a _ hv
  have lk : (kvTI qs).length = vs.length := Paired.length rel
  have lq : (kvTI qs).length = qs.length := List.length_map ..
  refine Calls.call_function_entry kind_sorted plain_sorted entry_sorted (args_sorted1 _) ?_
  unfold Builtin.«sorted»
  refine wpAny_bind (m := checkCount "sorted" 1 1 _) (wpAny_pure ?_)
  refine wpAny_bind (PySem.W.kdx_collect (A := X.A.in1) (knd := mixKind X.prog X.w) (kvs := vs) (ep := ep) (I.ok.hd hcalm) hview hat (by omega) fun h' tk as hk hl hG => ?_)
  obtain ⟨new, kp, atP, I1⟩ := tups_laid (tk := tk) I rel hk hl hG
  have hz : (as.map Value.ref).length ≤ sizeLine := by rw [List.length_map]; omega
  refine wpAny_bind (wpAny_newList ?_ hz)
  have hoL : (h'.push (seqObj "list" (as.map Value.ref).toArray 0)).get? h'.objs.size = some (seqObj "list" (as.map Value.ref).toArray 0) := Heap.get?_push_size _ rfl
  have hlz : as.length = qs.length := by omega
  have e0 : (as.zip qs).map (fun b : TI => Value.ref b.1) = as.map Value.ref := by
    rw [← List.map_fst_zip (l₁ := as) (l₂ := qs) (by omega), List.map_map]
    rw [List.map_fst_zip (by omega)]
    rfl
  have eR : PySem.W.EachIs (fun v (b : TI) => v = Value.ref b.1) (as.map Value.ref) (as.zip qs) := by
    rw [← e0]
    generalize (as.zip qs : List TI) = l
    induction l with
    | nil => exact .nil
    | cons b l ih => exact .cons rfl ih
  have rd : ∀ b ∈ (as.zip qs : List TI), ∃ ws, Reads (h'.push (seqObj "list" (as.map Value.ref).toArray 0)) (.ref b.1) (encTI b) ws ∧ h'.objs.size ∉ ws := by
    intro b hb
    obtain ⟨j, hj⟩ := List.mem_iff_getElem?.mp hb
    obtain ⟨j1, j2⟩ := List.getElem?_zip_eq_some.mp hj
    obtain ⟨key, k, x, f1, f2, f3⟩ := hG.pairs j b.1 j1
    obtain ⟨qv, g1, g2, g3⟩ := LiI.paired_get rel (i := j) (x := ((Sum.inr b.2.1 : Key), V.int b.2.2)) (by unfold kvTI; rw [List.getElem?_map, j2]; rfl)
    rw [f1] at g1
    cases g1
    obtain ⟨t2, rfl⟩ := g3
    rcases keyIs_shape (show keyIs k key = true from f2) with ⟨i, t, ek, ev⟩ | ⟨y, t, ek, ev⟩
    · rw [ek] at g2
      cases g2
    · rw [ek] at g2
      cases g2
      rw [ev] at f3
      exact ⟨_, .tuple (Heap.get?_push_of_some _ f3) rfl rfl (.cons (.str _ _) (.cons (.int _ _) .nil)), by simp⟩
  have er : PySem.W.EachIs (fun v (b : TI) => ∃ ws, Reads (h'.push (seqObj "list" (as.map Value.ref).toArray 0)) v (encTI b) ws ∧ h'.objs.size ∉ ws) (as.map Value.ref) (as.zip qs) :=
    (PySem.W.each_mem eR).mono fun v b ⟨h1, h2⟩ => by
      rw [h1]
      exact rd b h2
  have hal : PySem.W.AllAlike ((as.zip qs : List TI).map encTI) := PySem.W.AllAlike.of fun b b' => by simp [encTI, PySem.W.alike, PySem.W.alikeAll]
  have hso : PySem.W.Sortable ((as.zip qs : List TI).map encTI) := PySem.W.Sortable.tuples fun b => ⟨_, _, rfl⟩
  have lz : (as.zip qs : List TI).length = qs.length := by rw [List.length_zip]; omega
  show wpAny _ _ _ _ _ { s with heap := h'.push (seqObj "list" (as.map Value.ref).toArray 0), toks := tk }
  refine wpAny_bind (wpAny_holding (PySem.W.list_sort_data (s := { s with heap := h'.push (seqObj "list" (as.map Value.ref).toArray 0), toks := tk }) (R := fun v (b : TI) => v = Value.ref b.1) (enc := encTI) (bs := as.zip qs) hoL eR er hal hso (by rw [lz]; omega) (fun b _ => ?_) fun out ho eo => ?_))
  · have : (encTI b).depth ≤ 8 := by
      show PyData.depthAll [.str b.2.1, .int b.2.2] + 1 ≤ 8
      simp only [PyData.depthAll, PyData.depth]
      decide
    show X.A.in1.units + 1 + (encTI b).depth < cLine
    have e : X.A.in1.units = X.A.units + 1 := rfl
    omega
  · have eo' := each_refs eo
    subst eo'
    generalize hts : (as.zip qs : List TI).mergeSort (PySem.W.dataLe false encTI) = ts
    have hp : ts.Perm (as.zip qs) := by rw [← hts]; exact List.mergeSort_perm _ _
    have hsrt : ts.Pairwise (fun x y => txLt x.2.1 y.2.1) := by
      rw [← hts]
      refine sorted_TI ?_
      have : (as.zip qs : List TI).map (·.2.1) = qs.map (·.1) := by
        have e : (as.zip qs : List TI).map (·.2.1) = ((as.zip qs : List TI).map (·.2)).map (·.1) := by rw [List.map_map]; rfl
        rw [e, zip_map2 hlz]
      rw [this]
      exact nd
    obtain ⟨e', he'⟩ := sortedHeap_at (vs := as.map Value.ref) (out := (ts.map fun b => Value.ref b.1).toArray) hoL
    have lts : ts.length = qs.length := by rw [hp.length_eq, lz]
    have hf1 : LiI.putT H as (kvTI qs) h'.objs.size = none := I1.hok.fresh (Nat.le_refl _)
    have hf0 : H h'.objs.size = none := by
      cases e : H h'.objs.size with
      | none => rfl
      | some o => rw [kp _ _ e] at hf1; cases hf1
    have vts : Vals ((ts.map fun t => V.ref t.1) : List V) (ts.map fun b => Value.ref b.1) := by
      generalize ts = l
      induction l with
      | nil => exact .nil
      | cons b l ih => exact .cons rfl ih
    have hlen : ((ts.map fun t => V.ref t.1) : List V).length ≤ sizeLine := by rw [List.length_map]; omega
    refine wpAny_pure ⟨_, rfl, .ref h'.objs.size, upd (LiI.putT H as (kvTI qs)) h'.objs.size (.lst (ts.map fun t => V.ref t.1)), I1.laid (t' := tk) (fun b u e => ?_) (Nat.le_refl _) (show ObjOk X.prog X.w _ _ _ (.lst (ts.map fun t => V.ref t.1)) from ⟨hlen, _, e', vts, he'⟩), rfl, q _ _ ts (fun b o e => ?_) hf0 upd_same (fun t ht => ?_) ?_ hsrt⟩
    · have hb : b < h'.objs.size := Heap.lt_size e
      rw [sortedHeap_old (Nat.ne_of_lt hb) (by rw [size_push']; exact Nat.lt_succ_of_lt hb)]
      exact Heap.get?_push_of_some _ e
    · rw [upd_ne (fun z => by rw [z, hf0] at e; cases e)]
      exact kp b o e
    · have hm := hp.mem_iff.mp ht
      obtain ⟨j, hj⟩ := List.mem_iff_getElem?.mp hm
      obtain ⟨j1, j2⟩ := List.getElem?_zip_eq_some.mp hj
      obtain ⟨y, y1, y2⟩ := LiI.paired_get atP j1
      unfold kvTI at y1
      rw [List.getElem?_map, j2] at y1
      have y3 := Option.some.inj y1
      subst y3
      rw [upd_ne (fun z => by rw [z, hf1] at y2; cases y2)]
      exact y2
    · have := hp.map (·.2)
      rwa [zip_map2 hlz] at this
theorem w_sortI {H : Hp} {Q : VK} {a d : Addr} {qs : List (Str × Int)} (hv : H a = some (L2.DX.itemsO a d)) (hd : H d = some (.dK (kvTI qs))) (nd : (qs.map (·.1)).Nodup)
    (h : ∀ (H' : Hp) (p : Addr) (ts : List TI), Same H H' → H p = none → H' p = some (.lst (ts.map fun t => .ref t.1)) → (∀ t ∈ ts, H' t.1 = some (.tup [.str t.2.1, .int t.2.2])) → (ts.map (·.2)).Perm qs → ts.Pairwise (fun x y => txLt x.2.1 y.2.1) → Q (.ref p) H') : rSortI [.ref a] H Q := ⟨a, d, qs, rfl, hv, hd, nd, h⟩
theorem w_itemsK {H : Hp} {Q : VK} {a : Addr} {kvs : List (Key × V)} (ha : H a = some (.dK kvs)) (h : ∀ p H1, H p = none → H1 p = some (L2.DX.itemsO p a) → Same H H1 → Q (.ref p) H1) : rItemsK (.ref a) [] H Q := ⟨a, kvs, rfl, rfl, ha, fun p hp => h p _ hp upd_same (Same.new hp)⟩
end FW

set_option Elab.async false
set_option linter.all false
set_option maxRecDepth 100000
set_option maxHeartbeats 4000000
/-! a def of an own class called through the class: C.m(x, ..) -/
namespace FW
open PySem PySem.Spec PyProof.Rows L2
/-- a class's reading, with the names of fields, whatever its name -/
structure Kf (K : PySem.W.Frag) (C : Addr) (as : List Str) : Prop where
  cl : Cls K C
  na : ∀ f ∈ as, NoAttr K C f
def tClsF (C : Addr) (sp : Sp) (dvs : List V) (E : XK) (ta : TE) (t : TA) : TE := fun σ H Q => ta σ H fun x H1 => x = .ref C ∧ t σ H1 fun vs H2 => sp (vs ++ dvs) H2 Q E
theorem pe_clsF {X : Cx} {CX : CXT} {k : Nat} {C f : Addr} {fd : FuncData} {ps : List Str} {mc : Value} {sp : Sp} {E : XK} {o e : Expr} {es : List Expr} {m : Str} {pos apos : Pos} {ta : TE} {t : TA} {pl : Sem Bool} {ds : List Value} {dvs : List V}
    (he : PE X o ta) (r : ClX.CRead X.K C mc) (c : ClX.CVal X.K C mc m (.ref f) (.ref f)) (hk : PySem.W.keepIn X.K (.ref f) = true) (F : FnOk X.prog X.w X.K X.mg X.base CX k f fd ps sp) (hr : Room k X.A) (hb : Binds X.K fd ps ds) (hd : Vals dvs ds) (hx : Passes CX X E) (ha : PA X (e :: es) t)
    (hst : starEach (e :: es) X.env = (false, eval e X.env) :: starEach es X.env := by rfl) (hpl : (backTo pos (starEach es X.env)).any (·.1) = false := by rfl)
    (ht : eval (.Call (.Attribute o m apos) (e :: es) [] pos) X.env = (do
      let ov ← eval o X.env
      standAt apos.atName
      let (f, first) ← holding [ov] (getMethod ov m pl)
      callWith pos f first (backTo pos (starEach (e :: es) X.env)) (backToKw pos (keywordEach [] X.env))) := by rfl) :
    PE X (.Call (.Attribute o m apos) (e :: es) [] pos) (tClsF C sp dvs E ta t) := by
  refine ⟨fun pins s σ H Q I h => ?_⟩
  refine PySem.W.methodCall_KW (pl := pl) (thn (he.run pins s σ H _ I h) fun u s1 ⟨x, H1, I1, rx, ex, q⟩ => ?_) ht
  subst ex
  obtain rfl : u = Value.ref C := rx
  refine PySem.W.method_cls I1.kIn r.ga (ClX.getcval_ok I1 r c fun s2 I2 => ?_)
  refine PySem.W.callWith_K (h₀ := X.base) I2.ok.mod.kin hk (thn (ha.run pos pins s2 σ H1 _ I2 q) fun us s3 ⟨vs, H2, I3, rv, q2⟩ => ⟨I3.kIn, ?_⟩) hst hpl
  exact run_fn F hr hb hd hx I3 rv q2
theorem w_clsF {σ : L2.St} {H : Hp} {Q : VK} {C : Addr} {sp : Sp} {E : XK} {t : TA} (h : t σ H fun vs H2 => sp (vs ++ []) H2 Q E) : tClsF C sp [] E (tC (.ref C)) t σ H Q := ⟨rfl, h⟩
end FW

set_option Elab.async false
set_option linter.all false
set_option maxRecDepth 100000
set_option maxHeartbeats 4000000
/-! len and str by an own class's defs; != of one object with itself -/
namespace FW
open PySem PySem.Spec PyProof.Rows L2
section
variable {X : Cx} {CX : CXT} {k : Nat} {f C : Addr} {fd : FuncData} {ps : List Str} {sp : Sp} {E : XK}
/-- the callee runs, called by a builtin -/
theorem run_fnB {A : Around} {pins : List (Addr × Obj)} {σ : L2.St} {H : Hp} {s : Shared} {Q : VK} {us : List Value} {vs : List V} (F : FnOk X.prog X.w X.K X.mg X.base CX k f fd ps sp) (hr : Room k A) (he : Env0 X.prog X.w X.K X.mg X.base A X.stack s H) (hb : Binds X.K fd ps []) (hx : Passes CX X E)
    (I : Inv X pins σ H s) (r : Vals vs us) (h : sp vs H Q E) : wpAny (model X.prog X.w) A (call (.ref f) us) (EP X pins σ Q) X.xe s := by
  have len2 : (us ++ []).length = ps.length := by
    rw [List.append_nil, ← r.length]
    exact F.len _ _ _ _ h
  have bd := hb s us I.kIn len2
  rw [List.append_nil] at bd
  refine wpAny_call (codeAny_mono (F.run A X.stack s H ⟨us, []⟩ us vs Q E hr he bd r h) fun o t ho => ?_)
  match o, ho with
  | .error e, ho => exact hx pins σ H s e t I ho
  | .ok (.ret u), ho => exact I.after ho
  | .ok .next, ho => exact False.elim ho
  | .ok .brk, ho => exact False.elim ho
  | .ok .cont, ho => exact False.elim ho
def rLenO (C : Addr) (sp : Sp) (E : XK) (xs : List V) (H : Hp) (Q : VK) : Prop := ∃ a dx fs, xs = [.ref a] ∧ H a = some (.ins C dx fs) ∧ sp [.ref a] H (fun v H2 => ∃ n : Nat, v = .int (n : Int) ∧ n ≤ 1000000 ∧ Q (.int (n : Int)) H2) E
theorem c_lenO (hm : Meth X.K C "__len__" f) (F : FnOk X.prog X.w X.K X.mg X.base CX k f fd ps sp) (hr : Room (k + 1) X.A) (hb : Binds X.K fd ps []) (hx : Passes CX X E) : CallR X (.builtin "len") (rLenO C sp E) := by
  intro pins s σ H vs us Q I r h
  obtain ⟨a, dx, fs, rfl, ha, q⟩ := h
  have r0 := r
  rw [Vals.ref1 r] at r0 ⊢
  obtain ⟨mA, O, _, _, _, _⟩ := ins_get I.hok ha
  obtain ⟨od, J, _⟩ := O.look
  obtain ⟨m, fr⟩ := I.fr
  refine PySem.W.len_K fr I.ok.mod.kin J hm.at_ hm.fn (thn (run_fnB F hr.in1 I.env0.in1 hb hx I r0 q) fun v t ⟨x, H2, I2, rx, n, ex, hn, q2⟩ => ?_)
  subst ex
  obtain ⟨tk, rfl⟩ := (show ∃ tk, v = Value.int (n : Int) tk from rx)
  exact ⟨⟨by omega, by omega⟩, .int n, H2, I2.tok _, ⟨_, rfl⟩, q2⟩
def rStrO (C : Addr) (sp : Sp) (E : XK) (xs : List V) (H : Hp) (Q : VK) : Prop := ∃ a dx fs, xs = [.ref a] ∧ H a = some (.ins C dx fs) ∧ sp [.ref a] H (fun v H2 => ∃ z : Str, v = .str z ∧ Q (.str z) H2) E
end
def rStrI (xs : List V) (H : Hp) (Q : VK) : Prop := ∃ i, xs = [V.int i] ∧ i.natAbs.log2 < 1920 ∧ Q (.str (toString i)) H
theorem w_lenO {H : Hp} {Q : VK} {C : Addr} {sp : Sp} {E : XK} {a dx : Addr} {fs : List (Str × V)} (ha : H a = some (.ins C dx fs)) (h : sp [.ref a] H (fun v H2 => ∃ n : Nat, v = .int (n : Int) ∧ n ≤ 1000000 ∧ Q (.int (n : Int)) H2) E) : rLenO C sp E [.ref a] H Q := ⟨a, dx, fs, rfl, ha, h⟩
/-! ### one object compared with itself -/
section
variable {M : Model} {prog : Program} {w : World} {A : Around} {E : Value → Shared → Prop} {s : Shared} {K : PySem.W.Frag} {x C : Addr} {ox : Obj} {od : Option Obj}
end
/-- an own class that compares by identity -/
structure EqI (K : PySem.W.Frag) (C : Addr) : Prop where
  mr : PySem.W.mroIn K C (.type "object") = some true
  eq : PySem.W.findIn K (.ref C) "__eq__" = some (some (.builtin "object.__eq__"))
  ne : PySem.W.findIn K (.ref C) "__ne__" = some (some (.builtin "object.__ne__"))
def rNeS (K : PySem.W.Frag) : R2 := fun x y H Q => ∃ a C dx fs, x = .ref a ∧ y = .ref a ∧ H a = some (.ins C dx fs) ∧ EqI K C ∧ Q (.bl false) H
end FW

set_option Elab.async false
set_option linter.all false
set_option maxRecDepth 100000
set_option maxHeartbeats 4000000
/-! f(x, k = v) in a try; for k, v in e.items() of a dict that a call made -/
namespace FW
open PySem PySem.Spec PyProof.Rows L2
section
variable {X : Cx} {CX : CXT} {k n : Nat} {f : Addr} {fd : FuncData} {ps ks : List Str} {sp : Sp} {E : L2.St → XK} {x : Str} {p pos : Pos} {e : Expr} {es : List Expr} {kws : List Keyword} {t tk : TA} {g : List Value → List Value → List Value} {gV : List V → List V → List V}
def tCallNS (n m : Nat) (sp : Sp) (gV : List V → List V → List V) (E : L2.St → XK) (t tk : TA) : TE := fun σ H Q => t σ H fun vs H1 => tk σ H1 fun zs H2 => vs.length = n ∧ zs.length = m ∧ sp (gV vs zs) H2 Q (E σ)
/-! ### a dict that is read from here on -/
def tFrz (td : TE) : TE := fun σ H Q => td σ H fun x H1 => ∃ d kvs, x = .ref d ∧ H1 d = some (.dK kvs) ∧ ∀ o H2, H2 d = some (.frz o (.dK kvs)) → Off d H1 H2 → Q x H2
def rItems (x : V) (H1 : Hp) (R : It → Hp → Prop) : Prop := ∃ d o kvs, x = .ref d ∧ H1 d = some (.frz o (.dK kvs)) ∧ R (Iti d o kvs) H1
end
end FW

set_option Elab.async false
set_option linter.all false
set_option maxRecDepth 100000
set_option maxHeartbeats 4000000
/-! zip of a tuple and a list -/
namespace FW
open PySem
section
variable {pg : Program} {w : World} {ar : Around} {er : Value → Shared → Prop} {sh : Shared}
end
abbrev zipMH1 (h : Heap) (l1 : Addr) : Heap := h.push { cls := .type "tuple_iterator", data := .fields #[.ref l1, .int 0 0] }
abbrev zipMH2 (h : Heap) (l1 l2 : Addr) : Heap := (zipMH1 h l1).push { cls := .type "list_iterator", data := .fields #[.ref l2, .int 0 0] }
abbrev zipMH3 (h : Heap) (l1 l2 : Addr) : Heap := (zipMH2 h l1 l2).push { cls := .type "tuple", data := .seq #[.ref h.objs.size, .ref (zipMH1 h l1).objs.size] }
abbrev zipMH4 (h : Heap) (l1 l2 : Addr) : Heap := (zipMH3 h l1 l2).push { cls := .type "tuple", data := .seq #[.none, .none] }
abbrev zipMH5 (h : Heap) (l1 l2 : Addr) : Heap := (zipMH4 h l1 l2).push { cls := .type "zip", data := .fields #[.none, .bool false, .bool false, .ref (zipMH2 h l1 l2).objs.size, .ref (zipMH3 h l1 l2).objs.size] }

section
variable {pg : Program} {w : World} {ar : Around} {er : Value → Shared → Prop} {sh : Shared}
end
open PySem.Spec PyProof.Rows L2
def ItzM (K : PySem.W.Frag) (aa b : Addr) : It :=
  ⟨fun ix H => ∃ (xs ys : List V) (x y : V), SqT K H aa xs ∧ SqL K H b ys ∧ xs[ix]? = some x ∧ ys[ix]? = some y,
    fun ix H v H' => ∃ T x y, v = .ref T ∧ H T = none ∧ H' = upd H T (.tup [x, y]) ∧ (∀ xs, SqT K H aa xs → xs[ix]? = some x) ∧ ∀ ys, SqL K H b ys → ys[ix]? = some y,
    fun ix H => ∃ xs ys : List V, SqT K H aa xs ∧ SqL K H b ys ∧ (xs.length ≤ ix ∨ ys.length ≤ ix)⟩
def iZipM (K : PySem.W.Frag) (ta : TA) : L2.TI := fun σ H R => ta σ H fun vs Hn => ∃ a b xs ys, vs = [.ref a, .ref b] ∧ SqT K Hn a xs ∧ SqL K Hn b ys ∧ R (ItzM K a b) Hn
def rZipM (K : PySem.W.Frag) (vs : List V) (H : Hp) (R : It → Hp → Prop) : Prop := ∃ a b xs ys, vs = [.ref a, .ref b] ∧ SqT K H a xs ∧ SqL K H b ys ∧ R (ItzM K a b) H
end FW

set_option Elab.async false
set_option linter.all false
set_option maxRecDepth 100000
/-! A walk over what is a list or a tuple. -/
namespace FW
open PySem L2
def rItS (K : PySem.W.Frag) (x : V) (H : Hp) (R : It → Hp → Prop) : Prop := ∃ a, x = .ref a ∧ (((∃ xs, SqL K H a xs) ∧ R (Itl K a) H) ∨ ((∃ xs, SqT K H a xs) ∧ R (Itt K a) H))
def iSeq (K : PySem.W.Frag) (te : L2.TE) : L2.TI := fun σ H R => te σ H fun x H1 => rItS K x H1 R
section
open PySem.Spec PyProof.Rows
end
section
variable {K : PySem.W.Frag} {σ : L2.St} {H : Hp}
end
end FW

set_option Elab.async false
set_option linter.all false
set_option maxRecDepth 100000
set_option maxHeartbeats 4000000
/-! dicts keyed by pairs of texts: values(), items(), pop, sorted; sorted of a list of (text, text, int) -/
namespace FW
open PySem PySem.Spec PyProof.Rows L2
theorem frzTv {X : Cx} {pins : List (Addr × Obj)} {σ : L2.St} {H : Hp} {s : Shared} {d : Addr} {o : Obj} {kvs : List (List Key × V)} (I : Inv X pins σ H s) (h : H d = some (.frz o (.dT kvs))) :
    (d == sysModules) = false ∧ s.heap.get? d = some o ∧ o.ExactDict ∧ ∃ (es : Array DictEntry) (ep : Nat), o.data = .dict es ep ∧ s.heap.DictRaw d es ep ∧ es.size = kvs.length ∧
      ∀ (i : Nat) (k : List Key) (v : V), kvs[i]? = some (k, v) → ∀ hi : i < es.size, ∃ q : Addr, es[i].key = .ref q ∧ H q = some (.tup (k.map kV)) ∧ RelV v es[i].val := by
  obtain ⟨hd, z, hs, xs, pr, o', es, ep, ho, hx, hdt, he, _⟩ := I.hok d _ h
  rw [hd] at ho
  cases ho
  refine ⟨hs, hd, hx, es, ep, hdt, ⟨_, hd, hx, hdt⟩, ?_, fun i k v e hi => ?_⟩
  · have l1 : es.size = xs.length := size_of_entries he
    have l2 : kvs.length = xs.length := Paired.length pr
    omega
  · obtain ⟨b, hb, e1, e2, e3⟩ := L2.paired_get pr e
    have q := entry_at he i
    rw [hb] at q
    have q2 : es[i]? = some es[i] := by simp [hi]
    rw [q2] at q
    have q3 := Option.some.inj q
    refine ⟨b.2.1, ?_, e2, ?_⟩
    · rw [q3]; rfl
    · rw [q3]; exact e3
def ItdT (d : Addr) (o : Obj) (kvs : List (List Key × V)) : It :=
  ⟨fun i H => H d = some (.frz o (.dT kvs)) ∧ i < kvs.length, fun i H x H' => H' = H ∧ ∃ k, kvs[i]? = some (k, x), fun i H => H d = some (.frz o (.dT kvs)) ∧ kvs.length ≤ i⟩
def ItiT (d : Addr) (o : Obj) (kvs : List (List Key × V)) : It :=
  ⟨fun i H => H d = some (.frz o (.dT kvs)) ∧ i < kvs.length, fun i H x H' => ∃ (T : Addr) (k : List Key) (v : V) (q : Addr), kvs[i]? = some (k, v) ∧ H q = some (.tup (k.map kV)) ∧ x = .ref T ∧ H T = none ∧ H' = upd H T (.tup [.ref q, v]), fun i H => H d = some (.frz o (.dT kvs)) ∧ kvs.length ≤ i⟩
section
variable {P : Program} {w : World} {K : PySem.W.Frag} {tg : Expr} {d : Addr} {o : Obj} {es : Array DictEntry} {ep : Nat}
theorem turn_valsT {kvs : List (List Key × V)} (it : Addr) (hod : o.data = .dict es ep) : Turn P w K tg (ItdT d o kvs) [it] it (fun i h => h.IsValIter it d i kvs.length ep) where
  mem := by simp
  obj := fun i h st b hb => by
    have e : b = it := by simpa using hb
    subst e
    obtain ⟨oi, e, c, dd⟩ := st
    exact ⟨oi, e, fun v z => by rw [dd] at z; cases z⟩
  keep := fun i h h' st k => by
    obtain ⟨oi, e, r⟩ := st
    exact ⟨oi, k it (by simp) oi e, r⟩
  item := by
    intro X hP hw hK hc i pins s σ H E I hf st hg
    subst hP hw hK
    obtain ⟨hd, hi⟩ := hg
    obtain ⟨f0, f1, f2, f3, f4, f5⟩ := hf it (by simp)
    obtain ⟨hs, hgd, hx, es', ep', hdt, raw, hsz, ent⟩ := frzTv I hd
    obtain ⟨rfl, rfl⟩ := dict_ep hod hdt
    obtain ⟨⟨k, v⟩, hkv⟩ : ∃ p, kvs[i]? = some p := ⟨kvs[i], List.getElem?_eq_getElem hi⟩
    have hi2 : i < es'.size := by omega
    obtain ⟨q, hkey, hq, rv⟩ := ent i k v hkv hi2
    rw [← hsz] at st
    refine wpAny_pyNext_values_item_raw st raw hi2 fun h' st' sb => ?_
    have I1 : Inv X pins σ H { s with heap := h' } := I.turned (t' := s.toks) (fun b ob hb e => (sb.2 b hb).trans e) f0 f1 f3 f4 f5
    obtain ⟨oi, e, c, dd⟩ := id st'
    refine ⟨_, rfl, go_of (s := { s with heap := h' }) e c dd (by decide) ⟨v, H, I1, rv, ⟨rfl, k, hkv⟩, ?_, fun b hb => (hf b hb).1⟩⟩
    show h'.IsValIter it d (i + 1) kvs.length _
    rw [← hsz]
    exact st'
  done := by
    intro X hP hw hK hc i pins s σ H E I hf st hg
    subst hP hw hK
    obtain ⟨hd, hi⟩ := hg
    obtain ⟨f0, f1, f2, f3, f4, f5⟩ := hf it (by simp)
    obtain ⟨hs, hgd, hx, es', ep', hdt, raw, hsz, ent⟩ := frzTv I hd
    obtain ⟨rfl, rfl⟩ := dict_ep hod hdt
    rw [← hsz] at st
    exact wpAny_pyNext_values_end_raw (I.ok.hd hc) st raw (by omega) fun h' eb => ⟨rfl, I.turned (t' := s.toks) (fun b ob hb e => eb b ob hb e) f0 f1 f3 f4 f5⟩
  self := fun A i s Q E st h => wpAny_pyIter_valiter st h
theorem turn_itemsT {kvs : List (List Key × V)} {elts : List Expr} {kk : Nat} {tpos : Pos} (it : Addr) (hod : o.data = .dict es ep) :
    Turn P w K (.Tuple elts kk tpos) (ItiT d o kvs) [it] it (fun i h => ∃ ok ov, IsItemIter h it d i kvs.length ep ok ov) where
  mem := by simp
  obj := fun i h st b hb => by
    have e : b = it := by simpa using hb
    subst e
    obtain ⟨ok, ov, e⟩ := st
    exact ⟨_, e, fun v z => nomatch z⟩
  keep := fun i h h' st k => let ⟨ok, ov, e⟩ := st; ⟨ok, ov, k it (by simp) _ e⟩
  item := by
    intro X hP hw hK hc i pins s σ H E I hf st hg
    subst hP hw hK
    obtain ⟨hd, hi⟩ := hg
    obtain ⟨hs, hgd, hx, es', ep', hdt, raw, hsz, ent⟩ := frzTv I hd
    obtain ⟨rfl, rfl⟩ := dict_ep hod hdt
    obtain ⟨⟨k, v⟩, hkv⟩ : ∃ p, kvs[i]? = some p := ⟨kvs[i], List.getElem?_eq_getElem hi⟩
    have hi2 : i < es'.size := by omega
    obtain ⟨q, hkey, hq, rv⟩ := ent i k v hkv hi2
    obtain ⟨ok, ov, he⟩ := st
    rw [← hsz] at he
    have hlt : it < s.heap.objs.size := Heap.lt_size he
    refine wpAny_pyNext_items_item_raw he raw hi2 fun h' ho hT hz hk => ?_
    refine ⟨_, rfl, wpAny_letOwnedTupleGo_items (s := { s with heap := h' }) ho fun h'' he' sb => ?_⟩
    have hT2 : h''.get? s.heap.objs.size = some { cls := .type "tuple", data := .seq #[es'[i].key, es'[i].val] } := (sb.2 _ (Nat.ne_of_gt hlt)).trans hT
    have new : ObjOk X.prog X.w (upd H s.heap.objs.size (.tup [.ref q, v])) h'' s.heap.objs.size (.tup [.ref q, v]) :=
      ⟨by show 2 ≤ sizeLine; decide, [es'[i].key, es'[i].val], .cons (show RelV (.ref q) es'[i].key from by rw [hkey]; rfl) (.cons rv .nil), ⟨_, hT2, rfl, _, rfl⟩⟩
    have I1 : Inv X pins σ (upd H s.heap.objs.size (.tup [.ref q, v])) { s with heap := h'' } :=
      I.turnedNew (t' := s.toks) (ch := [it]) (fun b ob hb e => (sb.2 b (by simpa using hb)).trans (hk b ob (by simpa using hb) e)) hf (Nat.le_refl _) new
    refine ⟨.ref s.heap.objs.size, _, I1, rfl, ⟨_, k, v, q, hkv, hq, rfl, I.hok.fresh (Nat.le_refl _), rfl⟩, ⟨es'[i].key, es'[i].val, ?_⟩, fun b hb => ?_⟩
    · rw [← hsz]; exact he'
    · have e : b = it := by simpa using hb
      rw [e, upd_ne (Nat.ne_of_lt hlt)]
      exact (hf it (by simp)).1
  done := by
    intro X hP hw hK hc i pins s σ H E I hf st hg
    subst hP hw hK
    obtain ⟨hd, hi⟩ := hg
    obtain ⟨f0, f1, f2, f3, f4, f5⟩ := hf it (by simp)
    obtain ⟨hs, hgd, hx, es', ep', hdt, raw, hsz, ent⟩ := frzTv I hd
    obtain ⟨rfl, rfl⟩ := dict_ep hod hdt
    obtain ⟨ok, ov, he⟩ := st
    rw [← hsz] at he
    exact wpAny_pyNext_items_end_raw (I.ok.hd hc) he raw (by omega) fun h' eb => ⟨rfl, I.turned (t' := s.toks) (fun b ob hb e => eb b ob hb e) f0 f1 f3 f4 f5⟩
  self := fun A i s Q E st h => let ⟨_, _, e⟩ := st; PySem.W.kcp_self e h
end
def iValsT (td : TE) : L2.TI := fun σ H R => td σ H fun x H1 => ∃ d o kvs, x = .ref d ∧ H1 d = some (.frz o (.dT kvs)) ∧ R (ItdT d o kvs) H1
def iItemsT (td : TE) : L2.TI := fun σ H R => td σ H fun x H1 => ∃ d o kvs, x = .ref d ∧ H1 d = some (.frz o (.dT kvs)) ∧ R (ItiT d o kvs) H1
theorem raw_noDict {h : Heap} {a : Addr} {o : Obj} (ho : h.get? a = some o) (hx : o.ExactDict) : ∀ b, Value.ref a = .ref b → ∃ ob, h.get? b = some ob ∧ ob.dict = none := by
  intro b e
  cases e
  exact ⟨o, ho, hx.2.1⟩
section
variable {X : Cx} {tg e : Expr} {td : TE} {apos cpos : Pos}
theorem pi_valuesT (he : PE X e td) (hbase : attributeBase e "values" X.env (eval e X.env) = eval e X.env := by rfl) (hline : (apos.endLine == cpos.line) = true := by rfl) : PI X tg (.Call (.Attribute e "values" apos) [] [] cpos) (iValsT td) := by
  refine ⟨fun pins s σ H R I h => ?_⟩
  refine wpAny_Call_method (T := "dict") (id := "dict.values") hbase rfl hline F.plainAttrs_dict F.slot_dict_values F.type_dict_values (thn (he.run pins s σ H _ I h) fun u s1 ⟨x, H1, I1, rx, d, o, kvs, ex, hd, q⟩ => ?_)
  subst ex
  obtain rfl : u = Value.ref d := rx
  obtain ⟨hs, hgd, hx, es, ep, hdt, raw, hsz, ent⟩ := frzTv I1 hd
  refine ⟨raw.typeIs, raw_noDict hgd hx, ?_⟩
  have I2 : Inv X pins σ H1 { s1 with heap := s1.heap.push { cls := .type "dict_values", data := .fields #[.ref d] } } := I1.kept (t' := s1.toks) fun b ob q => Heap.get?_push_of_some _ q
  have fin : wpAny (model X.prog X.w) X.A (pyIter (.ref s1.heap.objs.size)) (PIE X pins σ tg R) X.xe { s1 with heap := s1.heap.push { cls := .type "dict_values", data := .fields #[.ref d] } } := by
    refine wpAny_pyIter_values_raw (d := d) (es := es) (ep := ep) ⟨_, Heap.get?_push_size _ rfl, rfl, rfl⟩ (raw.at fun o e => Heap.get?_push_of_some _ e) (pi_one (tk := s1.toks) I2 _ (turn_valsT _ hdt) ⟨_, Heap.get?_push_size _ rfl, rfl, ?_⟩ q)
    rw [hsz] <;> rfl
  show wpAny _ _ (callWith cpos (.builtin "dict.values") [.ref d] [] []) _ X.xe s1
  exact method_meetsIn F.slot_dict_values F.entry_dict_values rfl (PySem.evalArgs_none ⟨rfl, raw.typeIs, F.args_dict_values_1 _, _, meets_dict_values_raw d hs, ⟨_, _, raw⟩, fin⟩)
theorem pi_itemsT {elts : List Expr} {kk : Nat} {tpos : Pos} (he : PE X e td) (hbase : attributeBase e "items" X.env (eval e X.env) = eval e X.env := by rfl) (hline : (apos.endLine == cpos.line) = true := by rfl) :
    PI X (.Tuple elts kk tpos) (.Call (.Attribute e "items" apos) [] [] cpos) (iItemsT td) := by
  refine ⟨fun pins s σ H R I h => ?_⟩
  refine wpAny_Call_method (T := "dict") (id := "dict.items") hbase rfl hline F.plainAttrs_dict F.slot_dict_items F.type_dict_items (thn (he.run pins s σ H _ I h) fun u s1 ⟨x, H1, I1, rx, d, o, kvs, ex, hd, q⟩ => ?_)
  subst ex
  obtain rfl : u = Value.ref d := rx
  obtain ⟨hs, hgd, hx, es, ep, hdt, raw, hsz, ent⟩ := frzTv I1 hd
  refine ⟨raw.typeIs, raw_noDict hgd hx, ?_⟩
  have I2 : Inv X pins σ H1 { s1 with heap := s1.heap.push { cls := .type "dict_items", data := .fields #[.ref d] } } := I1.kept (t' := s1.toks) fun b ob q => Heap.get?_push_of_some _ q
  have fin : wpAny (model X.prog X.w) X.A (pyIter (.ref s1.heap.objs.size)) (PIE X pins σ (.Tuple elts kk tpos) R) X.xe { s1 with heap := s1.heap.push { cls := .type "dict_items", data := .fields #[.ref d] } } := by
    refine wpAny_pyIter_items_raw (d := d) (es := es) (ep := ep) ⟨_, Heap.get?_push_size _ rfl, rfl, rfl⟩ (raw.at fun o e => Heap.get?_push_of_some _ e) (pi_one (tk := s1.toks) I2 _ (turn_itemsT _ hdt) ⟨.none, .none, ?_⟩ q)
    rw [← hsz]
    exact Heap.get?_push_size _ rfl
  show wpAny _ _ (callWith cpos (.builtin "dict.items") [.ref d] [] []) _ X.xe s1
  exact method_meetsIn F.slot_dict_items F.entry_dict_items rfl (PySem.evalArgs_none ⟨rfl, raw.typeIs, F.args_dict_items_1 _, _, meets_dict_items_raw d hs, ⟨_, _, raw⟩, fin⟩)
end
theorem walk_valuesT {d : Addr} {o : Obj} {kvs : List (List Key × V)} : Walk (ItdT d o kvs) kvs.length (fun H => H d = some (.frz o (.dT kvs))) (fun i H x H' => H' = H ∧ ∃ k, kvs[i]? = some (k, x)) :=
  ⟨fun _ _ hi q => ⟨q, hi⟩, fun _ q => ⟨q, Nat.le_refl _⟩, fun _ _ _ _ _ _ y => y⟩
theorem walk_itemsT {d : Addr} {o : Obj} {kvs : List (List Key × V)} : Walk (ItiT d o kvs) kvs.length (fun H => H d = some (.frz o (.dT kvs))) (fun i H x H' => ∃ (T : Addr) (k : List Key) (v : V) (q : Addr), kvs[i]? = some (k, v) ∧ H q = some (.tup (k.map kV)) ∧ x = .ref T ∧ H T = none ∧ H' = upd H T (.tup [.ref q, v])) :=
  ⟨fun _ _ hi q => ⟨q, hi⟩, fun _ q => ⟨q, Nat.le_refl _⟩, fun _ _ _ _ _ _ y => y⟩
/-! ### readings -/
section
variable {σ : L2.St} {H : Hp} {nx bk ct : L2.St → Hp → Prop} {rt : VK}
def rValsT (x : V) (H1 : Hp) (R : It → Hp → Prop) : Prop := ∃ d o kvs, x = .ref d ∧ H1 d = some (.frz o (.dT kvs)) ∧ R (ItdT d o kvs) H1
theorem w_valsT {td : TE} {R : It → Hp → Prop} (h : td σ H fun x H1 => rValsT x H1 R) : iValsT td σ H R := h
theorem w_valsT' {d : Addr} {o : Obj} {kvs : List (List Key × V)} {R : It → Hp → Prop} (e : H d = some (.frz o (.dT kvs))) (h : R (ItdT d o kvs) H) : rValsT (.ref d) H R := ⟨d, o, kvs, rfl, e, h⟩
def rVals (x : V) (H1 : Hp) (R : It → Hp → Prop) : Prop := ∃ d o kvs, x = .ref d ∧ H1 d = some (.frz o (.dK kvs)) ∧ R (Itd d o kvs) H1
theorem w_vals {td : TE} {R : It → Hp → Prop} (h : td σ H fun x H1 => rVals x H1 R) : iVals td σ H R := h
theorem w_vals' {d : Addr} {o : Obj} {kvs : List (Key × V)} {R : It → Hp → Prop} (e : H d = some (.frz o (.dK kvs))) (h : R (Itd d o kvs) H) : rVals (.ref d) H R := ⟨d, o, kvs, rfl, e, h⟩
def rItemsTf (x : V) (H1 : Hp) (R : It → Hp → Prop) : Prop := ∃ d o kvs, x = .ref d ∧ H1 d = some (.frz o (.dT kvs)) ∧ R (ItiT d o kvs) H1
theorem w_itemsT {td : TE} {R : It → Hp → Prop} (h : td σ H fun x H1 => rItemsTf x H1 R) : iItemsT td σ H R := h
theorem w_itemsT' {d : Addr} {o : Obj} {kvs : List (List Key × V)} {R : It → Hp → Prop} (e : H d = some (.frz o (.dT kvs))) (h : R (ItiT d o kvs) H) : rItemsTf (.ref d) H R := ⟨d, o, kvs, rfl, e, h⟩
theorem w_keysT' {d : Addr} {o : Obj} {kvs : List (List Key × V)} {R : It → Hp → Prop} (e : H d = some (.frz o (.dT kvs))) (h : R (Itkt d o kvs) H) : rKeys (.ref d) H R := ⟨d, o, rfl, .inr ⟨kvs, e, h⟩⟩
theorem w_lockT {t : TS} {d : Addr} {kvs : List (List Key × V)} (e : H d = some (.dT kvs)) (h : ∀ od H1, H1 d = some (.frz od (.dT kvs)) → Off d H H1 → t ⟨fun σ' H' => H' d = some (.frz od (.dT kvs)) ∧ nx σ' (upd H' d (.dT kvs)), fun v H' => H' d = some (.frz od (.dT kvs)) ∧ rt v (upd H' d (.dT kvs)), fun σ' H' => H' d = some (.frz od (.dT kvs)) ∧ bk σ' (upd H' d (.dT kvs)), fun σ' H' => H' d = some (.frz od (.dT kvs)) ∧ ct σ' (upd H' d (.dT kvs))⟩ σ H1) : tLock t ⟨nx, rt, bk, ct⟩ σ H :=
  ⟨d, _, e, trivial, fun od => h od _ upd_same fun x hx => upd_ne hx⟩
theorem w_lockET {Q : VK} {t : TE} {d : Addr} {kvs : List (List Key × V)} (e : H d = some (.dT kvs)) (h : ∀ od H1, H1 d = some (.frz od (.dT kvs)) → Off d H H1 → t σ H1 fun v H' => H' d = some (.frz od (.dT kvs)) ∧ Q v (upd H' d (.dT kvs))) : tLockE t σ H Q :=
  ⟨d, _, e, trivial, fun od => h od _ upd_same fun x hx => upd_ne hx⟩
end
/-! ### pop -/
def tDPopT (td ty : TE) : TE := fun σ H Q => td σ H fun x H1 => ∃ a, x = .ref a ∧ IsD H1 a ∧ ty σ H1 fun y H2 => ∃ kvs k b v, H2 a = some (.dT kvs) ∧ y = .ref b ∧ H2 b = some (.tup (k.map kV)) ∧ valV kvs k = some v ∧ Q v (upd H2 a (.dT (dropK kvs k)))
theorem pe_dpopT {X : Cx} {o e : Expr} {apos cpos : Pos} {td ty : TE} (hu : X.A.units + 1 < cLine) (ho : PE X o td) (he : PE X e ty) (m : M1 X o "pop" apos e cpos) : PE X (.Call (.Attribute o "pop" apos) [e] [] cpos) (tDPopT td ty) := by
  refine ⟨fun pins s σ H Q I h => ?_⟩
  refine wpAny_Call_method m.base m.few m.line PySem.F.plainAttrs_dict PySem.F.slot_dict_pop PySem.F.type_dict_pop (thn (ho.run pins s σ H _ I h) fun u s1 ⟨x, H1, I1, rx, a, ex, d, q1⟩ => ?_)
  subst ex
  obtain rfl : u = Value.ref a := rx
  obtain ⟨t1, t2, _⟩ := isD_at I1 d
  refine ⟨t1, t2, ?_⟩
  rw [m.trees]
  refine Calls.callWith_builtin rfl (Calls.evalArgs_plain (Calls.spliced_cons (thn (he.run pins s1 σ H1 _ I1 q1) fun iv s2 ⟨y, H2, I2, ry, kvs, k, b, v, ea, ey, eb, l, q2⟩ => Calls.spliced_nil ?_)))
  subst ey
  cases ry
  obtain ⟨z, hd, xs, rel, dd⟩ := dt_of I2.hok ea
  have hz : xs.length ≤ sizeLine := by rw [← Paired.length rel]; exact z
  obtain ⟨p, hp, rv⟩ : ∃ p, atKey xs k = some p ∧ RelV v p.2 := by
    have r := rel.val k
    rw [l] at r
    cases ek : atKey xs k with
    | none => rw [ek] at r; exact (show False from r).elim
    | some p => rw [ek] at r; exact ⟨p, rfl, r⟩
  refine call_pop_heap (.inl rfl) (PySem.F.args_dict_pop_2 _ _) (tupleKind_room_in1 hu) (key_of I2.hok eb) hd dd hp (fun h' dd' hs => ?_) hz
  obtain ⟨ob, es, ep, hq, h2, h3, h4, _, h5⟩ := dd'
  have I3 : Inv X pins σ (upd H2 a (.dT (dropK kvs k))) { s2 with heap := h', toks := s2.toks + (tupleKind (mixKind X.prog X.w)).draws k } :=
    d_write I2 (by rw [ea]; exact True.intro) hs ⟨ob, hq⟩ ⟨Nat.le_trans (dropK_le kvs k) z, hd, _, (L2.DX.KT_drop k rel).keeps (fun c ys ec => (by rw [upd_ne (ne_of ec ea (fun z => nomatch z))]; exact ec)), ob, es, ep, hq, h2, h3, h4, h5⟩
  exact ⟨v, _, I3, rv, q2⟩
def rDPopT (a : Addr) (y : V) (H : Hp) (Q : VK) : Prop := ∃ kvs k b v, H a = some (.dT kvs) ∧ y = .ref b ∧ H b = some (.tup (k.map kV)) ∧ valV kvs k = some v ∧ Q v (upd H a (.dT (dropK kvs k)))
theorem w_dpopT {σ : L2.St} {H : Hp} {Q : VK} {td ty : TE} (h : td σ H fun x H1 => rIsD x H1 fun a H1 => ty σ H1 fun y H2 => rDPopT a y H2 Q) : tDPopT td ty σ H Q := h
theorem w_dpopT' {H : Hp} {Q : VK} {a b : Addr} {kvs : List (List Key × V)} {k : List Key} {v : V} (e : H a = some (.dT kvs)) (eb : H b = some (.tup (k.map kV))) (ev : valV kvs k = some v) (h : ∀ H1, H1 a = some (.dT (dropK kvs k)) → Off a H H1 → Q v H1) : rDPopT a (.ref b) H Q := ⟨kvs, k, b, v, e, rfl, eb, ev, h _ upd_same fun x hx => upd_ne hx⟩
def rDPop1 (a : Addr) (y : V) (H : Hp) (Q : VK) : Prop := ∃ kvs k v, H a = some (.dK kvs) ∧ y = kV k ∧ valV kvs k = some v ∧ Q v (upd H a (.dK (dropK kvs k)))
theorem w_dpop1 {σ : L2.St} {H : Hp} {Q : VK} {td ty : TE} (h : td σ H fun x H1 => rIsD x H1 fun a H1 => ty σ H1 fun y H2 => rDPop1 a y H2 Q) : tDPop1 td ty σ H Q := h
theorem w_isDT {H : Hp} {a : Addr} {kvs : List (List Key × V)} {R : Addr → Hp → Prop} (e : H a = some (.dT kvs)) (h : R a H) : rIsD (.ref a) H R := ⟨a, rfl, .inr ⟨kvs, .inl e⟩, h⟩
theorem w_dnewT {σ : L2.St} {H : Hp} {Q : VK} (h : Nw (.dT []) H Q) : tDNewT σ H Q := h
theorem w_dputT {H : Hp} {a b : Addr} {kvs : List (List Key × V)} {k : List Key} {v : V} {R : Hp → Prop} (e : H a = some (.dT kvs)) (eb : H b = some (.tup (k.map kV))) (hl : kvs.length < sizeLine) (h : ∀ H1, H1 a = some (.dT (putK kvs k v)) → Off a H H1 → R H1) : rDPut (.ref a) (.ref b) v H R := ⟨a, _, rfl, DPut.t e eb hl, h _ upd_same fun x hx => upd_ne hx⟩
theorem w_dgetT {H : Hp} {Q : VK} {a b : Addr} {kvs : List (List Key × V)} {k : List Key} {v : V} (e : H a = some (.dT kvs)) (eb : H b = some (.tup (k.map kV))) (ev : valV kvs k = some v) (h : Q v H) : rDGet (.ref a) (.ref b) H Q := ⟨a, v, rfl, ev ▸ DGet.t e eb, h⟩
theorem w_dgetTF {H : Hp} {Q : VK} {a b : Addr} {o : Obj} {kvs : List (List Key × V)} {k : List Key} {v : V} (e : H a = some (.frz o (.dT kvs))) (eb : H b = some (.tup (k.map kV))) (ev : valV kvs k = some v) (h : Q v H) : rDGet (.ref a) (.ref b) H Q := ⟨a, v, rfl, .inr ⟨kvs, k, b, .inr ⟨o, e⟩, rfl, eb, ev.symm⟩, h⟩
/-! ### the order of pairs of texts -/
abbrev TTx := Str × Str
def encTT (q : TTx) : PyData := .tuple [.str q.1, .str q.2]
def ttLt (a b : TTx) : Prop := txLt a.1 b.1 ∨ (a.1 = b.1 ∧ txLt a.2 b.2)
def ttK (q : TTx) : List Key := [Sum.inr q.1, Sum.inr q.2]
theorem ttK_inj {p q : TTx} (h : ttK p = ttK q) : p = q := by
  unfold ttK at h
  injection h with h1 h2
  injection h2 with h2 _
  injection h1 with h1
  injection h2 with h2
  exact Prod.ext h1 h2
theorem dataLt_TT (a b : TTx) : PySem.W.dataLt (encTT a) (encTT b) = true ↔ ttLt a b := by
  unfold encTT ttLt
  rw [PySem.W.dataLt_pair (by simp [PySem.W.alike]) (by simp [PySem.W.alike]), PySem.W.dataLt_str, PySem.W.dataLt_str]
  by_cases h : a.1 = b.1
  · rw [if_pos ((eqv_strs _ _).mpr h)]
    by_cases g : a.2 = b.2
    · rw [if_pos ((eqv_strs _ _).mpr g)]
      constructor
      · intro z; cases z
      · rintro (z | ⟨_, z⟩)
        · rw [h] at z
          exact absurd z (List.lt_irrefl _)
        · rw [g] at z
          exact absurd z (List.lt_irrefl _)
    · rw [if_neg (fun z => g ((eqv_strs _ _).mp z)), decide_eq_true_iff]
      constructor
      · exact fun z => .inr ⟨h, z⟩
      · rintro (z | ⟨_, z⟩)
        · rw [h] at z
          exact absurd z (List.lt_irrefl _)
        · exact z
  · rw [if_neg (fun z => h ((eqv_strs _ _).mp z)), decide_eq_true_iff]
    constructor
    · exact .inl
    · rintro (z | ⟨z, _⟩)
      · exact z
      · exact absurd z h
theorem ttLt_irr (a : TTx) : ¬ ttLt a a := by
  rintro (h | ⟨_, h⟩)
  · exact List.lt_irrefl _ h
  · exact List.lt_irrefl _ h
theorem ttLt_trans {a b c : TTx} (h : ttLt a b) (g : ttLt b c) : ttLt a c := by
  rcases h with h | ⟨h1, h2⟩
  · rcases g with g | ⟨g1, g2⟩
    · exact .inl (List.lt_trans h g)
    · exact .inl (g1 ▸ h)
  · rcases g with g | ⟨g1, g2⟩
    · exact .inl (h1 ▸ g)
    · exact .inr ⟨h1.trans g1, List.lt_trans h2 g2⟩
theorem ttLt_tri {a b : TTx} (h : ¬ ttLt a b) : ttLt b a ∨ a = b := by
  by_cases h1 : txLt a.1 b.1
  · exact absurd (.inl h1) h
  rcases tx_tri h1 with h1 | h1
  · exact .inl (.inl h1)
  by_cases h2 : txLt a.2 b.2
  · exact absurd (.inr ⟨h1, h2⟩) h
  rcases tx_tri h2 with h2 | h2
  · exact .inl (.inr ⟨h1.symm, h2⟩)
  · exact .inr (Prod.ext h1 h2)
theorem tt_uniq : ∀ {a b : List TTx}, a.Pairwise ttLt → b.Pairwise ttLt → (∀ x, x ∈ a ↔ x ∈ b) → a = b
  | [], [], _, _, _ => rfl
  | [], y :: b, _, _, h => by have := (h y).mpr (by simp); cases this
  | x :: a, [], _, _, h => by have := (h x).mp (by simp); cases this
  | x :: a, y :: b, ha, hb, h => by
    rw [List.pairwise_cons] at ha hb
    have e : x = y := by
      rcases List.mem_cons.mp ((h x).mp (by simp)) with e | e
      · exact e
      rcases List.mem_cons.mp ((h y).mpr (by simp)) with e2 | e2
      · exact e2.symm
      exact absurd (ttLt_trans (ha.1 y e2) (hb.1 x e)) (ttLt_irr x)
    subst e
    rw [tt_uniq ha.2 hb.2 fun z => ?_]
    constructor
    · intro hz
      rcases List.mem_cons.mp ((h z).mp (by simp [hz])) with e | e
      · exact absurd (e ▸ ha.1 z hz) (ttLt_irr _)
      · exact e
    · intro hz
      rcases List.mem_cons.mp ((h z).mpr (by simp [hz])) with e | e
      · exact absurd (e ▸ hb.1 z hz) (ttLt_irr _)
      · exact e
/-- an order of data whose less-than is ttLt of a pair, or a tie-break behind equal pairs -/
theorem totOf {β : Type} {enc : β → PyData} (f : β → TTx) (g : β → Int) (hd : ∀ a b, PySem.W.dataLt (enc a) (enc b) = true ↔ (ttLt (f a) (f b) ∨ (f a = f b ∧ g a < g b))) : PySem.W.TotalLe (PySem.W.dataLe false enc) := by
  have le : ∀ a b, PySem.W.dataLe false enc a b = true ↔ ¬ (ttLt (f b) (f a) ∨ (f b = f a ∧ g b < g a)) := by
    intro a b
    show (!PySem.W.dataLt (enc b) (enc a)) = true ↔ _
    rw [← hd]
    simp
  constructor
  · intro a b c h1 h2
    rw [le] at *
    intro h
    have t1 : ttLt (f a) (f b) ∨ f a = f b := by
      by_cases z : ttLt (f a) (f b)
      · exact .inl z
      · rcases ttLt_tri z with z | z
        · exact absurd (.inl z) h1
        · exact .inr z
    have t2 : ttLt (f b) (f c) ∨ f b = f c := by
      by_cases z : ttLt (f b) (f c)
      · exact .inl z
      · rcases ttLt_tri z with z | z
        · exact absurd (.inl z) h2
        · exact .inr z
    rcases h with h | ⟨e, h⟩
    · rcases t1 with t1 | t1
      · rcases t2 with t2 | t2
        · exact ttLt_irr _ (ttLt_trans (ttLt_trans t1 t2) h)
        · rw [← t2] at h
          exact ttLt_irr _ (ttLt_trans t1 h)
      · rw [t1] at h
        exact h2 (.inl h)
    · rcases t1 with t1 | t1
      · rcases t2 with t2 | t2
        · rw [e] at t2
          exact ttLt_irr _ (ttLt_trans t1 t2)
        · rw [t2, e] at t1
          exact ttLt_irr _ t1
      · have t2 : f b = f c := by rw [← t1, e]
        have g1 : ¬ g b < g a := fun z => h1 (.inr ⟨t1.symm, z⟩)
        have g2 : ¬ g c < g b := fun z => h2 (.inr ⟨t2.symm, z⟩)
        omega
  · intro a b
    rw [le, le]
    by_cases h : ttLt (f b) (f a) ∨ (f b = f a ∧ g b < g a)
    · right
      rintro (z | ⟨e, z⟩)
      · rcases h with h | ⟨e, h⟩
        · exact ttLt_irr _ (ttLt_trans h z)
        · rw [e] at z
          exact ttLt_irr _ z
      · rcases h with h | ⟨_, h⟩
        · rw [e] at h
          exact ttLt_irr _ h
        · omega
    · exact .inl h
theorem sorted_of {β : Type} {enc : β → PyData} (f : β → TTx) (g : β → Int) (hd : ∀ a b, PySem.W.dataLt (enc a) (enc b) = true ↔ (ttLt (f a) (f b) ∨ (f a = f b ∧ g a < g b))) {bs : List β} (nd : (bs.map f).Nodup) : (bs.mergeSort (PySem.W.dataLe false enc)).Pairwise (fun x y => ttLt (f x) (f y)) := by
  have h := PySem.W.sort_pairwise (totOf f g hd) bs
  have hp := List.mergeSort_perm bs (PySem.W.dataLe false enc)
  have nd2 : ((bs.mergeSort (PySem.W.dataLe false enc)).map f).Nodup := ((hp.map f).nodup_iff).mpr nd
  unfold List.Nodup at nd2
  rw [List.pairwise_map] at nd2
  refine (h.and nd2).imp fun {x y} ⟨h1, h2⟩ => ?_
  have h1' : (!PySem.W.dataLt (enc y) (enc x)) = true := h1
  have h3 : ¬ (ttLt (f y) (f x) ∨ (f y = f x ∧ g y < g x)) := by
    rw [← hd]
    simpa using h1'
  by_cases z : ttLt (f x) (f y)
  · exact z
  · rcases ttLt_tri z with z | z
    · exact absurd (.inl z) h3
    · exact absurd z h2
/-! ### sorted(d) of a dict keyed by pairs of texts -/
theorem kdl_rawT {P : Program} {w : World} {d : Addr} {es : Array DictEntry} {ep : Nat} (lo : (d == sysModules) = false) :
    PySem.W.KdlSrc P w "dict" d d es.size (fun i v => ∃ hi : i < es.size, v = es[i].key) (fun h => h.DictRaw d es ep) where
  type := fun _ hm => hm.typeIs
  there := fun _ ⟨_, ho, _⟩ => ⟨Heap.lt_size ho, Heap.lt_size ho⟩
  keep := fun _ _ hm hk => hm.at fun o e => hk d (.inl rfl) o e
  notList := by decide
  notTuple := by decide
  hint := fun _ _ _ _ hm hq => PySem.W.kdl_hint_dict hm.typeIs hq
  iter := fun _ _ hh hm => by
    obtain ⟨o, ho, hr⟩ := id hm
    exact ⟨_, _, (fun _ _ hq => wpAny_pyIter_dict_raw lo hm hq), Walks.rawKeys hh _ d (Nat.ne_of_lt (Heap.lt_size ho)) es ep, ⟨⟨_, Heap.get?_push_size _ rfl, rfl, rfl⟩, hm.at fun o e => Heap.get?_push_of_some _ e⟩⟩
def rSortTT : List V → Hp → VK → Prop := fun vs H Q => ∃ (a : Addr) (kvs : List (List Key × V)) (qs : List TTx), vs = [.ref a] ∧ H a = some (.dT kvs) ∧ kvs.map (·.1) = qs.map ttK ∧ qs.Nodup ∧ qs.length ≤ 100000 ∧
  ∀ (ts : List (TTx × Addr)) (p : Addr), (ts.map (·.1)).Perm qs → ts.Pairwise (fun x y => ttLt x.1 y.1) → (∀ t ∈ ts, H t.2 = some (.tup [.str t.1.1, .str t.1.2])) → H p = none → Q (.ref p) (upd H p (.lst (ts.map fun t => V.ref t.2)))
theorem each_refsT {β : Type} {f : β → Addr} {out : List Value} {bs : List β} (h : PySem.W.EachIs (fun v (b : β) => v = Value.ref (f b)) out bs) : out = bs.map fun b => Value.ref (f b) := by
  induction h with
  | nil => rfl
  | cons h1 _ ih => rw [h1, ih]; rfl
theorem each_ofT {β : Type} (f : β → Addr) : ∀ bs : List β, PySem.W.EachIs (fun v (b : β) => v = Value.ref (f b)) (bs.map fun b => Value.ref (f b)) bs
  | [] => .nil
  | b :: bs => .cons rfl (each_ofT f bs)
theorem vals_refsT {β : Type} (f : β → Addr) : ∀ bs : List β, Vals (bs.map fun b => V.ref (f b)) (bs.map fun b => Value.ref (f b))
  | [] => .nil
  | b :: bs => .cons rfl (vals_refsT f bs)
/-- a tracked tuple of a text and a text reads so -/
theorem tt_reads {X : Cx} {pins : List (Addr × Obj)} {σ : L2.St} {H : Hp} {s : Shared} (I : Inv X pins σ H s) {a : Addr} {x y : Str} (h : H a = some (.tup [.str x, .str y])) : ∃ ws, Reads s.heap (.ref a) (.tuple [.str x, .str y]) ws ∧ ws = [] := by
  obtain ⟨_, its, rel, o, h1, h2, n, h3⟩ := (show ObjOk X.prog X.w H s.heap a (.tup [.str x, .str y]) from I.hok a _ h)
  cases rel with
  | cons r1 r =>
    cases r with
    | cons r2 r =>
      cases r
      obtain ⟨t1, rfl⟩ := r1
      obtain ⟨t2, rfl⟩ := r2
      exact ⟨_, .tuple h1 h2 h3 (.cons (.str _ _) (.cons (.str _ _) .nil)), rfl⟩
theorem dT_keys {X : Cx} {pins : List (Addr × Obj)} {σ : L2.St} {H : Hp} {s : Shared} (I : Inv X pins σ H s) {a : Addr} {kvs : List (List Key × V)} (h : H a = some (.dT kvs)) :
    (a == sysModules) = false ∧ ∃ (es : Array DictEntry) (ep : Nat) (qs : List Addr), s.heap.DictRaw a es ep ∧ es.size = kvs.length ∧ qs.length = kvs.length ∧ (∀ (i : Nat) (q : Addr), qs[i]? = some q → ∀ hi : i < es.size, es[i].key = .ref q) ∧ ∀ (i : Nat) (q : Addr) (k : List Key) (v : V), qs[i]? = some q → kvs[i]? = some (k, v) → H q = some (.tup (k.map kV)) := by
  obtain ⟨z, hd, xs, rel, dd⟩ := dt_of I.hok h
  obtain ⟨es, ep, raw, hsz, ent⟩ := dd.raw
  have hl : kvs.length = xs.length := Paired.length rel
  refine ⟨hd, es, ep, xs.map (·.2.1), raw, by omega, by rw [List.length_map]; omega, fun i q hq hi => ?_, fun i q k v hq hk => ?_⟩
  · obtain ⟨y, h1, h2, _⟩ := ent i hi
    rw [List.getElem?_map, h1] at hq
    cases hq
    exact h2
  · obtain ⟨b, hb, e1, e2, e3⟩ := L2.paired_get rel hk
    rw [List.getElem?_map, hb] at hq
    cases hq
    exact e2
theorem c_sortTT {X : Cx} (hcalm : X.calm = true) (hu : X.A.units + 64 < cLine) : CallR X (.builtin "sorted") rSortTT := by
  intro pins s σ H xs us Q I r ⟨a, kvs, qs, ex, hd, hks, nd, hlq, q⟩
  subst ex
  obtain ⟨u, eu, rx⟩ := vals1 r
  subst eu
  cases rx
  obtain ⟨lo, es, ep, ads, hraw, hsz, hla, hkey, hent⟩ := dT_keys I hd
  have lk : kvs.length = qs.length := by
    have := congrArg List.length hks
    simpa using this
  refine Calls.call_function_entry kind_sorted plain_sorted entry_sorted (args_sorted1 _) ?_
  unfold Builtin.«sorted»
  refine wpAny_bind (m := checkCount "sorted" 1 1 _) (wpAny_pure ?_)
  refine wpAny_bind (PySem.W.kdu_collect (A := X.A.in1) (kdl_rawT (P := X.prog) (w := X.w) (es := es) (ep := ep) lo) (I.ok.hd hcalm) hraw (by rw [hsz, lk, sizeLine_eq]; omega) fun h' tk acc hk hacc => ?_)
  have eacc : acc.toList = (qs.zip ads).map fun q => Value.ref q.2 := by
    apply List.ext_getElem?
    intro i
    rw [List.getElem?_map, Array.getElem?_toList]
    rcases Nat.lt_or_ge i acc.size with hi | hi
    · obtain ⟨h1, h2⟩ := hacc.2 i acc[i] (by simp [hi])
      have ia : i < ads.length := by omega
      have iq : i < qs.length := by omega
      have e1 := hkey i ads[i] (List.getElem?_eq_getElem ia) h1
      have e2 : (qs.zip ads)[i]? = some (qs[i], ads[i]) := by rw [List.getElem?_zip_eq_some]; exact ⟨List.getElem?_eq_getElem iq, List.getElem?_eq_getElem ia⟩
      rw [e2]
      have : acc[i]? = some acc[i] := by simp [hi]
      rw [this, h2, e1]
      rfl
    · have h1 : acc[i]? = none := by simp [hi]
      have h2 : (qs.zip ads)[i]? = none := by
        rw [List.getElem?_eq_none_iff, List.length_zip]
        have := hacc.1
        omega
      rw [h1, h2]
      rfl
  have I1 : Inv X pins σ H { s with heap := h', toks := tk } := I.kept hk
  generalize hbs : qs.zip ads = bs at eacc
  have lbs : bs.length = qs.length := by rw [← hbs, List.length_zip]; omega
  have mbs : bs.map (·.1) = qs := by rw [← hbs]; exact List.map_fst_zip (by omega)
  have tbs : ∀ b ∈ bs, H b.2 = some (.tup [.str b.1.1, .str b.1.2]) := by
    intro b hb
    rw [← hbs] at hb
    obtain ⟨i, hi⟩ := List.mem_iff_getElem?.mp hb
    obtain ⟨i1, i2⟩ := List.getElem?_zip_eq_some.mp hi
    have ik : i < kvs.length := by
      have := (List.getElem?_eq_some_iff.mp i1).1
      omega
    have e1 : (kvs.map (·.1))[i]? = some kvs[i].1 := by rw [List.getElem?_map, List.getElem?_eq_getElem ik]; rfl
    rw [hks, List.getElem?_map, i1] at e1
    have e2 : ttK b.1 = kvs[i].1 := Option.some.inj e1
    have e3 := hent i b.2 kvs[i].1 kvs[i].2 i2 (List.getElem?_eq_getElem ik)
    rw [← e2] at e3
    exact e3
  have hz : acc.toList.length ≤ sizeLine := by rw [eacc, List.length_map, lbs, sizeLine_eq]; omega
  refine wpAny_bind (wpAny_newList ?_ hz)
  have hoL : (h'.push (seqObj "list" acc.toList.toArray 0)).get? h'.objs.size = some (seqObj "list" acc.toList.toArray 0) := Heap.get?_push_size _ rfl
  show wpAny _ _ _ _ _ { s with heap := h'.push (seqObj "list" acc.toList.toArray 0), toks := tk }
  rw [eacc] at hoL hz ⊢
  have rd : ∀ b ∈ bs, ∃ ws, Reads (h'.push (seqObj "list" (bs.map fun q => Value.ref q.2).toArray 0)) (.ref b.2) (encTT b.1) ws ∧ h'.objs.size ∉ ws := by
    intro b hb
    obtain ⟨ws, g, rfl⟩ := tt_reads I1 (tbs b hb)
    exact ⟨[], PyProof.Rows.Reads.keeps (fun b o e => Heap.get?_push_of_some _ e) g, by simp⟩
  have eR := each_ofT (fun q : TTx × Addr => q.2) bs
  have er : PySem.W.EachIs (fun v (b : TTx × Addr) => ∃ ws, Reads (h'.push (seqObj "list" (bs.map fun q => Value.ref q.2).toArray 0)) v (encTT b.1) ws ∧ h'.objs.size ∉ ws) (bs.map fun q => Value.ref q.2) bs :=
    (PySem.W.each_mem eR).mono fun v b ⟨h1, h2⟩ => by
      rw [h1]
      exact rd b h2
  have hal : PySem.W.AllAlike (bs.map fun q => encTT q.1) := PySem.W.AllAlike.of fun b b' => by simp [encTT, PySem.W.alike, PySem.W.alikeAll]
  have hso : PySem.W.Sortable (bs.map fun q => encTT q.1) := PySem.W.Sortable.tuples fun b => ⟨_, _, rfl⟩
  refine wpAny_bind (wpAny_holding (PySem.W.list_sort_data (s := { s with heap := h'.push (seqObj "list" (bs.map fun q => Value.ref q.2).toArray 0), toks := tk }) (R := fun v (b : TTx × Addr) => v = Value.ref b.2) (enc := fun q => encTT q.1) (bs := bs) hoL eR er hal hso (by rw [sizeLine_eq]; omega) (fun b _ => ?_) fun out ho eo => ?_))
  · have : (encTT b.1).depth ≤ 8 := by
      show PyData.depthAll [.str b.1.1, .str b.1.2] + 1 ≤ 8
      simp only [PyData.depthAll, PyData.depth]
      decide
    show X.A.in1.units + 1 + (encTT b.1).depth < cLine
    have e : X.A.in1.units = X.A.units + 1 := rfl
    omega
  · have eo' := each_refsT eo
    subst eo'
    generalize hts : bs.mergeSort (PySem.W.dataLe false fun q => encTT q.1) = ts
    have hp : ts.Perm bs := by rw [← hts]; exact List.mergeSort_perm _ _
    have hsrt : ts.Pairwise (fun x y => ttLt x.1 y.1) := by
      rw [← hts]
      refine sorted_of (fun q : TTx × Addr => q.1) (fun _ => 0) (fun a b => ?_) (by rw [mbs]; exact nd)
      rw [dataLt_TT]
      constructor
      · exact .inl
      · rintro (z | ⟨_, z⟩)
        · exact z
        · exact absurd z (by omega)
    obtain ⟨e', he'⟩ := sortedHeap_at (vs := bs.map fun q => Value.ref q.2) (out := (ts.map fun b => Value.ref b.2).toArray) hoL
    have hlen : ((ts.map fun t => V.ref t.2) : List V).length ≤ sizeLine := by rw [List.length_map, hp.length_eq, sizeLine_eq]; omega
    refine wpAny_pure ⟨_, rfl, .ref h'.objs.size, upd H h'.objs.size (.lst (ts.map fun t => V.ref t.2)), I1.laid (t' := tk) (fun b u e => ?_) (Nat.le_refl _) (show ObjOk X.prog X.w _ _ _ (.lst (ts.map fun t => V.ref t.2)) from ⟨hlen, _, e', vals_refsT (fun t : TTx × Addr => t.2) ts, he'⟩), rfl, q ts _ ?_ hsrt (fun t ht => tbs t (hp.mem_iff.mp ht)) (I1.hok.fresh (Nat.le_refl _))⟩
    · have hb : b < h'.objs.size := Heap.lt_size e
      rw [sortedHeap_old (Nat.ne_of_lt hb) (by rw [size_push']; exact Nat.lt_succ_of_lt hb)]
      exact Heap.get?_push_of_some _ e
    · have := hp.map (·.1)
      rwa [mbs] at this
theorem w_sortTT {H : Hp} {Q : VK} {a : Addr} {kvs : List (List Key × V)} {qs : List TTx} (e : H a = some (.dT kvs)) (hk : kvs.map (·.1) = qs.map ttK) (nd : qs.Nodup) (hl : qs.length ≤ 100000)
    (h : ∀ (ts : List (TTx × Addr)) p H1, (ts.map (·.1)).Perm qs → ts.Pairwise (fun x y => ttLt x.1 y.1) → (∀ t ∈ ts, H t.2 = some (.tup [.str t.1.1, .str t.1.2])) → H p = none → H1 p = some (.lst (ts.map fun t => V.ref t.2)) → Same H H1 → Q (.ref p) H1) : rSortTT [.ref a] H Q :=
  ⟨a, kvs, qs, rfl, e, hk, nd, hl, fun ts p g1 g2 g3 hp => h ts p _ g1 g2 g3 hp upd_same (Same.new hp)⟩
/-! ### sorted of a list of (text, text, int) -/
abbrev T3 := Addr × TTx × Int
def encT3 (b : T3) : PyData := .tuple [.str b.2.1.1, .str b.2.1.2, .int b.2.2]
theorem dataLt_T3 (a b : T3) : PySem.W.dataLt (encT3 a) (encT3 b) = true ↔ (ttLt a.2.1 b.2.1 ∨ (a.2.1 = b.2.1 ∧ a.2.2 < b.2.2)) := by
  unfold encT3 ttLt
  rw [PySem.W.dataLt_tuple, PySem.W.dataLt_cons (by simp [PySem.W.alike])]
  by_cases h : a.2.1.1 = b.2.1.1
  · rw [if_pos ((eqv_strs _ _).mpr h), PySem.W.dataLt_cons (by simp [PySem.W.alike])]
    by_cases g : a.2.1.2 = b.2.1.2
    · rw [if_pos ((eqv_strs _ _).mpr g), PySem.W.dataLt_cons (by simp [PySem.W.alike])]
      have e : a.2.1 = b.2.1 := Prod.ext h g
      by_cases i : a.2.2 = b.2.2
      · rw [if_pos (by rw [i]; simp [PyData.eqv])]
        constructor
        · intro z; cases z
        · rintro ((z | ⟨_, z⟩) | ⟨_, z⟩)
          · rw [h] at z; exact absurd z (List.lt_irrefl _)
          · rw [g] at z; exact absurd z (List.lt_irrefl _)
          · omega
      · rw [if_neg (by simp [PyData.eqv, i]), PySem.W.dataLt_int, decide_eq_true_iff]
        constructor
        · exact fun z => .inr ⟨e, z⟩
        · rintro ((z | ⟨_, z⟩) | ⟨_, z⟩)
          · rw [h] at z; exact absurd z (List.lt_irrefl _)
          · rw [g] at z; exact absurd z (List.lt_irrefl _)
          · exact z
    · rw [if_neg (fun z => g ((eqv_strs _ _).mp z)), PySem.W.dataLt_str, decide_eq_true_iff]
      constructor
      · exact fun z => .inl (.inr ⟨h, z⟩)
      · rintro ((z | ⟨_, z⟩) | ⟨z, _⟩)
        · rw [h] at z; exact absurd z (List.lt_irrefl _)
        · exact z
        · exact absurd (congrArg Prod.snd z) g
  · rw [if_neg (fun z => h ((eqv_strs _ _).mp z)), PySem.W.dataLt_str, decide_eq_true_iff]
    constructor
    · exact fun z => .inl (.inl z)
    · rintro ((z | ⟨z, _⟩) | ⟨z, _⟩)
      · exact z
      · exact absurd z h
      · exact absurd (congrArg Prod.fst z) h
def rSortT3 : List V → Hp → VK → Prop := fun vs H Q => ∃ (a : Addr) (bs : List T3), vs = [.ref a] ∧ H a = some (.lst (bs.map fun b => V.ref b.1)) ∧ (∀ b ∈ bs, H b.1 = some (.tup [.str b.2.1.1, .str b.2.1.2, .int b.2.2])) ∧ (bs.map (·.2.1)).Nodup ∧ bs.length ≤ 100000 ∧
  ∀ (ts : List T3) (p : Addr), ts.Perm bs → ts.Pairwise (fun x y => ttLt x.2.1 y.2.1) → H p = none → Q (.ref p) (upd H p (.lst (ts.map fun t => V.ref t.1)))
theorem refs_vals {β : Type} (f : β → Addr) : ∀ {bs : List β} {us : List Value}, Vals (bs.map fun b => V.ref (f b)) us → us = bs.map fun b => Value.ref (f b)
  | [], _, h => by cases h; rfl
  | b :: bs, _, h => by
    cases h with
    | cons h1 h2 =>
      cases h1
      rw [refs_vals f h2]
      rfl
theorem c_sortT3 {X : Cx} (hu : X.A.units + 64 < cLine) : CallR X (.builtin "sorted") rSortT3 := by
  intro pins s σ H xs us Q I r ⟨a, bs, ex, hl, hb, nd, hlq, q⟩
  subst ex
  obtain ⟨u, eu, rx⟩ := vals1 r
  subst eu
  cases rx
  obtain ⟨z, its, n, rel, ho⟩ := (show ObjOk X.prog X.w H s.heap a (.lst (bs.map fun b => V.ref b.1)) from I.hok a _ hl)
  have ei := refs_vals (fun b : T3 => b.1) rel
  subst ei
  have rd : ∀ b ∈ bs, ∃ ws, Reads s.heap (.ref b.1) (encT3 b) ws := by
    intro b hbm
    obtain ⟨_, its, rel2, o, h1, h2, n, h3⟩ := (show ObjOk X.prog X.w H s.heap b.1 (.tup [.str b.2.1.1, .str b.2.1.2, .int b.2.2]) from I.hok b.1 _ (hb b hbm))
    cases rel2 with
    | cons r1 r =>
      cases r with
      | cons r2 r =>
        cases r with
        | cons r3 r =>
          cases r
          obtain ⟨t1, rfl⟩ := r1
          obtain ⟨t2, rfl⟩ := r2
          obtain ⟨t3, rfl⟩ := r3
          exact ⟨_, .tuple h1 h2 h3 (.cons (.str _ _) (.cons (.str _ _) (.cons (.int _ _) .nil)))⟩
  have eR := each_ofT (fun q : T3 => q.1) bs
  have er : PySem.W.EachIs (fun v (b : T3) => ∃ ws, Reads s.heap v (encT3 b) ws) (bs.map fun q => Value.ref q.1) bs :=
    (PySem.W.each_mem eR).mono fun v b ⟨h1, h2⟩ => by
      rw [h1]
      exact rd b h2
  have hal : PySem.W.AllAlike (bs.map encT3) := PySem.W.AllAlike.of fun b b' => by simp [encT3, PySem.W.alike, PySem.W.alikeAll]
  have hso : PySem.W.Sortable (bs.map encT3) := PySem.W.Sortable.tuples fun b => ⟨_, _, rfl⟩
  refine PySem.W.sorted_data (l := a) (R := fun v (b : T3) => v = Value.ref b.1) (enc := encT3) (bs := bs) ⟨_, ho, rfl, n, rfl⟩ eR er hal hso (by rw [sizeLine_eq]; omega) (fun b _ => ?_) fun out hol eo => ?_
  · have : (encT3 b).depth ≤ 8 := by
      show PyData.depthAll [.str b.2.1.1, .str b.2.1.2, .int b.2.2] + 1 ≤ 8
      simp only [PyData.depthAll, PyData.depth]
      decide
    omega
  · have eo' := each_refsT eo
    subst eo'
    generalize hts : bs.mergeSort (PySem.W.dataLe false encT3) = ts
    have hp : ts.Perm bs := by rw [← hts]; exact List.mergeSort_perm _ _
    have hsrt : ts.Pairwise (fun x y => ttLt x.2.1 y.2.1) := by
      rw [← hts]
      exact sorted_of (fun q : T3 => q.2.1) (fun q => q.2.2) dataLt_T3 nd
    obtain ⟨epo, geo⟩ := PyProof.Rows.sortedAll_at s.heap (bs.map fun q => Value.ref q.1) (ts.map fun b => Value.ref b.1).toArray
    have hlen : ((ts.map fun t => V.ref t.1) : List V).length ≤ sizeLine := by rw [List.length_map, hp.length_eq, sizeLine_eq]; omega
    exact ⟨.ref _, upd H (s.heap.objs.size + 1) (.lst (ts.map fun t => V.ref t.1)), I.laid (t' := s.toks) (fun _ _ => PyProof.Rows.sortedAll_old) (Nat.le_succ _) ⟨hlen, _, epo, vals_refsT (fun t : T3 => t.1) ts, geo⟩, rfl, q ts _ hp hsrt (I.hok.fresh (Nat.le_succ _))⟩
theorem w_sortT3 {H : Hp} {Q : VK} {a : Addr} {bs : List T3} (e : H a = some (.lst (bs.map fun b => V.ref b.1))) (hb : ∀ b ∈ bs, H b.1 = some (.tup [.str b.2.1.1, .str b.2.1.2, .int b.2.2])) (nd : (bs.map (·.2.1)).Nodup) (hl : bs.length ≤ 100000)
    (h : ∀ (ts : List T3) p H1, ts.Perm bs → ts.Pairwise (fun x y => ttLt x.2.1 y.2.1) → H p = none → H1 p = some (.lst (ts.map fun t => V.ref t.1)) → Same H H1 → Q (.ref p) H1) : rSortT3 [.ref a] H Q :=
  ⟨a, bs, rfl, e, hb, nd, hl, fun ts p g1 g2 hp => h ts p _ g1 g2 hp upd_same (Same.new hp)⟩
theorem pe_bmX {X : Cx} {K : PySem.W.Frag} {T : String} {name : Str} {id : String} {r : V → List V → Hp → VK → Prop} {o e : Expr} {es : List Expr} {to : TE} {t : TA} {apos cpos : Pos} (hK : X.K = K) (pa : PlainAttrs T) (slot : Slot T name id) (hty : typeOf (.builtin id) = pure (.type "method_descriptor")) (hm : MtR X id r) (ho : PE X o to) (ha : PA X (e :: es) t)
    (hbase : attributeBase o name X.env (eval o X.env) = eval o X.env := by rfl)
    (hfew : ((backTo cpos (starEach (e :: es) X.env)).all (fun x => !x.1) && (backToKw cpos (keywordEach [] X.env)).all (fun x => x.1.isSome)
      && decide ((e :: es).length + ([] : List Keyword).length + (if ([] : List Keyword).isEmpty then 0 else 1) < 30)) = true := by rfl)
    (hline : (apos.endLine == cpos.line) = true := by rfl) (hs : starEach (e :: es) X.env = (false, eval e X.env) :: starEach es X.env := by rfl) (hplain : (backTo cpos (starEach es X.env)).any (·.1) = false := by rfl) :
    PE X (.Call (.Attribute o name apos) (e :: es) [] cpos) (tBM K T r to t) := by
  subst hK
  exact pe_bm pa slot hty hm ho ha hbase hfew hline hs hplain
end FW

set_option Elab.async false
set_option linter.all false
set_option maxRecDepth 100000
set_option maxHeartbeats 4000000
/-! o.m(e, ..) of an own class's def that may raise, within a try -/
namespace FW
open PySem PySem.Spec PyProof.Rows L2
section
variable {X : Cx} {CX : CXT} {k : Nat} {f C : Addr} {fd : FuncData} {ps : List Str} {sp : Sp} {E : L2.St → XK} {x m : Str} {pos apos : Pos} {e o : Expr} {es : List Expr} {ta : TE} {t : TA}
def tMethTS (C : Addr) (m : Str) (sp : Sp) (E : L2.St → XK) (ta : TE) (t : TA) : TE := fun σ H Q => ta σ H fun x H1 => ∃ a dx fs, x = .ref a ∧ H1 a = some (.ins C dx fs) ∧ fs.lookup m = none ∧ t σ H1 fun vs H2 => sp (x :: vs) H2 Q (E σ)
theorem pe_methTS {pl : Sem Bool} (he : PE X o ta) (c : Cls X.K C) (hm : Meth X.K C m f) (F : FnOk X.prog X.w X.K X.mg X.base CX k f fd ps sp) (hr : Room k X.A) (hb : Binds X.K fd ps []) (hx : ∀ σ, PassesAt CX X σ (E σ)) (ha : PA X (e :: es) t)
    (hst : starEach (e :: es) X.env = (false, eval e X.env) :: starEach es X.env := by rfl) (hpl : (backTo pos (starEach es X.env)).any (·.1) = false := by rfl)
    (ht : eval (.Call (.Attribute o m apos) (e :: es) [] pos) X.env = (do
      let ov ← eval o X.env
      standAt apos.atName
      let (f, first) ← holding [ov] (getMethod ov m pl)
      callWith pos f first (backTo pos (starEach (e :: es) X.env)) (backToKw pos (keywordEach [] X.env))) := by rfl) :
    PE X (.Call (.Attribute o m apos) (e :: es) [] pos) (tMethTS C m sp E ta t) := by
  refine ⟨fun pins s σ H Q I h => ?_⟩
  refine PySem.W.methodCall_KW (pl := pl) (thn (he.run pins s σ H _ I h) fun u s1 ⟨x, H1, I1, rx, a, dx, fs, ex, ea, l, q⟩ => ?_) ht
  subst ex
  obtain rfl : u = Value.ref a := rx
  refine getmeth_ok I1 ea c hm l ?_
  refine PySem.W.callWith_K (first := [.ref a]) (h₀ := X.base) I.ok.mod.kin hm.kp (thn (ha.run pos pins s1 σ H1 _ I1 q) fun us s2 ⟨vs, H2, I2, r, q2⟩ => ⟨I2.kIn, ?_⟩) hst hpl
  exact run_fnS (us := .ref a :: us) (vs := .ref a :: vs) F hr hb (hx σ) I2 (.cons rfl r) q2
end
theorem w_methS {K : PySem.W.Frag} {σ : L2.St} {H : Hp} {Q : VK} {C : Addr} {m : Str} {sp : Sp} {E : L2.St → XK} {ta : TE} {t : TA} (h : ta σ H fun x H1 => ∃ a dx fs, x = .ref a ∧ H1 a = some (.ins C dx fs) ∧ fs.lookup m = none ∧ t σ H1 fun vs H2 => sp (x :: vs) H2 Q (E σ)) : tMethTS C m sp E ta t σ H Q := h
end FW

set_option Elab.async false
set_option linter.all false
set_option maxRecDepth 100000
set_option maxHeartbeats 4000000
namespace FW
open PySem L2
def top (i : Nat) : Stmt := PySem.Challenge.pw_fewasks_k55_pins_and_far_marks.main.body.getD i (.Pass ⟨0, 0, 0, 0⟩)
abbrev s_NoName___init__ : Stmt := inClass (top 4) 0
abbrev N_NoName___init__ : List Str := ["self", "name"]
theorem sc_NoName___init__ : FnScope N_NoName___init__ ["self", "name"] (defScope s_NoName___init__) := ⟨rfl, rfl, rfl, by decide +kernel, rfl, by decide +kernel, by decide +kernel⟩
abbrev s_Lack___init__ : Stmt := inClass (top 7) 0
abbrev N_Lack___init__ : List Str := ["self", "name"]
theorem sc_Lack___init__ : FnScope N_Lack___init__ ["self", "name"] (defScope s_Lack___init__) := ⟨rfl, rfl, rfl, by decide +kernel, rfl, by decide +kernel, by decide +kernel⟩
abbrev s_is_int : Stmt := top 12
abbrev N_is_int : List Str := ["thing", "least"]
theorem sc_is_int : FnScope N_is_int ["thing", "least"] (defScope s_is_int) := ⟨rfl, rfl, rfl, by decide +kernel, rfl, by decide +kernel, by decide +kernel⟩
abbrev s_is_text : Stmt := top 13
abbrev N_is_text : List Str := ["thing", "most", "sign"]
theorem sc_is_text : FnScope N_is_text ["thing", "most"] (defScope s_is_text) := ⟨rfl, rfl, rfl, by decide +kernel, rfl, by decide +kernel, by decide +kernel⟩
abbrev s_is_label : Stmt := top 14
abbrev N_is_label : List Str := ["thing", "sign"]
theorem sc_is_label : FnScope N_is_label ["thing"] (defScope s_is_label) := ⟨rfl, rfl, rfl, by decide +kernel, rfl, by decide +kernel, by decide +kernel⟩
abbrev s_rise : Stmt := top 15
abbrev N_rise : List Str := ["row", "k"]
theorem sc_rise : FnScope N_rise ["row"] (defScope s_rise) := ⟨rfl, rfl, rfl, by decide +kernel, rfl, by decide +kernel, by decide +kernel⟩
abbrev s_are_ints : Stmt := top 16
abbrev N_are_ints : List Str := ["thing", "part"]
theorem sc_are_ints : FnScope N_are_ints ["thing"] (defScope s_are_ints) := ⟨rfl, rfl, rfl, by decide +kernel, rfl, by decide +kernel, by decide +kernel⟩
abbrev s_rising_ints : Stmt := top 17
abbrev N_rising_ints : List Str := ["thing"]
theorem sc_rising_ints : FnScope N_rising_ints ["thing"] (defScope s_rising_ints) := ⟨rfl, rfl, rfl, by decide +kernel, rfl, by decide +kernel, by decide +kernel⟩
abbrev s_is_pair : Stmt := top 18
abbrev N_is_pair : List Str := ["thing"]
theorem sc_is_pair : FnScope N_is_pair ["thing"] (defScope s_is_pair) := ⟨rfl, rfl, rfl, by decide +kernel, rfl, by decide +kernel, by decide +kernel⟩
abbrev s_are_rows : Stmt := top 19
abbrev N_are_rows : List Str := ["thing", "row"]
theorem sc_are_rows : FnScope N_are_rows ["thing"] (defScope s_are_rows) := ⟨rfl, rfl, rfl, by decide +kernel, rfl, by decide +kernel, by decide +kernel⟩
abbrev s_Book___init__ : Stmt := inClass (top 23) 0
abbrev N_Book___init__ : List Str := ["self"]
theorem sc_Book___init__ : FnScope N_Book___init__ ["self"] (defScope s_Book___init__) := ⟨rfl, rfl, rfl, by decide +kernel, rfl, by decide +kernel, by decide +kernel⟩
abbrev s_Book_named : Stmt := inClass (top 23) 2
abbrev N_Book_named : List Str := ["self", "content"]
theorem sc_Book_named : FnScope N_Book_named ["self", "content"] (defScope s_Book_named) := ⟨rfl, rfl, rfl, by decide +kernel, rfl, by decide +kernel, by decide +kernel⟩
abbrev s_Book_thing : Stmt := inClass (top 23) 4
abbrev N_Book_thing : List Str := ["self", "name"]
abbrev s_Book_kind : Stmt := inClass (top 23) 5
abbrev N_Book_kind : List Str := ["self", "name"]
abbrev s_is_name : Stmt := top 24
abbrev N_is_name : List Str := ["book", "thing"]
theorem sc_is_name : FnScope N_is_name ["book", "thing"] (defScope s_is_name) := ⟨rfl, rfl, rfl, by decide +kernel, rfl, by decide +kernel, by decide +kernel⟩
abbrev s_is_kind : Stmt := top 25
abbrev N_is_kind : List Str := ["book", "thing", "kind"]
theorem sc_is_kind : FnScope N_is_kind ["book", "thing", "kind"] (defScope s_is_kind) := ⟨rfl, rfl, rfl, by decide +kernel, rfl, by decide +kernel, by decide +kernel⟩
abbrev s_is_entry : Stmt := top 26
abbrev N_is_entry : List Str := ["book", "thing"]
theorem sc_is_entry : FnScope N_is_entry ["book", "thing"] (defScope s_is_entry) := ⟨rfl, rfl, rfl, by decide +kernel, rfl, by decide +kernel, by decide +kernel⟩
abbrev s_is_tree : Stmt := top 27
abbrev N_is_tree : List Str := ["book", "entries", "entry"]
theorem sc_is_tree : FnScope N_is_tree ["book", "entries"] (defScope s_is_tree) := ⟨rfl, rfl, rfl, by decide +kernel, rfl, by decide +kernel, by decide +kernel⟩
abbrev s_depth_of : Stmt := top 28
abbrev N_depth_of : List Str := ["book", "content", "label", "name"]
theorem sc_depth_of : FnScope N_depth_of ["book", "content"] (defScope s_depth_of) := ⟨rfl, rfl, rfl, by decide +kernel, rfl, by decide +kernel, by decide +kernel⟩
abbrev s_is_version : Stmt := top 29
abbrev N_is_version : List Str := ["book", "content", "parents", "parent"]
theorem sc_is_version : FnScope N_is_version ["book", "content"] (defScope s_is_version) := ⟨rfl, rfl, rfl, by decide +kernel, rfl, by decide +kernel, by decide +kernel⟩
abbrev s_is_content : Stmt := top 30
abbrev N_is_content : List Str := ["book", "thing"]
theorem sc_is_content : FnScope N_is_content ["book", "thing"] (defScope s_is_content) := ⟨rfl, rfl, rfl, by decide +kernel, rfl, by decide +kernel, by decide +kernel⟩
abbrev s_Store___init__ : Stmt := inClass (top 41) 0
abbrev N_Store___init__ : List Str := ["self", "book"]
theorem sc_Store___init__ : FnScope N_Store___init__ ["self", "book"] (defScope s_Store___init__) := ⟨rfl, rfl, rfl, by decide +kernel, rfl, by decide +kernel, by decide +kernel⟩
abbrev s_Store_put : Stmt := inClass (top 41) 2
abbrev N_Store_put : List Str := ["self", "name"]
theorem sc_Store_put : FnScope N_Store_put ["self", "name"] (defScope s_Store_put) := ⟨rfl, rfl, rfl, by decide +kernel, rfl, by decide +kernel, by decide +kernel⟩
abbrev s_Store_held : Stmt := inClass (top 41) 5
abbrev N_Store_held : List Str := ["self"]
theorem sc_Store_held : FnScope N_Store_held ["self"] (defScope s_Store_held) := ⟨rfl, rfl, rfl, by decide +kernel, rfl, by decide +kernel, by decide +kernel⟩
abbrev s_Store_holds : Stmt := inClass (top 41) 4
abbrev N_Store_holds : List Str := ["self", "name"]
theorem sc_Store_holds : FnScope N_Store_holds ["self", "name"] (defScope s_Store_holds) := ⟨rfl, rfl, rfl, by decide +kernel, rfl, by decide +kernel, by decide +kernel⟩
abbrev s_House___init__ : Stmt := inClass (top 43) 0
abbrev N_House___init__ : List Str := ["self", "book"]
theorem sc_House___init__ : FnScope N_House___init__ ["self", "book"] (defScope s_House___init__) := ⟨rfl, rfl, rfl, by decide +kernel, rfl, by decide +kernel, by decide +kernel⟩
abbrev s_House_marks : Stmt := inClass (top 43) 1
abbrev N_House_marks : List Str := ["self"]
theorem sc_House_marks : FnScope N_House_marks ["self"] (defScope s_House_marks) := ⟨rfl, rfl, rfl, by decide +kernel, rfl, by decide +kernel, by decide +kernel⟩
abbrev s_House_must_have : Stmt := inClass (top 43) 3
abbrev N_House_must_have : List Str := ["self", "version"]
theorem sc_House_must_have : FnScope N_House_must_have ["self", "version"] (defScope s_House_must_have) := ⟨rfl, rfl, rfl, by decide +kernel, rfl, by decide +kernel, by decide +kernel⟩
abbrev s_House_far : Stmt := inClass (top 43) 7
abbrev N_House_far : List Str := ["self", "version", "label", "mark"]
theorem sc_House_far : FnScope N_House_far ["self"] (defScope s_House_far) := ⟨rfl, rfl, rfl, by decide +kernel, rfl, by decide +kernel, by decide +kernel⟩
abbrev s_House_set_far : Stmt := inClass (top 43) 8
abbrev N_House_set_far : List Str := ["self", "label", "mark", "version"]
theorem sc_House_set_far : FnScope N_House_set_far ["self", "label", "mark", "version"] (defScope s_House_set_far) := ⟨rfl, rfl, rfl, by decide +kernel, rfl, by decide +kernel, by decide +kernel⟩
abbrev s_House_pin : Stmt := inClass (top 43) 9
abbrev N_House_pin : List Str := ["self", "names", "told"]
theorem sc_House_pin : FnScope N_House_pin ["self", "names"] (defScope s_House_pin) := ⟨rfl, rfl, rfl, by decide +kernel, rfl, by decide +kernel, by decide +kernel⟩
abbrev s_House_roots : Stmt := inClass (top 43) 10
abbrev N_House_roots : List Str := ["self", "found", "version", "one", "name"]
theorem sc_House_roots : FnScope N_House_roots ["self"] (defScope s_House_roots) := ⟨rfl, rfl, rfl, by decide +kernel, rfl, by decide +kernel, by decide +kernel⟩
abbrev s_must_hold : Stmt := top 36
abbrev N_must_hold : List Str := ["store", "names", "name"]
theorem sc_must_hold : FnScope N_must_hold ["store", "names"] (defScope s_must_hold) := ⟨rfl, rfl, rfl, by decide +kernel, rfl, by decide +kernel, by decide +kernel⟩
abbrev s_Pin___init__ : Stmt := inClass (top 37) 0
abbrev N_Pin___init__ : List Str := ["self", "store", "names", "name"]
theorem sc_Pin___init__ : FnScope N_Pin___init__ ["self", "store", "names"] (defScope s_Pin___init__) := ⟨rfl, rfl, rfl, by decide +kernel, rfl, by decide +kernel, by decide +kernel⟩
abbrev s_Pin___len__ : Stmt := inClass (top 37) 1
abbrev N_Pin___len__ : List Str := ["self"]
theorem sc_Pin___len__ : FnScope N_Pin___len__ ["self"] (defScope s_Pin___len__) := ⟨rfl, rfl, rfl, by decide +kernel, rfl, by decide +kernel, by decide +kernel⟩
abbrev s_Pin_add : Stmt := inClass (top 37) 2
abbrev N_Pin_add : List Str := ["self", "name"]
theorem sc_Pin_add : FnScope N_Pin_add ["self", "name"] (defScope s_Pin_add) := ⟨rfl, rfl, rfl, by decide +kernel, rfl, by decide +kernel, by decide +kernel⟩
abbrev s_Pin_let_go : Stmt := inClass (top 37) 3
abbrev N_Pin_let_go : List Str := ["self"]
theorem sc_Pin_let_go : FnScope N_Pin_let_go ["self"] (defScope s_Pin_let_go) := ⟨rfl, rfl, rfl, by decide +kernel, rfl, by decide +kernel, by decide +kernel⟩
abbrev s_Pin_names : Stmt := inClass (top 37) 4
abbrev N_Pin_names : List Str := ["self"]
theorem sc_Pin_names : FnScope N_Pin_names ["self"] (defScope s_Pin_names) := ⟨rfl, rfl, rfl, by decide +kernel, rfl, by decide +kernel, by decide +kernel⟩
abbrev s_law_deck : Stmt := top 45
abbrev N_law_deck : List Str := ["_law_script"]
theorem sc_law_deck : FnScope N_law_deck ["_law_script"] (defScope s_law_deck) := ⟨rfl, rfl, rfl, by decide +kernel, rfl, by decide +kernel, by decide +kernel⟩
abbrev s_law_mixed : Stmt := top 46
abbrev N_law_mixed : List Str := ["_law_cell", "_law_turn"]
theorem sc_law_mixed : FnScope N_law_mixed ["_law_cell", "_law_turn"] (defScope s_law_mixed) := ⟨rfl, rfl, rfl, by decide +kernel, rfl, by decide +kernel, by decide +kernel⟩
abbrev s_law_draw : Stmt := top 47
abbrev N_law_draw : List Str := ["_law_deck_here", "_law_many", "_law_cells", "_law_found", "_law_number"]
theorem sc_law_draw : FnScope N_law_draw ["_law_deck_here", "_law_many"] (defScope s_law_draw) := ⟨rfl, rfl, rfl, by decide +kernel, rfl, by decide +kernel, by decide +kernel⟩
abbrev s_law_label : Stmt := top 48
abbrev N_law_label : List Str := ["_law_deck_here", "_law_letters", "_law_k"]
theorem sc_law_label : FnScope N_law_label ["_law_deck_here"] (defScope s_law_label) := ⟨rfl, rfl, rfl, by decide +kernel, rfl, by decide +kernel, by decide +kernel⟩
abbrev s_law_give : Stmt := top 49
abbrev N_law_give : List Str := ["_law_things", "_law_content"]
theorem sc_law_give : FnScope N_law_give ["_law_things", "_law_content"] (defScope s_law_give) := ⟨rfl, rfl, rfl, by decide +kernel, rfl, by decide +kernel, by decide +kernel⟩
abbrev s_law_some : Stmt := top 50
abbrev N_law_some : List Str := ["_law_deck_here", "_law_names", "_law_count", "_law_some_here", "_law_k"]
theorem sc_law_some : FnScope N_law_some ["_law_deck_here", "_law_names", "_law_count"] (defScope s_law_some) := ⟨rfl, rfl, rfl, by decide +kernel, rfl, by decide +kernel, by decide +kernel⟩
abbrev s_law_book : Stmt := top 51
abbrev N_law_book : List Str := ["_law_things", "_law_book_here", "_law_content"]
theorem sc_law_book : FnScope N_law_book ["_law_things"] (defScope s_law_book) := ⟨rfl, rfl, rfl, by decide +kernel, rfl, by decide +kernel, by decide +kernel⟩
abbrev s_law_house : Stmt := top 52
abbrev N_law_house : List Str := ["_law_book_here", "_law_held", "_law_house_here", "_law_name_here"]
theorem sc_law_house : FnScope N_law_house ["_law_book_here", "_law_held"] (defScope s_law_house) := ⟨rfl, rfl, rfl, by decide +kernel, rfl, by decide +kernel, by decide +kernel⟩
abbrev s_law_int : Stmt := top 53
abbrev N_law_int : List Str := ["_law_thing"]
theorem sc_law_int : FnScope N_law_int ["_law_thing"] (defScope s_law_int) := ⟨rfl, rfl, rfl, by decide +kernel, rfl, by decide +kernel, by decide +kernel⟩
abbrev s_law_same : Stmt := top 54
abbrev N_law_same : List Str := ["_law_found", "_law_due", "_law_k"]
theorem sc_law_same : FnScope N_law_same ["_law_found", "_law_due"] (defScope s_law_same) := ⟨rfl, rfl, rfl, by decide +kernel, rfl, by decide +kernel, by decide +kernel⟩
abbrev s_law_here : Stmt := top 55
abbrev N_law_here : List Str := ["_law_names", "_law_here_here", "_law_name_here"]
theorem sc_law_here : FnScope N_law_here ["_law_names"] (defScope s_law_here) := ⟨rfl, rfl, rfl, by decide +kernel, rfl, by decide +kernel, by decide +kernel⟩
abbrev s_law_is_version : Stmt := top 56
abbrev N_law_is_version : List Str := ["_law_things", "_law_name_here"]
theorem sc_law_is_version : FnScope N_law_is_version ["_law_things", "_law_name_here"] (defScope s_law_is_version) := ⟨rfl, rfl, rfl, by decide +kernel, rfl, by decide +kernel, by decide +kernel⟩
abbrev s_law_scene : Stmt := top 57
abbrev N_law_scene : List Str := ["_law_deck_here", "_law_most", "_law_pick", "_law_things", "_law_k", "_law_parents", "_law_names", "_law_held", "_law_gone", "_law_name_here"]
theorem sc_law_scene : FnScope N_law_scene ["_law_deck_here", "_law_most"] (defScope s_law_scene) := ⟨rfl, rfl, rfl, by decide +kernel, rfl, by decide +kernel, by decide +kernel⟩
abbrev s_law_name : Stmt := top 58
abbrev N_law_name : List Str := ["_law_deck_here", "_law_things", "_law_turn"]
theorem sc_law_name : FnScope N_law_name ["_law_deck_here", "_law_things"] (defScope s_law_name) := ⟨rfl, rfl, rfl, by decide +kernel, rfl, by decide +kernel, by decide +kernel⟩
abbrev s_law_pinned : Stmt := top 59
abbrev N_law_pinned : List Str := ["_law_house_here", "_law_pins", "_law_names", "_law_told", "e"]
theorem sc_law_pinned : FnScope N_law_pinned ["_law_house_here", "_law_pins", "_law_names"] (defScope s_law_pinned) := ⟨rfl, rfl, rfl, by decide +kernel, rfl, by decide +kernel, by decide +kernel⟩
abbrev s_law_added : Stmt := top 60
abbrev N_law_added : List Str := ["_law_one", "_law_name_here", "_law_told", "e"]
theorem sc_law_added : FnScope N_law_added ["_law_one", "_law_name_here"] (defScope s_law_added) := ⟨rfl, rfl, rfl, by decide +kernel, rfl, by decide +kernel, by decide +kernel⟩
abbrev s_law_far_set : Stmt := top 61
abbrev N_law_far_set : List Str := ["_law_house_here", "_law_label_here", "_law_mark", "_law_version", "_law_told", "e"]
theorem sc_law_far_set : FnScope N_law_far_set ["_law_house_here", "_law_label_here", "_law_mark", "_law_version"] (defScope s_law_far_set) := ⟨rfl, rfl, rfl, by decide +kernel, rfl, by decide +kernel, by decide +kernel⟩
abbrev s_law_names_due : Stmt := top 62
abbrev N_law_names_due : List Str := ["_law_things", "_law_here_here", "_law_names", "_law_name_here"]
theorem sc_law_names_due : FnScope N_law_names_due ["_law_things", "_law_here_here", "_law_names"] (defScope s_law_names_due) := ⟨rfl, rfl, rfl, by decide +kernel, rfl, by decide +kernel, by decide +kernel⟩
abbrev s_law_version_due : Stmt := top 63
abbrev N_law_version_due : List Str := ["_law_things", "_law_here_here", "_law_version"]
theorem sc_law_version_due : FnScope N_law_version_due ["_law_things", "_law_here_here", "_law_version"] (defScope s_law_version_due) := ⟨rfl, rfl, rfl, by decide +kernel, rfl, by decide +kernel, by decide +kernel⟩
abbrev s_law_roots : Stmt := top 64
abbrev N_law_roots : List Str := ["_law_far", "_law_ons", "_law_found", "_law_key", "_law_on", "_law_name_here"]
theorem sc_law_roots : FnScope N_law_roots ["_law_far", "_law_ons"] (defScope s_law_roots) := ⟨rfl, rfl, rfl, by decide +kernel, rfl, by decide +kernel, by decide +kernel⟩
abbrev s_law_pins_right : Stmt := top 65
abbrev N_law_pins_right : List Str := ["_law_deck_here", "_law_house_here", "_law_pins", "_law_ons", "_law_far", "_law_first", "_law_k", "_law_on", "_law_due", "_law_key"]
theorem sc_law_pins_right : FnScope N_law_pins_right ["_law_deck_here", "_law_house_here", "_law_pins", "_law_ons", "_law_far"] (defScope s_law_pins_right) := ⟨rfl, rfl, rfl, by decide +kernel, rfl, by decide +kernel, by decide +kernel⟩
abbrev s_law_pin_deed : Stmt := top 66
abbrev N_law_pin_deed : List Str := ["_law_deck_here", "_law_house_here", "_law_things", "_law_here_here", "_law_pins", "_law_ons", "_law_pick", "_law_names", "_law_due", "_law_which", "_law_name_here", "_law_k"]
theorem sc_law_pin_deed : FnScope N_law_pin_deed ["_law_deck_here", "_law_house_here", "_law_things", "_law_here_here", "_law_pins", "_law_ons"] (defScope s_law_pin_deed) := ⟨rfl, rfl, rfl, by decide +kernel, rfl, by decide +kernel, by decide +kernel⟩
abbrev s_law_far_deed : Stmt := top 67
abbrev N_law_far_deed : List Str := ["_law_deck_here", "_law_house_here", "_law_things", "_law_here_here", "_law_far", "_law_label_here", "_law_mark", "_law_version", "_law_due"]
theorem sc_law_far_deed : FnScope N_law_far_deed ["_law_deck_here", "_law_house_here", "_law_things", "_law_here_here", "_law_far"] (defScope s_law_far_deed) := ⟨rfl, rfl, rfl, by decide +kernel, rfl, by decide +kernel, by decide +kernel⟩
abbrev s_law : Stmt := top 68
abbrev N_law : List Str := ["_law_script", "_law_deck_here", "_law_things", "_law_held", "_law_here_here", "_law_house_here", "_law_pins", "_law_ons", "_law_far", "_law_k", "_law_deed", "_law_good", "_law_name_here"]
theorem sc_law : FnScope N_law ["_law_script"] (defScope s_law) := ⟨rfl, rfl, rfl, by decide +kernel, rfl, by decide +kernel, by decide +kernel⟩
structure Df (K : PySem.W.Frag) (mg : Str → Option Value) (x : Str) (st : Stmt) (ps : List Str) (f : Addr) (fd : FuncData) : Prop where
  fn : Fun K x x st f fd
  b : Binds K fd ps []
  g : mg x = some (.ref f)
structure Txt (K : PySem.W.Frag) (mg : Str → Option Value) : Prop where
  n_len : mg "len" = none
  n_list : mg "list" = none
  n_isinstance : mg "isinstance" = none
  n_int : mg "int" = none
  n_bool : mg "bool" = none
  n_str : mg "str" = none
  n_tuple : mg "tuple" = none
  n_dict : mg "dict" = none
  n_range : mg "range" = none
  n_all : mg "all" = none
  n_min : mg "min" = none
  n_max : mg "max" = none
  n_set : mg "set" = none
  n_sorted : mg "sorted" = none
  n_ValueError : mg "ValueError" = none
  g_SIGNS : ∃ t, mg "SIGNS" = some (.str " !\"#$&'()*+,-./0123456789:;<=>?@ABCDEFGHIJKLMNOPQRSTUVWXYZ[\\]^_`abcdefghijklmnopqrstuvwxyz{|}~" t)
  g_LETTERS : ∃ t, mg "LETTERS" = some (.str "abcdefghijklmnopqrstuvwxyz" t)
  g_MOST : ∃ t, mg "MOST" = some (.int 400 t)
  g_DEEP : ∃ t, mg "DEEP" = some (.int 8 t)
local macro_rules | `(tactic| walk_at "sq") => `(tactic| first | assumption | exact SqL.of (by assumption) | exact SqT.of (by assumption) | exact TupD.sq (by assumption))
local macro_rules | `(tactic| walk_at "c") => `(tactic| first | ((with_reducible refine cdivw ?_ ?_) <;> first | decide | omega | assumption) | ((with_reducible refine cmul_r ?_ ?_) <;> first | decide | omega) | ((with_reducible refine cmul_l ?_ ?_) <;> first | decide | omega) | with_reducible assumption | decide | omega | exact ⟨by decide, by decide, by first | decide | omega⟩)
local macro_rules | `(tactic| walk_at "at") => `(tactic| first | assumption | exact rfl)
local macro_rules | `(tactic| walk_at "ty") => `(tactic| first | exact .base (.int _) | exact .base (.bl _) | exact .base (.str _) | exact .base .non | exact .base (.tup (by assumption)) | exact .base (.lst (by assumption)) | exact .base (.dK (by assumption)) | exact TupD.tx (by assumption))
local macro_rules | `(tactic| walk_at "kb") => `(tactic| first | exact kb_int_int | exact kb_int_bool | exact kb_int_str | exact kb_int_tuple | exact kb_int_list | exact kb_int_dict | exact kb_bool_int | exact kb_bool_bool | exact kb_bool_str | exact kb_bool_tuple | exact kb_bool_list | exact kb_bool_dict | exact kb_str_int | exact kb_str_bool | exact kb_str_str | exact kb_str_tuple | exact kb_str_list | exact kb_str_dict | exact kb_tuple_int | exact kb_tuple_bool | exact kb_tuple_str | exact kb_tuple_tuple | exact kb_tuple_list | exact kb_tuple_dict | exact kb_list_int | exact kb_list_bool | exact kb_list_str | exact kb_list_tuple | exact kb_list_list | exact kb_list_dict | exact kb_dict_int | exact kb_dict_bool | exact kb_dict_str | exact kb_dict_tuple | exact kb_dict_list | exact kb_dict_dict | exact kb_NoneType_int | exact kb_NoneType_bool | exact kb_NoneType_str | exact kb_NoneType_tuple | exact kb_NoneType_list | exact kb_NoneType_dict)
local macro_rules | `(tactic| walk_at "s") => `(tactic| first
  | dsimp only [Bool.not_true, Bool.not_false]
  )
local macro_rules | `(tactic| walk_at "s") => `(tactic| first
  | with_reducible refine w_m1 ?_
  | with_reducible refine w_isS ?_
  | with_reducible refine w_istr ?_
  | with_reducible refine w_istr' ?_
  | ((with_reducible refine' w_all ?h1 ?_); (case h1 => walk_at "sq"))
  | ((with_reducible refine' w_glst ?h1 ?h2 ?_); (case h1 => walk_at "sq"); (case h2 => exact rfl))
  | with_reducible refine w_callN ?_
  | with_reducible refine w_step ?_
  )
local macro_rules | `(tactic| walk_at "s") => `(tactic| first
  | with_reducible refine w_tryG ?_
  | with_reducible refine w_inS ?_
  | with_reducible refine w_neS ?_
  | with_reducible refine w_ltS ?_
  | with_reducible refine w_gtS ?_
  | ((with_reducible refine' w_augI ?hv ?_); (case hv => exact rfl))
  | ((with_reducible refine w_ipI ?_); dsimp only [List.set_cons_zero, List.set_cons_succ])
  | with_reducible refine w_callD ?_
  )
local macro_rules | `(tactic| walk_at "s") => `(tactic| first
  | with_reducible refine w_keys ?_
  | ((with_reducible refine' w_keys' ?h1 ?_); (case h1 => assumption))
  | ((with_reducible refine' w_dinF ?h1 ?_); (case h1 => assumption))
  | ((with_reducible refine' w_dgetF ?h1 ?h2 ?_); (case h1 => assumption); (case h2 => assumption))
  | ((with_reducible refine' w_any ?h1 ?_); (case h1 => walk_at "sq"))
  | with_reducible refine w_zipA ?_
  | ((with_reducible refine' w_zipT' ?h1 ?h2 ?_); (case h1 => walk_at "sq"); (case h2 => walk_at "sq"))
  | with_reducible refine w_dct ?_
  )
local macro_rules | `(tactic| walk_at "s") => `(tactic| first
  | with_reducible refine w_noPart ?_
  | with_reducible refine w_part ?_
  | with_reducible refine w_part' ?_
  | with_reducible refine w_enum ?_
  | ((with_reducible refine' w_enum' ?h1 ?_); (case h1 => walk_at "sq"))
  | with_reducible refine w_bm0 ?_
  | with_reducible refine w_retN ?_
  | with_reducible refine w_tyes ?_
  )
local macro_rules | `(tactic| walk_at "s") => `(tactic| first
  | ((with_reducible refine' w_trT ?h1 ?_); (case h1 => walk_at "sq"))
  | with_reducible refine w_dc ?_
  | with_reducible refine w_dc2 ?_
  | with_reducible refine w_dget1 ?_
  | ((with_reducible refine' w_dget1I ?h1 ?_); (case h1 => assumption))
  | with_reducible refine w_rev ?_
  | ((with_reducible refine' w_rev' ?h1 ?_); (case h1 => walk_at "sq"))
  | with_reducible refine w_slice ?_
  )
local macro_rules | `(tactic| walk_at "s") => `(tactic| first
  | with_reducible refine w_callS ?_
  | with_reducible refine w_try ?_
  | with_reducible refine w_isB ?_
  | with_reducible refine w_isN ?_
  | with_reducible refine w_notN ?_
  | with_reducible refine w_chain ?_
  | with_reducible refine w_tru ?_
  | ((with_reducible refine' w_trL ?h1 ?_); (case h1 => walk_at "sq"))
  )
local macro_rules | `(tactic| walk_at "s") => `(tactic| first
  | with_reducible refine w_dsetd ?_
  | ((with_reducible refine' w_leT2 ?h1 ?h2 ?_); (case h1 => walk_at "sq"); (case h2 => walk_at "sq"))
  | ((with_reducible refine' w_inT ?h1 ?_); (case h1 => walk_at "sq"))
  | ((with_reducible refine' w_ninT ?h1 ?_); (case h1 => walk_at "sq"))
  | ((with_reducible refine' w_inL ?h1 ?_); (case h1 => walk_at "sq"))
  | ((with_reducible refine' w_ninL ?h1 ?_); (case h1 => walk_at "sq"))
  | with_reducible refine w_pair ?_
  | with_reducible refine w_pnil ?_
  )
local macro_rules | `(tactic| walk_at "s") => `(tactic| first
  | ((with_reducible refine' w_dinI ?h1 ?_); (case h1 => assumption))
  | ((with_reducible refine' w_dnotinI ?h1 ?_); (case h1 => assumption))
  | ((with_reducible refine' w_dgetI ?h1 ?h2 ?_); (case h1 => assumption); (case h2 => assumption))
  | with_reducible refine w_dnewK ?_
  | with_reducible refine w_dput ?_
  | with_reducible refine w_dget2 ?_
  | ((with_reducible refine' w_isD ?h1 ?_); (case h1 => assumption))
  | ((with_reducible refine' w_dget2I ?h1 ?_); (case h1 => assumption))
  )
local macro_rules | `(tactic| walk_at "s") => `(tactic| first
  | with_reducible refine w_eqB ?_
  | ((with_reducible refine' w_sum ?h1 ?_); (case h1 => walk_at "sq"))
  | ((with_reducible refine' w_gtup ?h1 ?h2 ?_); (case h1 => walk_at "sq"); (case h2 => exact rfl))
  | with_reducible refine w_gcons ?_
  | with_reducible refine w_gnil ?_
  | with_reducible refine w_din ?_
  | with_reducible refine w_dnotin ?_
  | with_reducible refine w_dget ?_
  )
local macro_rules | `(tactic| walk_at "s") => `(tactic| first
  | ((with_reducible refine' w_itT' ?h1 ?_); (case h1 => walk_at "sq"))
  | with_reducible refine w_lc ?_
  | ((with_reducible refine' w_isi ?ty ?hk ?_); (case ty => walk_at "ty"); (case hk => walk_at "kb"))
  | with_reducible refine iteT ?_
  | with_reducible refine iteF ?_
  | with_reducible refine w_nT ?_
  | with_reducible refine w_nF ?_
  | with_reducible refine w_eqS ?_
  )
local macro_rules | `(tactic| walk_at "s") => `(tactic| first
  | with_reducible refine w_for ?_
  | with_reducible refine w_rng1 ?_
  | ((with_reducible refine w_rng1' ?h1 ?h2 ?_); (case h1 => omega); (case h2 => omega))
  | with_reducible refine w_rng2 ?_
  | ((with_reducible refine w_rng2' ?h1 ?_); (case h1 => omega))
  | with_reducible refine w_itL ?_
  | ((with_reducible refine' w_itL' ?h1 ?_); (case h1 => walk_at "sq"))
  | with_reducible refine w_itT ?_
  )
local macro_rules | `(tactic| walk_at "s") => `(tactic| first
  | ((with_reducible refine w_sz ?h1 ?_); (case h1 => first | decide | (simp only [List.length_cons, List.length_nil]; decide)))
  | with_reducible refine w_min2 ?_
  | with_reducible refine w_max2 ?_
  | with_reducible refine w_tupRg ?_
  | with_reducible refine w_rg2 ?_
  | with_reducible refine w_rg2' ?_
  | with_reducible refine w_bits ?_
  | with_reducible refine w_bits' ?_
  )
local macro_rules | `(tactic| walk_at "s") => `(tactic| first
  | with_reducible refine w_cons ?_
  | with_reducible refine w_call ?_
  | with_reducible refine w_lst ?_
  | with_reducible refine w_tup ?_
  | with_reducible refine w_bm ?_
  | ((with_reducible refine' w_tyL ?h1 ?_); (case h1 => assumption))
  | ((with_reducible refine' w_lenL ?h1 ?_); (case h1 => walk_at "sq"))
  | ((with_reducible refine' w_lenT ?h1 ?_); (case h1 => walk_at "sq"))
  )
local macro_rules | `(tactic| walk_at "s") => `(tactic| first
  | with_reducible refine w_andV ?_
  | with_reducible refine w_orV ?_
  | with_reducible refine w_notV ?_
  | with_reducible refine w_ret ?_
  | with_reducible refine w_drop ?_
  | with_reducible refine w_next ?_
  | with_reducible refine w_cb ?_
  | with_reducible refine w_nil ?_
  )
local macro_rules | `(tactic| walk_at "s") => `(tactic| first
  | with_reducible refine w_sub ?_
  | with_reducible refine w_if ?_
  | with_reducible refine w_test ?_
  | with_reducible refine w_tb ?_
  | with_reducible refine w_bl ?_
  | with_reducible refine w_and ?_
  | with_reducible refine w_or ?_
  | with_reducible refine w_not ?_
  )
local macro_rules | `(tactic| walk_at "s") => `(tactic| first
  | with_reducible refine w_eqI ?_
  | with_reducible refine w_neI ?_
  | ((with_reducible refine' w_ixL ?h1 ?h2 ?_); (case h1 => walk_at "sq"); (case h2 => walk_at "at"))
  | ((with_reducible refine' w_ixT ?h1 ?h2 ?_); (case h1 => walk_at "sq"); (case h2 => walk_at "at"))
  | ((with_reducible refine' w_ixSL ?h1 ?h2 ?_); (case h1 => walk_at "sq"); (case h2 => walk_at "at"))
  | ((with_reducible refine' w_ixST ?h1 ?h2 ?_); (case h1 => walk_at "sq"); (case h2 => walk_at "at"))
  | with_reducible refine w_neB ?_
  | with_reducible refine w_eqN ?_
  )
local macro_rules | `(tactic| walk_at "s") => `(tactic| first
  | with_reducible refine w_c ?_
  | ((with_reducible refine w_name ?_); dsimp only [List.set_cons_zero, List.set_cons_succ])
  | with_reducible refine w_name ?_
  | with_reducible refine w_op ?_
  | with_reducible refine w_un ?_
  | with_reducible refine w_neg ?_
  | with_reducible refine w_i0 ?_
  | ((with_reducible refine w_i ?hc ?_); (case hc => walk_at "c"))
  )
local macro_rules | `(tactic| walk_at "s") => `(tactic| first
  | with_reducible refine w_seqA ?_
  | with_reducible refine w_seqD ?_
  | with_reducible refine w_seqF ?_
  | with_reducible refine w_seqW ?_
  | with_reducible refine w_seqG ?_
  | with_reducible refine w_seqP ?_
  | with_reducible refine w_asg ?_
  | ((with_reducible refine' w_var ?hv ?_); (case hv => exact rfl))
  )
local macro_rules | `(tactic| walk_at "p") => `(tactic| first | assumption | omega | (simp only [List.length_cons, List.length_nil, List.length_map]; omega) | exact rfl | decide)
local macro_rules | `(tactic| walk_at "d") => `(tactic| first
  | ((with_reducible refine w_yes ?hp ?_); (case hp => walk_at "p"))
  | ((with_reducible refine w_no ?hp ?_); (case hp => walk_at "p"))
  | ((with_reducible refine w_nyes ?hp ?_); (case hp => walk_at "p"))
  | ((with_reducible refine w_nno ?hp ?_); (case hp => walk_at "p")))
local macro_rules | `(tactic| walk_at "g") => `(tactic| repeat walk_at "s")
local macro_rules | `(tactic| walk_at "dg") => `(tactic| (walk_at "d"; repeat walk_at "s"))
local macro_rules | `(tactic| walk_at "x") => `(tactic| ((try dsimp only [cxOf, Cx.nox, Cx.wish]); repeat walk_at "s"))
local macro_rules | `(tactic| walk_at "s") => `(tactic| with_reducible refine w_revT ?_)
local macro_rules | `(tactic| walk_at "s") => `(tactic| first
  | with_reducible refine w_nget ?_
  | with_reducible refine w_nget1 ?_
  | with_reducible refine w_seqNP ?_
  | with_reducible refine w_nput ?_
  | with_reducible refine w_maxD ?_
  )
local macro_rules | `(tactic| walk_at "s") => `(tactic| first
  | with_reducible refine w_fld ?_
  | ((with_reducible refine' w_fld' ?h1 ?h2 ?h3 ?h4 ?_); (case h1 => assumption); (case h2 => assumption); (case h3 => assumption); (case h4 => exact rfl))
  | with_reducible refine w_seqFS ?_
  | with_reducible refine w_fldS ?_
  | with_reducible refine w_meth ?_
  | ((with_reducible refine' w_meth' ?h1 ?h2 ?_); (case h1 => assumption); (case h2 => exact rfl))
  | with_reducible refine w_make ?_
  | with_reducible refine w_nin ?_
  )
local macro_rules | `(tactic| walk_at "s") => `(tactic| first
  | with_reducible refine w_revL ?_
  )
def spDeck (K : PySem.W.Frag) : Sp := fun vs H Q _ => ∃ (a : Addr) (ns : List Int), vs = [.ref a] ∧ SqL K H a (ns.map V.int) ∧
  ∀ H' d c, Same H H' → H d = none → H c = none → Deck H' d c 0 → Q (.ref d) H'
def spMixed : Sp := fun vs H Q _ => ∃ (x t : Int), vs = [.int x, .int t] ∧ 0 ≤ t ∧ t ≤ 2 ^ 41 ∧ ∀ i, Q (.int i) H
def spDraw : Sp := fun vs H Q _ => ∃ (d c : Addr) (n : Nat) (m : Int), vs = [.ref d, .int m] ∧ Deck H d c n ∧ n < MOSTD ∧ 0 < m ∧ m < 2 ^ 64 ∧
  ∀ (i : Nat) H', (i : Int) < m → Deck H' d c (n + 1) → Off d H H' → Q (.int i) H'
theorem w_deck {K : PySem.W.Frag} {H : Hp} {Q : VK} {E : XK} {a : Addr} {ns : List Int} (h1 : SqL K H a (ns.map V.int)) (h : ∀ H' d c, Same H H' → H d = none → H c = none → Deck H' d c 0 → Q (.ref d) H') : spDeck K ([V.ref a] ++ []) H Q E := ⟨a, ns, rfl, h1, h⟩
theorem w_draw {H : Hp} {Q : VK} {E : XK} {d c : Addr} {n : Nat} {m : Int} (D : Deck H d c n) (hn : n < MOSTD) (h0 : 0 < m) (h1 : m < 2 ^ 64) (h : ∀ (i : Nat) H', (i : Int) < m → Deck H' d c (n + 1) → Off d H H' → Q (.int i) H') : spDraw ([V.ref d, V.int m] ++ []) H Q E := ⟨d, c, n, m, rfl, D, hn, h0, h1, h⟩
section
variable {P : Program} {w : World} {K : PySem.W.Frag} {mg : Str → Option Value} {base : Heap}
theorem ok_deck {f : Addr} {fd : FuncData} (T : Txt K mg) (F : Fun K "_law_deck" "_law_deck" s_law_deck f fd) : FnOk P w K mg base CX0 1 f fd ["_law_script"] (spDeck K) := by
  refine F.ok sc_law_deck (fun vs H Q E h => ?_) (fun cdv A outer s H vs Q E hr h => ?_)
  · obtain ⟨a, ns, rfl, _⟩ := h
    rfl
  · obtain ⟨a, ns, rfl, hS, q⟩ := h
    refine ⟨_,
      (pss_one
        (ps_ret (pe_lst (pa_cons (pe_callTy (r := rListOf K) c_listOf (by rfl) T.n_list (by decide +kernel) (pa_cons (pv 0) pa_nil)) (pa_cons pe_int (pa_cons pe_int (pa_cons pe_int pa_nil)))))))
      , ?_⟩
    walk_at "x"
    refine w_listL hS fun c H1 hc e1 k1 => ?_
    walk_at "g"
    refine w_new fun d H2 hd e2 k2 => ?_
    refine q _ d c (Same.trans k1 k2) (k1.free hd) hc ⟨⟨ns, 0, 0, 0, e2, k2 _ _ e1, Nat.le_refl _⟩, ne_of_none e1 hd⟩
theorem ok_mixed {f : Addr} {fd : FuncData} (T : Txt K mg) (F : Fun K "_law_mixed" "_law_mixed" s_law_mixed f fd) : FnOk P w K mg base CX0 1 f fd ["_law_cell", "_law_turn"] spMixed := by
  refine F.ok sc_law_mixed (fun vs H Q E h => ?_) (fun cdv A outer s H vs Q E hr h => ?_)
  · obtain ⟨x, t, rfl, _⟩ := h
    rfl
  · obtain ⟨x, t, rfl, h0, h1, q⟩ := h
    refine ⟨_,
      (pss_one
        (ps_ret (pe_op op_mod (pe_op op_pow (pe_op op_add (pe_op op_add (pe_op op_mod (pv 0) pe_int) (pe_op op_mul (pv 1) pe_int)) pe_int) pe_int) pe_int)))
      , ?_⟩
    have e := Int.emod_lt_of_pos x (show (0 : Int) < 2147483629 by decide)
    have e2 := Int.emod_nonneg x (show (2147483629 : Int) ≠ 0 by decide)
    walk_at "x"
    exact q _
theorem ok_draw {f fM : Addr} {fd fdM : FuncData} (T : Txt K mg) (F : Fun K "_law_draw" "_law_draw" s_law_draw f fd) (D_law_mixed : Df K mg "_law_mixed" s_law_mixed ["_law_cell", "_law_turn"] fM fdM) : FnOk P w K mg base CX0 2 f fd ["_law_deck_here", "_law_many"] spDraw := by
  have G_law_mixed : FnOk P w K mg base CX0 1 fM fdM ["_law_cell", "_law_turn"] spMixed := ok_mixed T D_law_mixed.fn
  refine F.ok sc_law_draw (fun vs H Q E h => ?_) (fun cdv A outer s H vs Q E hr h => ?_)
  · obtain ⟨d, c, n, m, rfl, _⟩ := h
    rfl
  · obtain ⟨d, c, n, m, rfl, ⟨⟨cs, a, b, t, e1, e2, e3⟩, ne⟩, hn, hm, hm2, q⟩ := h
    have hn' : t < 1099511627776 := Nat.lt_of_le_of_lt e3 hn
    refine ⟨_,
      (pss_cons
        (ps_set (i := 2) sc_law_draw.nd rfl (.inl rfl) (pe_ix (r := rIxL K) ix_list (pv 0) pe_int (fun _ _ => rfl)))
      (pss_cons
        (ps_asg (pe_op op_add (pe_ix (r := rIxL K) ix_list (pv 0) pe_int (fun _ _ => rfl)) pe_int) (pg_sub (pv 0) pe_int set_list))
      (pss_cons
        (ps_if (PW.pt (pw_and (pt_cmpR op_eq (pe_ix (r := rIxL K) ix_list (pv 0) pe_int (fun _ _ => rfl)) pe_int (nomark _)) (pw_and1 (pt_cmpR op_lt (pe_ix (r := rIxL K) ix_list (pv 0) pe_int (fun _ _ => rfl)) (pe_callB (r := rLen K) c_len (by rfl) T.n_len (by decide +kernel) (pa_cons (pv 2) pa_nil)) (nomark _)))))
          (pss_cons
            (ps_asg (pe_op op_add (pe_ix (r := rIxL K) ix_list (pv 0) pe_int (fun _ _ => rfl)) pe_int) (pg_sub (pv 0) pe_int set_list))
          (pss_cons
            (ps_if (pt_cmpR op_lt (pe_ix (r := rIxL K) ix_list (pv 2) (pe_op op_sub (pe_ix (r := rIxL K) ix_list (pv 0) pe_int (fun _ _ => rfl)) pe_int) (fun _ _ => rfl)) (pe_op op_pow pe_int pe_int) (nomark _))
              (pss_one
                (ps_ret (pe_op op_mod (pe_call G_law_mixed (hr.mono (by omega)) (by rfl) D_law_mixed.g D_law_mixed.fn.kp D_law_mixed.b .nil pass0 (pa_cons (pe_ix (r := rIxL K) ix_list (pv 2) (pe_op op_sub (pe_ix (r := rIxL K) ix_list (pv 0) pe_int (fun _ _ => rfl)) pe_int) (fun _ _ => rfl)) (pa_cons (pe_ix (r := rIxL K) ix_list (pv 0) pe_int (fun _ _ => rfl)) pa_nil))) (pv 1))))
              pss_nil)
          (pss_one
            (ps_asg (pe_ix (r := rIxL K) ix_list (pv 2) (pe_op op_sub (pe_ix (r := rIxL K) ix_list (pv 0) pe_int (fun _ _ => rfl)) pe_int) (fun _ _ => rfl)) (pg_sub (pv 0) pe_int set_list)))))
          pss_nil)
      (pss_cons
        (ps_if (pt_cmpR op_gt (pe_ix (r := rIxL K) ix_list (pv 0) pe_int (fun _ _ => rfl)) pe_int (nomark _))
          (pss_cons
            (ps_set (i := 3) sc_law_draw.nd rfl (.inl rfl) (pe_op op_mod (pe_ix (r := rIxL K) ix_list (pv 0) pe_int (fun _ _ => rfl)) (pv 1)))
          (pss_cons
            (ps_asg (pe_op op_fdivW (pe_ix (r := rIxL K) ix_list (pv 0) pe_int (fun _ _ => rfl)) (pv 1)) (pg_sub (pv 0) pe_int set_list))
          (pss_one
            (ps_ret (pv 3)))))
          pss_nil)
      (pss_cons
        (ps_set (i := 4) sc_law_draw.nd rfl (.inl rfl) (pe_op op_mul (pe_ix (r := rIxL K) ix_list (pv 0) pe_int (fun _ _ => rfl)) pe_int))
      (pss_cons
        (ps_if (pt_cmpR op_gt (pe_callB (r := rLen K) c_len (by rfl) T.n_len (by decide +kernel) (pa_cons (pv 2) pa_nil)) pe_int (nomark _))
          (pss_one
            (ps_set (i := 4) sc_law_draw.nd rfl (.inl rfl) (pe_op op_add (pv 4) (pe_op op_mod (pe_ix (r := rIxL K) ix_list (pv 2) (pe_op op_mod (pe_op op_mul (pe_ix (r := rIxL K) ix_list (pv 0) pe_int (fun _ _ => rfl)) pe_int) (pe_callB (r := rLen K) c_len (by rfl) T.n_len (by decide +kernel) (pa_cons (pv 2) pa_nil))) (fun _ _ => rfl)) pe_int))))
          pss_nil)
      (pss_one
        (ps_ret (pe_op op_mod (pe_call G_law_mixed (hr.mono (by omega)) (by rfl) D_law_mixed.g D_law_mixed.fn.kp D_law_mixed.b .nil pass0 (pa_cons (pv 4) (pa_cons (pe_ix (r := rIxL K) ix_list (pv 0) pe_int (fun _ _ => rfl)) pa_nil))) (pv 1))))))))))
      , ?_⟩
    rw [show L2.start N_law_draw [V.ref d, V.int m] = [some (.ref d), some (.int m), none, none, none] from rfl]
    -- cells = deck[0]; deck[3] = deck[3] + 1
    walk_at "x"
    refine w_setL e1 rfl rfl fun H1 g0 o0 => ?_
    have fin : ∀ (H' : Hp) (a' : Nat) (b' i : Int), 0 ≤ i → i < m → H' d = some (.lst [.ref c, .int a', .int b', .int (t + 1)]) → Off d H H' → Q (.int i) H' := fun H' a' b' i i0 i1 g1 g2 => by
      have z := q i.toNat H' (by omega) ⟨⟨cs, a', b', t + 1, g1, (g2 c ne).trans e2, by omega⟩, ne⟩ g2
      rw [Int.toNat_of_nonneg i0] at z
      exact z
    have md : ∀ x : Int, 0 ≤ x % m ∧ x % m < m := fun x => ⟨Int.emod_nonneg x (by omega), Int.emod_lt_of_pos x hm⟩
    have g0 : H1 d = some (.lst [.ref c, .int a, .int b, .int ((t : Int) + 1)]) := g0
    have c1 : H1 c = some (.lst (cs.map V.int)) := (o0 c ne).trans e2
    -- if deck[2] == 0 and deck[1] < len(cells): ..
    refine w_seqJ (fun σ' H2 => σ' = [some (.ref d), some (.int m), some (.ref c), none, none] ∧ ∃ (a' : Nat) (b' : Int), H2 d = some (.lst [.ref c, .int a', .int b', .int ((t : Int) + 1)]) ∧ Off d H H2) ?_ ?_
    · rintro σ' H2 ⟨rfl, a', b', g2, o2⟩
      have c2 : H2 c = some (.lst (cs.map V.int)) := (o2 c ne).trans e2
      refine w_seqJ (fun σ' H3 => σ' = [some (.ref d), some (.int m), some (.ref c), none, none] ∧ H3 = H2) ?_ ?_
      · rintro σ' H3 ⟨rfl, rfl⟩
        -- number = deck[3] * 48271; if len(cells) > 0: ..
        walk_at "g"
        refine w_seqJ (fun σ' H4 => (∃ z : Int, σ' = [some (.ref d), some (.int m), some (.ref c), none, some (.int z)]) ∧ H4 = H3) ?_ ?_
        · rintro σ' H4 ⟨⟨z, rfl⟩, rfl⟩
          walk_at "g"
          refine ⟨_, _, rfl, by omega, by omega, fun y => ?_⟩
          walk_at "g"
          exact fin _ a' b' _ (md y).1 (md y).2 g2 o2
        · intro U hU
          walk_at "g"
          refine w_ite (fun hl => ?_) (fun hl => ?_)
          · obtain ⟨v, hv1, hv2⟩ := at_lt (xs := cs.map V.int) (i := ((t : Int) + 1) * 7 % ((cs.map V.int).length : Int)) (Int.emod_nonneg _ (by omega)) (Int.emod_lt_of_pos _ hl)
            rw [List.getElem?_map] at hv1
            obtain ⟨y, _, rfl⟩ := Option.map_eq_some_iff.mp hv1
            walk_at "g"
            exact hU _ _ ⟨⟨_, rfl⟩, rfl⟩
          · exact hU _ _ ⟨⟨_, rfl⟩, rfl⟩
      · intro U hU
        walk_at "g"
        refine w_ite (fun hl => ?_) (fun hl => ?_)
        · walk_at "g"
          refine w_setL g2 rfl rfl fun H9 g9 o9 => ?_
          walk_at "g"
          exact fin _ a' (b' / m) _ (md b').1 (md b').2 g9 (o2.trans o9)
        · exact hU _ _ ⟨rfl, rfl⟩
    · intro U hU
      have no : U [some (.ref d), some (.int m), some (.ref c), none, none] H1 := hU _ _ ⟨rfl, a, b, g0, o0⟩
      walk_at "g"
      refine w_ite (fun hl => ?_) (fun _ => no)
      walk_at "g"
      refine w_ite (fun hl2 => ?_) (fun _ => no)
      obtain ⟨v, hv1, hv2⟩ := at_lt (xs := cs.map V.int) (i := ((a + 1 : Nat) : Int) - 1) (by omega) (by omega)
      rw [List.getElem?_map] at hv1
      obtain ⟨y, _, rfl⟩ := Option.map_eq_some_iff.mp hv1
      walk_at "g"
      refine w_setL g0 rfl rfl fun H2 g2 o2 => ?_
      have g2 : H2 d = some (.lst [.ref c, .int ((a + 1 : Nat) : Int), .int b, .int ((t : Int) + 1)]) := g2
      have o2 : Off d H H2 := o0.trans o2
      have c2 : H2 c = some (.lst (cs.map V.int)) := (o2 c ne).trans e2
      refine w_seq ?_
      walk_at "g"
      refine w_ite (fun hl => ?_) (fun hl => ?_)
      · walk_at "g"
        refine ⟨_, _, rfl, by omega, by omega, fun y => ?_⟩
        walk_at "g"
        exact fin _ (a + 1) b _ (md y).1 (md y).2 g2 o2
      · walk_at "g"
        refine w_setL g2 rfl rfl fun H9 g9 o9 => ?_
        exact hU _ _ ⟨rfl, a + 1, y, g9, o2.trans o9⟩
end
/-! ### _law_same, of data that are the same, kind for kind -/
def Sc : V → Prop
  | .non => True
  | .bl _ => True
  | .int _ => True
  | .str _ => True
  | _ => False
def SD : Nat → Hp → V → V → Prop
  | 0, _, x, y => x = y ∧ Sc x
  | n + 1, H, x, y => (x = y ∧ Sc x) ∨ ∃ p q xs ys, x = .ref p ∧ y = .ref q ∧ ((H p = some (.tup xs) ∧ H q = some (.tup ys)) ∨ (H p = some (.lst xs) ∧ H q = some (.lst ys))) ∧ xs.length = ys.length ∧ xs.length ≤ 100000 ∧
      ∀ (i : Nat) (a b : V), xs[i]? = some a → ys[i]? = some b → SD n H a b
theorem SD.ints {H : Hp} {p q : Addr} {xs : List Int} (h1 : H p = some (.lst (xs.map V.int))) (h2 : H q = some (.lst (xs.map V.int))) (hl : xs.length ≤ 100000) : SD 1 H (.ref p) (.ref q) :=
  Or.inr ⟨p, q, _, _, rfl, rfl, .inr ⟨h1, h2⟩, rfl, by simpa using hl, fun i a b ha hb => by
    rw [ha] at hb
    cases hb
    rw [List.getElem?_map] at ha
    obtain ⟨z, _, rfl⟩ := Option.map_eq_some_iff.mp ha
    exact ⟨rfl, trivial⟩⟩
theorem SD.on {H H' : Hp} (k : Same H H') : ∀ {n : Nat} {x y : V}, SD n H x y → SD n H' x y
  | 0, _, _, h => h
  | n + 1, _, _, h => by
    rcases h with h | ⟨p, q, xs, ys, e1, e2, hk, h1, h2, h3⟩
    · exact .inl h
    · exact .inr ⟨p, q, xs, ys, e1, e2, hk.imp (fun z => ⟨k _ _ z.1, k _ _ z.2⟩) (fun z => ⟨k _ _ z.1, k _ _ z.2⟩), h1, h2, fun i a b ha hb => SD.on k (h3 i a b ha hb)⟩
theorem Ty.kList {H : Hp} {x : V} {a : String} (t : Ty H x a) : kitB a "list" = some (decide (a = "list")) := by
  cases t with
  | non => exact kb_NoneType_list
  | bl b => exact kb_bool_list
  | int i => exact kb_int_list
  | str z => exact kb_str_list
  | lst e => exact kb_list_list
  | tup e => exact kb_tuple_list
  | dK e => exact kb_dict_list
theorem w_isTL {K : PySem.W.Frag} {H : Hp} {Q : VK} {x : V} {a : String} {p : Addr} {b : Bool} (t : Ty H x a) (ep : H p = some (.tup [.ty "tuple", .ty "list"])) (hb : (decide (a = "tuple") || decide (a = "list")) = b) (h : Q (.bl b) H) : rIsiT K [x, .ref p] H Q := by
  refine ⟨x, p, _, .type a, [.type "tuple", .type "list"], b, rfl, ep, .cons (.ty _) (.cons (.ty _) .nil), t.tx, kitAny_cons (kit_ty t.kTup) (fun e1 => kitAny_cons (kit_ty t.kList) (fun e2 => ?_) (fun e2 => ?_)) (fun e1 => ?_), h⟩
  · rw [← hb, e1, e2]
    rfl
  · rw [← hb, e2]
    simp
  · rw [← hb, e1]
    rfl
def spSame (n : Nat) : Sp := fun vs H Q _ => ∃ (x y : V), vs = [x, y] ∧ SD n H x y ∧ ∀ H', Same H H' → Q (.bl true) H'
def spIntI : Sp := fun vs H Q _ => ∃ (x : Int), vs = [.int x] ∧ Q (.bl true) H
section
variable {P : Program} {w : World} {K : PySem.W.Frag} {mg : Str → Option Value} {base : Heap}
theorem ok_int {f : Addr} {fd : FuncData} (T : Txt K mg) (F : Fun K "_law_int" "_law_int" s_law_int f fd) : FnOk P w K mg base CX0 1 f fd ["_law_thing"] spIntI := by
  refine F.ok sc_law_int (fun vs H Q E h => ?_) (fun cdv A outer s H vs Q E hr h => ?_)
  · obtain ⟨x, rfl, _⟩ := h
    rfl
  · obtain ⟨x, rfl, q⟩ := h
    refine ⟨_,
      (pss_one
        (ps_ret (pe_and (pe_callB (r := rIsi K) call_isi (by rfl) T.n_isinstance (by decide +kernel) (pa_cons (pv 0) (pa_cons (pe_bltn (v := .ty "int") (u := .type "int") (by rfl) T.n_int (by decide +kernel) rfl) pa_nil))) (pe_one (pe_not (pe_callB (r := rIsi K) call_isi (by rfl) T.n_isinstance (by decide +kernel) (pa_cons (pv 0) (pa_cons (pe_bltn (v := .ty "bool") (u := .type "bool") (by rfl) T.n_bool (by decide +kernel) rfl) pa_nil))))))))
      , ?_⟩
    walk_at "x"
    exact q
theorem ok_same0 {f fI : Addr} {fd fdI : FuncData} (T : Txt K mg) (D_law_same : Df K mg "_law_same" s_law_same ["_law_found", "_law_due"] f fd) (D_law_int : Df K mg "_law_int" s_law_int ["_law_thing"] fI fdI) : FnOk P w K mg base CX0 2 f fd ["_law_found", "_law_due"] (spSame 0) := by
  have G_law_int : FnOk P w K mg base CX0 1 fI fdI ["_law_thing"] spIntI := ok_int T D_law_int.fn
  refine D_law_same.fn.ok sc_law_same (fun vs H Q E h => ?_) (fun cdv A outer s H vs Q E hr h => ?_)
  · obtain ⟨x, y, rfl, _⟩ := h
    rfl
  · obtain ⟨x, y, rfl, ⟨rfl, hx⟩, q⟩ := h
    refine ⟨_,
      (pss_cons
        (ps_if (pt_val (pe_callB (r := rIsiT K) call_isiT (by rfl) T.n_isinstance (by decide +kernel) (pa_cons (pv 1) (pa_cons (pe_tup (pa_cons (pe_bltn (v := .ty "tuple") (u := .type "tuple") (by rfl) T.n_tuple (by decide +kernel) rfl) (pa_cons (pe_bltn (v := .ty "list") (u := .type "list") (by rfl) T.n_list (by decide +kernel) rfl) pa_nil))) pa_nil))))
          pss_never
          pss_nil)
      (pss_cons
        (ps_if (pt_val (pe_callB (r := rIsi K) call_isi (by rfl) T.n_isinstance (by decide +kernel) (pa_cons (pv 1) (pa_cons (pe_bltn (v := .ty "dict") (u := .type "dict") (by rfl) T.n_dict (by decide +kernel) rfl) pa_nil))))
          (pss_one
            (ps_ret (pe_and (pe_callB (r := rIsi K) call_isi (by rfl) T.n_isinstance (by decide +kernel) (pa_cons (pv 0) (pa_cons (pe_bltn (v := .ty "dict") (u := .type "dict") (by rfl) T.n_dict (by decide +kernel) rfl) pa_nil))) (pe_one (pe_cmpR op_eq (pv 0) (pv 1) (nomark _))))))
          pss_nil)
      (pss_cons
        (ps_if (pt_val (pe_callB (r := rIsi K) call_isi (by rfl) T.n_isinstance (by decide +kernel) (pa_cons (pv 1) (pa_cons (pe_bltn (v := .ty "bool") (u := .type "bool") (by rfl) T.n_bool (by decide +kernel) rfl) pa_nil))))
          (pss_one
            (ps_ret (pe_and (pe_callB (r := rIsi K) call_isi (by rfl) T.n_isinstance (by decide +kernel) (pa_cons (pv 0) (pa_cons (pe_bltn (v := .ty "bool") (u := .type "bool") (by rfl) T.n_bool (by decide +kernel) rfl) pa_nil))) (pe_one (pe_cmpR op_eq (pv 0) (pv 1) (nomark _))))))
          pss_nil)
      (pss_cons
        (ps_if (pt_val (pe_callB (r := rIsi K) call_isi (by rfl) T.n_isinstance (by decide +kernel) (pa_cons (pv 1) (pa_cons (pe_bltn (v := .ty "int") (u := .type "int") (by rfl) T.n_int (by decide +kernel) rfl) pa_nil))))
          (pss_one
            (ps_ret (pe_and (pe_call G_law_int (hr.mono (by omega)) (by rfl) D_law_int.g D_law_int.fn.kp D_law_int.b .nil pass0 (pa_cons (pv 0) pa_nil)) (pe_one (pe_cmpR op_eq (pv 0) (pv 1) (nomark _))))))
          pss_nil)
      (pss_cons
        (ps_if (pt_val (pe_callB (r := rIsi K) call_isi (by rfl) T.n_isinstance (by decide +kernel) (pa_cons (pv 1) (pa_cons (pe_bltn (v := .ty "str") (u := .type "str") (by rfl) T.n_str (by decide +kernel) rfl) pa_nil))))
          (pss_one
            (ps_ret (pe_and (pe_callB (r := rIsi K) call_isi (by rfl) T.n_isinstance (by decide +kernel) (pa_cons (pv 0) (pa_cons (pe_bltn (v := .ty "str") (u := .type "str") (by rfl) T.n_str (by decide +kernel) rfl) pa_nil))) (pe_one (pe_cmpR op_eq (pv 0) (pv 1) (nomark _))))))
          pss_nil)
      (pss_one
        (ps_ret (pe_and (pe_cmpR o_isN (pv 1) pe_non (nomark _)) (pe_one (pe_cmpR o_isN (pv 0) pe_non (nomark _)))))))))))
      , ?_⟩
    rw [show L2.start N_law_same [x, x] = [some x, some x, none] from rfl]
    cases x with
    | non =>
      refine w_seq ?_
      walk_at "x"
      refine w_new fun tp H1 htp etp k1 => ?_
      walk_at "g"
      refine w_isTL (b := false) Ty.non etp (by decide) ?_
      walk_at "g"
      refine w_seq ?_
      walk_at "g"
      refine w_seq ?_
      walk_at "g"
      refine w_seq ?_
      walk_at "g"
      refine w_seq ?_
      walk_at "g"
      refine w_yes rfl ?_
      walk_at "g"
      exact q _ k1
    | bl b =>
      refine w_seq ?_
      walk_at "x"
      refine w_new fun tp H1 htp etp k1 => ?_
      walk_at "g"
      refine w_isTL (b := false) (Ty.bl b) etp (by decide) ?_
      walk_at "g"
      refine w_seq ?_
      walk_at "g"
      refine w_seq ?_
      walk_at "g"
      rw [decide_eq_true rfl]
      exact q _ k1
    | int i =>
      refine w_seq ?_
      walk_at "x"
      refine w_new fun tp H1 htp etp k1 => ?_
      walk_at "g"
      refine w_isTL (b := false) (Ty.int i) etp (by decide) ?_
      walk_at "g"
      refine w_seq ?_
      walk_at "g"
      refine w_seq ?_
      walk_at "g"
      refine w_seq ?_
      walk_at "g"
      refine ⟨i, rfl, ?_⟩
      walk_at "g"
      rw [decide_eq_true rfl]
      exact q _ k1
    | str z =>
      refine w_seq ?_
      walk_at "x"
      refine w_new fun tp H1 htp etp k1 => ?_
      walk_at "g"
      refine w_isTL (b := false) (Ty.str z) etp (by decide) ?_
      walk_at "g"
      refine w_seq ?_
      walk_at "g"
      refine w_seq ?_
      walk_at "g"
      refine w_seq ?_
      walk_at "g"
      refine w_seq ?_
      walk_at "g"
      rw [decide_eq_true rfl]
      exact q _ k1
    | byt _ => exact hx.elim
    | flt _ => exact hx.elim
    | ref _ => exact hx.elim
    | ty _ => exact hx.elim
theorem ok_same {f fI : Addr} {fd fdI : FuncData} (T : Txt K mg) (D_law_same : Df K mg "_law_same" s_law_same ["_law_found", "_law_due"] f fd) (D_law_int : Df K mg "_law_int" s_law_int ["_law_thing"] fI fdI) : ∀ n : Nat, FnOk P w K mg base CX0 (n + 2) f fd ["_law_found", "_law_due"] (spSame n)
  | 0 => ok_same0 T D_law_same D_law_int
  | n + 1 => by
    have G_law_int : FnOk P w K mg base CX0 1 fI fdI ["_law_thing"] spIntI := ok_int T D_law_int.fn
    have G_law_same : FnOk P w K mg base CX0 (n + 2) f fd ["_law_found", "_law_due"] (spSame n) := ok_same T D_law_same D_law_int n
    refine D_law_same.fn.ok sc_law_same (fun vs H Q E h => ?_) (fun cdv A outer s H vs Q E hr h => ?_)
    · obtain ⟨x, y, rfl, _⟩ := h
      rfl
    · obtain ⟨x, y, rfl, hd, q⟩ := h
      have hmono : 1 ≤ n + 1 + 1 := by omega
      refine ⟨_,
      (pss_cons
        (ps_if (pt_val (pe_callB (r := rIsiT K) call_isiT (by rfl) T.n_isinstance (by decide +kernel) (pa_cons (pv 1) (pa_cons (pe_tup (pa_cons (pe_bltn (v := .ty "tuple") (u := .type "tuple") (by rfl) T.n_tuple (by decide +kernel) rfl) (pa_cons (pe_bltn (v := .ty "list") (u := .type "list") (by rfl) T.n_list (by decide +kernel) rfl) pa_nil))) pa_nil))))
          (pss_cons
            (ps_if (PW.pt (pw_or (pt_cmpR op_ne (pe_callB (r := rIsi K) call_isi (by rfl) T.n_isinstance (by decide +kernel) (pa_cons (pv 1) (pa_cons (pe_bltn (v := .ty "tuple") (u := .type "tuple") (by rfl) T.n_tuple (by decide +kernel) rfl) pa_nil))) (pe_callB (r := rIsi K) call_isi (by rfl) T.n_isinstance (by decide +kernel) (pa_cons (pv 0) (pa_cons (pe_bltn (v := .ty "tuple") (u := .type "tuple") (by rfl) T.n_tuple (by decide +kernel) rfl) pa_nil))) (nomark _)) (pw_or1 (pt_cmpR op_ne (pe_callB (r := rIsi K) call_isi (by rfl) T.n_isinstance (by decide +kernel) (pa_cons (pv 1) (pa_cons (pe_bltn (v := .ty "list") (u := .type "list") (by rfl) T.n_list (by decide +kernel) rfl) pa_nil))) (pe_callB (r := rIsi K) call_isi (by rfl) T.n_isinstance (by decide +kernel) (pa_cons (pv 0) (pa_cons (pe_bltn (v := .ty "list") (u := .type "list") (by rfl) T.n_list (by decide +kernel) rfl) pa_nil))) (nomark _)))))
              (pss_one
                (ps_ret pe_bl))
              pss_nil)
          (pss_cons
            (ps_if (pt_cmpR op_ne (pe_callB (r := rLen K) c_len (by rfl) T.n_len (by decide +kernel) (pa_cons (pv 0) pa_nil)) (pe_callB (r := rLen K) c_len (by rfl) T.n_len (by decide +kernel) (pa_cons (pv 1) pa_nil)) (nomark _))
              (pss_one
                (ps_ret pe_bl))
              pss_nil)
          (pss_cons
            (ps_for PassesOwn.never rfl (pi_range1 (by rfl) T.n_range (pa_cons (pe_callB (r := rLen K) c_len (by rfl) T.n_len (by decide +kernel) (pa_cons (pv 1) pa_nil)) pa_nil)) (pg_name (i := 2) sc_law_same.nd rfl (.inl rfl))
              (pss_one
                (ps_if (pt_not (pt_val (pe_call G_law_same (hr.mono (by omega)) (by rfl) D_law_same.g D_law_same.fn.kp D_law_same.b .nil pass0 (pa_cons (pe_ix (r := rIx K) ix_seq (pv 0) (pv 2) (fun _ _ => rfl)) (pa_cons (pe_ix (r := rIx K) ix_seq (pv 1) (pv 2) (fun _ _ => rfl)) pa_nil)))))
                  (pss_one
                    (ps_ret pe_bl))
                  pss_nil)))
          (pss_one
            (ps_ret pe_bl)))))
          pss_nil)
      (pss_cons
        (ps_if (pt_val (pe_callB (r := rIsi K) call_isi (by rfl) T.n_isinstance (by decide +kernel) (pa_cons (pv 1) (pa_cons (pe_bltn (v := .ty "dict") (u := .type "dict") (by rfl) T.n_dict (by decide +kernel) rfl) pa_nil))))
          (pss_one
            (ps_ret (pe_and (pe_callB (r := rIsi K) call_isi (by rfl) T.n_isinstance (by decide +kernel) (pa_cons (pv 0) (pa_cons (pe_bltn (v := .ty "dict") (u := .type "dict") (by rfl) T.n_dict (by decide +kernel) rfl) pa_nil))) (pe_one (pe_cmpR op_eq (pv 0) (pv 1) (nomark _))))))
          pss_nil)
      (pss_cons
        (ps_if (pt_val (pe_callB (r := rIsi K) call_isi (by rfl) T.n_isinstance (by decide +kernel) (pa_cons (pv 1) (pa_cons (pe_bltn (v := .ty "bool") (u := .type "bool") (by rfl) T.n_bool (by decide +kernel) rfl) pa_nil))))
          (pss_one
            (ps_ret (pe_and (pe_callB (r := rIsi K) call_isi (by rfl) T.n_isinstance (by decide +kernel) (pa_cons (pv 0) (pa_cons (pe_bltn (v := .ty "bool") (u := .type "bool") (by rfl) T.n_bool (by decide +kernel) rfl) pa_nil))) (pe_one (pe_cmpR op_eq (pv 0) (pv 1) (nomark _))))))
          pss_nil)
      (pss_cons
        (ps_if (pt_val (pe_callB (r := rIsi K) call_isi (by rfl) T.n_isinstance (by decide +kernel) (pa_cons (pv 1) (pa_cons (pe_bltn (v := .ty "int") (u := .type "int") (by rfl) T.n_int (by decide +kernel) rfl) pa_nil))))
          (pss_one
            (ps_ret (pe_and (pe_call G_law_int (hr.mono (by omega)) (by rfl) D_law_int.g D_law_int.fn.kp D_law_int.b .nil pass0 (pa_cons (pv 0) pa_nil)) (pe_one (pe_cmpR op_eq (pv 0) (pv 1) (nomark _))))))
          pss_nil)
      (pss_cons
        (ps_if (pt_val (pe_callB (r := rIsi K) call_isi (by rfl) T.n_isinstance (by decide +kernel) (pa_cons (pv 1) (pa_cons (pe_bltn (v := .ty "str") (u := .type "str") (by rfl) T.n_str (by decide +kernel) rfl) pa_nil))))
          (pss_one
            (ps_ret (pe_and (pe_callB (r := rIsi K) call_isi (by rfl) T.n_isinstance (by decide +kernel) (pa_cons (pv 0) (pa_cons (pe_bltn (v := .ty "str") (u := .type "str") (by rfl) T.n_str (by decide +kernel) rfl) pa_nil))) (pe_one (pe_cmpR op_eq (pv 0) (pv 1) (nomark _))))))
          pss_nil)
      (pss_one
        (ps_ret (pe_and (pe_cmpR o_isN (pv 1) pe_non (nomark _)) (pe_one (pe_cmpR o_isN (pv 0) pe_non (nomark _)))))))))))
        , ?_⟩
      rw [show L2.start N_law_same [x, y] = [some x, some y, none] from rfl]
      rcases hd with ⟨rfl, hx⟩ | ⟨p, r, xs, ys, rfl, rfl, hk, hlen, hle, hd⟩
      · cases x with
        | non =>
          refine w_seq ?_
          walk_at "x"
          refine w_new fun tp H1 htp etp k1 => ?_
          walk_at "g"
          refine w_isTL (b := false) Ty.non etp (by decide) ?_
          walk_at "g"
          refine w_seq ?_
          walk_at "g"
          refine w_seq ?_
          walk_at "g"
          refine w_seq ?_
          walk_at "g"
          refine w_seq ?_
          walk_at "g"
          refine w_yes rfl ?_
          walk_at "g"
          exact q _ k1
        | bl b =>
          refine w_seq ?_
          walk_at "x"
          refine w_new fun tp H1 htp etp k1 => ?_
          walk_at "g"
          refine w_isTL (b := false) (Ty.bl b) etp (by decide) ?_
          walk_at "g"
          refine w_seq ?_
          walk_at "g"
          refine w_seq ?_
          walk_at "g"
          rw [decide_eq_true rfl]
          exact q _ k1
        | int i =>
          refine w_seq ?_
          walk_at "x"
          refine w_new fun tp H1 htp etp k1 => ?_
          walk_at "g"
          refine w_isTL (b := false) (Ty.int i) etp (by decide) ?_
          walk_at "g"
          refine w_seq ?_
          walk_at "g"
          refine w_seq ?_
          walk_at "g"
          refine w_seq ?_
          walk_at "g"
          refine ⟨i, rfl, ?_⟩
          walk_at "g"
          rw [decide_eq_true rfl]
          exact q _ k1
        | str z =>
          refine w_seq ?_
          walk_at "x"
          refine w_new fun tp H1 htp etp k1 => ?_
          walk_at "g"
          refine w_isTL (b := false) (Ty.str z) etp (by decide) ?_
          walk_at "g"
          refine w_seq ?_
          walk_at "g"
          refine w_seq ?_
          walk_at "g"
          refine w_seq ?_
          walk_at "g"
          refine w_seq ?_
          walk_at "g"
          rw [decide_eq_true rfl]
          exact q _ k1
        | byt _ => exact hx.elim
        | flt _ => exact hx.elim
        | ref _ => exact hx.elim
        | ty _ => exact hx.elim
      · have turn : ∀ (i : Nat), i < ys.length → ∃ a b, atI xs (0 + (i : Int)) = some a ∧ atI ys (0 + (i : Int)) = some b ∧ SD n H a b := fun i hi => by
          have h1 : xs[i]? = some xs[i] := List.getElem?_eq_getElem (by omega)
          have h2 : ys[i]? = some ys[i] := List.getElem?_eq_getElem hi
          rw [show 0 + (i : Int) = (i : Int) by omega]
          exact ⟨_, _, atI_nat h1, atI_nat h2, hd i _ _ h1 h2⟩
        rcases hk with ⟨h1, h2⟩ | ⟨h1, h2⟩
        · refine w_seq ?_
          walk_at "x"
          refine w_new fun tp H1 htp etp k1 => ?_
          have h1' := k1 _ _ h1
          have h2' := k1 _ _ h2
          walk_at "g"
          refine w_isTL (b := true) (Ty.tup h2') etp (by decide) ?_
          walk_at "g"
          refine w_seq ?_
          walk_at "g"
          walk_at "dg"
          walk_at "dg"
          refine w_seq ?_
          walk_at "g"
          walk_at "dg"
          refine lp_range (fun i σ H' => Same H1 H' ∧ ∃ y2, σ = [some (.ref p), some (.ref r), y2]) ⟨fun _ _ z => z, _, rfl⟩ ?_ ?_
          · rintro i σ H' hi ⟨k2, y2, rfl⟩
            obtain ⟨a, b, ha, hb, hab⟩ := turn i (by omega)
            have h1'' := k2 _ _ h1'
            have h2'' := k2 _ _ h2'
            walk_at "g"
            refine ⟨a, b, rfl, (hab.on k1).on k2, fun H3 k3 => ?_⟩
            walk_at "g"
            exact ⟨Same.trans k2 k3, _, rfl⟩
          · rintro σ H' ⟨k2, y2, rfl⟩
            walk_at "g"
            exact q _ (Same.trans k1 k2)
        · refine w_seq ?_
          walk_at "x"
          refine w_new fun tp H1 htp etp k1 => ?_
          have h1' := k1 _ _ h1
          have h2' := k1 _ _ h2
          walk_at "g"
          refine w_isTL (b := true) (Ty.lst h2') etp (by decide) ?_
          walk_at "g"
          refine w_seq ?_
          walk_at "g"
          walk_at "dg"
          walk_at "dg"
          refine w_seq ?_
          walk_at "g"
          walk_at "dg"
          refine lp_range (fun i σ H' => Same H1 H' ∧ ∃ y2, σ = [some (.ref p), some (.ref r), y2]) ⟨fun _ _ z => z, _, rfl⟩ ?_ ?_
          · rintro i σ H' hi ⟨k2, y2, rfl⟩
            obtain ⟨a, b, ha, hb, hab⟩ := turn i (by omega)
            have h1'' := k2 _ _ h1'
            have h2'' := k2 _ _ h2'
            walk_at "g"
            refine ⟨a, b, rfl, (hab.on k1).on k2, fun H3 k3 => ?_⟩
            walk_at "g"
            exact ⟨Same.trans k2 k3, _, rfl⟩
          · rintro σ H' ⟨k2, y2, rfl⟩
            walk_at "g"
            exact q _ (Same.trans k1 k2)
end
/-! ### pieces and scripts -/
theorem map_at {α : Type} {f : α → V} {xs : List α} {i : Nat} {v : V} (h : (xs.map f)[i]? = some v) : ∃ x, xs[i]? = some x ∧ v = f x := by
  rw [List.getElem?_map] at h
  obtain ⟨y, h1, h2⟩ := Option.map_eq_some_iff.mp h
  exact ⟨y, h1, h2.symm⟩
theorem le_sum : ∀ {l : List Nat} {x : Nat}, x ∈ l → x ≤ l.sum
  | [], x, h => by cases h
  | y :: l, x, h => by
    rw [List.sum_cons]
    rcases List.mem_cons.mp h with rfl | h
    · omega
    · have := le_sum h
      omega
abbrev SG : Str := Str.ofString " !\"#$&'()*+,-./0123456789:;<=>?@ABCDEFGHIJKLMNOPQRSTUVWXYZ[\\]^_`abcdefghijklmnopqrstuvwxyz{|}~"
def LineOk (z : Str) : Prop := z.length ≤ 40 ∧ ∀ c ∈ z.cps.toList, c ∈ SG.cps.toList
inductive Pc where
  | take (b m : Nat)
  | put (ls : List Str)
def Pc.size : Pc → Nat
  | .take _ m => m
  | .put ls => ls.length
def Pc.make (base : List Str) : Pc → List Str
  | .take b m => (base.drop b).take m
  | .put ls => ls
def Pc.fits (n : Nat) : Pc → Prop
  | .take b m => b + m ≤ n
  | .put _ => True
def Pc.ok : Pc → Prop
  | .take _ m => 1 ≤ m
  | .put ls => ls ≠ [] ∧ ∀ z ∈ ls, LineOk z
def Pc.cost (t p : Int) : Pc → Int
  | .take _ _ => t
  | .put ls => p * (ls.length : Int)
theorem Pc.ok.pos {p : Pc} (h : p.ok) : 1 ≤ p.size := by
  cases p with
  | take b m => exact h
  | put ls =>
    have := List.length_pos_iff.mpr h.1
    exact this
def sizes (ps : List Pc) : Nat := (ps.map Pc.size).sum
def makes (base : List Str) (ps : List Pc) : List Str := (ps.map (Pc.make base)).flatten
def costs (t p : Int) (ps : List Pc) : Int := (ps.map (Pc.cost t p)).sum
theorem sizes_ge : ∀ {ps : List Pc}, (∀ p ∈ ps, p.ok) → ps.length ≤ sizes ps
  | [], _ => by simp [sizes]
  | p :: ps, h => by
    have h1 := (h p (by simp)).pos
    have h2 := sizes_ge (ps := ps) fun q hq => h q (by simp [hq])
    unfold sizes at *
    simp only [List.map_cons, List.sum_cons, List.length_cons]
    omega
def RwAt (H : Hp) (a : Addr) (ls : List Str) : Prop := H a = some (.tup (ls.map V.str))
def PcAt (H : Hp) (a : Addr) : Pc → Prop
  | .take b m => H a = some (.tup [.str "take", .int (b : Int), .int (m : Int)])
  | .put ls => ∃ r, H a = some (.tup [.str "put", .ref r]) ∧ RwAt H r ls
theorem PcAt.kt {H H' : Hp} {a : Addr} {p : Pc} (h : PcAt H a p) (k : KT H H') : PcAt H' a p := by
  cases p with
  | take b m => exact k _ _ h
  | put ls =>
    obtain ⟨r, h1, h2⟩ := h
    exact ⟨r, k _ _ h1, k _ _ h2⟩
structure ScAt (H : Hp) (s : Addr) (ps : List (Addr × Pc)) : Prop where
  at' : H s = some (.tup (ps.map fun q => .ref q.1))
  pc : ∀ q ∈ ps, PcAt H q.1 q.2
theorem ScAt.kt {H H' : Hp} {s : Addr} {ps : List (Addr × Pc)} (h : ScAt H s ps) (k : KT H H') : ScAt H' s ps := ⟨k _ _ h.at', fun q hq => (h.pc q hq).kt k⟩
structure ScOk (ps : List Pc) : Prop where
  ok : ∀ p ∈ ps, p.ok
  few : sizes ps ≤ 40
/-- data whose texts are not too long -/
inductive DatT (B : Nat) (H : Hp) : V → Prop where
  | leaf {x : V} {a : String} (t : Ty H x a) (h : a ≠ "tuple") (z : ∀ z, x = .str z → z.length ≤ B) : DatT B H x
  | tup {p : Addr} {xs : List V} (e : H p = some (.tup xs)) (l : xs.length ≤ B) (h : ∀ y ∈ xs, DatT B H y) : DatT B H (.ref p)
theorem DatT.ty {B : Nat} {H : Hp} {x : V} (h : DatT B H x) : ∃ a, Ty H x a := by
  cases h with
  | leaf t _ _ => exact ⟨_, t⟩
  | tup e _ _ => exact ⟨_, .tup e⟩
theorem DatT.len {B : Nat} {H : Hp} {z : Str} (h : DatT B H (.str z)) : z.length ≤ B := by
  cases h with
  | leaf _ _ hz => exact hz z rfl
theorem DatT.kd {B : Nat} {H H' : Hp} {x : V} (h : DatT B H x) (k : KD H H') : DatT B H' x := by
  induction h with
  | leaf t h z => exact .leaf (t.kd k) h z
  | tup e l _ ih => exact .tup (k.t _ _ e) l fun y hy => ih y hy
theorem DatT.cases {B : Nat} {H : Hp} {x : V} (h : DatT B H x) : (∃ a, Ty H x a ∧ a ≠ "tuple") ∨ ∃ (p : Addr) (xs : List V), x = .ref p ∧ H p = some (.tup xs) ∧ xs.length ≤ B ∧ ∀ y ∈ xs, DatT B H y := by
  cases h with
  | leaf t h _ => exact .inl ⟨_, t, h⟩
  | tup e l h => exact .inr ⟨_, _, rfl, e, l, h⟩
theorem DatT.elem {B : Nat} {H : Hp} {a : Addr} {xs : List V} (d : DatT B H (.ref a)) (e : H a = some (.tup xs)) : xs.length ≤ B ∧ ∀ y ∈ xs, DatT B H y := by
  rcases d.cases with ⟨s, t, hne⟩ | ⟨p, ys, e1, e2, h⟩
  · exact absurd (t.ofTup e) hne
  · cases e1
    rw [e] at e2
    cases e2
    exact h
theorem DatT.strs {B : Nat} {H : Hp} {a : Addr} {ls : List Str} (h : RwAt H a ls) (hl : ls.length ≤ B) (hz : ∀ z ∈ ls, z.length ≤ B) : DatT B H (.ref a) := .tup h (by rw [List.length_map]; exact hl) fun y hy => by
  obtain ⟨z, hz', rfl⟩ := List.mem_map.mp hy
  exact .leaf (.str z) (by decide) fun z' e => by cases e; exact hz z hz'
theorem PcAt.dat {B : Nat} {H : Hp} {a : Addr} {p : Pc} (h : PcAt H a p) (hB : 4 ≤ B) (hs : p.size ≤ B) (hz : ∀ ls, p = .put ls → ∀ z ∈ ls, z.length ≤ B) : DatT B H (.ref a) := by
  cases p with
  | take b m =>
    refine .tup h (by simp only [List.length_cons, List.length_nil]; omega) fun y hy => ?_
    have hy' : y = .str "take" ∨ y = .int (b : Int) ∨ y = .int (m : Int) := by simpa using hy
    rcases hy' with rfl | rfl | rfl
    · exact .leaf (.str _) (by decide) fun z e => by cases e; exact Nat.le_trans (show (Str.ofString "take").length ≤ 4 by decide) hB
    · exact .leaf (.int _) (by decide) fun z e => by cases e
    · exact .leaf (.int _) (by decide) fun z e => by cases e
  | put ls =>
    obtain ⟨r, h1, h2⟩ := h
    refine .tup h1 (by simp only [List.length_cons, List.length_nil]; omega) fun y hy => ?_
    have hy' : y = .str "put" ∨ y = .ref r := by simpa using hy
    rcases hy' with rfl | rfl
    · exact .leaf (.str _) (by decide) fun z e => by cases e; exact Nat.le_trans (show (Str.ofString "put").length ≤ 4 by decide) hB
    · exact DatT.strs h2 hs (hz ls rfl)
theorem ScAt.dat {B : Nat} {H : Hp} {s : Addr} {ps : List (Addr × Pc)} (h : ScAt H s ps) (k : ScOk (ps.map (·.2))) (hB : 40 ≤ B) : DatT B H (.ref s) := by
  have hl := sizes_ge k.ok
  have hf := k.few
  rw [List.length_map] at hl
  refine .tup h.at' (by rw [List.length_map]; omega) fun y hy => ?_
  obtain ⟨q, hq, rfl⟩ := List.mem_map.mp hy
  have hqm : q.2 ∈ ps.map (·.2) := List.mem_map_of_mem hq
  have hsz : q.2.size ≤ sizes (ps.map (·.2)) := by
    unfold sizes
    exact le_sum (List.mem_map_of_mem hqm)
  refine (h.pc q hq).dat (by omega) (by omega) fun ls e z hz => ?_
  have := k.ok _ hqm
  rw [e] at this
  have := (this.2 z hz).1
  omega
/-- a piece, as a thing of any kind -/
def PcV (H : Hp) (x : V) (p : Pc) : Prop := ∃ a, x = .ref a ∧ PcAt H a p ∧ p.ok
def ScV (H : Hp) (x : V) (ps : List (Addr × Pc)) : Prop := ∃ s, x = .ref s ∧ ScAt H s ps ∧ ScOk (ps.map (·.2))
def spIsInt : Sp := fun vs H Q _ => ∃ (x : V) (a : String), vs = [x, .int 0] ∧ Ty H x a ∧ (∀ n : Nat, x = .int (n : Int) → Q (.bl true) H) ∧ ((∀ n : Nat, x ≠ .int (n : Int)) → Q (.bl false) H)
def spIsText : Sp := fun vs H Q _ => ∃ (x : V) (B : Nat), vs = [x, .int 40] ∧ DatT B H x ∧ B ≤ 1000000 ∧ (∀ z, x = .str z → LineOk z → ∀ H', Same H H' → Q (.bl true) H') ∧ ((∀ z, x = .str z → ¬ LineOk z) → ∀ H', Same H H' → Q (.bl false) H')
def spMadeBy : Sp := fun vs H Q _ => ∃ (x : V) (B : Nat), vs = [x] ∧ DatT B H x ∧ B ≤ 1000000 ∧ (∀ p, PcV H x p → ∀ H', Same H H' → Q (.int (p.size : Int)) H') ∧ ((∀ p, ¬ PcV H x p) → ∀ H', Same H H' → Q (.int 0) H')
def spIsScript : Sp := fun vs H Q _ => ∃ (x : V) (B : Nat), vs = [x] ∧ DatT B H x ∧ B ≤ 1000000 ∧ (∀ ps, ScV H x ps → ∀ H', Same H H' → Q (.bl true) H') ∧ ((∀ ps, ¬ ScV H x ps) → ∀ H', Same H H' → Q (.bl false) H')
theorem ln_size {B : Nat} (h : B ≤ 1000000) {n : Nat} (h2 : n ≤ B) : n ≤ sizeLine := Nat.le_trans (Nat.le_trans h2 h) (by decide)
theorem Ty.kStr {H : Hp} {x : V} {a : String} (t : Ty H x a) : kitB a "str" = some (decide (a = "str")) := by
  cases t with
  | non => exact kb_NoneType_str
  | bl b => exact kb_bool_str
  | int i => exact kb_int_str
  | str z => exact kb_str_str
  | lst e => exact kb_list_str
  | tup e => exact kb_tuple_str
  | dK e => exact kb_dict_str
theorem w_isStr {K : PySem.W.Frag} {H : Hp} {Q : VK} {x : V} {a : String} (t : Ty H x a) (h : Q (.bl (decide (a = "str"))) H) : rIsi K [x, .ty "str"] H Q := w_isi t.tx t.kStr h
theorem Ty.isStr {H : Hp} {x : V} {a : String} (t : Ty H x a) (e : a = "str") : ∃ z, x = .str z := by
  cases t with
  | str z => exact ⟨z, rfl⟩
  | non => exact absurd e (by decide)
  | bl _ => exact absurd e (by decide)
  | tup _ => exact absurd e (by decide)
  | int _ => exact absurd e (by decide)
  | lst _ => exact absurd e (by decide)
  | dK _ => exact absurd e (by decide)
theorem Ty.ofStr {H : Hp} {z : Str} {a : String} (t : Ty H (.str z) a) : a = "str" := by
  cases t with
  | str i => rfl
section
variable {P : Program} {w : World} {K : PySem.W.Frag} {mg : Str → Option Value} {base : Heap}
theorem ok_isint {f : Addr} {fd : FuncData} (T : Txt K mg) (D : DfD K mg "is_int" s_is_int ["thing", "least"] [.int 0] f fd) : FnOk P w K mg base CX0 1 f fd ["thing", "least"] spIsInt := by
  refine okD D.fn sc_is_int (fun vs H Q E h => ?_) (fun cdv A outer s H vs Q E hr h => ?_)
  · obtain ⟨x, a, rfl, _⟩ := h
    rfl
  · obtain ⟨x, a, rfl, t, q1, q2⟩ := h
    refine ⟨_,
      (pss_one
        (ps_ret (pe_and (pe_callB (r := rIsi K) call_isi (by rfl) T.n_isinstance (by decide +kernel) (pa_cons (pv 0) (pa_cons (pe_bltn (v := .ty "int") (u := .type "int") (by rfl) T.n_int (by decide +kernel) rfl) pa_nil))) (pe_and (pe_not (pe_callB (r := rIsi K) call_isi (by rfl) T.n_isinstance (by decide +kernel) (pa_cons (pv 0) (pa_cons (pe_bltn (v := .ty "bool") (u := .type "bool") (by rfl) T.n_bool (by decide +kernel) rfl) pa_nil)))) (pe_one (pe_cmpR op_ge (pv 0) (pv 1) (nomark _)))))))
      , ?_⟩
    rw [show L2.start N_is_int [x, V.int 0] = [some x, some (.int 0)] from rfl]
    walk_at "x"
    refine w_isInt t ?_
    walk_at "g"
    refine w_itB (fun hb => ?_) (fun hb => ?_)
    · walk_at "g"
      refine w_isBool t ?_
      walk_at "g"
      refine w_itN (fun hn => ?_) (fun hn => ?_)
      · rw [decide_eq_false hn, Bool.or_false, decide_eq_true_iff] at hb
        obtain ⟨i, rfl⟩ := t.isInt hb
        walk_at "g"
        by_cases h : i ≥ 0
        · rw [decide_eq_true h]
          exact q1 i.toNat (by rw [Int.toNat_of_nonneg h])
        · rw [decide_eq_false h]
          exact q2 fun n e => by cases e; exact h (by omega)
      · exact q2 fun n e => by
          subst e
          rw [t.ofInt] at hn
          exact absurd hn (by decide)
    · exact q2 fun n e => by
        subst e
        rw [t.ofInt] at hb
        exact absurd hb (by decide)
theorem ok_istext {f : Addr} {fd : FuncData} (T : Txt K mg) (D : DfD K mg "is_text" s_is_text ["thing", "most"] [.int 40] f fd) : FnOk P w K mg base CX0 1 f fd ["thing", "most"] spIsText := by
  obtain ⟨tk_SIGNS, g_SIGNS⟩ := T.g_SIGNS
  refine okD D.fn sc_is_text (fun vs H Q E h => ?_) (fun cdv A outer s H vs Q E hr h => ?_)
  · obtain ⟨x, B, rfl, _⟩ := h
    rfl
  · obtain ⟨x, B, rfl, hd, hB, q1, q2⟩ := h
    obtain ⟨a, t⟩ := hd.ty
    refine ⟨_,
      (pss_one
        (ps_ret (pe_and (pe_callB (r := rIsi K) call_isi (by rfl) T.n_isinstance (by decide +kernel) (pa_cons (pv 0) (pa_cons (pe_bltn (v := .ty "str") (u := .type "str") (by rfl) T.n_str (by decide +kernel) rfl) pa_nil))) (pe_and (pe_cmpR op_le (pe_callB c_lenS (by rfl) T.n_len (by decide +kernel) (pa_cons (pv 0) pa_nil)) (pv 1) (nomark _)) (pe_one (pe_callB (r := rAll K) (cr_all rfl) (by rfl) T.n_all (by decide +kernel) (pa_cons (pe_lc (own := [("sign", 2)]) (g := (gName 2)) rfl sc_is_text.nd (pi_str (pv 0)) (blkOk_by (own := [("sign", 2)]) (N := N_is_text) (sc := defScope s_is_text) (by decide +kernel)) (fun _ _ _ _ _ => (pg_name (i := 2) sc_is_text.nd rfl (.inl rfl))) (fun _ _ _ _ _ => pts_nil) (fun _ _ _ _ _ => (pe_cmpR o_inS (pv 2) (pe_glob (v := .str " !\"#$&'()*+,-./0123456789:;<=>?@ABCDEFGHIJKLMNOPQRSTUVWXYZ[\\]^_`abcdefghijklmnopqrstuvwxyz{|}~") rfl g_SIGNS ⟨_, rfl⟩) rfl))) pa_nil)))))))
      , ?_⟩
    rw [show L2.start N_is_text [x, V.int 40] = [some x, some (.int 40), none] from rfl]
    walk_at "x"
    refine w_isStr t ?_
    walk_at "g"
    refine w_ite (fun hs => ?_) (fun hs => ?_)
    rotate_left
    · exact q2 (fun z e => by subst e; exact absurd t.ofStr hs) H (fun _ _ z => z)
    obtain ⟨z, rfl⟩ := t.isStr hs
    have hzl := hd.len
    walk_at "g"
    refine w_lenS (ln_size hB hzl) ?_
    walk_at "g"
    refine w_ite (fun h40 => ?_) (fun h40 => ?_)
    rotate_left
    · exact q2 (fun z' e hl => by cases e; exact h40 (by have := hl.1; omega)) H (fun _ _ z => z)
    walk_at "g"
    refine lcp_map (walk_str z) [] ((z.cps.toList.map fun c => decide (c ∈ SG.cps.toList)).map V.bl) (by simp) (by show z.length ≤ 1000000; omega) (fun _ _ => trivial) ?_ (by simp) ?_
    · rintro i x H1 H2 R hi k1 ⟨rfl, c, hc, rfl⟩ hR
      refine w_name ⟨rfl, ?_⟩
      walk_at "g"
      refine hR _ _ ?_ Kp.refl
      rw [List.getElem?_map, List.getElem?_map, Array.getElem?_toList, hc]
      rfl
    · intro L H1 hL k1 eL
      walk_at "g"
      have hk := k1.same
      by_cases h : ∀ c ∈ z.cps.toList, c ∈ SG.cps.toList
      · have e : (z.cps.toList.map fun c => decide (c ∈ SG.cps.toList)).all id = true := by
          rw [List.all_eq_true]
          intro b hb
          obtain ⟨c, hc, rfl⟩ := List.mem_map.mp hb
          exact decide_eq_true (h c hc)
        rw [e]
        exact q1 z rfl ⟨by omega, h⟩ _ hk
      · have e : (z.cps.toList.map fun c => decide (c ∈ SG.cps.toList)).all id = false := by
          rw [Bool.eq_false_iff]
          intro hall
          rw [List.all_eq_true] at hall
          exact h fun c hc => of_decide_eq_true (hall _ (List.mem_map_of_mem (f := fun c => decide (c ∈ SG.cps.toList)) hc))
        rw [e]
        exact q2 (fun z' e' hl => by cases e'; exact h hl.2) _ hk
end
/-! ### contents and books -/
inductive Ct where
  | leaf (rows : List Str)
  | tree (es : List (Str × Nat))
  | ver (ps : List Nat) (root stamp : Nat)
abbrev nV (n : Nat) : V := .int (n : Int)
def CtAt (H : Hp) (a : Addr) : Ct → Prop
  | .leaf rows => ∃ r, H a = some (.tup [.str "leaf", .ref r]) ∧ RwAt H r rows
  | .tree es => ∃ (r : Addr) (qs : List (Addr × Str × Nat)), H a = some (.tup [.str "tree", .ref r]) ∧ H r = some (.tup (qs.map fun q => .ref q.1)) ∧ qs.map (·.2) = es ∧ ∀ q ∈ qs, H q.1 = some (.tup [.str q.2.1, nV q.2.2])
  | .ver ps root stamp => ∃ r, H a = some (.tup [.str "version", .ref r, nV root, nV stamp]) ∧ H r = some (.tup (ps.map nV))
theorem CtAt.kt {H H' : Hp} {a : Addr} {c : Ct} (h : CtAt H a c) (k : KT H H') : CtAt H' a c := by
  cases c with
  | leaf rows =>
    obtain ⟨r, h1, h2⟩ := h
    exact ⟨r, k _ _ h1, k _ _ h2⟩
  | tree es =>
    obtain ⟨r, qs, h1, h2, h3, h4⟩ := h
    exact ⟨r, qs, k _ _ h1, k _ _ h2, h3, fun q hq => k _ _ (h4 q hq)⟩
  | ver ps root stamp =>
    obtain ⟨r, h1, h2⟩ := h
    exact ⟨r, k _ _ h1, k _ _ h2⟩
def Ct.word : Ct → Str
  | .leaf _ => "leaf"
  | .tree _ => "tree"
  | .ver _ _ _ => "version"
def Ct.key : Ct → NestedKey
  | .leaf rows => .tup [.text "leaf", .tup (rows.map .text)]
  | .tree es => .tup [.text "tree", .tup (es.map fun e => .tup [.text e.1, .num (e.2 : Int)])]
  | .ver ps root stamp => .tup [.text "version", .tup (ps.map fun n : Nat => .num (n : Int)), .num (root : Int), .num (stamp : Int)]
theorem nall_strs {H : Hp} : ∀ rows : List Str, NAll H (rows.map .text) (rows.map V.str)
  | [] => .nil
  | z :: r => .cons (.str z) (nall_strs r)
theorem nall_nats {H : Hp} : ∀ ns : List Nat, NAll H (ns.map fun n : Nat => .num (n : Int)) (ns.map nV)
  | [] => .nil
  | z :: r => .cons (.int _) (nall_nats r)
theorem nall_ents {H : Hp} : ∀ qs : List (Addr × Str × Nat), (∀ q ∈ qs, H q.1 = some (.tup [.str q.2.1, nV q.2.2])) → NAll H ((qs.map (·.2)).map fun e => .tup [.text e.1, .num (e.2 : Int)]) (qs.map fun q => .ref q.1)
  | [], _ => .nil
  | q :: r, h => .cons (.tup (h q (by simp)) (.cons (.str _) (.cons (.int _) .nil))) (nall_ents r fun z hz => h z (by simp [hz]))
theorem CtAt.nk {H : Hp} {a : Addr} {c : Ct} (h : CtAt H a c) : NAt H c.key (.ref a) := by
  cases c with
  | leaf rows =>
    obtain ⟨r, h1, h2⟩ := h
    exact .tup h1 (.cons (.str _) (.cons (.tup h2 (nall_strs rows)) .nil))
  | tree es =>
    obtain ⟨r, qs, h1, h2, rfl, h4⟩ := h
    exact .tup h1 (.cons (.str _) (.cons (.tup h2 (nall_ents qs h4)) .nil))
  | ver ps root stamp =>
    obtain ⟨r, h1, h2⟩ := h
    exact .tup h1 (.cons (.str _) (.cons (.tup h2 (nall_nats ps)) (.cons (.int _) (.cons (.int _) .nil))))
theorem da_texts : ∀ rows : List Str, NestedKey.depthAll (rows.map .text) = 0
  | [] => rfl
  | z :: r => by rw [List.map_cons, NestedKey.depthAll, da_texts r]; rfl
theorem da_nats : ∀ ns : List Nat, NestedKey.depthAll (ns.map fun n : Nat => .num (n : Int)) = 0
  | [] => rfl
  | z :: r => by rw [List.map_cons, NestedKey.depthAll, da_nats r]; rfl
theorem da_ents : ∀ es : List (Str × Nat), NestedKey.depthAll (es.map fun e => .tup [.text e.1, .num (e.2 : Int)]) ≤ 1
  | [] => Nat.zero_le _
  | z :: r => by
    rw [List.map_cons, NestedKey.depthAll]
    have := da_ents r
    have e : NestedKey.depth (.tup [.text z.1, .num (z.2 : Int)]) = 1 := rfl
    rw [e]
    omega
theorem Ct.key_depth (c : Ct) : c.key.depth ≤ 8 := by
  cases c with
  | leaf rows =>
    show NestedKey.depthAll [.text "leaf", .tup (rows.map .text)] + 1 ≤ 8
    simp only [NestedKey.depthAll, NestedKey.depth, da_texts]
    decide
  | tree es =>
    show NestedKey.depthAll [.text "tree", .tup (es.map fun e => .tup [.text e.1, .num (e.2 : Int)])] + 1 ≤ 8
    have := da_ents es
    simp only [NestedKey.depthAll, NestedKey.depth]
    omega
  | ver ps root stamp =>
    show NestedKey.depthAll [.text "version", .tup (ps.map fun n : Nat => .num (n : Int)), .num (root : Int), .num (stamp : Int)] + 1 ≤ 8
    simp only [NestedKey.depthAll, NestedKey.depth, da_nats]
    decide
theorem text_inj : ∀ {xs ys : List Str}, xs.map NestedKey.text = ys.map NestedKey.text → xs = ys
  | [], [], _ => rfl
  | [], _ :: _, h => by simp at h
  | _ :: _, [], h => by simp at h
  | x :: xs, y :: ys, h => by
    rw [List.map_cons, List.map_cons, List.cons.injEq] at h
    injection h.1 with e
    rw [e, text_inj h.2]
theorem num_inj : ∀ {xs ys : List Nat}, (xs.map fun n : Nat => NestedKey.num (n : Int)) = (ys.map fun n : Nat => NestedKey.num (n : Int)) → xs = ys
  | [], [], _ => rfl
  | [], _ :: _, h => by simp at h
  | _ :: _, [], h => by simp at h
  | x :: xs, y :: ys, h => by
    rw [List.map_cons, List.map_cons, List.cons.injEq] at h
    injection h.1 with e
    rw [show x = y by omega, num_inj h.2]
theorem ent_inj : ∀ {xs ys : List (Str × Nat)}, (xs.map fun e => NestedKey.tup [.text e.1, .num (e.2 : Int)]) = (ys.map fun e => NestedKey.tup [.text e.1, .num (e.2 : Int)]) → xs = ys
  | [], [], _ => rfl
  | [], _ :: _, h => by simp at h
  | _ :: _, [], h => by simp at h
  | x :: xs, y :: ys, h => by
    rw [List.map_cons, List.map_cons, List.cons.injEq] at h
    injection h.1 with e
    have e1 := (List.cons.inj e).1
    have e2 := (List.cons.inj (List.cons.inj e).2).1
    injection e1 with e1
    injection e2 with e2
    rw [show x = y from Prod.ext e1 (by omega), ent_inj h.2]
theorem lit_ne1 : ¬ ((Str.ofString "leaf") = "tree") := by decide +kernel
theorem lit_ne2 : ¬ ((Str.ofString "leaf") = "version") := by decide +kernel
theorem lit_ne3 : ¬ ((Str.ofString "tree") = "version") := by decide +kernel
theorem lit_ne4 : ¬ ((Str.ofString "tree") = "leaf") := by decide +kernel
theorem lit_ne5 : ¬ ((Str.ofString "version") = "leaf") := by decide +kernel
theorem lit_ne6 : ¬ ((Str.ofString "version") = "tree") := by decide +kernel
theorem Ct.key_inj {c d : Ct} (h : c.key = d.key) : c = d := by
  cases c with
  | leaf rows =>
    cases d with
    | leaf rows' =>
      injection h with h
      have := (List.cons.inj (List.cons.inj h).2).1
      injection this with this
      rw [text_inj this]
    | tree es =>
      injection h with h
      have := (List.cons.inj h).1
      injection this with this
      exact absurd this lit_ne1
    | ver ps r s =>
      injection h with h
      have := (List.cons.inj h).1
      injection this with this
      exact absurd this lit_ne2
  | tree es =>
    cases d with
    | leaf rows' =>
      injection h with h
      have := (List.cons.inj h).1
      injection this with this
      exact absurd this lit_ne4
    | tree es' =>
      injection h with h
      have := (List.cons.inj (List.cons.inj h).2).1
      injection this with this
      rw [ent_inj this]
    | ver ps r s =>
      injection h with h
      have := (List.cons.inj h).1
      injection this with this
      exact absurd this lit_ne3
  | ver ps r s =>
    cases d with
    | leaf rows' =>
      injection h with h
      have := (List.cons.inj h).1
      injection this with this
      exact absurd this lit_ne5
    | tree es' =>
      injection h with h
      have := (List.cons.inj h).1
      injection this with this
      exact absurd this lit_ne6
    | ver ps' r' s' =>
      injection h with h
      have h1 := (List.cons.inj (List.cons.inj h).2).1
      have h2 := (List.cons.inj (List.cons.inj (List.cons.inj h).2).2).1
      have h3 := (List.cons.inj (List.cons.inj (List.cons.inj (List.cons.inj h).2).2).2).1
      injection h1 with h1
      injection h2 with h2
      injection h3 with h3
      rw [num_inj h1, show r = r' by omega, show s = s' by omega]
def entsF : Nat → List (Addr × Ct) → List NEnt
  | _, [] => []
  | i, q :: r => (q.2.key, q.1, nV i) :: entsF (i + 1) r
theorem entsF_len : ∀ (cs : List (Addr × Ct)) (i : Nat), (entsF i cs).length = cs.length
  | [], _ => rfl
  | q :: r, i => by show (entsF (i + 1) r).length + 1 = _; rw [entsF_len r]; rfl
theorem entsF_snoc (a : Addr) (c : Ct) : ∀ (cs : List (Addr × Ct)) (i : Nat), entsF i (cs ++ [(a, c)]) = entsF i cs ++ [(c.key, a, nV (i + cs.length))]
  | [], i => rfl
  | q :: r, i => by
    show (q.2.key, q.1, nV i) :: entsF (i + 1) (r ++ [(a, c)]) = (q.2.key, q.1, nV i) :: (entsF (i + 1) r ++ _)
    rw [entsF_snoc a c r (i + 1), List.length_cons, show i + 1 + r.length = i + (r.length + 1) by omega]
theorem ents_none {c : Ct} : ∀ (cs : List (Addr × Ct)) (i : Nat), (∀ q ∈ cs, q.2 ≠ c) → NVal (entsF i cs) c.key = none
  | [], _, _ => rfl
  | q :: r, i, h => by
    have hne : ¬ q.2.key = c.key := fun e => h q (by simp) (Ct.key_inj e)
    show NVal ((q.2.key, q.1, nV i) :: entsF (i + 1) r) c.key = none
    have : NVal ((q.2.key, q.1, nV i) :: entsF (i + 1) r) c.key = NVal (entsF (i + 1) r) c.key := by simp [NVal, List.find?_cons, hne]
    rw [this]
    exact ents_none r (i + 1) fun z hz => h z (by simp [hz])
theorem ents_some {c : Ct} {a : Addr} : ∀ (cs : List (Addr × Ct)) (i j : Nat), (cs.map (·.2)).Nodup → cs[j]? = some (a, c) → NVal (entsF i cs) c.key = some (nV (i + j))
  | [], _, _, _, h => by simp at h
  | q :: r, i, 0, _, h => by
    have e : q = (a, c) := by simpa using h
    subst e
    show NVal ((c.key, a, nV i) :: entsF (i + 1) r) c.key = some (nV (i + 0))
    simp [NVal, List.find?_cons]
  | q :: r, i, j + 1, nd, h => by
    rw [List.map_cons, List.nodup_cons] at nd
    have hr : r[j]? = some (a, c) := by simpa using h
    have hne : ¬ q.2.key = c.key := fun e => nd.1 (by rw [Ct.key_inj e]; exact List.mem_map.mpr ⟨(a, c), List.mem_of_getElem? hr, rfl⟩)
    show NVal ((q.2.key, q.1, nV i) :: entsF (i + 1) r) c.key = _
    have : NVal ((q.2.key, q.1, nV i) :: entsF (i + 1) r) c.key = NVal (entsF (i + 1) r) c.key := by simp [NVal, List.find?_cons, hne]
    rw [this, ents_some r (i + 1) j nd.2 hr, show i + 1 + j = i + (j + 1) by omega]
def depOf (ds : List Nat) : Ct → Nat
  | .tree es => 1 + (es.map fun e => ds.getD e.2 0).foldl max 0
  | _ => 0
def LabOk (z : Str) : Prop := 1 ≤ z.length ∧ z.length ≤ 8 ∧ ∀ c ∈ z.cps.toList, c ∈ (Str.ofString "abcdefghijklmnopqrstuvwxyz").cps.toList
/-- a good content behind those of cs -/
def CtOk (cs : List Ct) (ds : List Nat) : Ct → Prop
  | .leaf rows => rows.length ≤ 40 ∧ ∀ z ∈ rows, LineOk z
  | .tree es => es.length ≤ 20 ∧ (∀ e ∈ es, LabOk e.1 ∧ ∃ c, cs[e.2]? = some c ∧ c.word ≠ "version") ∧ es.Pairwise (fun x y => x.1.cps.toList < y.1.cps.toList) ∧ depOf ds (.tree es) ≤ 8
  | .ver ps root stamp => ps.Pairwise (· < ·) ∧ ps.length ≤ 4 ∧ (∀ p ∈ ps, ∃ c, cs[p]? = some c ∧ c.word = "version") ∧ (∃ c, cs[root]? = some c ∧ c.word = "tree") ∧ stamp ≤ 10 ^ 18
structure BookAt (P : Program) (w : World) (C : Addr) (H : Hp) (p dx lc ld lg : Addr) (cs : List (Addr × Ct)) (ds : List Nat) : Prop where
  ob : H p = some (.ins C dx [("contents", .ref lc), ("depths", .ref ld), ("given", .ref lg)])
  co : H lc = some (.lst (cs.map fun q => .ref q.1))
  de : H ld = some (.lst (ds.map nV))
  gi : NDict P w H lg (entsF 0 cs)
  ct : ∀ q ∈ cs, CtAt H q.1 q.2
  nd : (cs.map (·.2)).Nodup
  dl : ds.length = cs.length
  ne : lc ≠ ld
  few : cs.length ≤ 400
theorem BookAt.kp {P : Program} {w : World} {C : Addr} {M : List Addr} {H H' : Hp} {p dx lc ld lg : Addr} {cs : List (Addr × Ct)} {ds : List Nat} (B : BookAt P w C H p dx lc ld lg cs ds) (k : Kp M H H') (t : KT H H') (h1 : p ∉ M) (h2 : lc ∉ M) (h3 : ld ∉ M) (h4 : lg ∉ M) : BookAt P w C H' p dx lc ld lg cs ds :=
  ⟨k _ _ h1 B.ob, k _ _ h2 B.co, k _ _ h3 B.de, B.gi.kp k t h4, fun q hq => (B.ct q hq).kt t, B.nd, B.dl, B.ne, B.few⟩
theorem BookAt.same {P : Program} {w : World} {C : Addr} {H H' : Hp} {p dx lc ld lg : Addr} {cs : List (Addr × Ct)} {ds : List Nat} (B : BookAt P w C H p dx lc ld lg cs ds) (k : Same H H') : BookAt P w C H' p dx lc ld lg cs ds :=
  B.kp (M := []) (Kp.of k) (KT.of k) (by simp) (by simp) (by simp) (by simp)
def spIsLabel : Sp := fun vs H Q _ => ∃ z : Str, vs = [.str z] ∧ LabOk z ∧ ∀ H', Same H H' → Q (.bl true) H'
def spRiseT : Sp := fun vs H Q _ => ∃ (r : Addr) (ns : List Nat), vs = [.ref r] ∧ H r = some (.tup (ns.map nV)) ∧ ns.length ≤ 1000 ∧ (ns.Pairwise (· < ·) → ∀ H', Same H H' → Q (.bl true) H') ∧ (¬ ns.Pairwise (· < ·) → ∀ H', Same H H' → Q (.bl false) H')
def spRiseS : Sp := fun vs H Q _ => ∃ (r : Addr) (zs : List Str), vs = [.ref r] ∧ H r = some (.lst (zs.map V.str)) ∧ zs.length ≤ 1000 ∧ zs.Pairwise (fun x y => x.cps.toList < y.cps.toList) ∧ ∀ H', Same H H' → Q (.bl true) H'
def NatsV (H : Hp) (x : V) (ns : List Nat) : Prop := ∃ a, x = .ref a ∧ H a = some (.tup (ns.map nV))
def spAreInts : Sp := fun vs H Q _ => ∃ (x : V) (B : Nat), vs = [x] ∧ DatT B H x ∧ B ≤ 1000 ∧ (∀ ns, NatsV H x ns → ∀ H', Same H H' → Q (.bl true) H') ∧ ((∀ ns, ¬ NatsV H x ns) → ∀ H', Same H H' → Q (.bl false) H')
def spRisingInts : Sp := fun vs H Q _ => ∃ (x : V) (B : Nat), vs = [x] ∧ DatT B H x ∧ B ≤ 1000 ∧ (∀ ns, NatsV H x ns → ns.Pairwise (· < ·) → ∀ H', Same H H' → Q (.bl true) H') ∧ ((∀ ns, NatsV H x ns → ¬ ns.Pairwise (· < ·)) → ∀ H', Same H H' → Q (.bl false) H')
def spAreRows : Sp := fun vs H Q _ => ∃ (r : Addr) (rows : List Str), vs = [.ref r] ∧ RwAt H r rows ∧ rows.length ≤ 40 ∧ (∀ z ∈ rows, LineOk z) ∧ ∀ H', Same H H' → Q (.bl true) H'
theorem nV_inj : ∀ {xs ys : List Nat}, xs.map nV = ys.map nV → xs = ys
  | [], [], _ => rfl
  | [], _ :: _, h => by simp at h
  | _ :: _, [], h => by simp at h
  | x :: xs, y :: ys, h => by
    rw [List.map_cons, List.map_cons, List.cons.injEq] at h
    have e : (x : Int) = y := V.int.inj h.1
    rw [show x = y by omega, nV_inj h.2]
theorem nats_of : ∀ {ys : List V}, (∀ y ∈ ys, ∃ n : Nat, y = nV n) → ∃ ns : List Nat, ys = ns.map nV
  | [], _ => ⟨[], rfl⟩
  | y :: ys, h => by
    obtain ⟨n, rfl⟩ := h y (by simp)
    obtain ⟨ns, rfl⟩ := nats_of (ys := ys) fun z hz => h z (by simp [hz])
    exact ⟨n :: ns, rfl⟩
theorem bls_of {C : Nat → Bool → Prop} {vs : List V} (h : ∀ (i : Nat) (y : V), vs[i]? = some y → ∃ b : Bool, y = .bl b ∧ C i b) : ∃ bs : List Bool, vs = bs.map V.bl ∧ ∀ (i : Nat) (b : Bool), bs[i]? = some b → C i b := by
  induction vs generalizing C with
  | nil => exact ⟨[], rfl, by simp⟩
  | cons v vs ih =>
    obtain ⟨b, rfl, hb⟩ := h 0 v rfl
    obtain ⟨bs, rfl, hbs⟩ := ih (C := fun i => C (i + 1)) fun i y hy => h (i + 1) y (by simpa using hy)
    refine ⟨b :: bs, rfl, fun i b' hb' => ?_⟩
    cases i with
    | zero =>
      have : b = b' := by simpa using hb'
      subst this
      exact hb
    | succ i => exact hbs i b' (by simpa using hb')
theorem pw_adj {α : Type} {R : α → α → Prop} (tr : ∀ a b c, R a b → R b c → R a c) : ∀ {l : List α}, (∀ (i : Nat) (x y : α), l[i]? = some x → l[i + 1]? = some y → R x y) → l.Pairwise R
  | [], _ => .nil
  | [x], _ => List.pairwise_singleton _ _
  | x :: y :: r, h => by
    have ih := pw_adj tr (l := y :: r) fun i a b ha hb => h (i + 1) a b (by simpa using ha) (by simpa using hb)
    refine List.pairwise_cons.mpr ⟨fun z hz => ?_, ih⟩
    have h0 := h 0 x y rfl rfl
    rcases List.mem_cons.mp hz with rfl | hz
    · exact h0
    · exact tr _ _ _ h0 ((List.pairwise_cons.mp ih).1 z hz)
theorem adj_pw {α : Type} {R : α → α → Prop} {l : List α} (h : l.Pairwise R) {i : Nat} {x y : α} (hx : l[i]? = some x) (hy : l[i + 1]? = some y) : R x y := by
  obtain ⟨h1, e1⟩ := List.getElem?_eq_some_iff.mp hx
  obtain ⟨h2, e2⟩ := List.getElem?_eq_some_iff.mp hy
  have := List.pairwise_iff_getElem.mp h i (i + 1) h1 h2 (by omega)
  rw [e1, e2] at this
  exact this
theorem nV_at {ns : List Nat} {i : Nat} (h : i < ns.length) : (ns.map nV)[i]? = some (nV (ns[i])) := by rw [List.getElem?_map, List.getElem?_eq_getElem h]; rfl
section
variable {P : Program} {w : World} {K : PySem.W.Frag} {mg : Str → Option Value} {base : Heap}
theorem ok_islabel {f : Addr} {fd : FuncData} (T : Txt K mg) (F : Fun K "is_label" "is_label" s_is_label f fd) : FnOk P w K mg base CX0 1 f fd ["thing"] spIsLabel := by
  obtain ⟨tk_LETTERS, g_LETTERS⟩ := T.g_LETTERS
  refine F.ok sc_is_label (fun vs H Q E h => ?_) (fun cdv A outer s H vs Q E hr h => ?_)
  · obtain ⟨z, rfl, _⟩ := h
    rfl
  · obtain ⟨z, rfl, ⟨l1, l8, hz⟩, q⟩ := h
    refine ⟨_,
      (pss_one
        (ps_ret (pe_and (pe_callB (r := rIsi K) call_isi (by rfl) T.n_isinstance (by decide +kernel) (pa_cons (pv 0) (pa_cons (pe_bltn (v := .ty "str") (u := .type "str") (by rfl) T.n_str (by decide +kernel) rfl) pa_nil))) (pe_and (pe_chain op_le op_le pe_int (pe_callB c_lenS (by rfl) T.n_len (by decide +kernel) (pa_cons (pv 0) pa_nil)) pe_int) (pe_one (pe_callB (r := rAll K) (cr_all rfl) (by rfl) T.n_all (by decide +kernel) (pa_cons (pe_lc (own := [("sign", 1)]) (g := (gName 1)) rfl sc_is_label.nd (pi_str (pv 0)) (blkOk_by (own := [("sign", 1)]) (N := N_is_label) (sc := defScope s_is_label) (by decide +kernel)) (fun _ _ _ _ _ => (pg_name (i := 1) sc_is_label.nd rfl (.inl rfl))) (fun _ _ _ _ _ => pts_nil) (fun _ _ _ _ _ => (pe_cmpR o_inS (pv 1) (pe_glob (v := .str "abcdefghijklmnopqrstuvwxyz") rfl g_LETTERS ⟨_, rfl⟩) rfl))) pa_nil)))))))
      , ?_⟩
    rw [show L2.start N_is_label [V.str z] = [some (.str z), none] from rfl]
    walk_at "x"
    refine w_lenS (Nat.le_trans l8 (by decide)) ?_
    walk_at "g"
    refine w_yes (by omega) ?_
    walk_at "g"
    refine w_yes (by omega) ?_
    walk_at "g"
    refine lcp_map (walk_str z) [] ((z.cps.toList.map fun c => true).map V.bl) (by simp) (by show z.length ≤ 1000000; omega) (fun _ _ => trivial) ?_ (by simp) ?_
    · rintro i x H1 H2 R hi k1 ⟨rfl, c, hc, rfl⟩ hR
      have hc' : z.cps.toList[i]? = some c := by rw [Array.getElem?_toList]; exact hc
      refine w_name ⟨rfl, ?_⟩
      walk_at "g"
      refine hR _ _ ?_ Kp.refl
      rw [List.getElem?_map, List.getElem?_map, hc', decide_eq_true (hz c (List.mem_of_getElem? hc'))]
      rfl
    · intro L H1 hL k1 eL
      walk_at "g"
      rw [show (z.cps.toList.map fun c => true).all id = true by simp]
      exact q _ k1.same
theorem ok_riseT {f : Addr} {fd : FuncData} (T : Txt K mg) (F : Fun K "rise" "rise" s_rise f fd) : FnOk P w K mg base CX0 1 f fd ["row"] spRiseT := by
  refine F.ok sc_rise (fun vs H Q E h => ?_) (fun cdv A outer s H vs Q E hr h => ?_)
  · obtain ⟨r, ns, rfl, _⟩ := h
    rfl
  · obtain ⟨r, ns, rfl, hr', hl, q1, q2⟩ := h
    refine ⟨_,
      (pss_one
        (ps_ret (pe_callB (r := rAll K) (cr_all rfl) (by rfl) T.n_all (by decide +kernel) (pa_cons (pe_lc (own := [("k", 1)]) (g := (gName 1)) rfl sc_rise.nd (pi_range2 (by rfl) T.n_range (pa_cons pe_int (pa_cons (pe_callB (r := rLen K) c_len (by rfl) T.n_len (by decide +kernel) (pa_cons (pv 0) pa_nil)) pa_nil))) (blkOk_by (own := [("k", 1)]) (N := N_rise) (sc := defScope s_rise) (by decide +kernel)) (fun _ _ _ _ _ => (pg_name (i := 1) sc_rise.nd rfl (.inl rfl))) (fun _ _ _ _ _ => pts_nil) (fun _ _ _ _ _ => (pe_cmpR op_lt (pe_ix (r := rIxT K) ix_tup (pv 0) (pe_op op_sub (pv 1) pe_int) (fun _ _ => rfl)) (pe_ix (r := rIxT K) ix_tup (pv 0) (pv 1) (fun _ _ => rfl)) (nomark _)))) pa_nil))))
      , ?_⟩
    rw [show L2.start N_rise [V.ref r] = [some (.ref r), none] from rfl]
    walk_at "x"
    try refine w_rng2' (by simp only [List.length_map]; omega) ?_
    refine lcp_map (walk_range (lo := 1) (n := ((((ns.map nV).length : Nat) : Int) - 1).toNat)) [] (((List.range (ns.length - 1)).map fun i => decide (ns.getD i 0 < ns.getD (i + 1) 0)).map V.bl) (by simp only [List.length_map, List.length_range]; omega) (by simp only [List.length_map]; omega) (fun _ _ => trivial) ?_ (by simp) ?_
    · rintro i x H1 H2 R hi k1 ⟨rfl, rfl⟩ hR
      have hi' : i + 1 < ns.length := by
        simp only [List.length_map] at hi
        omega
      have hr1 := k1.same _ _ hr'
      have at1 : atI (ns.map nV) (1 + (i : Int) - 1) = some (.int ((ns.getD i 0 : Nat) : Int)) := by
        rw [show (1 : Int) + (i : Int) - 1 = ((i : Nat) : Int) by omega]
        refine atI_nat ?_
        rw [nV_at (by omega), List.getD_eq_getElem?_getD, List.getElem?_eq_getElem (by omega)]
        rfl
      have at2 : atI (ns.map nV) (1 + (i : Int)) = some (.int ((ns.getD (i + 1) 0 : Nat) : Int)) := by
        rw [show (1 : Int) + (i : Int) = ((i + 1 : Nat) : Int) by omega]
        refine atI_nat ?_
        rw [nV_at hi', List.getD_eq_getElem?_getD, List.getElem?_eq_getElem hi']
        rfl
      refine w_name ⟨rfl, ?_⟩
      walk_at "g"
      refine hR _ _ ?_ Kp.refl
      rw [List.getElem?_map, List.getElem?_map, List.getElem?_range (by omega)]
      show some (V.bl (decide (ns.getD i 0 < ns.getD (i + 1) 0))) = some (V.bl (decide (((ns.getD i 0 : Nat) : Int) < ((ns.getD (i + 1) 0 : Nat) : Int))))
      congr 2
      rw [Bool.eq_iff_iff, decide_eq_true_iff, decide_eq_true_iff]
      omega
    · intro L H1 hL k1 eL
      walk_at "g"
      have gd : ∀ {i : Nat} {x : Nat}, ns[i]? = some x → ns.getD i 0 = x := fun {i x} h => by rw [List.getD_eq_getElem?_getD, h]; rfl
      by_cases h : ns.Pairwise (· < ·)
      · have e : ((List.range (ns.length - 1)).map fun i => decide (ns.getD i 0 < ns.getD (i + 1) 0)).all id = true := by
          rw [List.all_eq_true]
          intro b hb
          obtain ⟨i, hi, rfl⟩ := List.mem_map.mp hb
          rw [List.mem_range] at hi
          refine decide_eq_true ?_
          have h1 := List.getElem?_eq_getElem (show i < ns.length by omega)
          have h2 := List.getElem?_eq_getElem (show i + 1 < ns.length by omega)
          rw [gd h1, gd h2]
          exact adj_pw h h1 h2
        rw [e]
        exact q1 h _ k1.same
      · have e : ((List.range (ns.length - 1)).map fun i => decide (ns.getD i 0 < ns.getD (i + 1) 0)).all id = false := by
          rw [Bool.eq_false_iff]
          intro hall
          rw [List.all_eq_true] at hall
          refine h (pw_adj (R := (· < ·)) (fun a b c h1 h2 => Nat.lt_trans h1 h2) fun i x y hx hy => ?_)
          have hi : i < ns.length - 1 := by have := (List.getElem?_eq_some_iff.mp hy).1; omega
          have := of_decide_eq_true (hall _ (List.mem_map.mpr ⟨i, List.mem_range.mpr hi, rfl⟩))
          rwa [gd hx, gd hy] at this
        rw [e]
        exact q2 h _ k1.same
theorem ok_riseS {f : Addr} {fd : FuncData} (T : Txt K mg) (F : Fun K "rise" "rise" s_rise f fd) : FnOk P w K mg base CX0 1 f fd ["row"] spRiseS := by
  refine F.ok sc_rise (fun vs H Q E h => ?_) (fun cdv A outer s H vs Q E hr h => ?_)
  · obtain ⟨r, zs, rfl, _⟩ := h
    rfl
  · obtain ⟨r, zs, rfl, hr', hl, hp, q⟩ := h
    refine ⟨_,
      (pss_one
        (ps_ret (pe_callB (r := rAll K) (cr_all rfl) (by rfl) T.n_all (by decide +kernel) (pa_cons (pe_lc (own := [("k", 1)]) (g := (gName 1)) rfl sc_rise.nd (pi_range2 (by rfl) T.n_range (pa_cons pe_int (pa_cons (pe_callB (r := rLen K) c_len (by rfl) T.n_len (by decide +kernel) (pa_cons (pv 0) pa_nil)) pa_nil))) (blkOk_by (own := [("k", 1)]) (N := N_rise) (sc := defScope s_rise) (by decide +kernel)) (fun _ _ _ _ _ => (pg_name (i := 1) sc_rise.nd rfl (.inl rfl))) (fun _ _ _ _ _ => pts_nil) (fun _ _ _ _ _ => (pe_cmpR o_ltS (pe_ix (r := rIxL K) ix_list (pv 0) (pe_op op_sub (pv 1) pe_int) (fun _ _ => rfl)) (pe_ix (r := rIxL K) ix_list (pv 0) (pv 1) (fun _ _ => rfl)) (nomark _)))) pa_nil))))
      , ?_⟩
    rw [show L2.start N_rise [V.ref r] = [some (.ref r), none] from rfl]
    walk_at "x"
    try refine w_rng2' (by simp only [List.length_map]; omega) ?_
    refine lcp_map (walk_range (lo := 1) (n := ((((zs.map V.str).length : Nat) : Int) - 1).toNat)) [] (((List.range (zs.length - 1)).map fun i => true).map V.bl) (by simp only [List.length_map, List.length_range]; omega) (by simp only [List.length_map]; omega) (fun _ _ => trivial) ?_ (by simp) ?_
    · rintro i x H1 H2 R hi k1 ⟨rfl, rfl⟩ hR
      have hi' : i + 1 < zs.length := by
        simp only [List.length_map] at hi
        omega
      have hr1 := k1.same _ _ hr'
      have g1 := List.getElem?_eq_getElem (show i < zs.length by omega)
      have g2 := List.getElem?_eq_getElem hi'
      have at1 : atI (zs.map V.str) (1 + (i : Int) - 1) = some (.str zs[i]) := by
        rw [show (1 : Int) + (i : Int) - 1 = ((i : Nat) : Int) by omega]
        exact atI_nat (by rw [List.getElem?_map, g1]; rfl)
      have at2 : atI (zs.map V.str) (1 + (i : Int)) = some (.str zs[i + 1]) := by
        rw [show (1 : Int) + (i : Int) = ((i + 1 : Nat) : Int) by omega]
        exact atI_nat (by rw [List.getElem?_map, g2]; rfl)
      refine w_name ⟨rfl, ?_⟩
      walk_at "g"
      refine hR _ _ ?_ Kp.refl
      rw [List.getElem?_map, List.getElem?_map, List.getElem?_range (by omega), decide_eq_true (adj_pw hp g1 g2)]
      rfl
    · intro L H1 hL k1 eL
      walk_at "g"
      rw [show ((List.range (zs.length - 1)).map fun i => true).all id = true by simp]
      exact q _ k1.same
theorem ok_areints {f fI : Addr} {fd fdI : FuncData} (T : Txt K mg) (F : Fun K "are_ints" "are_ints" s_are_ints f fd) (D_is_int : DfD K mg "is_int" s_is_int ["thing", "least"] [.int 0] fI fdI) : FnOk P w K mg base CX0 2 f fd ["thing"] spAreInts := by
  obtain ⟨ds_is_int, V_is_int, B_is_int⟩ := D_is_int.b
  have G_is_int : FnOk P w K mg base CX0 1 fI fdI ["thing", "least"] spIsInt := ok_isint T D_is_int
  refine F.ok sc_are_ints (fun vs H Q E h => ?_) (fun cdv A outer s H vs Q E hr h => ?_)
  · obtain ⟨x, B, rfl, _⟩ := h
    rfl
  · obtain ⟨x, B, rfl, hd, hB, q1, q2⟩ := h
    refine ⟨_,
      (pss_one
        (ps_ret (pe_and (pe_callB (r := rIsi K) call_isi (by rfl) T.n_isinstance (by decide +kernel) (pa_cons (pv 0) (pa_cons (pe_bltn (v := .ty "tuple") (u := .type "tuple") (by rfl) T.n_tuple (by decide +kernel) rfl) pa_nil))) (pe_one (pe_callB (r := rAll K) (cr_all rfl) (by rfl) T.n_all (by decide +kernel) (pa_cons (pe_lc (own := [("part", 1)]) (g := (gName 1)) rfl sc_are_ints.nd (pi_tup (pv 0)) (blkOk_by (own := [("part", 1)]) (N := N_are_ints) (sc := defScope s_are_ints) (by decide +kernel)) (fun _ _ _ _ _ => (pg_name (i := 1) sc_are_ints.nd rfl (.inl rfl))) (fun _ _ _ _ _ => pts_nil) (fun _ _ _ _ _ => (pe_call G_is_int (hr.mono (by omega)) (by rfl) D_is_int.g D_is_int.kp B_is_int V_is_int pass0 (pa_cons (pv 1) pa_nil)))) pa_nil))))))
      , ?_⟩
    rw [show L2.start N_are_ints [x] = [some x, none] from rfl]
    walk_at "x"
    rcases hd.cases with ⟨ay, ty, hne⟩ | ⟨a, xs, rfl, ea, hxB, hxs⟩
    · refine w_isTup ty ?_
      rw [decide_eq_false hne]
      walk_at "g"
      refine q2 ?_ _ (fun _ _ z => z)
      rintro ns ⟨a, rfl, h⟩
      exact hne (ty.ofTup h)
    walk_at "g"
    refine lcp_gen (walk_tup (K := K) (a := a) (xs := xs)) [] (fun i y _ => ∃ bb : Bool, y = .bl bb ∧ ∀ z, xs[i]? = some z → (bb = true ↔ ∃ n : Nat, z = nV n)) (fun _ _ => True) (by omega) (fun _ _ _ _ _ h => h) (fun _ _ _ _ _ _ => trivial) (fun _ H1 k _ => .of (k _ _ (by simp) ea)) trivial ?_ (by simp) ?_
    · rintro i y H2 H3 R hi k2 t2 _ ⟨rfl, hy⟩ hR
      obtain ⟨a1, t1⟩ := ((hxs y (List.mem_of_getElem? hy)).kd (KD.of k2.same)).ty
      refine w_name ⟨rfl, ?_⟩
      walk_at "g"
      refine ⟨y, a1, rfl, t1, fun n hn => ?_, fun hn => ?_⟩
      · refine hR _ _ ⟨true, rfl, fun z hz => ⟨fun _ => ⟨n, ?_⟩, fun _ => rfl⟩⟩ Kp.refl KT.refl trivial
        rw [hy] at hz
        cases hz
        exact hn
      · refine hR _ _ ⟨false, rfl, fun z hz => ⟨fun h => Bool.noConfusion h, fun ⟨n, e⟩ => ?_⟩⟩ Kp.refl KT.refl trivial
        rw [hy] at hz
        cases hz
        exact absurd e (hn n)
    · intro L H2 vs hvl hvp hL k2' t2 _ eL
      have k2 := k2'.same
      obtain ⟨bs, rfl, hbs⟩ := bls_of hvp
      rw [List.length_map] at hvl
      walk_at "g"
      by_cases hall : ∀ y ∈ xs, ∃ n : Nat, y = nV n
      · have e : bs.all id = true := by
          rw [List.all_eq_true]
          intro b hb
          obtain ⟨i, hi, rfl⟩ := List.getElem_of_mem hb
          have hi2 : i < xs.length := by omega
          exact ((hbs i bs[i] (List.getElem?_eq_getElem hi)) xs[i] (List.getElem?_eq_getElem hi2)).mpr (hall _ (List.getElem_mem hi2))
        rw [e]
        obtain ⟨ns, rfl⟩ := nats_of hall
        exact q1 ns ⟨a, rfl, ea⟩ _ k2
      · have e : bs.all id = false := by
          rw [Bool.eq_false_iff]
          intro h
          rw [List.all_eq_true] at h
          refine hall fun y hy => ?_
          obtain ⟨i, hi, rfl⟩ := List.getElem_of_mem hy
          have hi2 : i < bs.length := by omega
          exact ((hbs i bs[i] (List.getElem?_eq_getElem hi2)) xs[i] (List.getElem?_eq_getElem hi)).mp (h _ (List.getElem_mem hi2))
        rw [e]
        refine q2 ?_ _ k2
        rintro ns ⟨a', e', h⟩
        cases e'
        rw [ea] at h
        cases h
        exact hall fun y hy => by
          obtain ⟨n, _, rfl⟩ := List.mem_map.mp hy
          exact ⟨n, rfl⟩
theorem ok_risingints {f fA fR fI : Addr} {fd fdA fdR fdI : FuncData} (T : Txt K mg) (F : Fun K "rising_ints" "rising_ints" s_rising_ints f fd) (D_are_ints : Df K mg "are_ints" s_are_ints ["thing"] fA fdA) (D_rise : Df K mg "rise" s_rise ["row"] fR fdR) (D_is_int : DfD K mg "is_int" s_is_int ["thing", "least"] [.int 0] fI fdI) : FnOk P w K mg base CX0 3 f fd ["thing"] spRisingInts := by
  have G_are_ints : FnOk P w K mg base CX0 2 fA fdA ["thing"] spAreInts := ok_areints T D_are_ints.fn D_is_int
  have G_rise : FnOk P w K mg base CX0 1 fR fdR ["row"] spRiseT := ok_riseT T D_rise.fn
  refine F.ok sc_rising_ints (fun vs H Q E h => ?_) (fun cdv A outer s H vs Q E hr h => ?_)
  · obtain ⟨x, B, rfl, _⟩ := h
    rfl
  · obtain ⟨x, B, rfl, hd, hB, q1, q2⟩ := h
    refine ⟨_,
      (pss_one
        (ps_ret (pe_and (pe_call G_are_ints (hr.mono (by omega)) (by rfl) D_are_ints.g D_are_ints.fn.kp D_are_ints.b .nil pass0 (pa_cons (pv 0) pa_nil)) (pe_one (pe_call G_rise (hr.mono (by omega)) (by rfl) D_rise.g D_rise.fn.kp D_rise.b .nil pass0 (pa_cons (pv 0) pa_nil))))))
      , ?_⟩
    rw [show L2.start N_rising_ints [x] = [some x] from rfl]
    walk_at "x"
    refine ⟨x, B, rfl, hd, hB, fun ns hns H1 k1 => ?_, fun hn H1 k1 => ?_⟩
    · walk_at "g"
      have hns' := hns
      obtain ⟨a, rfl, ea⟩ := hns
      have hlen : ns.length ≤ 1000 := by
        have := (hd.elem ea).1
        rw [List.length_map] at this
        omega
      refine ⟨a, ns, rfl, k1 _ _ ea, hlen, fun hp H2 k2 => ?_, fun hp H2 k2 => ?_⟩
      · exact q1 ns hns' hp _ (Same.trans k1 k2)
      · refine q2 ?_ _ (Same.trans k1 k2)
        rintro ns' ⟨a', e, h⟩
        cases e
        rw [ea] at h
        have e2 := Option.some.inj h
        injection e2 with e2
        rw [← nV_inj e2]
        exact hp
    · walk_at "g"
      exact q2 (fun ns h => absurd h (hn ns)) _ k1
theorem ok_arerows {f fT : Addr} {fd fdT : FuncData} (T : Txt K mg) (F : Fun K "are_rows" "are_rows" s_are_rows f fd) (D_is_text : DfD K mg "is_text" s_is_text ["thing", "most"] [.int 40] fT fdT) : FnOk P w K mg base CX0 2 f fd ["thing"] spAreRows := by
  obtain ⟨ds_is_text, V_is_text, B_is_text⟩ := D_is_text.b
  have G_is_text : FnOk P w K mg base CX0 1 fT fdT ["thing", "most"] spIsText := ok_istext T D_is_text
  refine F.ok sc_are_rows (fun vs H Q E h => ?_) (fun cdv A outer s H vs Q E hr h => ?_)
  · obtain ⟨r, rows, rfl, _⟩ := h
    rfl
  · obtain ⟨r, rows, rfl, hr', hl, hz, q⟩ := h
    have hr0 : H r = some (.tup (rows.map V.str)) := hr'
    refine ⟨_,
      (pss_one
        (ps_ret (pe_and (pe_callB (r := rIsi K) call_isi (by rfl) T.n_isinstance (by decide +kernel) (pa_cons (pv 0) (pa_cons (pe_bltn (v := .ty "tuple") (u := .type "tuple") (by rfl) T.n_tuple (by decide +kernel) rfl) pa_nil))) (pe_and (pe_cmpR op_le (pe_callB (r := rLen K) c_len (by rfl) T.n_len (by decide +kernel) (pa_cons (pv 0) pa_nil)) pe_int (nomark _)) (pe_one (pe_callB (r := rAll K) (cr_all rfl) (by rfl) T.n_all (by decide +kernel) (pa_cons (pe_lc (own := [("row", 1)]) (g := (gName 1)) rfl sc_are_rows.nd (pi_tup (pv 0)) (blkOk_by (own := [("row", 1)]) (N := N_are_rows) (sc := defScope s_are_rows) (by decide +kernel)) (fun _ _ _ _ _ => (pg_name (i := 1) sc_are_rows.nd rfl (.inl rfl))) (fun _ _ _ _ _ => pts_nil) (fun _ _ _ _ _ => (pe_call G_is_text (hr.mono (by omega)) (by rfl) D_is_text.g D_is_text.kp B_is_text V_is_text pass0 (pa_cons (pv 1) pa_nil)))) pa_nil)))))))
      , ?_⟩
    rw [show L2.start N_are_rows [V.ref r] = [some (.ref r), none] from rfl]
    walk_at "x"
    refine w_yes (by rw [List.length_map]; omega) ?_
    walk_at "g"
    refine lcp_map (walk_tup (K := K) (a := r) (xs := rows.map V.str)) [] ((rows.map fun _ => true).map V.bl) (by simp) (by rw [List.length_map]; omega) (fun H' k => .of (k _ _ (by simp) hr0)) ?_ (by simp) ?_
    · rintro i x H1 H2 R hi k1 ⟨rfl, hx⟩ hR
      obtain ⟨z, hz', rfl⟩ := map_at hx
      have hzo := hz z (List.mem_of_getElem? hz')
      refine w_name ⟨rfl, ?_⟩
      walk_at "g"
      refine ⟨.str z, 40, rfl, .leaf (.str z) (by decide) (fun z' e => by cases e; exact hzo.1), by omega, fun _ _ _ H3 k3 => ?_, fun hn => absurd hzo (hn z rfl)⟩
      refine hR _ _ ?_ (Kp.of k3)
      rw [List.getElem?_map, List.getElem?_map, hz']
      rfl
    · intro L H1 hL k1 eL
      walk_at "g"
      rw [show (rows.map fun _ => true).all id = true by simp]
      exact q _ k1.same
end
/-! ### a book's own defs -/
def spIsName (P : Program) (w : World) (C : Addr) : Sp := fun vs H Q _ => ∃ (p dx lc ld lg : Addr) (cs : List (Addr × Ct)) (ds : List Nat) (x : V) (a : String), vs = [.ref p, x] ∧ BookAt P w C H p dx lc ld lg cs ds ∧ Ty H x a ∧ (∀ n : Nat, x = nV n → n < cs.length → Q (.bl true) H) ∧ ((∀ n : Nat, x = nV n → ¬ n < cs.length) → Q (.bl false) H)
def spIsKind (P : Program) (w : World) (C : Addr) : Sp := fun vs H Q _ => ∃ (p dx lc ld lg : Addr) (cs : List (Addr × Ct)) (ds : List Nat) (x : V) (a : String) (k : Str), vs = [.ref p, x, .str k] ∧ BookAt P w C H p dx lc ld lg cs ds ∧ Ty H x a ∧ (∀ (n : Nat) (q : Addr × Ct), x = nV n → cs[n]? = some q → Q (.bl (decide (q.2.word = k))) H) ∧ ((∀ n : Nat, x = nV n → ¬ n < cs.length) → Q (.bl false) H)
def spIsPair2 : Sp := fun vs H Q _ => ∃ (a : Addr) (x y : V), vs = [.ref a] ∧ H a = some (.tup [x, y]) ∧ Q (.bl true) H
def spIsEntry (P : Program) (w : World) (C : Addr) : Sp := fun vs H Q _ => ∃ (p dx lc ld lg e : Addr) (cs : List (Addr × Ct)) (ds : List Nat) (z : Str) (n : Nat) (q : Addr × Ct), vs = [.ref p, .ref e] ∧ BookAt P w C H p dx lc ld lg cs ds ∧ H e = some (.tup [.str z, nV n]) ∧ LabOk z ∧ cs[n]? = some q ∧ q.2.word ≠ "version" ∧ ∀ H', Same H H' → Q (.bl true) H'
def spDepth (C : Addr) : Sp := fun vs H Q _ => ∃ (p dx lc ld lg a : Addr) (ds : List Nat) (c : Ct), vs = [.ref p, .ref a] ∧ H p = some (.ins C dx [("contents", .ref lc), ("depths", .ref ld), ("given", .ref lg)]) ∧ H ld = some (.lst (ds.map nV)) ∧ CtAt H a c ∧ (∀ es, c = .tree es → es.length ≤ 20 ∧ ∀ e ∈ es, e.2 < ds.length) ∧ ∀ H', Same H H' → Q (nV (depOf ds c)) H'
def spIsTree (P : Program) (w : World) (C : Addr) : Sp := fun vs H Q _ => ∃ (p dx lc ld lg r : Addr) (cs : List (Addr × Ct)) (ds : List Nat) (qs : List (Addr × Str × Nat)), vs = [.ref p, .ref r] ∧ BookAt P w C H p dx lc ld lg cs ds ∧ H r = some (.tup (qs.map fun q => .ref q.1)) ∧ (∀ q ∈ qs, H q.1 = some (.tup [.str q.2.1, nV q.2.2])) ∧ CtOk (cs.map (·.2)) ds (.tree (qs.map (·.2))) ∧ ∀ H', Same H H' → Q (.bl true) H'
def spIsContent (P : Program) (w : World) (C : Addr) : Sp := fun vs H Q _ => ∃ (p dx lc ld lg a : Addr) (cs : List (Addr × Ct)) (ds : List Nat) (c : Ct), vs = [.ref p, .ref a] ∧ BookAt P w C H p dx lc ld lg cs ds ∧ CtAt H a c ∧ CtOk (cs.map (·.2)) ds c ∧ ∀ H', Same H H' → Q (.bl true) H'
def spIsVersion (P : Program) (w : World) (C : Addr) : Sp := fun vs H Q _ => ∃ (p dx lc ld lg a : Addr) (cs : List (Addr × Ct)) (ds : List Nat) (ps : List Nat) (root stamp : Nat), vs = [.ref p, .ref a] ∧ BookAt P w C H p dx lc ld lg cs ds ∧ CtAt H a (.ver ps root stamp) ∧ CtOk (cs.map (·.2)) ds (.ver ps root stamp) ∧ ∀ H', Same H H' → Q (.bl true) H'
def spBookInit (P : Program) (w : World) (C : Addr) : Sp := fun vs H Q _ => ∃ (p dx : Addr), vs = [.ref p] ∧ H p = some (.ins C dx []) ∧ ∀ (lc ld lg : Addr) (H' : Hp), H lc = none → H ld = none → H lg = none → BookAt P w C H' p dx lc ld lg [] [] → Kp [p] H H' → Q .non H'
/-- what naming a content makes of a book -/
def spNamed (P : Program) (w : World) (C : Addr) : Sp := fun vs H Q _ => ∃ (p dx lc ld lg a : Addr) (cs : List (Addr × Ct)) (ds : List Nat) (c : Ct), vs = [.ref p, .ref a] ∧ BookAt P w C H p dx lc ld lg cs ds ∧ CtAt H a c ∧ CtOk (cs.map (·.2)) ds c ∧ cs.length < 400 ∧
  (∀ (j : Nat) (b : Addr) (H' : Hp), cs[j]? = some (b, c) → Same H H' → Q (nV j) H') ∧ ((∀ q ∈ cs, q.2 ≠ c) → ∀ H', BookAt P w C H' p dx lc ld lg (cs ++ [(a, c)]) (ds ++ [depOf ds c]) → Kp [lc, ld, lg] H H' → KT H H' → Q (nV cs.length) H')
def spThing (P : Program) (w : World) (C : Addr) : Sp := fun vs H Q _ => ∃ (p dx lc ld lg : Addr) (cs : List (Addr × Ct)) (ds : List Nat) (n : Nat) (q : Addr × Ct), vs = [.ref p, nV n] ∧ BookAt P w C H p dx lc ld lg cs ds ∧ cs[n]? = some q ∧ Q (.ref q.1) H
def spKind (P : Program) (w : World) (C : Addr) : Sp := fun vs H Q _ => ∃ (p dx lc ld lg : Addr) (cs : List (Addr × Ct)) (ds : List Nat) (n : Nat) (q : Addr × Ct), vs = [.ref p, nV n] ∧ BookAt P w C H p dx lc ld lg cs ds ∧ cs[n]? = some q ∧ Q (.str q.2.word) H
def spPartsV (P : Program) (w : World) (C : Addr) : Sp := fun vs H Q _ => ∃ (p dx lc ld lg : Addr) (cs : List (Addr × Ct)) (ds : List Nat) (n : Nat) (a : Addr) (ps : List Nat) (root stamp : Nat), vs = [.ref p, nV n] ∧ BookAt P w C H p dx lc ld lg cs ds ∧ cs[n]? = some (a, .ver ps root stamp) ∧ ps.length ≤ 900 ∧ ∀ H' r, Same H H' → H' r = some (.tup ((ps ++ [root]).map nV)) → Q (.ref r) H'
theorem CtAt.head {H : Hp} {a : Addr} {c : Ct} (h : CtAt H a c) : ∃ xs, H a = some (.tup (.str c.word :: xs)) := by
  cases c with
  | leaf rows => obtain ⟨r, h1, _⟩ := h; exact ⟨_, h1⟩
  | tree es => obtain ⟨r, qs, h1, _⟩ := h; exact ⟨_, h1⟩
  | ver ps root stamp => obtain ⟨r, h1, _⟩ := h; exact ⟨_, h1⟩
theorem fold_max (m : Nat) : ∀ (ns : List Nat) (b : Nat), (m = b ∨ m ∈ ns) → b ≤ m → (∀ y ∈ ns, y ≤ m) → ns.foldl max b = m
  | [], b, h, _, _ => by
    rcases h with h | h
    · exact h.symm
    · cases h
  | n :: ns, b, h, hb, hall => by
    show ns.foldl max (max b n) = m
    have hn := hall n (by simp)
    refine fold_max m ns (max b n) ?_ (by omega) fun y hy => hall y (by simp [hy])
    rcases h with h | h
    · exact .inl (by omega)
    · rcases List.mem_cons.mp h with h | h
      · exact .inl (by omega)
      · exact .inr h
theorem small1kl {n : Nat} (h : n ≤ 1000) : n < sizeLine := Nat.lt_of_le_of_lt h (by decide)
section
variable {P : Program} {w : World} {K : PySem.W.Frag} {mg : Str → Option Value} {base : Heap} {C : Addr}
theorem ok_isname {f fI : Addr} {fd fdI : FuncData} (T : Txt K mg) (F : Fun K "is_name" "is_name" s_is_name f fd) (K_Book : Kl K mg "Book" C ["contents", "depths", "given"]) (D_is_int : DfD K mg "is_int" s_is_int ["thing", "least"] [.int 0] fI fdI) : FnOk P w K mg base CX0 2 f fd ["book", "thing"] (spIsName P w C) := by
  obtain ⟨ds_is_int, V_is_int, B_is_int⟩ := D_is_int.b
  have G_is_int : FnOk P w K mg base CX0 1 fI fdI ["thing", "least"] spIsInt := ok_isint T D_is_int
  have cl := K_Book.cl
  have n1 := K_Book.na "contents" (by simp)
  refine F.ok sc_is_name (fun vs H Q E h => ?_) (fun cdv A outer s H vs Q E hr h => ?_)
  · obtain ⟨p, dx, lc, ld, lg, cs, ds, x, a, rfl, _⟩ := h
    rfl
  · obtain ⟨p, dx, lc, ld, lg, cs, ds, x, a, rfl, B, t, q1, q2⟩ := h
    have ob := B.ob
    have co := B.co
    refine ⟨_,
      (pss_one
        (ps_ret (pe_and (pe_call G_is_int (hr.mono (by omega)) (by rfl) D_is_int.g D_is_int.kp B_is_int V_is_int pass0 (pa_cons (pv 1) pa_nil)) (pe_one (pe_cmpR op_lt (pv 1) (pe_callB (r := rLen K) c_len (by rfl) T.n_len (by decide +kernel) (pa_cons (pe_fldK (K := K) rfl (pv 0) rfl) pa_nil)) (nomark _))))))
      , ?_⟩
    rw [show L2.start N_is_name [V.ref p, x] = [some (.ref p), some x] from rfl]
    walk_at "x"
    refine ⟨x, a, rfl, t, fun n hn => ?_, fun hn => ?_⟩
    · subst hn
      walk_at "g"
      by_cases h : n < cs.length
      · rw [decide_eq_true (by rw [List.length_map]; omega)]
        exact q1 n rfl h
      · rw [decide_eq_false (by rw [List.length_map]; omega)]
        exact q2 fun m e => by
          have : (n : Int) = m := V.int.inj e
          omega
    · walk_at "g"
      exact q2 fun n e => absurd e (hn n)
theorem ok_iskind {f fN fI : Addr} {fd fdN fdI : FuncData} (T : Txt K mg) (F : Fun K "is_kind" "is_kind" s_is_kind f fd) (K_Book : Kl K mg "Book" C ["contents", "depths", "given"]) (D_is_name : Df K mg "is_name" s_is_name ["book", "thing"] fN fdN) (D_is_int : DfD K mg "is_int" s_is_int ["thing", "least"] [.int 0] fI fdI) : FnOk P w K mg base CX0 3 f fd ["book", "thing", "kind"] (spIsKind P w C) := by
  have G_is_name : FnOk P w K mg base CX0 2 fN fdN ["book", "thing"] (spIsName P w C) := ok_isname T D_is_name.fn K_Book D_is_int
  have cl := K_Book.cl
  have n1 := K_Book.na "contents" (by simp)
  refine F.ok sc_is_kind (fun vs H Q E h => ?_) (fun cdv A outer s H vs Q E hr h => ?_)
  · obtain ⟨p, dx, lc, ld, lg, cs, ds, x, a, k, rfl, _⟩ := h
    rfl
  · obtain ⟨p, dx, lc, ld, lg, cs, ds, x, a, k, rfl, B, t, q1, q2⟩ := h
    have ob := B.ob
    have co := B.co
    refine ⟨_,
      (pss_one
        (ps_ret (pe_and (pe_call G_is_name (hr.mono (by omega)) (by rfl) D_is_name.g D_is_name.fn.kp D_is_name.b .nil pass0 (pa_cons (pv 0) (pa_cons (pv 1) pa_nil))) (pe_one (pe_cmpR op_eq (pe_ix (r := rIxT K) ix_tup (pe_ix (r := rIxL K) ix_list (pe_fldK (K := K) rfl (pv 0) rfl) (pv 1) (fun _ _ => rfl)) pe_int (fun _ _ => rfl)) (pv 2) (nomark _))))))
      , ?_⟩
    rw [show L2.start N_is_kind [V.ref p, x, V.str k] = [some (.ref p), some x, some (.str k)] from rfl]
    walk_at "x"
    refine ⟨p, dx, lc, ld, lg, cs, ds, x, a, rfl, B, t, fun n hn hl => ?_, fun hn => ?_⟩
    · subst hn
      have hq := List.getElem?_eq_getElem hl
      generalize cs[n] = q at hq
      obtain ⟨xs, hh⟩ := (B.ct q (List.mem_of_getElem? hq)).head
      have at1 : atI (cs.map fun q => V.ref q.1) (n : Int) = some (.ref q.1) := atI_nat (by rw [List.getElem?_map, hq]; rfl)
      have at0 : atI (V.str q.2.word :: xs) 0 = some (.str q.2.word) := atI_nat (j := 0) rfl
      walk_at "g"
      exact q1 n q rfl hq
    · walk_at "g"
      exact q2 hn
theorem ok_ispair2 {f : Addr} {fd : FuncData} (T : Txt K mg) (F : Fun K "is_pair" "is_pair" s_is_pair f fd) : FnOk P w K mg base CX0 1 f fd ["thing"] spIsPair2 := by
  refine F.ok sc_is_pair (fun vs H Q E h => ?_) (fun cdv A outer s H vs Q E hr h => ?_)
  · obtain ⟨a, x, y, rfl, _⟩ := h
    rfl
  · obtain ⟨a, x, y, rfl, ha, q⟩ := h
    refine ⟨_,
      (pss_one
        (ps_ret (pe_and (pe_callB (r := rIsi K) call_isi (by rfl) T.n_isinstance (by decide +kernel) (pa_cons (pv 0) (pa_cons (pe_bltn (v := .ty "tuple") (u := .type "tuple") (by rfl) T.n_tuple (by decide +kernel) rfl) pa_nil))) (pe_one (pe_cmpR op_eq (pe_callB (r := rLen K) c_len (by rfl) T.n_len (by decide +kernel) (pa_cons (pv 0) pa_nil)) pe_int (nomark _))))))
      , ?_⟩
    rw [show L2.start N_is_pair [V.ref a] = [some (.ref a)] from rfl]
    walk_at "x"
    exact q
theorem ok_isentry {f fN fI fP fL : Addr} {fd fdN fdI fdP fdL : FuncData} (T : Txt K mg) (F : Fun K "is_entry" "is_entry" s_is_entry f fd) (K_Book : Kl K mg "Book" C ["contents", "depths", "given"]) (D_is_name : Df K mg "is_name" s_is_name ["book", "thing"] fN fdN) (D_is_int : DfD K mg "is_int" s_is_int ["thing", "least"] [.int 0] fI fdI) (D_is_pair : Df K mg "is_pair" s_is_pair ["thing"] fP fdP) (D_is_label : Df K mg "is_label" s_is_label ["thing"] fL fdL) : FnOk P w K mg base CX0 3 f fd ["book", "thing"] (spIsEntry P w C) := by
  have G_is_name : FnOk P w K mg base CX0 2 fN fdN ["book", "thing"] (spIsName P w C) := ok_isname T D_is_name.fn K_Book D_is_int
  have G_is_pair : FnOk P w K mg base CX0 1 fP fdP ["thing"] spIsPair2 := ok_ispair2 T D_is_pair.fn
  have G_is_label : FnOk P w K mg base CX0 1 fL fdL ["thing"] spIsLabel := ok_islabel T D_is_label.fn
  have cl := K_Book.cl
  have n1 := K_Book.na "contents" (by simp)
  refine F.ok sc_is_entry (fun vs H Q E h => ?_) (fun cdv A outer s H vs Q E hr h => ?_)
  · obtain ⟨p, dx, lc, ld, lg, e, cs, ds, z, n, q, rfl, _⟩ := h
    rfl
  · obtain ⟨p, dx, lc, ld, lg, e, cs, ds, z, n, q, rfl, B, he, hz, hq, hw, qq⟩ := h
    have he' : H e = some (.tup [.str z, .int (n : Int)]) := he
    refine ⟨_,
      (pss_cons
        (ps_if (PW.pt (pw_or (pt_not (pt_val (pe_call G_is_pair (hr.mono (by omega)) (by rfl) D_is_pair.g D_is_pair.fn.kp D_is_pair.b .nil pass0 (pa_cons (pv 1) pa_nil)))) (pw_or1 (pt_not (pt_val (pe_call G_is_label (hr.mono (by omega)) (by rfl) D_is_label.g D_is_label.fn.kp D_is_label.b .nil pass0 (pa_cons (pe_ix (r := rIxT K) ix_tup (pv 1) pe_int (fun _ _ => rfl)) pa_nil)))))))
          (pss_one
            (ps_ret pe_bl))
          pss_nil)
      (pss_one
        (ps_ret (pe_and (pe_call G_is_name (hr.mono (by omega)) (by rfl) D_is_name.g D_is_name.fn.kp D_is_name.b .nil pass0 (pa_cons (pv 0) (pa_cons (pe_ix (r := rIxT K) ix_tup (pv 1) pe_int (fun _ _ => rfl)) pa_nil))) (pe_one (pe_cmpR op_ne (pe_ix (r := rIxT K) ix_tup (pe_ix (r := rIxL K) ix_list (pe_fldK (K := K) rfl (pv 0) rfl) (pe_ix (r := rIxT K) ix_tup (pv 1) pe_int (fun _ _ => rfl)) (fun _ _ => rfl)) pe_int (fun _ _ => rfl)) pe_str (nomark _)))))))
      , ?_⟩
    rw [show L2.start N_is_entry [V.ref p, V.ref e] = [some (.ref p), some (.ref e)] from rfl]
    refine w_seq ?_
    walk_at "x"
    refine ⟨e, _, _, rfl, he', ?_⟩
    walk_at "g"
    refine ⟨z, rfl, hz, fun H1 k1 => ?_⟩
    have B1 := B.same k1
    have ob1 := B1.ob
    have co1 := B1.co
    have he1 := k1 _ _ he'
    have hl : n < cs.length := (List.getElem?_eq_some_iff.mp hq).1
    obtain ⟨xs, hh⟩ := (B1.ct q (List.mem_of_getElem? hq)).head
    have at1 : atI (cs.map fun q => V.ref q.1) (n : Int) = some (.ref q.1) := atI_nat (by rw [List.getElem?_map, hq]; rfl)
    have at0 : atI (V.str q.2.word :: xs) 0 = some (.str q.2.word) := atI_nat (j := 0) rfl
    walk_at "g"
    refine ⟨p, dx, lc, ld, lg, cs, ds, .int (n : Int), "int", rfl, B1, .int _, fun m hm hml => ?_, fun hm => absurd hl (hm n rfl)⟩
    walk_at "g"
    rw [decide_eq_false hw]
    exact qq _ k1
theorem ok_depth {f : Addr} {fd : FuncData} (T : Txt K mg) (F : Fun K "depth_of" "depth_of" s_depth_of f fd) (K_Book : Kl K mg "Book" C ["contents", "depths", "given"]) : FnOk P w K mg base CX0 1 f fd ["book", "content"] (spDepth C) := by
  have cl := K_Book.cl
  have n2 := K_Book.na "depths" (by simp)
  refine F.ok sc_depth_of (fun vs H Q E h => ?_) (fun cdv A outer s H vs Q E hr h => ?_)
  · obtain ⟨p, dx, lc, ld, lg, a, ds, c, rfl, _⟩ := h
    rfl
  · obtain ⟨p, dx, lc, ld, lg, a, ds, c, rfl, ob, de, hc, ht, q⟩ := h
    refine ⟨_,
      (pss_cons
        (ps_if (pt_cmpR op_ne (pe_ix (r := rIxT K) ix_tup (pv 1) pe_int (fun _ _ => rfl)) pe_str (nomark _))
          (pss_one
            (ps_ret pe_int))
          pss_nil)
      (pss_one
        (ps_ret (pe_op op_add pe_int (pe_callBK (r := rMaxD K) (c_maxD rfl hr.units) (by rfl) T.n_max (by decide +kernel) (pa_cons (pe_lc (own := [("label", 2), ("name", 3)]) (g := (gTup K 2 (gCons (gName 2) (gCons (gName 3) gNil)))) rfl sc_depth_of.nd (pi_tup (pe_ix (r := rIxT K) ix_tup (pv 1) pe_int (fun _ _ => rfl))) (blkOk_by (own := [("label", 2), ("name", 3)]) (N := N_depth_of) (sc := defScope s_depth_of) (by decide +kernel)) (fun _ _ _ _ _ => (pg_tup rfl (pgs_cons (pg_name (i := 2) sc_depth_of.nd rfl (.inl rfl)) (pgs_cons (pg_name (i := 3) sc_depth_of.nd rfl (.inl rfl)) pgs_nil)))) (fun _ _ _ _ _ => pts_nil) (fun _ _ _ _ _ => (pe_ix (r := rIxL K) ix_list (pe_fldK (K := K) rfl (pv 0) rfl) (pv 3) (fun _ _ => rfl)))) pa_nil) (pk_cons pe_int pk_nil))))))
      , ?_⟩
    rw [show L2.start N_depth_of [V.ref p, V.ref a] = [some (.ref p), some (.ref a), none, none] from rfl]
    refine w_seq ?_
    have sm : Same H H := fun _ _ z => z
    cases c with
    | leaf rows =>
      obtain ⟨r, h1, _⟩ := hc
      walk_at "x"
      refine w_nno lit_ne1 ?_
      walk_at "g"
      exact q _ sm
    | ver ps root stamp =>
      obtain ⟨r, h1, _⟩ := hc
      walk_at "x"
      refine w_nno lit_ne6 ?_
      walk_at "g"
      exact q _ sm
    | tree es =>
      obtain ⟨r, qs, h1, h2, rfl, h4⟩ := hc
      obtain ⟨hl20, hin⟩ := ht _ rfl
      rw [List.length_map] at hl20
      walk_at "x"
      refine w_nyes rfl ?_
      walk_at "g"
      refine lcp_map (walk_tup (K := K) (a := r) (xs := qs.map fun q => V.ref q.1)) [] ((qs.map fun q => ds.getD q.2.2 0).map nV) (by simp) (by rw [List.length_map]; omega) (fun H' k => .of (k _ _ (by simp) h2)) ?_ (by simp) ?_
      · rintro i x H1 H2 R hi k1 ⟨rfl, hx⟩ hR
        obtain ⟨z, hz, rfl⟩ := map_at hx
        have hzm := List.mem_of_getElem? hz
        have e1 : H2 z.1 = some (.tup [.str z.2.1, .int (z.2.2 : Int)]) := k1.same _ _ (h4 z hzm)
        have ob1 := k1.same _ _ ob
        have de1 := k1.same _ _ de
        have hlt : z.2.2 < ds.length := hin z.2 (List.mem_map_of_mem hzm)
        have at1 : atI (ds.map nV) (z.2.2 : Int) = some (nV (ds.getD z.2.2 0)) := by
          refine atI_nat ?_
          rw [nV_at hlt, List.getD_eq_getElem?_getD, List.getElem?_eq_getElem hlt]
          rfl
        refine w_gtup (.of e1) rfl (w_gcons (w_name (w_gcons (w_name (w_gnil ⟨rfl, ?_⟩)))))
        walk_at "g"
        refine hR _ _ ?_ Kp.refl
        rw [List.getElem?_map, List.getElem?_map, hz]
        rfl
      · intro L H1 hL k1 eL
        have eL' : H1 L = some (.lst (((qs.map fun q => ds.getD q.2.2 0).map fun n : Nat => (n : Int)).map V.int)) := by rw [List.map_map]; exact eL
        walk_at "g"
        refine w_maxD' (.of eL') (fun e0 => ?_) fun m hm hall => ?_
        · have e1 : qs = [] := by simpa using e0
          subst e1
          walk_at "g"
          exact q _ k1.same
        · obtain ⟨n, hn, rfl⟩ := List.mem_map.mp hm
          walk_at "g"
          have e : depOf ds (.tree (qs.map (·.2))) = 1 + n := by
            show 1 + ((qs.map (·.2)).map fun e => ds.getD e.2 0).foldl max 0 = 1 + n
            rw [List.map_map]
            rw [fold_max n (qs.map ((fun e : Str × Nat => ds.getD e.2 0) ∘ fun q : Addr × Str × Nat => q.2)) 0 (.inr hn) (Nat.zero_le _) fun y hy => by
              have := hall (y : Int) (List.mem_map.mpr ⟨y, hy, rfl⟩)
              omega]
          have := q _ k1.same
          rw [e] at this
          rw [show nV (1 + n) = V.int (1 + (n : Int)) from congrArg V.int (by omega)] at this
          exact this
theorem ok_istree {f fE fR fO fN fI fP fL : Addr} {fd fdE fdR fdO fdN fdI fdP fdL : FuncData} (T : Txt K mg) (F : Fun K "is_tree" "is_tree" s_is_tree f fd) (K_Book : Kl K mg "Book" C ["contents", "depths", "given"]) (D_is_entry : Df K mg "is_entry" s_is_entry ["book", "thing"] fE fdE) (D_rise : Df K mg "rise" s_rise ["row"] fR fdR) (D_depth_of : Df K mg "depth_of" s_depth_of ["book", "content"] fO fdO) (D_is_name : Df K mg "is_name" s_is_name ["book", "thing"] fN fdN) (D_is_int : DfD K mg "is_int" s_is_int ["thing", "least"] [.int 0] fI fdI) (D_is_pair : Df K mg "is_pair" s_is_pair ["thing"] fP fdP) (D_is_label : Df K mg "is_label" s_is_label ["thing"] fL fdL) : FnOk P w K mg base CX0 4 f fd ["book", "entries"] (spIsTree P w C) := by
  have G_is_entry : FnOk P w K mg base CX0 3 fE fdE ["book", "thing"] (spIsEntry P w C) := ok_isentry T D_is_entry.fn K_Book D_is_name D_is_int D_is_pair D_is_label
  have G_rise : FnOk P w K mg base CX0 1 fR fdR ["row"] spRiseS := ok_riseS T D_rise.fn
  have G_depth_of : FnOk P w K mg base CX0 1 fO fdO ["book", "content"] (spDepth C) := ok_depth T D_depth_of.fn K_Book
  obtain ⟨tk_DEEP, g_DEEP⟩ := T.g_DEEP
  refine F.ok sc_is_tree (fun vs H Q E h => ?_) (fun cdv A outer s H vs Q E hr h => ?_)
  · obtain ⟨p, dx, lc, ld, lg, r, cs, ds, qs, rfl, _⟩ := h
    rfl
  · obtain ⟨p, dx, lc, ld, lg, r, cs, ds, qs, rfl, B, hr', hqs, ⟨c1, c2, c3, c4⟩, q⟩ := h
    rw [List.length_map] at c1
    refine ⟨_,
      (pss_cons
        (ps_if (PW.pt (pw_or (pt_not (pt_val (pe_callB (r := rIsi K) call_isi (by rfl) T.n_isinstance (by decide +kernel) (pa_cons (pv 1) (pa_cons (pe_bltn (v := .ty "tuple") (u := .type "tuple") (by rfl) T.n_tuple (by decide +kernel) rfl) pa_nil))))) (pw_or1 (pt_cmpR op_gt (pe_callB (r := rLen K) c_len (by rfl) T.n_len (by decide +kernel) (pa_cons (pv 1) pa_nil)) pe_int (nomark _)))))
          (pss_one
            (ps_ret pe_bl))
          pss_nil)
      (pss_cons
        (ps_if (PW.pt (pw_or (pt_not (pt_val (pe_callB (r := rAll K) (cr_all rfl) (by rfl) T.n_all (by decide +kernel) (pa_cons (pe_lc (own := [("entry", 2)]) (g := (gName 2)) rfl sc_is_tree.nd (pi_tup (pv 1)) (blkOk_by (own := [("entry", 2)]) (N := N_is_tree) (sc := defScope s_is_tree) (by decide +kernel)) (fun _ _ _ _ _ => (pg_name (i := 2) sc_is_tree.nd rfl (.inl rfl))) (fun _ _ _ _ _ => pts_nil) (fun _ _ _ _ _ => (pe_call G_is_entry (hr.mono (by omega)) (by rfl) D_is_entry.g D_is_entry.fn.kp D_is_entry.b .nil pass0 (pa_cons (pv 0) (pa_cons (pv 2) pa_nil))))) pa_nil)))) (pw_or1 (pt_not (pt_val (pe_call G_rise (hr.mono (by omega)) (by rfl) D_rise.g D_rise.fn.kp D_rise.b .nil pass0 (pa_cons (pe_lc (own := [("entry", 2)]) (g := (gName 2)) rfl sc_is_tree.nd (pi_tup (pv 1)) (blkOk_by (own := [("entry", 2)]) (N := N_is_tree) (sc := defScope s_is_tree) (by decide +kernel)) (fun _ _ _ _ _ => (pg_name (i := 2) sc_is_tree.nd rfl (.inl rfl))) (fun _ _ _ _ _ => pts_nil) (fun _ _ _ _ _ => (pe_ix (r := rIxT K) ix_tup (pv 2) pe_int (fun _ _ => rfl)))) pa_nil)))))))
          (pss_one
            (ps_ret pe_bl))
          pss_nil)
      (pss_one
        (ps_ret (pe_cmpR op_le (pe_call G_depth_of (hr.mono (by omega)) (by rfl) D_depth_of.g D_depth_of.fn.kp D_depth_of.b .nil pass0 (pa_cons (pv 0) (pa_cons (pe_tup (pa_cons pe_str (pa_cons (pv 1) pa_nil))) pa_nil))) (pe_glob (v := .int 8) rfl g_DEEP ⟨_, rfl⟩) (nomark _))))))
      , ?_⟩
    rw [show L2.start N_is_tree [V.ref p, V.ref r] = [some (.ref p), some (.ref r), none] from rfl]
    refine w_seq ?_
    walk_at "x"
    refine w_no (by rw [List.length_map]; omega) ?_
    walk_at "g"
    refine w_seq ?_
    walk_at "g"
    refine lcp_map (walk_tup (K := K) (a := r) (xs := qs.map fun q => V.ref q.1)) [] ((qs.map fun _ => true).map V.bl) (by simp) (by rw [List.length_map]; omega) (fun H' k => .of (k _ _ (by simp) hr')) ?_ (by simp) ?_
    · rintro i x H1 H2 R hi k1 ⟨rfl, hx⟩ hR
      obtain ⟨z, hz, rfl⟩ := map_at hx
      have hzm := List.mem_of_getElem? hz
      obtain ⟨g1, c, g2, g3⟩ := c2 z.2 (List.mem_map_of_mem hzm)
      rw [List.getElem?_map] at g2
      obtain ⟨q', hq', rfl⟩ := Option.map_eq_some_iff.mp g2
      refine w_name ⟨rfl, ?_⟩
      walk_at "g"
      refine ⟨p, dx, lc, ld, lg, z.1, cs, ds, z.2.1, z.2.2, q', rfl, B.same k1.same, k1.same _ _ (hqs z hzm), g1, hq', g3, fun H3 k3 => ?_⟩
      refine hR _ _ ?_ (Kp.of k3)
      rw [List.getElem?_map, List.getElem?_map, hz]
      rfl
    · intro L H1 hL k1' eL
      have k1 := k1'.same
      have hr1 := k1 _ _ hr'
      walk_at "g"
      rw [show (qs.map fun _ => true).all id = true by simp]
      walk_at "g"
      refine lcp_map (walk_tup (K := K) (a := r) (xs := qs.map fun q => V.ref q.1)) [] ((qs.map fun q => q.2.1).map V.str) (by simp) (by rw [List.length_map]; omega) (fun H' k => .of (k _ _ (by simp) hr1)) ?_ (by simp) ?_
      · rintro i x H2 H3 R hi k2 ⟨rfl, hx⟩ hR
        obtain ⟨z, hz, rfl⟩ := map_at hx
        have hzm := List.mem_of_getElem? hz
        have e1 : H3 z.1 = some (.tup [.str z.2.1, .int (z.2.2 : Int)]) := k2.same _ _ (k1 _ _ (hqs z hzm))
        refine w_name ⟨rfl, ?_⟩
        walk_at "g"
        refine hR _ _ ?_ Kp.refl
        rw [List.getElem?_map, List.getElem?_map, hz]
        rfl
      · intro L2' H2 hL2 k2' eL2
        have k2 := k2'.same
        walk_at "g"
        refine ⟨L2', qs.map fun q => q.2.1, rfl, eL2, by rw [List.length_map]; omega, ?_, fun H3 k3 => ?_⟩
        · rw [List.pairwise_map] at c3 ⊢
          exact c3
        walk_at "g"
        refine w_new fun t H4 ht e4 k4 => ?_
        have k04 : Same H H4 := Same.trans k1 (Same.trans k2 (Same.trans k3 k4))
        walk_at "g"
        refine ⟨p, dx, lc, ld, lg, t, ds, .tree (qs.map (·.2)), rfl, k04 _ _ B.ob, k04 _ _ B.de, ⟨r, qs, e4, k04 _ _ hr', rfl, fun z hz => k04 _ _ (hqs z hz)⟩, fun es e => ?_, fun H5 k5 => ?_⟩
        · cases e
          refine ⟨by rw [List.length_map]; exact c1, fun z hz => ?_⟩
          obtain ⟨_, c, g2, _⟩ := c2 z hz
          have := (List.getElem?_eq_some_iff.mp g2).1
          rw [B.dl]
          rwa [List.length_map] at this
        walk_at "g"
        rw [decide_eq_true (by omega)]
        exact q _ (Same.trans k04 k5)
theorem ok_isversion {f fG fA fR fK fN fI : Addr} {fd fdG fdA fdR fdK fdN fdI : FuncData} (T : Txt K mg) (F : Fun K "is_version" "is_version" s_is_version f fd) (K_Book : Kl K mg "Book" C ["contents", "depths", "given"]) (D_rising_ints : Df K mg "rising_ints" s_rising_ints ["thing"] fG fdG) (D_are_ints : Df K mg "are_ints" s_are_ints ["thing"] fA fdA) (D_rise : Df K mg "rise" s_rise ["row"] fR fdR) (D_is_kind : Df K mg "is_kind" s_is_kind ["book", "thing", "kind"] fK fdK) (D_is_name : Df K mg "is_name" s_is_name ["book", "thing"] fN fdN) (D_is_int : DfD K mg "is_int" s_is_int ["thing", "least"] [.int 0] fI fdI) : FnOk P w K mg base CX0 4 f fd ["book", "content"] (spIsVersion P w C) := by
  obtain ⟨ds_is_int, V_is_int, B_is_int⟩ := D_is_int.b
  have G_is_int : FnOk P w K mg base CX0 1 fI fdI ["thing", "least"] spIsInt := ok_isint T D_is_int
  have G_rising_ints : FnOk P w K mg base CX0 3 fG fdG ["thing"] spRisingInts := ok_risingints T D_rising_ints.fn D_are_ints D_rise D_is_int
  have G_is_kind : FnOk P w K mg base CX0 3 fK fdK ["book", "thing", "kind"] (spIsKind P w C) := ok_iskind T D_is_kind.fn K_Book D_is_name D_is_int
  refine F.ok sc_is_version (fun vs H Q E h => ?_) (fun cdv A outer s H vs Q E hr h => ?_)
  · obtain ⟨p, dx, lc, ld, lg, a, cs, ds, ps, root, stamp, rfl, _⟩ := h
    rfl
  · obtain ⟨p, dx, lc, ld, lg, a, cs, ds, ps, root, stamp, rfl, B, ⟨r, h1, h2⟩, ⟨c1, c2, c3, ⟨cr, c4, c5⟩, c6⟩, q⟩ := h
    refine ⟨_,
      (pss_cons
        (ps_set (i := 2) sc_is_version.nd rfl (.inl rfl) (pe_ix (r := rIxT K) ix_tup (pv 1) pe_int (fun _ _ => rfl)))
      (pss_cons
        (ps_if (PW.pt (pw_or (pt_not (pt_val (pe_call G_rising_ints (hr.mono (by omega)) (by rfl) D_rising_ints.g D_rising_ints.fn.kp D_rising_ints.b .nil pass0 (pa_cons (pv 2) pa_nil)))) (pw_or1 (pt_cmpR op_gt (pe_callB (r := rLen K) c_len (by rfl) T.n_len (by decide +kernel) (pa_cons (pv 2) pa_nil)) pe_int (nomark _)))))
          (pss_one
            (ps_ret pe_bl))
          pss_nil)
      (pss_cons
        (ps_if (PW.pt (pw_or (pt_not (pt_val (pe_callB (r := rAll K) (cr_all rfl) (by rfl) T.n_all (by decide +kernel) (pa_cons (pe_lc (own := [("parent", 3)]) (g := (gName 3)) rfl sc_is_version.nd (pi_tup (pv 2)) (blkOk_by (own := [("parent", 3)]) (N := N_is_version) (sc := defScope s_is_version) (by decide +kernel)) (fun _ _ _ _ _ => (pg_name (i := 3) sc_is_version.nd rfl (.inl rfl))) (fun _ _ _ _ _ => pts_nil) (fun _ _ _ _ _ => (pe_call G_is_kind (hr.mono (by omega)) (by rfl) D_is_kind.g D_is_kind.fn.kp D_is_kind.b .nil pass0 (pa_cons (pv 0) (pa_cons (pv 3) (pa_cons pe_str pa_nil)))))) pa_nil)))) (pw_or1 (pt_not (pt_val (pe_call G_is_kind (hr.mono (by omega)) (by rfl) D_is_kind.g D_is_kind.fn.kp D_is_kind.b .nil pass0 (pa_cons (pv 0) (pa_cons (pe_ix (r := rIxT K) ix_tup (pv 1) pe_int (fun _ _ => rfl)) (pa_cons pe_str pa_nil)))))))))
          (pss_one
            (ps_ret pe_bl))
          pss_nil)
      (pss_one
        (ps_ret (pe_and (pe_call G_is_int (hr.mono (by omega)) (by rfl) D_is_int.g D_is_int.kp B_is_int V_is_int pass0 (pa_cons (pe_ix (r := rIxT K) ix_tup (pv 1) pe_int (fun _ _ => rfl)) pa_nil)) (pe_one (pe_cmpR op_le (pe_ix (r := rIxT K) ix_tup (pv 1) pe_int (fun _ _ => rfl)) (pe_op op_pow pe_int pe_int) (nomark _)))))))))
      , ?_⟩
    rw [show L2.start N_is_version [V.ref p, V.ref a] = [some (.ref p), some (.ref a), none, none] from rfl]
    walk_at "x"
    refine w_seq ?_
    walk_at "g"
    have dat : DatT 10 H (.ref r) := .tup h2 (by rw [List.length_map]; omega) fun y hy => by
      obtain ⟨n, _, rfl⟩ := List.mem_map.mp hy
      exact .leaf (.int _) (by decide) fun z e => by cases e
    refine ⟨.ref r, 10, rfl, dat, by decide, fun ns hns hp H1 k1 => ?_, fun hn => absurd c1 (hn ps ⟨r, rfl, h2⟩)⟩
    have h11 := k1 _ _ h1
    have h21 := k1 _ _ h2
    walk_at "g"
    refine w_no (by rw [List.length_map]; omega) ?_
    walk_at "g"
    refine w_seq ?_
    walk_at "g"
    refine lcp_map (walk_tup (K := K) (a := r) (xs := ps.map nV)) [] ((ps.map fun _ => true).map V.bl) (by simp) (by rw [List.length_map]; omega) (fun H' k => .of (k _ _ (by simp) h21)) ?_ (by simp) ?_
    · rintro i x H2 H3 R hi k2 ⟨rfl, hx⟩ hR
      obtain ⟨n, hn, rfl⟩ := map_at hx
      obtain ⟨c, g2, g3⟩ := c3 n (List.mem_of_getElem? hn)
      rw [List.getElem?_map] at g2
      obtain ⟨q', hq', rfl⟩ := Option.map_eq_some_iff.mp g2
      have hl : n < cs.length := (List.getElem?_eq_some_iff.mp hq').1
      refine w_name ⟨rfl, ?_⟩
      walk_at "g"
      refine ⟨p, dx, lc, ld, lg, cs, ds, nV n, "int", "version", rfl, (B.same k1).same k2.same, .int _, fun m qm em hm => ?_, fun hm => absurd hl (hm n rfl)⟩
      have en : n = m := by have : (n : Int) = m := V.int.inj em; omega
      subst en
      rw [hq'] at hm
      cases hm
      rw [decide_eq_true g3]
      refine hR _ _ ?_ Kp.refl
      rw [List.getElem?_map, List.getElem?_map, hn]
      rfl
    · intro L H2 hL k2' eL
      have k2 := k2'.same
      have h12 := k2 _ _ h11
      rw [List.getElem?_map] at c4
      obtain ⟨q', hq', rfl⟩ := Option.map_eq_some_iff.mp c4
      have hl : root < cs.length := (List.getElem?_eq_some_iff.mp hq').1
      walk_at "g"
      rw [show (ps.map fun _ => true).all id = true by simp]
      walk_at "g"
      refine ⟨p, dx, lc, ld, lg, cs, ds, nV root, "int", "tree", rfl, (B.same k1).same k2, .int _, fun m qm em hm => ?_, fun hm => absurd hl (hm root rfl)⟩
      have en : root = m := by have : (root : Int) = m := V.int.inj em; omega
      subst en
      rw [hq'] at hm
      cases hm
      rw [decide_eq_true c5]
      walk_at "g"
      refine ⟨nV stamp, "int", rfl, .int _, fun m em => ?_, fun hm => absurd rfl (hm stamp)⟩
      walk_at "g"
      rw [decide_eq_true (by rw [show (10 : Int) ^ Int.toNat 18 = 1000000000000000000 by decide]; omega)]
      exact q _ (Same.trans k1 k2)
end
section
variable {P : Program} {w : World} {K : PySem.W.Frag} {mg : Str → Option Value} {base : Heap} {C : Addr}
theorem ok_iscontent {f fT fV fO fW fE fR fP fL fG fA fK fN fI fX : Addr} {fd fdT fdV fdO fdW fdE fdR fdP fdL fdG fdA fdK fdN fdI fdX : FuncData} (T : Txt K mg) (F : Fun K "is_content" "is_content" s_is_content f fd) (K_Book : Kl K mg "Book" C ["contents", "depths", "given"]) (D_is_tree : Df K mg "is_tree" s_is_tree ["book", "entries"] fT fdT) (D_is_version : Df K mg "is_version" s_is_version ["book", "content"] fV fdV) (D_depth_of : Df K mg "depth_of" s_depth_of ["book", "content"] fO fdO) (D_are_rows : Df K mg "are_rows" s_are_rows ["thing"] fW fdW) (D_is_entry : Df K mg "is_entry" s_is_entry ["book", "thing"] fE fdE) (D_rise : Df K mg "rise" s_rise ["row"] fR fdR) (D_is_pair : Df K mg "is_pair" s_is_pair ["thing"] fP fdP) (D_is_label : Df K mg "is_label" s_is_label ["thing"] fL fdL) (D_rising_ints : Df K mg "rising_ints" s_rising_ints ["thing"] fG fdG) (D_are_ints : Df K mg "are_ints" s_are_ints ["thing"] fA fdA) (D_is_kind : Df K mg "is_kind" s_is_kind ["book", "thing", "kind"] fK fdK) (D_is_name : Df K mg "is_name" s_is_name ["book", "thing"] fN fdN) (D_is_int : DfD K mg "is_int" s_is_int ["thing", "least"] [.int 0] fI fdI) (D_is_text : DfD K mg "is_text" s_is_text ["thing", "most"] [.int 40] fX fdX) : FnOk P w K mg base CX0 5 f fd ["book", "thing"] (spIsContent P w C) := by
  have G_is_tree : FnOk P w K mg base CX0 4 fT fdT ["book", "entries"] (spIsTree P w C) := ok_istree T D_is_tree.fn K_Book D_is_entry D_rise D_depth_of D_is_name D_is_int D_is_pair D_is_label
  have G_is_version : FnOk P w K mg base CX0 4 fV fdV ["book", "content"] (spIsVersion P w C) := ok_isversion T D_is_version.fn K_Book D_rising_ints D_are_ints D_rise D_is_kind D_is_name D_is_int
  have G_are_rows : FnOk P w K mg base CX0 2 fW fdW ["thing"] spAreRows := ok_arerows T D_are_rows.fn D_is_text
  refine F.ok sc_is_content (fun vs H Q E h => ?_) (fun cdv A outer s H vs Q E hr h => ?_)
  · obtain ⟨p, dx, lc, ld, lg, a, cs, ds, c, rfl, _⟩ := h
    rfl
  · obtain ⟨p, dx, lc, ld, lg, a, cs, ds, c, rfl, B, hc, ok, q⟩ := h
    refine ⟨_,
      (pss_cons
        (ps_if (PW.pt (pw_or (pt_not (pt_val (pe_callB (r := rIsi K) call_isi (by rfl) T.n_isinstance (by decide +kernel) (pa_cons (pv 1) (pa_cons (pe_bltn (v := .ty "tuple") (u := .type "tuple") (by rfl) T.n_tuple (by decide +kernel) rfl) pa_nil))))) (pw_or (pt_cmpR op_lt (pe_callB (r := rLen K) c_len (by rfl) T.n_len (by decide +kernel) (pa_cons (pv 1) pa_nil)) pe_int (nomark _)) (pw_or1 (pt_not (pt_val (pe_callB (r := rIsi K) call_isi (by rfl) T.n_isinstance (by decide +kernel) (pa_cons (pe_ix (r := rIxT K) ix_tup (pv 1) pe_int (fun _ _ => rfl)) (pa_cons (pe_bltn (v := .ty "str") (u := .type "str") (by rfl) T.n_str (by decide +kernel) rfl) pa_nil)))))))))
          (pss_one
            (ps_ret pe_bl))
          pss_nil)
      (pss_cons
        (ps_if (pt_cmpR op_eq (pe_ix (r := rIxT K) ix_tup (pv 1) pe_int (fun _ _ => rfl)) pe_str (nomark _))
          (pss_one
            (ps_ret (pe_and (pe_cmpR op_eq (pe_callB (r := rLen K) c_len (by rfl) T.n_len (by decide +kernel) (pa_cons (pv 1) pa_nil)) pe_int (nomark _)) (pe_one (pe_call G_are_rows (hr.mono (by omega)) (by rfl) D_are_rows.g D_are_rows.fn.kp D_are_rows.b .nil pass0 (pa_cons (pe_ix (r := rIxT K) ix_tup (pv 1) pe_int (fun _ _ => rfl)) pa_nil))))))
          pss_nil)
      (pss_cons
        (ps_if (pt_cmpR op_eq (pe_ix (r := rIxT K) ix_tup (pv 1) pe_int (fun _ _ => rfl)) pe_str (nomark _))
          (pss_one
            (ps_ret (pe_and (pe_cmpR op_eq (pe_callB (r := rLen K) c_len (by rfl) T.n_len (by decide +kernel) (pa_cons (pv 1) pa_nil)) pe_int (nomark _)) (pe_one (pe_call G_is_tree (hr.mono (by omega)) (by rfl) D_is_tree.g D_is_tree.fn.kp D_is_tree.b .nil pass0 (pa_cons (pv 0) (pa_cons (pe_ix (r := rIxT K) ix_tup (pv 1) pe_int (fun _ _ => rfl)) pa_nil)))))))
          pss_nil)
      (pss_one
        (ps_ret (pe_and (pe_cmpR op_eq (pe_ix (r := rIxT K) ix_tup (pv 1) pe_int (fun _ _ => rfl)) pe_str (nomark _)) (pe_and (pe_cmpR op_eq (pe_callB (r := rLen K) c_len (by rfl) T.n_len (by decide +kernel) (pa_cons (pv 1) pa_nil)) pe_int (nomark _)) (pe_one (pe_call G_is_version (hr.mono (by omega)) (by rfl) D_is_version.g D_is_version.fn.kp D_is_version.b .nil pass0 (pa_cons (pv 0) (pa_cons (pv 1) pa_nil)))))))))))
      , ?_⟩
    rw [show L2.start N_is_content [V.ref p, V.ref a] = [some (.ref p), some (.ref a)] from rfl]
    refine w_seq ?_
    cases c with
    | leaf rows =>
      obtain ⟨r, h1, h2⟩ := hc
      walk_at "x"
      refine w_no (by simp only [List.length_cons, List.length_nil]; omega) ?_
      walk_at "g"
      refine w_seq ?_
      walk_at "g"
      refine w_yes rfl ?_
      walk_at "g"
      refine w_yes rfl ?_
      walk_at "g"
      refine ⟨r, rows, rfl, h2, ok.1, ok.2, q⟩
    | tree es =>
      obtain ⟨r, qs, h1, h2, rfl, h4⟩ := hc
      walk_at "x"
      refine w_no (by simp only [List.length_cons, List.length_nil]; omega) ?_
      walk_at "g"
      refine w_seq ?_
      walk_at "g"
      refine w_no lit_ne4 ?_
      walk_at "g"
      refine w_seq ?_
      walk_at "g"
      refine w_yes rfl ?_
      walk_at "g"
      refine w_yes rfl ?_
      walk_at "g"
      refine ⟨p, dx, lc, ld, lg, r, cs, ds, qs, rfl, B, h2, h4, ok, q⟩
    | ver ps root stamp =>
      have hc' := hc
      obtain ⟨r, h1, h2⟩ := hc
      walk_at "x"
      refine w_no (by simp only [List.length_cons, List.length_nil]; omega) ?_
      walk_at "g"
      refine w_seq ?_
      walk_at "g"
      refine w_no lit_ne5 ?_
      walk_at "g"
      refine w_seq ?_
      walk_at "g"
      refine w_no lit_ne6 ?_
      walk_at "g"
      refine w_yes rfl ?_
      walk_at "g"
      refine w_yes rfl ?_
      walk_at "g"
      refine ⟨p, dx, lc, ld, lg, a, cs, ds, ps, root, stamp, rfl, B, hc', ok, q⟩
theorem ok_bookinit {f : Addr} {fd : FuncData} (T : Txt K mg) (F : Fun K "__init__" "Book.__init__" s_Book___init__ f fd) (K_Book : Kl K mg "Book" C ["contents", "depths", "given"]) : FnOk P w K mg base CX0 1 f fd ["self"] (spBookInit P w C) := by
  have cl := K_Book.cl
  have n1 := K_Book.na "contents" (by simp)
  have n2 := K_Book.na "depths" (by simp)
  have n3 := K_Book.na "given" (by simp)
  refine F.ok sc_Book___init__ (fun vs H Q E h => ?_) (fun cdv A outer s H vs Q E hr h => ?_)
  · obtain ⟨p, dx, rfl, _⟩ := h
    rfl
  · obtain ⟨p, dx, rfl, hp, q⟩ := h
    refine ⟨_,
      (pss_cons
        (ps_fld (pv 0) (pe_lst pa_nil) rfl)
      (pss_cons
        (ps_fld (pv 0) (pe_lst pa_nil) rfl)
      (pss_one
        (ps_fld (pv 0) pe_nnew rfl))))
      , ?_⟩
    rw [show L2.start N_Book___init__ [V.ref p] = [some (.ref p)] from rfl]
    walk_at "x"
    refine w_new fun lc H1 hlc e1 k1 => ?_
    have hp1 := k1 _ _ hp
    walk_at "g"
    refine w_fldS' hp1 cl n1 (by decide) fun H2 o2 f2 => ?_
    have nlc : lc ≠ p := (ne_of_none hp hlc).symm
    walk_at "g"
    refine w_new fun ld H3 hld e3 k3 => ?_
    have o3 := k3 _ _ o2
    have nld : ld ≠ p := (ne_of_none o2 hld).symm
    have hld1 : H1 ld = none := by rw [← f2 ld nld]; exact hld
    walk_at "g"
    refine w_fldS' o3 cl n2 (show (1 : Nat) < 1000 by decide) fun H4 o4 f4 => ?_
    walk_at "g"
    refine w_nnew fun lg H5 hlg d5 k5 => ?_
    have o5 := k5 _ _ o4
    have nlg : lg ≠ p := (ne_of_none o4 hlg).symm
    have hlg3 : H3 lg = none := by rw [← f4 lg nlg]; exact hlg
    walk_at "g"
    refine w_fldS' o5 cl n3 (show (2 : Nat) < 1000 by decide) fun H6 o6 f6 => ?_
    have e2 := f2.get nlc e1
    have ndc : lc ≠ ld := ne_of_none e2 hld
    have e6 : H6 lc = some (.lst []) := f6.get nlc (k5 _ _ (f4.get nlc (k3 _ _ e2)))
    have e6d : H6 ld = some (.lst []) := f6.get nld (k5 _ _ (f4.get nld e3))
    have d6 : NDict P w H6 lg [] := ⟨f6.get nlg d5.at', fun q hq => by cases hq⟩
    have hld0 : H ld = none := by
      cases e : H ld with
      | none => rfl
      | some o => rw [k1 _ _ e] at hld1; cases hld1
    have hlg0 : H lg = none := by
      cases e : H lg with
      | none => rfl
      | some o =>
        have := k3 _ _ (f2.get nlg (k1 _ _ e))
        rw [this] at hlg3
        cases hlg3
    refine q lc ld lg H6 hlc hld0 hlg0 ⟨o6, e6, e6d, d6, by simp, by simp, rfl, ndc, by simp⟩ fun b o hb e => ?_
    have hb' : b ≠ p := by simpa using hb
    exact f6.get hb' (k5 _ _ (f4.get hb' (k3 _ _ (f2.get hb' (k1 _ _ e)))))
theorem ok_named {f fC fO : Addr} {fd fdC fdO : FuncData} (T : Txt K mg) (F : Fun K "named" "Book.named" s_Book_named f fd) (K_Book : Kl K mg "Book" C ["contents", "depths", "given"]) (D_is_content : Df K mg "is_content" s_is_content ["book", "thing"] fC fdC) (D_depth_of : Df K mg "depth_of" s_depth_of ["book", "content"] fO fdO) (G_is_content : FnOk P w K mg base CX0 5 fC fdC ["book", "thing"] (spIsContent P w C)) : FnOk P w K mg base CX0 6 f fd ["self", "content"] (spNamed P w C) := by
  have G_depth_of : FnOk P w K mg base CX0 1 fO fdO ["book", "content"] (spDepth C) := ok_depth T D_depth_of.fn K_Book
  obtain ⟨tk_MOST, g_MOST⟩ := T.g_MOST
  have cl := K_Book.cl
  have n1 := K_Book.na "contents" (by simp)
  have n2 := K_Book.na "depths" (by simp)
  have n3 := K_Book.na "given" (by simp)
  refine F.ok sc_Book_named (fun vs H Q E h => ?_) (fun cdv A outer s H vs Q E hr h => ?_)
  · obtain ⟨p, dx, lc, ld, lg, a, cs, ds, c, rfl, _⟩ := h
    rfl
  · obtain ⟨p, dx, lc, ld, lg, a, cs, ds, c, rfl, B, hc, ok, hlt, q1, q2⟩ := h
    refine ⟨_,
      (pss_cons
        (ps_if (pt_not (pt_val (pe_call G_is_content (hr.mono (by omega)) (by rfl) D_is_content.g D_is_content.fn.kp D_is_content.b .nil pass0 (pa_cons (pv 0) (pa_cons (pv 1) pa_nil)))))
          pss_never
          pss_nil)
      (pss_cons
        (ps_if (pt_cmp (pc_nin hr.units (pv 1) (pe_fldK (K := K) rfl (pv 0) rfl)))
          (pss_one
            (ps_ret (pe_nget hr.units (pe_fldK (K := K) rfl (pv 0) rfl) (pv 1) (fun _ _ => rfl))))
          pss_nil)
      (pss_cons
        (ps_if (pt_cmpR op_ge (pe_callB (r := rLen K) c_len (by rfl) T.n_len (by decide +kernel) (pa_cons (pe_fldK (K := K) rfl (pv 0) rfl) pa_nil)) (pe_glob (v := .int 400) rfl g_MOST ⟨_, rfl⟩) (nomark _))
          pss_never
          pss_nil)
      (pss_cons
        (ps_nput hr.units (pe_fldK (K := K) rfl (pv 0) rfl) (pv 1) (pe_callB (r := rLen K) c_len (by rfl) T.n_len (by decide +kernel) (pa_cons (pe_fldK (K := K) rfl (pv 0) rfl) pa_nil)) rfl)
      (pss_cons
        (ps_expr (pe_bm PySem.F.plainAttrs_list PySem.F.slot_list_append PySem.F.type_list_append mt_append (pe_fldK (K := K) rfl (pv 0) rfl) (pa_cons (pv 1) pa_nil)))
      (pss_cons
        (ps_expr (pe_bm PySem.F.plainAttrs_list PySem.F.slot_list_append PySem.F.type_list_append mt_append (pe_fldK (K := K) rfl (pv 0) rfl) (pa_cons (pe_call G_depth_of (hr.mono (by omega)) (by rfl) D_depth_of.g D_depth_of.fn.kp D_depth_of.b .nil pass0 (pa_cons (pv 0) (pa_cons (pv 1) pa_nil))) pa_nil)))
      (pss_one
        (ps_ret (pe_op op_sub (pe_callB (r := rLen K) c_len (by rfl) T.n_len (by decide +kernel) (pa_cons (pe_fldK (K := K) rfl (pv 0) rfl) pa_nil)) pe_int)))))))))
      , ?_⟩
    rw [show L2.start N_Book_named [V.ref p, V.ref a] = [some (.ref p), some (.ref a)] from rfl]
    refine w_seq ?_
    walk_at "x"
    refine ⟨p, dx, lc, ld, lg, a, cs, ds, c, rfl, B, hc, ok, fun H1 k1 => ?_⟩
    have B1 := B.same k1
    have hc1 := hc.kt (KT.of k1)
    have ob1 := B1.ob
    have co1 := B1.co
    have de1 := B1.de
    walk_at "g"
    refine w_seq ?_
    walk_at "g"
    refine w_nin' B1.gi hc1.nk c.key_depth ?_
    walk_at "g"
    by_cases hin : ∀ q ∈ cs, q.2 ≠ c
    · rw [ents_none cs 0 hin, Option.isSome_none]
      walk_at "g"
      refine w_seq ?_
      walk_at "g"
      refine w_no (by rw [List.length_map]; omega) ?_
      walk_at "g"
      refine w_nput' B1.gi hc1.nk c.key_depth (by rw [entsF_len]; exact small1kl (by omega)) fun H2 d2 o2 => ?_
      have t2 : KT H1 H2 := ⟨fun b ys e => o2.get (ne_of e B1.gi.at' (fun z => nomatch z)) e, fun b _ ys e => o2.get (ne_of e B1.gi.at' (fun z => nomatch z)) e⟩
      have nlc : lc ≠ lg := ne_of co1 B1.gi.at' (fun z => nomatch z)
      have nld : ld ≠ lg := ne_of de1 B1.gi.at' (fun z => nomatch z)
      have npg : p ≠ lg := ne_of ob1 B1.gi.at' (fun z => nomatch z)
      have npc : p ≠ lc := ne_of ob1 co1 (fun z => nomatch z)
      have npd : p ≠ ld := ne_of ob1 de1 (fun z => nomatch z)
      have co2 := o2.get nlc co1
      have de2 := o2.get nld de1
      have ob2 := o2.get npg ob1
      have ep : NPut (entsF 0 cs) c.key a (V.int ((cs.map fun q => V.ref q.1).length : Int)) = entsF 0 (cs ++ [(a, c)]) := by
        unfold NPut
        rw [ents_none cs 0 hin, entsF_snoc, List.length_map, Nat.zero_add]
        rfl
      rw [ep] at d2
      walk_at "g"
      refine w_app co2 (by rw [List.length_map]; exact small1kl (by omega)) fun H3 e3 o3 => ?_
      have t3 : KT H2 H3 := KT.off o3 co2
      have de3 := o3.get B1.ne.symm de2
      have ob3 := o3.get npc ob2
      walk_at "g"
      have kt13 := t2.trans t3
      have ct3 : ∀ q ∈ cs ++ [(a, c)], CtAt H3 q.1 q.2 := fun q hq => by
        rcases List.mem_append.mp hq with h | h
        · exact (B1.ct q h).kt kt13
        · have e : q = (a, c) := by simpa using h
          subst e
          exact hc1.kt kt13
      refine ⟨p, dx, lc, ld, lg, a, ds, c, rfl, ob3, de3, hc1.kt kt13, fun es e => ?_, fun H4 k4 => ?_⟩
      · subst e
        refine ⟨ok.1, fun z hz => ?_⟩
        obtain ⟨_, c', g2, _⟩ := ok.2.1 z hz
        have := (List.getElem?_eq_some_iff.mp g2).1
        rw [B.dl]
        rwa [List.length_map] at this
      have de4 := k4 _ _ de3
      walk_at "g"
      refine w_app de4 (by rw [List.length_map, B.dl]; exact small1kl (by omega)) fun H5 e5 o5 => ?_
      have t5 : KT H4 H5 := KT.off o5 de4
      have ob5 := o5.get npd (k4 _ _ ob3)
      have co5 := o5.get B1.ne (k4 _ _ e3)
      have d5 : NDict P w H5 lg (entsF 0 (cs ++ [(a, c)])) := ((d2.kp (M := [lc]) (o3.kp (by simp)) t3 (by simpa using nlc.symm)).kp (M := []) (Kp.of k4) (KT.of k4) (by simp)).kp (M := [ld]) (o5.kp (by simp)) t5 (by simpa using nld.symm)
      have kt15 : KT H1 H5 := kt13.trans ((KT.of k4).trans t5)
      walk_at "g"
      have hlen : ((cs.map fun q => V.ref q.1) ++ [V.ref a]).length = cs.length + 1 := by rw [List.length_append, List.length_map]; rfl
      rw [hlen, show (((cs.length + 1 : Nat) : Int) - 1) = (cs.length : Int) by omega]
      refine q2 hin H5 ⟨ob5, by rw [co5, List.map_append]; rfl, by rw [e5, List.map_append]; rfl, d5, fun q hq => (ct3 q hq).kt ((KT.of k4).trans t5), ?_, by rw [List.length_append, List.length_append, B.dl]; rfl, B.ne, by rw [List.length_append]; simp only [List.length_cons, List.length_nil]; omega⟩ ?_ ((KT.of k1).trans kt15)
      · rw [List.map_append, List.nodup_append]
        refine ⟨B.nd, by simp, fun x hx y hy e => ?_⟩
        obtain ⟨z, hz, rfl⟩ := List.mem_map.mp hx
        have e' : y = c := by simpa using hy
        rw [e'] at e
        exact hin z hz e
      · intro b o hb e
        simp only [List.mem_cons, List.not_mem_nil, or_false, not_or] at hb
        exact o5.get hb.2.1 (k4 _ _ (o3.get hb.1 (o2.get hb.2.2 (k1 _ _ e))))
    · obtain ⟨z, hz, ez⟩ : ∃ q ∈ cs, q.2 = c := by
        refine Classical.byContradiction fun h => hin fun q hq e => h ⟨q, hq, e⟩
      obtain ⟨j, hj, ej⟩ := List.getElem_of_mem hz
      have hj' : cs[j]? = some (z.1, c) := by rw [List.getElem?_eq_getElem hj, ej, ← ez]
      have ev := ents_some cs 0 j B.nd hj'
      rw [Nat.zero_add] at ev
      rw [ev, Option.isSome_some]
      walk_at "g"
      refine w_nget' B1.gi hc1.nk c.key_depth ev ?_
      exact q1 j z.1 H1 hj' k1
end
theorem dp_nats {K : PySem.W.Frag} {H : Hp} : ∀ ns : List Nat, DpAll K H (ns.map nV) (ns.map fun n : Nat => PyData.int (n : Int))
  | [] => .nil
  | n :: r => .cons (.int _) (dp_nats r)
theorem nats_eqv : ∀ ls xs : List Nat, PyData.eqvAll (ls.map fun n : Nat => PyData.int (n : Int)) (xs.map fun n : Nat => PyData.int (n : Int)) = decide (ls = xs)
  | [], [] => rfl
  | [], x :: xs => by simp [PyData.eqvAll]
  | z :: ls, [] => by simp [PyData.eqvAll]
  | z :: ls, x :: xs => by
    rw [List.map_cons, List.map_cons, PyData.eqvAll, PyData.eqv, nats_eqv ls xs]
    by_cases h1 : z = x
    · subst h1
      simp
    · have : ¬ (z : Int) = x := by omega
      simp [h1, this]
theorem nats_lay : ∀ ns : List Nat, PyData.canLayAll0 (ns.map fun n : Nat => PyData.int (n : Int)) = true ∧ PyData.depthAll (ns.map fun n : Nat => PyData.int (n : Int)) ≤ 1
  | [] => ⟨rfl, by decide⟩
  | n :: r => by
    obtain ⟨h1, h2⟩ := nats_lay r
    refine ⟨?_, ?_⟩
    · rw [List.map_cons, PyData.canLayAll0, h1, PyData.canLay0]; rfl
    · rw [List.map_cons, PyData.depthAll, PyData.depth]; omega
theorem nV_map (ns : List Nat) : ns.map nV = (ns.map fun n : Nat => (n : Int)).map V.int := by rw [List.map_map]; rfl
theorem int_mem {ns : List Nat} {n : Nat} : (n : Int) ∈ (ns.map fun n : Nat => (n : Int)) ↔ n ∈ ns := by
  constructor
  · intro h
    obtain ⟨m, hm, e⟩ := List.mem_map.mp h
    have : m = n := by omega
    rw [← this]
    exact hm
  · exact fun h => List.mem_map.mpr ⟨n, h, rfl⟩
theorem w_ninNL {K : PySem.W.Frag} {H : Hp} {Q : VK} {p : Addr} {ns : List Nat} {n : Nat} (h1 : H p = some (.lst (ns.map nV))) (h : Q (.bl (!decide (n ∈ ns))) H) : rIn K true (nV n) (.ref p) H Q := by
  refine w_ninL (vs := ns.map fun n : Nat => (n : Int)) (.of (by rw [← nV_map]; exact h1)) ?_
  rw [decide_eq_decide.mpr int_mem]
  exact h
def addK (ks : List Int) (x : Int) : List Int := if x ∈ ks then ks else ks ++ [x]
theorem mem_addK {ks : List Int} {x y : Int} : y ∈ addK ks x ↔ y ∈ ks ∨ y = x := by
  unfold addK
  by_cases h : x ∈ ks
  · rw [if_pos h]
    constructor
    · exact .inl
    · rintro (a | rfl)
      · exact a
      · exact h
  · rw [if_neg h]
    simp
theorem nd_addK {ks : List Int} {x : Int} (h : ks.Nodup) : (addK ks x).Nodup := by
  unfold addK
  by_cases e : x ∈ ks
  · rw [if_pos e]; exact h
  · rw [if_neg e]
    exact List.nodup_append.mpr ⟨h, by simp, fun a ha b hb => by
      have : b = x := by simpa using hb
      subst this
      exact fun z => e (z ▸ ha)⟩
theorem putK_keys {fk : List (Key × V)} {ks : List Int} {x : Int} {v : V} (h : fk.map (·.1) = ks.map (Sum.inl : Int → Key)) : (putK fk (Sum.inl x) v).map (·.1) = (addK ks x).map (Sum.inl : Int → Key) := by
  have he : (fk.any fun kv => decide (kv.1 = (Sum.inl x : Key))) = true ↔ x ∈ ks := by
    rw [List.any_eq_true]
    constructor
    · rintro ⟨kv, hk, e⟩
      have m : (Sum.inl x : Key) ∈ ks.map Sum.inl := by
        rw [← h, ← of_decide_eq_true e]
        exact List.mem_map_of_mem hk
      obtain ⟨y, hy, e2⟩ := List.mem_map.mp m
      exact Sum.inl.inj e2 ▸ hy
    · intro hx
      have m : (Sum.inl x : Key) ∈ fk.map (·.1) := by
        rw [h]
        exact List.mem_map_of_mem hx
      obtain ⟨kv, hk, e⟩ := List.mem_map.mp m
      exact ⟨kv, hk, decide_eq_true e⟩
  unfold putK addK
  by_cases e : x ∈ ks
  · rw [if_pos (he.mpr e), if_pos e, ← h, List.map_map]
    apply List.map_congr_left
    intro kv _
    show (if kv.1 = Sum.inl x then (kv.1, v) else kv).1 = kv.1
    by_cases q : kv.1 = (Sum.inl x : Key)
    · rw [if_pos q]
    · rw [if_neg q]
  · rw [if_neg (fun z => e (he.mp z)), if_neg e, List.map_append, List.map_append, h]
    rfl
theorem nodup_le : ∀ (ks vs : List Int), ks.Nodup → (∀ x ∈ ks, x ∈ vs) → ks.length ≤ vs.length
  | [], _, _, _ => Nat.zero_le _
  | k :: ks, vs, h, hs => by
    rw [List.nodup_cons] at h
    have hk := hs k (by simp)
    have ih := nodup_le ks (vs.erase k) h.2 fun x hx => (List.mem_erase_of_ne (fun z => h.1 (by rw [← z]; exact hx))).mpr (hs x (by simp [hx]))
    rw [List.length_erase_of_mem hk] at ih
    have : 0 < vs.length := List.length_pos_of_mem hk
    rw [List.length_cons]
    omega
structure FoundAt (H : Hp) (f : Addr) (ks : List Int) : Prop where
  at' : ∃ fk, H f = some (.dK fk) ∧ fk.map (·.1) = ks.map (Sum.inl : Int → Key)
  nd : ks.Nodup
theorem FoundAt.put {H1 : Hp} {f : Addr} {ks : List Int} {fk : List (Key × V)} {x : Int} {v : V} (hk : fk.map (·.1) = ks.map (Sum.inl : Int → Key)) (nd : ks.Nodup) (e : H1 f = some (.dK (putK fk (Sum.inl x) v))) : FoundAt H1 f (addK ks x) := ⟨⟨_, e, putK_keys hk⟩, nd_addK nd⟩
theorem val_keys {kvs : List (Key × V)} {ks : List Int} (h : kvs.map (·.1) = ks.map (Sum.inl : Int → Key)) (x : Int) : (valV kvs (Sum.inl x)).isSome = decide (x ∈ ks) := by
  rw [Bool.eq_iff_iff, decide_eq_true_iff]
  constructor
  · intro z
    obtain ⟨v, e⟩ := Option.isSome_iff_exists.mp z
    have m := valV_in e
    rw [h] at m
    obtain ⟨y, hy, e2⟩ := List.mem_map.mp m
    exact Sum.inl.inj e2 ▸ hy
  · intro z
    cases e : valV kvs (Sum.inl x) with
    | some v => rfl
    | none => exact absurd (by rw [h]; exact List.mem_map_of_mem z) (valV_not e)
theorem small2000 {n : Nat} (h : n ≤ 2000) : n ≤ sizeLine := Nat.le_trans h (by decide)
theorem Deck.kxK {H H' : Hp} {d c : Addr} {n m : Nat} (D : Deck H d c n) (D' : Deck H' d c m) (k : Kp [d] H H') : KX d H H' := by
  obtain ⟨⟨xs, e⟩, _⟩ := D.at
  obtain ⟨⟨xs', e'⟩, _⟩ := D'.at
  refine ⟨⟨KT.kp k (by simp [e]), fun b ys h => ?_, fun b ys h => ?_⟩, k⟩
  · by_cases hb : b = d
    · subst hb
      exact ⟨_, e'⟩
    · exact ⟨_, k _ _ (by simpa using hb) h⟩
  · exact ⟨_, k _ _ (by simpa using ne_of h e (fun z => nomatch z)) h⟩
theorem w_bm0D {K : PySem.W.Frag} {σ : L2.St} {H : Hp} {Q : VK} {r : V → List V → Hp → VK → Prop} {to : TE} (h : to σ H fun x H1 => tyV K "dict" x H1 ∧ r x [] H1 Q) : tBM0 K "dict" r to σ H Q := h
theorem w_tyDK {K : PySem.W.Frag} {H : Hp} {p : Addr} {kvs : List (Key × V)} {A : Prop} (h1 : H p = some (.dK kvs)) (h : A) : tyV K "dict" (.ref p) H ∧ A := ⟨.inr (.inr (.inl ⟨rfl, .inl ⟨_, h1⟩⟩)), h⟩
def spLabel : Sp := fun vs H Q _ => ∃ (d c : Addr) (n : Nat), vs = [.ref d] ∧ Deck H d c n ∧ n + 12 ≤ MOSTD ∧ ∀ H' z, Deck H' d c (n + 12) → Kp [d] H H' → KT H H' → LabOk z → Q (.str z) H'
theorem chs_of {S : List Nat} {ys : List V} (h : ∀ y ∈ ys, ∃ ch : Nat, y = .str ⟨#[ch]⟩ ∧ ch ∈ S) : ∃ zs : List Nat, ys = (zs.map fun ch => (⟨#[ch]⟩ : Str)).map V.str ∧ ∀ ch ∈ zs, ch ∈ S := by
  induction ys with
  | nil => exact ⟨[], rfl, by simp⟩
  | cons y ys ih =>
    obtain ⟨ch, rfl, hch⟩ := h y (by simp)
    obtain ⟨zs, rfl, hz⟩ := ih fun y hy => h y (by simp [hy])
    exact ⟨ch :: zs, rfl, fun c hc => by
      rcases List.mem_cons.mp hc with rfl | hc
      · exact hch
      · exact hz c hc⟩
theorem chs_sum (l : List Nat) : (l.map fun ch => ((⟨#[ch]⟩ : Str)).length).sum = l.length := by
  induction l with
  | nil => rfl
  | cons x l ih =>
    rw [List.map_cons, List.sum_cons, ih, List.length_cons]
    show 1 + l.length = _
    omega
theorem chs_flat (l : List Nat) : ((l.map fun ch => (⟨#[ch]⟩ : Str)).map fun y => y.cps.toList).flatten = l := by
  induction l with
  | nil => rfl
  | cons x l ih =>
    rw [List.map_cons, List.map_cons, List.flatten_cons, ih]
    rfl
abbrev LTR : Str := Str.ofString "abcdefghijklmnopqrstuvwxyz"
section
variable {P : Program} {w : World} {K : PySem.W.Frag} {mg : Str → Option Value} {base : Heap}
theorem ok_label {f fM fD : Addr} {fd fdM fdD : FuncData} (T : Txt K mg) (F : Fun K "_law_label" "_law_label" s_law_label f fd) (D_law_mixed : Df K mg "_law_mixed" s_law_mixed ["_law_cell", "_law_turn"] fM fdM) (D_law_draw : Df K mg "_law_draw" s_law_draw ["_law_deck_here", "_law_many"] fD fdD) : FnOk P w K mg base CX0 3 f fd ["_law_deck_here"] spLabel := by
  have G_law_draw : FnOk P w K mg base CX0 2 fD fdD ["_law_deck_here", "_law_many"] spDraw := ok_draw T D_law_draw.fn D_law_mixed
  refine F.ok sc_law_label (fun vs H Q E h => ?_) (fun cdv A outer s H vs Q E hr h => ?_)
  · obtain ⟨d, c, n, rfl, _⟩ := h
    rfl
  · obtain ⟨d, c, n, rfl, D0, hn, q⟩ := h
    refine ⟨_,
      (pss_cons
        (ps_if (pt_cmpR op_gt (pe_call G_law_draw (hr.mono (by omega)) (by rfl) D_law_draw.g D_law_draw.fn.kp D_law_draw.b .nil pass0 (pa_cons (pv 0) (pa_cons pe_int pa_nil))) pe_int (nomark _))
          (pss_one
            (ps_ret (pe_ix ix_str pe_str (pe_call G_law_draw (hr.mono (by omega)) (by rfl) D_law_draw.g D_law_draw.fn.kp D_law_draw.b .nil pass0 (pa_cons (pv 0) (pa_cons pe_int pa_nil))) (fun _ _ => rfl))))
          pss_nil)
      (pss_cons
        (ps_set (i := 1) sc_law_label.nd rfl (.inr rfl) pe_str)
      (pss_one
        (ps_ret (p_join pe_str (pe_lc (own := [("_law_k", 2)]) (g := (gName 2)) rfl sc_law_label.nd (pi_range1 (by rfl) T.n_range (pa_cons (pe_op op_add pe_int (pe_call G_law_draw (hr.mono (by omega)) (by rfl) D_law_draw.g D_law_draw.fn.kp D_law_draw.b .nil pass0 (pa_cons (pv 0) (pa_cons pe_int pa_nil)))) pa_nil)) (blkOk_by (own := [("_law_k", 2)]) (N := N_law_label) (sc := defScope s_law_label) (by decide +kernel)) (fun _ _ _ _ _ => (pg_name (i := 2) sc_law_label.nd rfl (.inl rfl))) (fun _ _ _ _ _ => pts_nil) (fun _ _ _ _ _ => (pe_ix ix_str (pv 1) (pe_call G_law_draw (hr.mono (by omega)) (by rfl) D_law_draw.g D_law_draw.fn.kp D_law_draw.b .nil pass0 (pa_cons (pv 0) (pa_cons pe_int pa_nil))) (fun _ _ => rfl)))))))))
      , ?_⟩
    rw [show L2.start N_law_label [V.ref d] = [some (.ref d), none, none] from rfl]
    refine w_seq ?_
    walk_at "x"
    refine w_draw D0 (by omega) (by decide) (by decide) fun r H1 hr1 D1 o1 => ?_
    walk_at "g"
    refine w_ite (fun h => ?_) (fun h => ?_)
    · walk_at "g"
      refine w_draw D1 (by omega) (by decide) (by decide) fun r2 H2 hr2 D2 o2 => ?_
      have hl : r2 < (Str.ofString "abcd").cps.toList.length := by
        have : (Str.ofString "abcd").cps.toList.length = 4 := by decide +kernel
        omega
      have ech : atI (Str.ofString "abcd").cps.toList (r2 : Int) = some (Str.ofString "abcd").cps.toList[r2] := atI_nat (List.getElem?_eq_getElem hl)
      walk_at "g"
      refine w_ixS (by decide +kernel) ech ?_
      walk_at "g"
      have k2 : Kp [d] H H2 := (o1.kp (by simp)).trans (o2.kp (by simp))
      refine q H2 _ (D2.mono (by omega)) k2 ((D0.kx D1 o1).trans (D1.kx D2 o2)).t ⟨Nat.le_refl 1, (show (1 : Nat) ≤ 8 by decide), fun ch hch => ?_⟩
      have hm : (Str.ofString "abcd").cps.toList[r2] ∈ (Str.ofString "abcd").cps.toList := List.getElem_mem hl
      have e : ch = (Str.ofString "abcd").cps.toList[r2] := by simpa using hch
      rw [← e] at hm
      have hsub : ∀ x ∈ (Str.ofString "abcd").cps.toList, x ∈ LTR.cps.toList := by decide +kernel
      exact hsub ch hm
    · walk_at "g"
      refine w_draw D1 (by omega) (by decide) (by decide) fun r2 H2 hr2 D2 o2 => ?_
      obtain ⟨⟨dx2, ed2⟩, _⟩ := D2.at
      walk_at "g"
      refine lcp_gen (walk_range (lo := 0) (n := (1 + (r2 : Int)).toNat)) [d] (fun i y _ => ∃ ch : Nat, y = .str ⟨#[ch]⟩ ∧ ch ∈ LTR.cps.toList) (fun i H' => Deck H' d c (n + 2 + i)) (by omega) (fun _ _ _ _ _ h => h) (fun D hD i H1' o z => z.mut (D2.ne1 hD).1 (D2.ne1 hD).2) (fun _ _ _ _ => trivial) D2 ?_ (by intro b hb; have e : b = d := (by simpa using hb); subst e; exact ⟨_, ed2⟩) ?_
      · rintro i x H3 H4 R hi k3 t3 D3 ⟨rfl, rfl⟩ hR
        refine w_name ⟨rfl, ?_⟩
        walk_at "g"
        refine w_draw D3 (by unfold MOSTD at *; omega) (by decide) (by decide) fun r4 H5 hr4 D5 o5 => ?_
        obtain ⟨⟨dx3, ed3⟩, _⟩ := D3.at
        have hl : r4 < LTR.cps.toList.length := by
          have : LTR.cps.toList.length = 26 := by decide +kernel
          omega
        have ech : atI LTR.cps.toList (r4 : Int) = some LTR.cps.toList[r4] := atI_nat (List.getElem?_eq_getElem hl)
        walk_at "g"
        refine w_ixS (by decide +kernel) ech ?_
        exact hR _ _ ⟨_, rfl, List.getElem_mem hl⟩ (o5.kp (by simp)) (KT.off o5 ed3) D5
      · intro L H3 ys hyl hyp hL k3 t3 D3 eL
        obtain ⟨zs, hzs, hzc⟩ := chs_of (S := LTR.cps.toList) (ys := ys) fun y hy => by
          obtain ⟨i, hi, e⟩ := List.getElem_of_mem hy
          exact hyp i y (by rw [List.getElem?_eq_getElem hi, e])
        have hzl : zs.length = (1 + (r2 : Int)).toNat := by rw [← hyl, hzs]; simp
        subst hzs
        walk_at "g"
        refine w_joinL (.of eL) ?_ ?_
        · rw [List.map_map, List.length_map]
          have := chs_sum zs
          show (zs.map fun ch => ((⟨#[ch]⟩ : Str)).length).sum + zs.length * 0 ≤ _
          omega
        · have ec := join_cps (zs.map fun ch => (⟨#[ch]⟩ : Str))
          rw [chs_flat] at ec
          have hlen : (Txt.join (Str.ofString "") (zs.map fun ch => (⟨#[ch]⟩ : Str))).length = zs.length := by
            show (Txt.join (Str.ofString "") (zs.map fun ch => (⟨#[ch]⟩ : Str))).cps.size = _
            rw [← Array.length_toList, ec]
          have k03 := ((o1.kp (M := [d]) (by simp)).trans ((o2.kp (by simp)).trans k3))
          refine q H3 _ (D3.mono (by omega)) k03 (D0.kxK D3 k03).t ⟨by omega, by omega, fun ch hch => ?_⟩
          rw [ec] at hch
          exact hzc ch hch
end
/-! ### contents as plain data -/
def Ct.data : Ct → PyData
  | .leaf rows => .tuple [.str "leaf", .tuple (rows.map .str)]
  | .tree es => .tuple [.str "tree", .tuple (es.map fun e => .tuple [.str e.1, .int (e.2 : Int)])]
  | .ver ps root stamp => .tuple [.str "version", .tuple (ps.map fun n : Nat => .int (n : Int)), .int (root : Int), .int (stamp : Int)]
def Ct.txts : Ct → Prop
  | .leaf rows => ∀ z ∈ rows, PyData.strOk z = true
  | .tree es => ∀ e ∈ es, PyData.strOk e.1 = true
  | .ver _ _ _ => True
theorem dp_txts {K : PySem.W.Frag} {H : Hp} : ∀ ls : List Str, DpAll K H (ls.map V.str) (ls.map .str)
  | [] => .nil
  | z :: r => .cons (.str z) (dp_txts r)
theorem dp_ents {K : PySem.W.Frag} {H : Hp} : ∀ qs : List (Addr × Str × Nat), (∀ q ∈ qs, H q.1 = some (.tup [.str q.2.1, nV q.2.2])) → DpAll K H (qs.map fun q => .ref q.1) ((qs.map (·.2)).map fun e => .tuple [.str e.1, .int (e.2 : Int)])
  | [], _ => .nil
  | q :: r, h => .cons (.tup (.of (h q (by simp))) (.cons (.str _) (.cons (.int _) .nil))) (dp_ents r fun z hz => h z (by simp [hz]))
theorem CtAt.dp {K : PySem.W.Frag} {H : Hp} {a : Addr} {c : Ct} (h : CtAt H a c) : Dp K H (.ref a) c.data := by
  cases c with
  | leaf rows =>
    obtain ⟨r, h1, h2⟩ := h
    exact .tup (.of h1) (.cons (.str _) (.cons (.tup (.of h2) (dp_txts rows)) .nil))
  | tree es =>
    obtain ⟨r, qs, h1, h2, rfl, h4⟩ := h
    exact .tup (.of h1) (.cons (.str _) (.cons (.tup (.of h2) (dp_ents qs h4)) .nil))
  | ver ps root stamp =>
    obtain ⟨r, h1, h2⟩ := h
    exact .tup (.of h1) (.cons (.str _) (.cons (.tup (.of h2) (dp_nats ps)) (.cons (.int _) (.cons (.int _) .nil))))
theorem txts_eqv : ∀ ls xs : List Str, PyData.eqvAll (ls.map .str) (xs.map .str) = true ↔ ls = xs
  | [], [] => by simp [PyData.eqvAll]
  | [], x :: xs => by simp [PyData.eqvAll]
  | z :: ls, [] => by simp [PyData.eqvAll]
  | z :: ls, x :: xs => by
    rw [List.map_cons, List.map_cons, PyData.eqvAll, PyData.eqv, Bool.and_eq_true_iff, txts_eqv ls xs, beq_iff_eq, List.cons.injEq]
theorem ents_eqv : ∀ ls xs : List (Str × Nat), PyData.eqvAll (ls.map fun e => .tuple [.str e.1, .int (e.2 : Int)]) (xs.map fun e => .tuple [.str e.1, .int (e.2 : Int)]) = true ↔ ls = xs
  | [], [] => by simp [PyData.eqvAll]
  | [], x :: xs => by simp [PyData.eqvAll]
  | z :: ls, [] => by simp [PyData.eqvAll]
  | (z, n) :: ls, (x, m) :: xs => by
    rw [List.map_cons, List.map_cons, PyData.eqvAll, PyData.eqv, Bool.and_eq_true_iff, ents_eqv ls xs, List.cons.injEq, Prod.mk.injEq]
    simp only [PyData.eqvAll, PyData.eqv, Bool.and_true, Bool.and_eq_true, beq_iff_eq]
    constructor
    · rintro ⟨⟨h1, h2⟩, h3⟩
      exact ⟨⟨h1, by omega⟩, h3⟩
    · rintro ⟨⟨h1, h2⟩, h3⟩
      exact ⟨⟨h1, by omega⟩, h3⟩
theorem Ct.eqv_iff (c d : Ct) : PyData.eqv c.data d.data = true ↔ c = d := by
  cases c with
  | leaf r =>
    cases d with
    | leaf r' => simp [Ct.data, PyData.eqv, PyData.eqvAll, txts_eqv]
    | tree e' => simp [Ct.data, PyData.eqv, PyData.eqvAll, lit_ne1]
    | ver a b c => simp [Ct.data, PyData.eqv, PyData.eqvAll]
  | tree e =>
    cases d with
    | leaf r' => simp [Ct.data, PyData.eqv, PyData.eqvAll, lit_ne4]
    | tree e' => simp [Ct.data, PyData.eqv, PyData.eqvAll, ents_eqv]
    | ver a b c => simp [Ct.data, PyData.eqv, PyData.eqvAll]
  | ver a b c =>
    cases d with
    | leaf r' => simp [Ct.data, PyData.eqv, PyData.eqvAll]
    | tree e' => simp [Ct.data, PyData.eqv, PyData.eqvAll]
    | ver a' b' c' =>
      simp only [Ct.data, PyData.eqv, PyData.eqvAll, nats_eqv, Bool.and_true, Bool.and_eq_true, beq_iff_eq, decide_eq_true_iff, Ct.ver.injEq, true_and, beq_self_eq_true]
      constructor
      · rintro ⟨h1, h2, h3⟩
        exact ⟨h1, by omega, by omega⟩
      · rintro ⟨h1, h2, h3⟩
        exact ⟨h1, by omega, by omega⟩
theorem lay_txts : ∀ {ls : List Str}, (∀ z ∈ ls, PyData.strOk z = true) → PyData.canLayAll0 (ls.map .str) = true ∧ PyData.depthAll (ls.map .str) = 0
  | [], _ => ⟨rfl, rfl⟩
  | z :: ls, h => by
    obtain ⟨h1, h2⟩ := lay_txts (ls := ls) fun x hx => h x (by simp [hx])
    have hz := h z (by simp)
    simp only [List.map_cons, PyData.canLayAll0, PyData.depthAll, PyData.canLay0, PyData.depth, h1, h2, hz]
    exact ⟨rfl, rfl⟩
theorem lay_ents : ∀ {es : List (Str × Nat)}, (∀ e ∈ es, PyData.strOk e.1 = true) → PyData.canLayAll0 (es.map fun e => .tuple [.str e.1, .int (e.2 : Int)]) = true ∧ PyData.depthAll (es.map fun e => .tuple [.str e.1, .int (e.2 : Int)]) ≤ 1
  | [], _ => ⟨rfl, by decide⟩
  | z :: ls, h => by
    obtain ⟨h1, h2⟩ := lay_ents (es := ls) fun x hx => h x (by simp [hx])
    have hz := h z (by simp)
    rw [List.map_cons, PyData.canLayAll0, PyData.depthAll, h1]
    simp only [PyData.canLay0, PyData.canLayAll0, PyData.depth, PyData.depthAll, hz]
    exact ⟨rfl, by omega⟩
theorem Ct.lay {c : Ct} (h : c.txts) : PyData.canLay0 c.data = true ∧ PyData.depth c.data ≤ 4 := by
  have w1 : PyData.strOk (Str.ofString "leaf") = true := by decide +kernel
  have w2 : PyData.strOk (Str.ofString "tree") = true := by decide +kernel
  have w3 : PyData.strOk (Str.ofString "version") = true := by decide +kernel
  cases c with
  | leaf rows =>
    obtain ⟨h1, h2⟩ := lay_txts h
    simp only [Ct.data, PyData.canLay0, PyData.canLayAll0, PyData.depth, PyData.depthAll, h1, h2, w1]
    exact ⟨rfl, by decide⟩
  | tree es =>
    obtain ⟨h1, h2⟩ := lay_ents h
    simp only [Ct.data, PyData.canLay0, PyData.canLayAll0, PyData.depth, PyData.depthAll, h1, w2]
    exact ⟨rfl, by omega⟩
  | ver ps r s =>
    obtain ⟨h1, h2⟩ := nats_lay ps
    simp only [Ct.data, PyData.canLay0, PyData.canLayAll0, PyData.depth, PyData.depthAll, h1, w3]
    exact ⟨rfl, by omega⟩
theorem Ct.shaped {c : Ct} (h : c.txts) : SeqAt.shaped c.data = true := by
  obtain ⟨h1, h2⟩ := Ct.lay h
  unfold SeqAt.shaped
  rw [Bool.and_eq_true_iff]
  exact ⟨h1, decide_eq_true (by omega)⟩
theorem cts_lay : ∀ {cs : List Ct}, (∀ c ∈ cs, c.txts) → PyData.canLayAll0 (cs.map Ct.data) = true ∧ PyData.depthAll (cs.map Ct.data) ≤ 4
  | [], _ => ⟨rfl, by decide⟩
  | c :: cs, h => by
    obtain ⟨h1, h2⟩ := cts_lay (cs := cs) fun x hx => h x (by simp [hx])
    obtain ⟨g1, g2⟩ := Ct.lay (h c (by simp))
    rw [List.map_cons, PyData.canLayAll0, PyData.depthAll, h1, g1]
    exact ⟨rfl, by omega⟩
theorem cts_shaped {cs : List Ct} (h : ∀ c ∈ cs, c.txts) : SeqAt.shaped (.list (cs.map Ct.data)) = true := by
  obtain ⟨h1, h2⟩ := cts_lay h
  unfold SeqAt.shaped
  rw [Bool.and_eq_true_iff]
  refine ⟨by rw [PyData.canLay0]; exact h1, decide_eq_true ?_⟩
  rw [PyData.depth]
  omega
/-- the law's own list of contents -/
structure ThAt (H : Hp) (th : Addr) (cs : List (Addr × Ct)) : Prop where
  at' : H th = some (.lst (cs.map fun q => .ref q.1))
  ct : ∀ q ∈ cs, CtAt H q.1 q.2
theorem ThAt.kp {M : List Addr} {H H' : Hp} {th : Addr} {cs : List (Addr × Ct)} (h : ThAt H th cs) (k : Kp M H H') (t : KT H H') (n : th ∉ M) : ThAt H' th cs := ⟨k _ _ n h.at', fun q hq => (h.ct q hq).kt t⟩
theorem ThAt.same {H H' : Hp} {th : Addr} {cs : List (Addr × Ct)} (h : ThAt H th cs) (k : Same H H') : ThAt H' th cs := h.kp (M := []) (Kp.of k) (KT.of k) (by simp)
theorem dp_cts {K : PySem.W.Frag} {H : Hp} : ∀ cs : List (Addr × Ct), (∀ q ∈ cs, CtAt H q.1 q.2) → DpAll K H (cs.map fun q => .ref q.1) ((cs.map (·.2)).map Ct.data)
  | [], _ => .nil
  | q :: r, h => .cons (h q (by simp)).dp (dp_cts r fun z hz => h z (by simp [hz]))
theorem ThAt.dp {K : PySem.W.Frag} {H : Hp} {th : Addr} {cs : List (Addr × Ct)} (h : ThAt H th cs) : Dp K H (.ref th) (.list ((cs.map (·.2)).map Ct.data)) := .lst (.of h.at') (dp_cts cs h.ct)
/-! ### dicts of names -/
def FAt (H : Hp) (f : Addr) (F : Nat → Prop) : Prop := ∃ (fk : List (Key × V)) (ks : List Int), H f = some (.dK fk) ∧ fk.map (·.1) = ks.map (Sum.inl : Int → Key) ∧ ks.Nodup ∧ (∀ k ∈ ks, 0 ≤ k ∧ k < 1000) ∧ ∀ n : Nat, (n : Int) ∈ ks ↔ F n
theorem FAt.kp {M : List Addr} {H H' : Hp} {f : Addr} {F : Nat → Prop} (h : FAt H f F) (k : Kp M H H') (n : f ∉ M) : FAt H' f F := by
  obtain ⟨fk, ks, h1, h2⟩ := h
  exact ⟨fk, ks, k _ _ n h1, h2⟩
theorem FAt.same {H H' : Hp} {f : Addr} {F : Nat → Prop} (h : FAt H f F) (k : Same H H') : FAt H' f F := h.kp (M := []) (Kp.of k) (by simp)
theorem FAt.iff {H : Hp} {f : Addr} {F G : Nat → Prop} (h : FAt H f F) (e : ∀ n, F n ↔ G n) : FAt H f G := by
  obtain ⟨fk, ks, h1, h2, h3, h4, h5⟩ := h
  exact ⟨fk, ks, h1, h2, h3, h4, fun n => (h5 n).trans (e n)⟩
theorem FAt.obj {H : Hp} {f : Addr} {F : Nat → Prop} (h : FAt H f F) : ∃ fk, H f = some (.dK fk) := by
  obtain ⟨fk, ks, h1, _⟩ := h
  exact ⟨fk, h1⟩
theorem few_keys {ks : List Int} (nd : ks.Nodup) (h : ∀ k ∈ ks, 0 ≤ k ∧ k < 1000) : ks.length ≤ 1000 := by
  have := nodup_le ks ((List.range 1000).map fun n : Nat => (n : Int)) nd fun k hk => by
    obtain ⟨h1, h2⟩ := h k hk
    exact List.mem_map.mpr ⟨k.toNat, List.mem_range.mpr (by omega), by omega⟩
  rwa [List.length_map, List.length_range] at this
theorem w_fput {H : Hp} {f : Addr} {F : Nat → Prop} {n : Nat} {v : V} {R : Hp → Prop} (h1 : FAt H f F) (hn : n < 1000) (h : ∀ H1, FAt H1 f (fun m => F m ∨ m = n) → Off f H H1 → R H1) : rDPut (.ref f) (nV n) v H R := by
  obtain ⟨fk, ks, e, hk, nd, hb, hm⟩ := h1
  have hfl : fk.length = ks.length := by rw [← List.length_map (f := (·.1)), hk, List.length_map]
  have := few_keys nd hb
  refine w_dputI e (by rw [hfl]; exact small1kl this) fun H1 e1 o1 => h H1 ⟨_, _, e1, putK_keys hk, nd_addK nd, fun k hk' => ?_, fun m => ?_⟩ o1
  · rcases mem_addK.mp hk' with h | h
    · exact hb k h
    · omega
  · rw [mem_addK, hm]
    constructor
    · rintro (h | h)
      · exact .inl h
      · exact .inr (by omega)
    · rintro (h | h)
      · exact .inl h
      · exact .inr (by omega)
theorem w_fin {H : Hp} {f : Addr} {F : Nat → Prop} {i : Int} {Q : VK} (h1 : FAt H f F) (hy : ∀ n : Nat, i = n → F n → Q (.bl true) H) (hn : (∀ n : Nat, i = n → ¬ F n) → Q (.bl false) H) : rDIn (.ref f) (.int i) H Q := by
  obtain ⟨fk, ks, e, hk, nd, hb, hm⟩ := h1
  refine w_dinI e ?_
  rw [val_keys hk]
  by_cases h : i ∈ ks
  · rw [decide_eq_true h]
    obtain ⟨g1, g2⟩ := hb i h
    have e1 : i = ((i.toNat : Nat) : Int) := by omega
    exact hy i.toNat e1 ((hm i.toNat).mp (by rw [← e1]; exact h))
  · rw [decide_eq_false h]
    exact hn fun n e hF => h (by rw [e]; exact (hm n).mpr hF)
theorem w_fin' {H : Hp} {f : Addr} {F : Nat → Prop} {n : Nat} {Q : VK} (h1 : FAt H f F) (hy : F n → Q (.bl true) H) (hn : ¬ F n → Q (.bl false) H) : rDIn (.ref f) (nV n) H Q :=
  w_fin h1 (fun m e h => hy (by rw [show n = m by omega]; exact h)) fun h => hn (h n rfl)
theorem w_fnin {H : Hp} {f : Addr} {F : Nat → Prop} {i : Int} {Q : VK} (h1 : FAt H f F) (hy : ∀ n : Nat, i = n → F n → Q (.bl false) H) (hn : (∀ n : Nat, i = n → ¬ F n) → Q (.bl true) H) : rDNotIn (.ref f) (.int i) H Q := by
  obtain ⟨fk, ks, e, hk, nd, hb, hm⟩ := h1
  refine w_dnotinI e ?_
  rw [val_keys hk]
  by_cases h : i ∈ ks
  · rw [decide_eq_true h]
    obtain ⟨g1, g2⟩ := hb i h
    have e1 : i = ((i.toNat : Nat) : Int) := by omega
    exact hy i.toNat e1 ((hm i.toNat).mp (by rw [← e1]; exact h))
  · rw [decide_eq_false h]
    exact hn fun n e hF => h (by rw [e]; exact (hm n).mpr hF)
theorem ints_nats : ∀ {zs : List Int}, (∀ z ∈ zs, 0 ≤ z) → ∃ hs : List Nat, zs = hs.map fun n : Nat => (n : Int)
  | [], _ => ⟨[], rfl⟩
  | z :: zs, h => by
    obtain ⟨hs, rfl⟩ := ints_nats (zs := zs) fun y hy => h y (by simp [hy])
    exact ⟨z.toNat :: hs, by rw [List.map_cons, show ((z.toNat : Nat) : Int) = z by have := h z (by simp); omega]⟩
theorem lt_of_le_nd : ∀ {zs : List Int}, zs.Pairwise (· ≤ ·) → zs.Nodup → zs.Pairwise (· < ·)
  | [], _, _ => .nil
  | z :: zs, h, nd => by
    rw [List.pairwise_cons] at h ⊢
    rw [List.nodup_cons] at nd
    exact ⟨fun y hy => by
      have := h.1 y hy
      have : z ≠ y := fun e => nd.1 (by rw [e]; exact hy)
      omega, lt_of_le_nd h.2 nd.2⟩
theorem w_fsort {H : Hp} {f : Addr} {F : Nat → Prop} {Q : VK} (h1 : FAt H f F) (h : ∀ (ns : List Nat) p H1, ns.Pairwise (· < ·) → (∀ n, n ∈ ns ↔ F n) → ns.length ≤ 1000 → H p = none → H1 p = some (.lst (ns.map nV)) → Same H H1 → Q (.ref p) H1) : rSortA [.ref f] H Q := by
  obtain ⟨fk, ks, e, hk, nd, hb, hm⟩ := h1
  have fw := few_keys nd hb
  refine w_sortA e hk (by omega) fun ys p H1 hp hle hnone e1 k1 => ?_
  obtain ⟨ns, rfl⟩ := ints_nats (zs := ys) fun z hz => (hb z (hp.mem_iff.mp hz)).1
  have hlt := lt_of_le_nd hle (hp.nodup_iff.mpr nd)
  refine h ns p H1 ?_ (fun n => ?_) ?_ hnone (by rw [e1, nV_map]) k1
  · rw [List.pairwise_map] at hlt
    exact hlt.imp fun {a b} h => by omega
  · rw [← int_mem, hp.mem_iff, hm]
  · have := hp.length_eq
    rw [List.length_map] at this
    omega
def HereAt (H : Hp) (d : Addr) (hs : List Nat) : Prop := ∃ kvs, H d = some (.dK kvs) ∧ ∀ n : Nat, (valV kvs (Sum.inl (n : Int))).isSome = decide (n ∈ hs)
theorem HereAt.kp {M : List Addr} {H H' : Hp} {d : Addr} {hs : List Nat} (h : HereAt H d hs) (k : Kp M H H') (n : d ∉ M) : HereAt H' d hs := by
  obtain ⟨kvs, h1, h2⟩ := h
  exact ⟨kvs, k _ _ n h1, h2⟩
def pars (cs : List (Addr × Ct)) (n : Nat) : List Nat := match cs[n]? with
  | some (_, .ver ps _ _) => ps
  | _ => []
def isV (cs : List (Addr × Ct)) (n : Nat) : Prop := ∃ a ps r s, cs[n]? = some (a, Ct.ver ps r s)
def hpar (cs : List (Addr × Ct)) (hs : List Nat) (n : Nat) : List Nat := (pars cs n).filter fun p => decide (p ∈ hs)
def edgs (cs : List (Addr × Ct)) (hs ns : List Nat) : List Nat := ns.filter fun n => decide ((hpar cs hs n).length < (pars cs n).length)
theorem isV.at {cs : List (Addr × Ct)} {n : Nat} (h : isV cs n) : ∃ a r s, cs[n]? = some (a, Ct.ver (pars cs n) r s) := by
  obtain ⟨a, ps, r, s, e⟩ := h
  refine ⟨a, r, s, ?_⟩
  unfold pars
  rw [e]
theorem isV.of {cs : List (Addr × Ct)} {n p : Nat} (h : p ∈ pars cs n) : isV cs n := by
  unfold pars at h
  split at h
  · rename_i a ps r s e
    exact ⟨a, ps, r, s, e⟩
  · cases h
/-- a version's parents are versions, few -/
structure BkOk (cs : List (Addr × Ct)) : Prop where
  par : ∀ n p, p ∈ pars cs n → isV cs p ∧ p < n
  few : ∀ n, (pars cs n).length ≤ 4
theorem isV.lt {cs : List (Addr × Ct)} {n : Nat} (h : isV cs n) : n < cs.length := by
  obtain ⟨a, ps, r, s, e⟩ := h
  exact (List.getElem?_eq_some_iff.mp e).1
theorem KX.offN {d L : Addr} {H H1 H2 : Hp} (k : KX d H H1) (o : Off L H1 H2) (h : H L = none) : KX d H H2 where
  t := ⟨fun b xs e => o.get (ne_of_none e h) (k.t b xs e), fun b u xs e => o.get (ne_of_none e h) (k.t.f b u xs e)⟩
  l := fun b xs e => by
    obtain ⟨ys, e1⟩ := k.l b xs e
    exact ⟨ys, o.get (ne_of_none e h) e1⟩
  d := fun b xs e => by
    obtain ⟨ys, e1⟩ := k.d b xs e
    exact ⟨ys, o.get (ne_of_none e h) e1⟩
  p := fun b u hb e => o.get (ne_of_none e h) (k.p b u hb e)
def spGive : Sp := fun vs H Q _ => ∃ (th a : Addr) (cs : List (Addr × Ct)) (c : Ct), vs = [.ref th, .ref a] ∧ ThAt H th cs ∧ (cs.map (·.2)).Nodup ∧ CtAt H a c ∧ cs.length < 1000 ∧ (∀ q ∈ cs, q.2.txts) ∧ c.txts ∧
  (∀ j b, cs[j]? = some (b, c) → Q (nV j) H) ∧ ((∀ q ∈ cs, q.2 ≠ c) → ∀ H', ThAt H' th (cs ++ [(a, c)]) → Off th H H' → Q (nV cs.length) H')
def spSome : Sp := fun vs H Q _ => ∃ (d c l : Addr) (n m : Nat) (names : List Nat), vs = [.ref d, .ref l, nV m] ∧ Deck H d c n ∧ n + m ≤ MOSTD ∧ H l = some (.lst (names.map nV)) ∧ l ≠ d ∧ l ≠ c ∧ names.length ≤ 1000 ∧ m ≤ 1000 ∧
  ∀ (H' : Hp) (t : Addr) (ns : List Nat), Deck H' d c (n + m) → KX d H H' → H' t = some (.tup (ns.map nV)) → ns.Pairwise (· < ·) → ns.length ≤ m → (∀ x ∈ ns, x ∈ names) → Q (.ref t) H'
def dsOf (cs : List Ct) : List Nat := cs.foldl (fun ds c => ds ++ [depOf ds c]) []
theorem dsOf_snoc (cs : List Ct) (c : Ct) : dsOf (cs ++ [c]) = dsOf cs ++ [depOf (dsOf cs) c] := by
  unfold dsOf
  rw [List.foldl_append]
  rfl
/-- every content is good behind those ahead of it -/
def ScnOk (cs : List Ct) : Prop := ∀ i c, cs[i]? = some c → CtOk (cs.take i) (dsOf (cs.take i)) c
def spLBook (P : Program) (w : World) (C : Addr) : Sp := fun vs H Q _ => ∃ (th : Addr) (cs : List (Addr × Ct)), vs = [.ref th] ∧ ThAt H th cs ∧ ScnOk (cs.map (·.2)) ∧ (cs.map (·.2)).Nodup ∧ cs.length ≤ 400 ∧
  ∀ H' p dx lc ld lg ds, H p = none → H lc = none → H ld = none → H lg = none → BookAt P w C H' p dx lc ld lg cs ds → Same H H' → Q (.ref p) H'
def spLHere : Sp := fun vs H Q _ => ∃ (l : Addr) (hs : List Nat), vs = [.ref l] ∧ H l = some (.lst (hs.map nV)) ∧ (∀ n ∈ hs, n < 1000) ∧ ∀ H' f, H f = none → Same H H' → FAt H' f (fun n => n ∈ hs) → Q (.ref f) H'
theorem nodup_at {α : Type} {l : List α} (nd : l.Nodup) {i j : Nat} {hi : i < l.length} {hj : j < l.length} (h : l[i] = l[j]) : i = j := by
  refine Classical.byContradiction fun hne => ?_
  rcases Nat.lt_or_gt_of_ne hne with g | g
  · exact List.pairwise_iff_getElem.mp nd i j hi hj g h
  · exact List.pairwise_iff_getElem.mp nd j i hj hi g h.symm
theorem word_isV {cs : List (Addr × Ct)} {n : Nat} {q : Addr × Ct} (h : cs[n]? = some q) : q.2.word = "version" ↔ isV cs n := by
  obtain ⟨a, c⟩ := q
  constructor
  · intro hw
    cases c with
    | leaf _ => exact absurd hw lit_ne2
    | tree _ => exact absurd hw lit_ne3
    | ver ps r s => exact ⟨a, ps, r, s, h⟩
  · rintro ⟨a', ps, r, s, e⟩
    rw [h] at e
    cases e
    rfl
section
variable {P : Program} {w : World} {K : PySem.W.Frag} {mg : Str → Option Value} {base : Heap} {C : Addr}
theorem ok_give {f : Addr} {fd : FuncData} (T : Txt K mg) (F : Fun K "_law_give" "_law_give" s_law_give f fd) : FnOk P w K mg base CX0 1 f fd ["_law_things", "_law_content"] spGive := by
  refine F.ok sc_law_give (fun vs H Q E h => ?_) (fun cdv A outer s H vs Q E hr h => ?_)
  · obtain ⟨th, a, cs, c, rfl, _⟩ := h
    rfl
  · obtain ⟨th, a, cs, c, rfl, ht, nd, hc, hl, ho, hco, q1, q2⟩ := h
    have hth := ht.at'
    have hlay : ∀ d ∈ cs.map (·.2), d.txts := fun d hd => by
      obtain ⟨q, hq, rfl⟩ := List.mem_map.mp hd
      exact ho q hq
    refine ⟨_,
      (pss_cons
        (ps_if (pt_cmpR (r := rInD K) (op_inD (Nat.lt_of_le_of_lt (Nat.add_le_add_left (show 65 ≤ 100 by decide) _) (room100 hr))) (pv 1) (pv 0) rfl)
          (pss_one
            (ps_ret (pe_bm PySem.F.plainAttrs_list PySem.F.slot_list_index PySem.F.type_list_index (mt_indexD (Nat.lt_of_le_of_lt (Nat.add_le_add_left (show 65 ≤ 100 by decide) _) (room100 hr))) (pv 0) (pa_cons (pv 1) pa_nil))))
          pss_nil)
      (pss_cons
        (ps_expr (pe_bm PySem.F.plainAttrs_list PySem.F.slot_list_append PySem.F.type_list_append mt_append (pv 0) (pa_cons (pv 1) pa_nil)))
      (pss_one
        (ps_ret (pe_op op_sub (pe_callB (r := rLen K) c_len (by rfl) T.n_len (by decide +kernel) (pa_cons (pv 0) pa_nil)) pe_int)))))
      , ?_⟩
    rw [show L2.start N_law_give [V.ref th, V.ref a] = [some (.ref th), some (.ref a)] from rfl]
    refine w_seq ?_
    walk_at "x"
    refine ⟨c.data, _, hc.dp, ht.dp, Ct.shaped hco, cts_shaped hlay, ?_⟩
    walk_at "g"
    by_cases hin : ∀ q ∈ cs, q.2 ≠ c
    · have e : ((cs.map (·.2)).map Ct.data).any (fun z => PyData.eqv z c.data) = false := by
        rw [Bool.eq_false_iff]
        intro h
        rw [List.any_eq_true] at h
        obtain ⟨z, hz, e⟩ := h
        obtain ⟨d, hd, rfl⟩ := List.mem_map.mp hz
        obtain ⟨q, hq, rfl⟩ := List.mem_map.mp hd
        exact hin q hq ((Ct.eqv_iff _ _).mp e)
      rw [e]
      walk_at "g"
      refine w_app ht.at' (by rw [List.length_map]; exact small1kl (by omega)) fun H1 e1 o1 => ?_
      walk_at "g"
      rw [show (((cs.map fun q => V.ref q.1) ++ [V.ref a]).length : Int) - 1 = (cs.length : Int) by rw [List.length_append, List.length_map]; simp]
      refine q2 hin H1 ⟨by rw [e1, List.map_append]; rfl, fun q hq => ?_⟩ o1
      have t1 : KT H H1 := KT.off o1 ht.at'
      rcases List.mem_append.mp hq with h | h
      · exact (ht.ct q h).kt t1
      · have e : q = (a, c) := by simpa using h
        subst e
        exact hc.kt t1
    · obtain ⟨z, hz, ez⟩ : ∃ q ∈ cs, q.2 = c := by
        refine Classical.byContradiction fun h => hin fun q hq e => h ⟨q, hq, e⟩
      obtain ⟨j, hj, ej⟩ := List.getElem_of_mem hz
      have hj' : cs[j]? = some (z.1, c) := by rw [List.getElem?_eq_getElem hj, ej, ← ez]
      have e : ((cs.map (·.2)).map Ct.data).any (fun z => PyData.eqv z c.data) = true := by
        rw [List.any_eq_true]
        exact ⟨c.data, List.mem_map.mpr ⟨c, List.mem_map.mpr ⟨z, hz, ez⟩, rfl⟩, (Ct.eqv_iff _ _).mpr rfl⟩
      rw [e]
      walk_at "g"
      refine ⟨th, .ref a, c.data, _, j, c.data, rfl, rfl, ht.dp, hc.dp, cts_shaped hlay, Ct.shaped hco, by rw [List.getElem?_map, List.getElem?_map, hj']; rfl, (Ct.eqv_iff _ _).mpr rfl, fun m z' hm hz' => ?_, ?_⟩
      · rw [List.getElem?_map, List.getElem?_map] at hz'
        have hmj : m < cs.length := by omega
        rw [List.getElem?_eq_getElem hmj] at hz'
        have e2 : (cs[m]).2.data = z' := Option.some.inj hz'
        rw [← e2, Bool.eq_false_iff]
        intro h
        have e3 := (Ct.eqv_iff _ _).mp h
        have e4 : cs[j] = (z.1, c) := by
          have := List.getElem?_eq_getElem hj
          rw [hj'] at this
          exact (Option.some.inj this).symm
        have h1 : (cs.map (·.2))[m]'(by rw [List.length_map]; omega) = (cs.map (·.2))[j]'(by rw [List.length_map]; omega) := by
          rw [List.getElem_map, List.getElem_map, e3, e4]
        have := nodup_at nd h1
        omega
      · walk_at "g"
        exact q1 j z.1 hj'
theorem ok_some {f fM fD : Addr} {fd fdM fdD : FuncData} (T : Txt K mg) (F : Fun K "_law_some" "_law_some" s_law_some f fd) (D_law_mixed : Df K mg "_law_mixed" s_law_mixed ["_law_cell", "_law_turn"] fM fdM)
    (D_law_draw : Df K mg "_law_draw" s_law_draw ["_law_deck_here", "_law_many"] fD fdD) : FnOk P w K mg base CX0 3 f fd ["_law_deck_here", "_law_names", "_law_count"] spSome := by
  have G_law_draw : FnOk P w K mg base CX0 2 fD fdD ["_law_deck_here", "_law_many"] spDraw := ok_draw T D_law_draw.fn D_law_mixed
  refine F.ok sc_law_some (fun vs H Q E h => ?_) (fun cdv A outer s H vs Q E hr h => ?_)
  · obtain ⟨d, c, l, n, m, names, rfl, _⟩ := h
    rfl
  · obtain ⟨d, c, l, n, m, names, rfl, D0, hn, hl, ld, lc, hnl, hm, q⟩ := h
    refine ⟨_,
      (pss_cons
        (ps_set (i := 3) sc_law_some.nd rfl (.inl rfl) (pe_lst pa_nil))
      (pss_cons
        (ps_for PassesOwn.never rfl (pi_range1 (by rfl) T.n_range (pa_cons (pe_callB (c_min2 rfl) (by rfl) T.n_min (by decide +kernel) (pa_cons (pv 2) (pa_cons (pe_callB (r := rLen K) c_len (by rfl) T.n_len (by decide +kernel) (pa_cons (pv 1) pa_nil)) pa_nil))) pa_nil)) (pg_name (i := 4) sc_law_some.nd rfl (.inl rfl))
          (pss_one
            (ps_expr (pe_bm PySem.F.plainAttrs_list PySem.F.slot_list_append PySem.F.type_list_append mt_append (pv 3) (pa_cons (pe_ix (r := rIxL K) ix_list (pv 1) (pe_call G_law_draw (hr.mono (by omega)) (by rfl) D_law_draw.g D_law_draw.fn.kp D_law_draw.b .nil pass0 (pa_cons (pv 0) (pa_cons (pe_callB (r := rLen K) c_len (by rfl) T.n_len (by decide +kernel) (pa_cons (pv 1) pa_nil)) pa_nil))) (fun _ _ => rfl)) pa_nil)))))
      (pss_one
        (ps_ret (pe_callTy (r := rTupOf K) c_tupOf (by rfl) T.n_tuple (by decide +kernel) (pa_cons (pe_callB (r := rSortS w) (c_sortS rfl) (by rfl) T.n_sorted (by decide +kernel) (pa_cons (pe_callTy (r := rSetL K w) (c_setL rfl) (by rfl) T.n_set (by decide +kernel) (pa_cons (pv 3) pa_nil)) pa_nil)) pa_nil))))))
      , ?_⟩
    rw [show L2.start N_law_some [V.ref d, V.ref l, nV m] = [some (.ref d), some (.ref l), some (.int (m : Int)), none, none] from rfl]
    walk_at "x"
    refine w_new fun L H1 hL e1 k1 => ?_
    have D1 : Deck H1 d c n := D0.kp (M := []) (Kp.of k1) (by simp) (by simp)
    have hl1 := k1 _ _ hl
    obtain ⟨Ld, Lc⟩ := D0.ne1 hL
    have Ll : l ≠ L := ne_of_none hl hL
    walk_at "g"
    try refine w_rng1' (by simp only [List.length_map]; omega) (by simp only [List.length_map]; omega) ?_
    refine lp_range (fun i σ H' => ∃ (y : Option V) (dr : List Nat), σ = [some (.ref d), some (.ref l), some (.int (m : Int)), some (.ref L), y] ∧ Deck H' d c (n + i) ∧ KX d H H' ∧ H' L = some (.lst (dr.map nV)) ∧ dr.length = i ∧ ∀ x ∈ dr, x ∈ names) ⟨_, [], rfl, D1, KX.of k1, e1, rfl, by simp⟩ ?_ ?_
    · rintro i σ H2 hi ⟨y, dr, rfl, D2, k2, e2, hdl, hdr⟩
      have hi2 : i < m ∧ 0 < names.length := by
        simp only [List.length_map] at hi
        omega
      have hl2 := k2.p _ _ (by simpa using ld) hl
      walk_at "g"
      refine w_draw D2 (by omega) (by rw [List.length_map]; omega) (by rw [List.length_map]; omega) fun r H3 hr3 D3 o3 => ?_
      have hr4 : r < names.length := by rw [List.length_map] at hr3; omega
      have e3 := o3.get Ld e2
      have hl3 := o3.get ld hl2
      have at1 : atI (names.map nV) (r : Int) = some (.int ((names[r] : Nat) : Int)) := atI_nat (nV_at hr4)
      walk_at "g"
      refine w_app e3 (by rw [List.length_map]; exact small1kl (by omega)) fun H4 e4 o4 => ?_
      walk_at "g"
      refine ⟨_, dr ++ [names[r]], rfl, (D3.kp (M := [L]) (o4.kp (by simp)) (by simpa using Ld.symm) (by simpa using Lc.symm)).mono (by omega), (k2.trans (D2.kx D3 o3)).offN o4 hL, by rw [e4, List.map_append]; rfl, by rw [List.length_append, hdl]; rfl, fun x hx => ?_⟩
      rcases List.mem_append.mp hx with h | h
      · exact hdr x h
      · have : x = names[r] := by simpa using h
        rw [this]
        exact List.getElem_mem hr4
    · rintro σ H2 ⟨y, dr, rfl, D2, k2, e2, hdl, hdr⟩
      have hlm : dr.length ≤ m := by
        simp only [List.length_map] at hdl
        omega
      have e2' : H2 L = some (.lst ((dr.map fun n : Nat => (n : Int)).map V.int)) := by rw [e2, nV_map]
      walk_at "g"
      refine w_setOf (.of e2') (by rw [List.length_map]; omega) fun st c3 H3 hst hc e3 k3 => ?_
      walk_at "g"
      refine w_sortS e3 (by rw [List.length_map] at hc; omega) fun ys rw' H4 hup hmem hrw e4 k4 => ?_
      obtain ⟨ns, rfl⟩ := ints_nats (zs := ys) fun z hz => by
        have := of_decide_eq_true ((hmem z).mp hz)
        obtain ⟨n, _, rfl⟩ := List.mem_map.mp this
        omega
      have hmem2 : ∀ x ∈ ns, x ∈ dr := fun x hx => int_mem.mp (of_decide_eq_true ((hmem x).mp (int_mem.mpr hx)))
      have hup2 : ns.Pairwise (· < ·) := by
        rw [List.pairwise_map] at hup
        exact hup.imp fun {a b} h => by omega
      have hlen := nodup_le (ns.map fun n : Nat => (n : Int)) (dr.map fun n : Nat => (n : Int)) (hup.imp fun {a b} h => Int.ne_of_lt h) fun x hx => of_decide_eq_true ((hmem x).mp hx)
      rw [List.length_map, List.length_map] at hlen
      walk_at "g"
      refine w_tupL (.of e4) fun t H5 ht e5 k5 => ?_
      have k25 := Same.trans k3 (Same.trans k4 k5)
      refine q H5 t ns ((D2.kp (M := []) (Kp.of k25) (by simp) (by simp)).mono ?_) (k2.trans (KX.of k25)) (by rw [e5, nV_map]) hup2 (by omega) fun x hx => hdr x (hmem2 x hx)
      simp only [List.length_map] at hdl ⊢
      omega
theorem ok_lbook {f fI fN : Addr} {fd fdI fdN : FuncData} (T : Txt K mg) (F : Fun K "_law_book" "_law_book" s_law_book f fd) (K_Book : Kl K mg "Book" C ["contents", "depths", "given"]) (M_Book : Mk K C fI)
    (D_Book___init__ : DfM K C "__init__" "Book.__init__" s_Book___init__ ["self"] fI fdI) (D_Book_named : DfM K C "named" "Book.named" s_Book_named ["self", "content"] fN fdN) (G_Book_named : FnOk P w K mg base CX0 6 fN fdN ["self", "content"] (spNamed P w C)) : FnOk P w K mg base CX0 7 f fd ["_law_things"] (spLBook P w C) := by
  have G_Book___init__ : FnOk P w K mg base CX0 1 fI fdI ["self"] (spBookInit P w C) := ok_bookinit T D_Book___init__.fn K_Book
  refine F.ok sc_law_book (fun vs H Q E h => ?_) (fun cdv A outer s H vs Q E hr h => ?_)
  · obtain ⟨th, cs, rfl, _⟩ := h
    rfl
  · obtain ⟨th, cs, rfl, ht, hok, nd, hlen, q⟩ := h
    refine ⟨_,
      (pss_cons
        (ps_set (i := 1) sc_law_book.nd rfl (.inl rfl) (pe_make0 M_Book G_Book___init__ (hr.mono (by omega)) (by rfl) K_Book.g D_Book___init__.b .nil pass0))
      (pss_cons
        (ps_for PassesOwn.never rfl (pi_list (pv 0)) (pg_name (i := 2) sc_law_book.nd rfl (.inl rfl))
          (pss_one
            (ps_expr (pe_meth (pv 1) K_Book.cl D_Book_named.m G_Book_named (hr.mono (by omega)) D_Book_named.b .nil pass0 (pa_cons (pv 2) pa_nil)))))
      (pss_one
        (ps_ret (pv 1)))))
      , ?_⟩
    rw [show L2.start N_law_book [V.ref th] = [some (.ref th), none, none] from rfl]
    walk_at "x"
    refine w_make' fun p dx H1 hp hdx hne e1 k1 => ?_
    refine ⟨p, dx, rfl, e1, fun lc ld lg H2 hlc hld hlg B2 k2 => ⟨rfl, ?_⟩⟩
    have hlc0 := k1.free hlc
    have hld0 := k1.free hld
    have hlg0 := k1.free hlg
    have s2 : Same H H2 := fun b o e => k2 _ _ (by simpa using ne_of_none e hp) (k1 _ _ e)
    walk_at "g"
    refine w_itL' (.of (s2 _ _ ht.at')) ?_
    refine lp_list (xs := cs.map fun q => V.ref q.1) (fun i σ H' => (∃ y : Option V, σ = [some (.ref th), some (.ref p), y]) ∧ Same H H' ∧ BookAt P w C H' p dx lc ld lg (cs.take i) (dsOf ((cs.take i).map (·.2)))) ⟨⟨_, rfl⟩, s2, B2⟩ (fun i σ H' _ h => .of (h.2.1 _ _ ht.at')) ?_ ?_
    · rintro i x σ H3 hx ⟨⟨y, rfl⟩, s3, B3⟩
      obtain ⟨qc, hq, rfl⟩ := map_at hx
      have hi := (List.getElem?_eq_some_iff.mp hq).1
      have ob3 := B3.ob
      have etake : cs.take (i + 1) = cs.take i ++ [qc] := by rw [List.take_add_one, hq]; rfl
      have hlt : (cs.take i).length < 400 := by rw [List.length_take]; omega
      walk_at "g"
      refine ⟨p, dx, lc, ld, lg, qc.1, cs.take i, _, qc.2, rfl, B3, (ht.ct qc (List.mem_of_getElem? hq)).kt (KT.of s3), ?_, hlt, fun j b H4 hj k4 => ?_, fun hn H4 B4 k4 t4 => ?_⟩
      · have := hok i qc.2 (by rw [List.getElem?_map, hq]; rfl)
        rwa [← List.map_take] at this
      · exfalso
        have hj1 := (List.getElem?_eq_some_iff.mp hj).1
        rw [List.length_take] at hj1
        have hj2 : cs[j]? = some (b, qc.2) := by
          rw [List.getElem?_take] at hj
          rwa [if_pos (by omega)] at hj
        have h1 : (cs.map (·.2))[j]? = some qc.2 := by rw [List.getElem?_map, hj2]; rfl
        have h2 : (cs.map (·.2))[i]? = some qc.2 := by rw [List.getElem?_map, hq]; rfl
        obtain ⟨g1, g1'⟩ := List.getElem?_eq_some_iff.mp h1
        obtain ⟨g2, g2'⟩ := List.getElem?_eq_some_iff.mp h2
        have := nodup_at nd (g1'.trans g2'.symm)
        omega
      · walk_at "g"
        refine ⟨⟨_, rfl⟩, fun b o e => k4 _ _ ?_ (s3 _ _ e), ?_⟩
        · simp only [List.mem_cons, List.not_mem_nil, or_false, not_or]
          exact ⟨ne_of_none e hlc0, ne_of_none e hld0, ne_of_none e hlg0⟩
        · rw [etake, List.map_append, List.map_cons, List.map_nil, dsOf_snoc]
          exact B4
    · rintro σ H3 ⟨⟨y, rfl⟩, s3, B3⟩
      rw [List.length_map, List.take_length] at B3
      walk_at "g"
      exact q H3 p dx lc ld lg _ hp hlc0 hld0 hlg0 B3 s3
theorem ok_lhere {f : Addr} {fd : FuncData} (T : Txt K mg) (F : Fun K "_law_here" "_law_here" s_law_here f fd) : FnOk P w K mg base CX0 1 f fd ["_law_names"] spLHere := by
  refine F.ok sc_law_here (fun vs H Q E h => ?_) (fun cdv A outer s H vs Q E hr h => ?_)
  · obtain ⟨l, hs, rfl, _⟩ := h
    rfl
  · obtain ⟨l, hs, rfl, hl, hb, q⟩ := h
    have hu := hu_of hr
    refine ⟨_,
      (pss_cons
        (ps_set (i := 1) sc_law_here.nd rfl (.inl rfl) pe_dnewK)
      (pss_cons
        (ps_for PassesOwn.never rfl (pi_list (pv 0)) (pg_name (i := 2) sc_law_here.nd rfl (.inl rfl))
          (pss_one
            (ps_dput hu (pv 1) (pv 2) pe_bl rfl)))
      (pss_one
        (ps_ret (pv 1)))))
      , ?_⟩
    rw [show L2.start N_law_here [V.ref l] = [some (.ref l), none, none] from rfl]
    walk_at "x"
    refine w_new fun f H1 hf e1 k1 => ?_
    have F1 : FAt H1 f (fun n => n ∈ hs.take 0) := ⟨[], [], e1, rfl, .nil, by simp, by simp⟩
    walk_at "g"
    refine w_itL' (.of (k1 _ _ hl)) ?_
    refine lp_list (xs := hs.map nV) (fun i σ H' => (∃ y : Option V, σ = [some (.ref l), some (.ref f), y]) ∧ Kp [f] H1 H' ∧ FAt H' f (fun n => n ∈ hs.take i)) ⟨⟨_, rfl⟩, Kp.refl, F1⟩ (fun i σ H' _ h => .of (h.2.1 _ _ (by simpa using ne_of_none hl hf) (k1 _ _ hl))) ?_ ?_
    · rintro i x σ H2 hx ⟨⟨y, rfl⟩, k2, F2⟩
      obtain ⟨n, hn, rfl⟩ := map_at hx
      walk_at "g"
      refine w_fput F2 (hb n (List.mem_of_getElem? hn)) fun H3 F3 o3 => ?_
      walk_at "g"
      refine ⟨⟨_, rfl⟩, k2.trans (o3.kp (by simp)), F3.iff fun m => ?_⟩
      rw [List.take_add_one, hn]
      simp
    · rintro σ H2 ⟨⟨y, rfl⟩, k2, F2⟩
      walk_at "g"
      rw [List.length_map, List.take_length] at F2
      exact q H2 f hf (fun b o e => k2 _ _ (by simpa using ne_of_none e hf) (k1 _ _ e)) F2
end
/-! ### the scene of the laws of ways -/
theorem w_lstRg {σ : L2.St} {H : Hp} {Q : VK} {te : L2.St → Hp → (Int → Int → Hp → Prop) → Prop} (h : te σ H fun a b H1 => RgOk a b ∧ Nw (.lst (rgV a b)) H1 Q) : tLstRg te σ H Q := h
def rRg1 (x : V) (H : Hp) (R : Int → Int → Hp → Prop) : Prop := ∃ n, x = .int n ∧ R 0 n H
theorem w_rg1 {σ : L2.St} {H : Hp} {ta : TE} {R : Int → Int → Hp → Prop} (h : ta σ H fun x H1 => rRg1 x H1 R) : tRg1 ta σ H R := h
theorem w_rg1' {H : Hp} {j : Int} {R : Int → Int → Hp → Prop} (h : R 0 j H) : rRg1 (.int j) H R := ⟨j, rfl, h⟩
local macro_rules | `(tactic| walk_at "s") => `(tactic| first
  | with_reducible refine w_lstRg ?_
  | with_reducible refine w_rg1 ?_
  | with_reducible refine w_rg1' ?_
  )
theorem rgV_nat {i j : Int} (a b : Nat) (hi : i = a) (hj : j = b) : rgV i j = ((List.range (b - a)).map fun k => a + k).map nV := by
  unfold rgV
  rw [List.map_map, show (j - i).toNat = b - a by omega]
  refine List.map_congr_left fun k _ => ?_
  show V.int (i + (k : Nat)) = V.int ((a + k : Nat) : Int)
  rw [show i + (k : Nat) = ((a + k : Nat) : Int) by omega]
structure ScnV (cs : List Ct) : Prop where
  c0 : cs[0]? = some (.leaf [])
  c1 : ∃ es : List (Str × Nat), cs[1]? = some (.tree es) ∧ (es = [] ∨ es = [((Str.ofString "a"), 0)])
  vs : ∀ i c, 2 ≤ i → cs[i]? = some c → ∃ ps s, c = .ver ps 1 s ∧ ps.Pairwise (· < ·) ∧ ps.length ≤ 3 ∧ (∀ p ∈ ps, 2 ≤ p ∧ p < i) ∧ s ≤ 10 ^ 18
  nd : cs.Nodup
theorem lab_a : LabOk "a" := ⟨by decide +kernel, by decide +kernel, by decide +kernel⟩
theorem ScnV.ok {cs : List Ct} (h : ScnV cs) : ScnOk cs := by
  intro i c hc
  have hi := (List.getElem?_eq_some_iff.mp hc).1
  match i, hc, hi with
  | 0, hc, hi =>
    rw [h.c0] at hc
    cases hc
    exact ⟨by decide, by simp⟩
  | 1, hc, hi =>
    obtain ⟨es, e1, he⟩ := h.c1
    rw [e1] at hc
    cases hc
    have e : cs.take 1 = [Ct.leaf []] := by rw [List.take_add_one, h.c0]; rfl
    rw [e]
    rcases he with rfl | rfl
    · exact ⟨by decide, (fun e he => by cases he), .nil, by decide⟩
    refine ⟨by decide, fun e he => ?_, List.pairwise_singleton _ _, by decide⟩
    have : e = ((Str.ofString "a"), 0) := by simpa using he
    subst this
    exact ⟨lab_a, _, rfl, lit_ne2⟩
  | i + 2, hc, hi =>
    obtain ⟨ps, s, rfl, h1, h2, h3, h4⟩ := h.vs (i + 2) c (by omega) hc
    obtain ⟨es, e1, _⟩ := h.c1
    refine ⟨h1, by omega, fun p hp => ?_, ⟨_, by rw [List.getElem?_take, if_pos (by omega)]; exact e1, rfl⟩, h4⟩
    obtain ⟨g1, g2⟩ := h3 p hp
    have hpl : p < cs.length := by omega
    obtain ⟨ps', s', e, _⟩ := h.vs p cs[p] g1 (List.getElem?_eq_getElem hpl)
    exact ⟨_, by rw [List.getElem?_take, if_pos g2]; exact List.getElem?_eq_getElem hpl, by rw [e]; rfl⟩
theorem ScnV.txts {cs : List Ct} (h : ScnV cs) : ∀ c ∈ cs, c.txts := by
  intro c hc
  obtain ⟨i, hi, rfl⟩ := List.getElem_of_mem hc
  have hg := List.getElem?_eq_getElem hi
  revert hg
  generalize cs[i] = c
  intro hg
  match i, hg with
  | 0, hg =>
    rw [h.c0] at hg
    rw [← Option.some.inj hg]
    exact fun z hz => by cases hz
  | 1, hg =>
    obtain ⟨es, e1, hes⟩ := h.c1
    rw [e1] at hg
    rw [← Option.some.inj hg]
    rcases hes with rfl | rfl
    · exact fun z hz => by cases hz
    intro e he
    have : e = ((Str.ofString "a"), 0) := by simpa using he
    subst this
    decide +kernel
  | i + 2, hg =>
    obtain ⟨ps, s, e, _⟩ := h.vs (i + 2) _ (by omega) hg
    rw [e]
    trivial
theorem ScnV.ver {cs : List (Addr × Ct)} (h : ScnV (cs.map (·.2))) {i : Nat} (h2 : 2 ≤ i) (hi : i < cs.length) : isV cs i := by
  have hg : (cs.map (·.2))[i]? = some (cs[i]).2 := by rw [List.getElem?_map, List.getElem?_eq_getElem hi]; rfl
  obtain ⟨ps, s, e, _⟩ := h.vs i _ h2 hg
  exact ⟨(cs[i]).1, ps, 1, s, by rw [List.getElem?_eq_getElem hi, ← e]⟩
theorem ScnV.isV_iff {cs : List (Addr × Ct)} (h : ScnV (cs.map (·.2))) {i : Nat} (iv : isV cs i) : 2 ≤ i := by
  obtain ⟨a, ps, r, s, e⟩ := iv
  match i, e with
  | 0, e =>
    have := h.c0
    rw [List.getElem?_map, e] at this
    cases this
  | 1, e =>
    obtain ⟨es, this, _⟩ := h.c1
    rw [List.getElem?_map, e] at this
    cases this
  | i + 2, _ => omega
theorem ScnV.bk {cs : List (Addr × Ct)} (h : ScnV (cs.map (·.2))) : BkOk cs := by
  have key : ∀ n, (pars cs n = [] ∨ ((pars cs n).length ≤ 3 ∧ n < cs.length ∧ ∀ p ∈ pars cs n, 2 ≤ p ∧ p < n)) := fun n => by
    by_cases iv : isV cs n
    · have h2 := h.isV_iff iv
      obtain ⟨a, r, s, e⟩ := iv.at
      obtain ⟨ps, s', e2, _, h3, h4, _⟩ := h.vs n _ h2 (by rw [List.getElem?_map, e]; rfl)
      have e3 : pars cs n = ps := by injection e2
      rw [e3]
      exact .inr ⟨h3, iv.lt, h4⟩
    · cases e : pars cs n with
      | nil => exact .inl rfl
      | cons p r => exact absurd (isV.of (p := p) (by rw [e]; simp)) iv
  refine ⟨fun n p hp => ?_, fun n => ?_⟩
  · rcases key n with e | ⟨_, h2, h3⟩
    · rw [e] at hp
      cases hp
    · obtain ⟨g1, g2⟩ := h3 p hp
      exact ⟨h.ver g1 (by omega), g2⟩
  · rcases key n with e | ⟨h1, _⟩
    · rw [e]; decide
    · omega
def spLScene : Sp := fun vs H Q _ => ∃ (d c : Addr) (n m : Nat), vs = [.ref d, nV m] ∧ Deck H d c n ∧ 1 ≤ m ∧ m ≤ 300 ∧ n + 8 * m + 12 ≤ MOSTD ∧
  ∀ (H' : Hp) (t th hl : Addr) (cs : List (Addr × Ct)) (hs : List Nat), Deck H' d c (n + 8 * m + 12) → KX d H H' → H th = none → H hl = none → H' t = some (.tup [.ref th, .ref hl]) → ThAt H' th cs → H' hl = some (.lst (hs.map nV)) → ScnV (cs.map (·.2)) → 3 ≤ cs.length → cs.length ≤ m + 2 → hs.Pairwise (· < ·) → (∀ n ∈ hs, n < cs.length) → (∃ n ∈ hs, 2 ≤ n) → Q (.ref t) H'
section
variable {P : Program} {w : World} {K : PySem.W.Frag} {mg : Str → Option Value} {base : Heap} {C : Addr}
theorem ok_lscene {f fM fD fS fG : Addr} {fd fdM fdD fdS fdG : FuncData} (T : Txt K mg) (F : Fun K "_law_scene" "_law_scene" s_law_scene f fd) (D_law_mixed : Df K mg "_law_mixed" s_law_mixed ["_law_cell", "_law_turn"] fM fdM)
    (D_law_draw : Df K mg "_law_draw" s_law_draw ["_law_deck_here", "_law_many"] fD fdD) (D_law_some : Df K mg "_law_some" s_law_some ["_law_deck_here", "_law_names", "_law_count"] fS fdS) (D_law_give : Df K mg "_law_give" s_law_give ["_law_things", "_law_content"] fG fdG) : FnOk P w K mg base CX0 4 f fd ["_law_deck_here", "_law_most"] spLScene := by
  have G_law_draw : FnOk P w K mg base CX0 2 fD fdD ["_law_deck_here", "_law_many"] spDraw := ok_draw T D_law_draw.fn D_law_mixed
  have G_law_some : FnOk P w K mg base CX0 3 fS fdS ["_law_deck_here", "_law_names", "_law_count"] spSome := ok_some T D_law_some.fn D_law_mixed D_law_draw
  have G_law_give : FnOk P w K mg base CX0 1 fG fdG ["_law_things", "_law_content"] spGive := ok_give T D_law_give.fn
  refine F.ok sc_law_scene (fun vs H Q E h => ?_) (fun cdv A outer s H vs Q E hr h => ?_)
  · obtain ⟨d, c, n, m, rfl, _⟩ := h
    rfl
  · obtain ⟨d, c, n, m, rfl, D0, hm1, hm2, hn, q⟩ := h
    refine ⟨_,
      (pss_cons
        (ps_set (i := 2) sc_law_scene.nd rfl (.inl rfl) (pe_call G_law_draw (hr.mono (by omega)) (by rfl) D_law_draw.g D_law_draw.fn.kp D_law_draw.b .nil pass0 (pa_cons (pv 0) (pa_cons pe_int pa_nil))))
      (pss_cons
        (ps_set (i := 3) sc_law_scene.nd rfl (.inr rfl) (pe_lst (pa_cons (pe_tup (pa_cons pe_str (pa_cons (pe_tup pa_nil) pa_nil))) (pa_cons (pe_tup (pa_cons pe_str (pa_cons (pe_tup (pa_cons (pe_tup (pa_cons pe_str (pa_cons pe_int pa_nil))) pa_nil)) pa_nil))) pa_nil))))
      (pss_cons
        (ps_for PassesOwn.never rfl (pi_range1 (by rfl) T.n_range (pa_cons (pe_op op_add pe_int (pe_call G_law_draw (hr.mono (by omega)) (by rfl) D_law_draw.g D_law_draw.fn.kp D_law_draw.b .nil pass0 (pa_cons (pv 0) (pa_cons (pv 1) pa_nil)))) pa_nil)) (pg_name (i := 4) sc_law_scene.nd rfl (.inl rfl))
          (pss_cons
            (ps_set (i := 5) sc_law_scene.nd rfl (.inl rfl) (pe_call G_law_some (hr.mono (by omega)) (by rfl) D_law_some.g D_law_some.fn.kp D_law_some.b .nil pass0 (pa_cons (pv 0) (pa_cons (pe_listRg rfl (by rfl) T.n_list (prg_2 (by rfl) T.n_range pe_int (pe_callB (r := rLen K) c_len (by rfl) T.n_len (by decide +kernel) (pa_cons (pv 3) pa_nil)))) (pa_cons (pe_call G_law_draw (hr.mono (by omega)) (by rfl) D_law_draw.g D_law_draw.fn.kp D_law_draw.b .nil pass0 (pa_cons (pv 0) (pa_cons pe_int pa_nil))) pa_nil)))))
          (pss_one
            (ps_expr (pe_call G_law_give (hr.mono (by omega)) (by rfl) D_law_give.g D_law_give.fn.kp D_law_give.b .nil pass0 (pa_cons (pv 3) (pa_cons (pe_tup (pa_cons pe_str (pa_cons (pv 5) (pa_cons pe_int (pa_cons (pe_call G_law_draw (hr.mono (by omega)) (by rfl) D_law_draw.g D_law_draw.fn.kp D_law_draw.b .nil pass0 (pa_cons (pv 0) (pa_cons (pe_op op_add (pe_op op_pow pe_int pe_int) pe_int) pa_nil))) pa_nil))))) pa_nil)))))))
      (pss_cons
        (ps_set (i := 6) sc_law_scene.nd rfl (.inl rfl) (pe_listRg rfl (by rfl) T.n_list (prg_1 (by rfl) T.n_range (pe_callB (r := rLen K) c_len (by rfl) T.n_len (by decide +kernel) (pa_cons (pv 3) pa_nil)))))
      (pss_cons
        (ps_if (pt_cmpR op_eq (pv 2) pe_int (nomark _))
          (pss_one
            (ps_setLc (i := 7) (own := [("_law_name_here", 9)]) (g := (gName 9)) rfl sc_law_scene.nd rfl rfl (sw_true rfl rfl rfl (by decide +kernel)) (pi_list (pv 6)) (blkOk_by (own := [("_law_name_here", 9)]) (N := N_law_scene) (sc := defScope s_law_scene) (by decide +kernel)) (fun _ _ _ _ _ => (pg_name (i := 9) sc_law_scene.nd rfl (.inl rfl))) (fun _ _ _ _ _ => (pts_one (pt_cmpR op_eq (pe_call G_law_draw (hr.mono (by omega)) (by rfl) D_law_draw.g D_law_draw.fn.kp D_law_draw.b .nil pass0 (pa_cons (pv 0) (pa_cons pe_int pa_nil))) pe_int (nomark _)))) (fun _ _ _ _ _ => (pv 9))))
          (pss_cons
            (ps_set (i := 8) sc_law_scene.nd rfl (.inr rfl) (pe_lc (own := [("_law_k", 4)]) (g := (gName 4)) rfl sc_law_scene.nd (pi_range1 (by rfl) T.n_range (pa_cons (pe_call G_law_draw (hr.mono (by omega)) (by rfl) D_law_draw.g D_law_draw.fn.kp D_law_draw.b .nil pass0 (pa_cons (pv 0) (pa_cons pe_int pa_nil))) pa_nil)) (blkOk_by (own := [("_law_k", 4)]) (N := N_law_scene) (sc := defScope s_law_scene) (by decide +kernel)) (fun _ _ _ _ _ => (pg_name (i := 4) sc_law_scene.nd rfl (.inl rfl))) (fun _ _ _ _ _ => pts_nil) (fun _ _ _ _ _ => (pe_call G_law_draw (hr.mono (by omega)) (by rfl) D_law_draw.g D_law_draw.fn.kp D_law_draw.b .nil pass0 (pa_cons (pv 0) (pa_cons (pe_op op_mul pe_int (pe_callB (r := rLen K) c_len (by rfl) T.n_len (by decide +kernel) (pa_cons (pv 3) pa_nil))) pa_nil))))))
          (pss_one
            (ps_setLc (i := 7) (own := [("_law_name_here", 9)]) (g := (gName 9)) rfl sc_law_scene.nd rfl rfl (sw_true rfl rfl rfl (by decide +kernel)) (pi_list (pv 6)) (blkOk_by (own := [("_law_name_here", 9)]) (N := N_law_scene) (sc := defScope s_law_scene) (by decide +kernel)) (fun _ _ _ _ _ => (pg_name (i := 9) sc_law_scene.nd rfl (.inl rfl))) (fun _ _ _ _ _ => (pts_one (pt_cmpR (r := rIn K true) op_notIn_seq (pv 9) (pv 8) rfl))) (fun _ _ _ _ _ => (pv 9))))))
      (pss_cons
        (ps_expr (pe_bm PySem.F.plainAttrs_list PySem.F.slot_list_append PySem.F.type_list_append mt_append (pv 7) (pa_cons (pe_op op_add pe_int (pe_call G_law_draw (hr.mono (by omega)) (by rfl) D_law_draw.g D_law_draw.fn.kp D_law_draw.b .nil pass0 (pa_cons (pv 0) (pa_cons (pe_op op_sub (pe_callB (r := rLen K) c_len (by rfl) T.n_len (by decide +kernel) (pa_cons (pv 3) pa_nil)) pe_int) pa_nil)))) pa_nil)))
      (pss_one
        (ps_ret (pe_tup (pa_cons (pv 3) (pa_cons (pe_callB (r := rSortS w) (c_sortS rfl) (by rfl) T.n_sorted (by decide +kernel) (pa_cons (pe_callTy (r := rSetL K w) (c_setL rfl) (by rfl) T.n_set (by decide +kernel) (pa_cons (pv 7) pa_nil)) pa_nil)) pa_nil)))))))))))
      , ?_⟩
    rw [show L2.start N_law_scene [V.ref d, nV m] = [some (.ref d), some (.int (m : Int)), none, none, none, none, none, none, none, none] from rfl]
    walk_at "x"
    refine w_draw D0 (by omega) (by decide) (by decide) fun pick H1 hpick D1 o1 => ?_
    have x1 := D0.kx D1 o1
    walk_at "g"
    refine w_new fun r0 H2 hr0 e2 k2 => ?_
    walk_at "g"
    refine w_new fun a0 H3 ha0 e3 k3 => ?_
    walk_at "g"
    refine w_new fun en H4 hen e4 k4 => ?_
    walk_at "g"
    refine w_new fun r1 H5 hr1 e5 k5 => ?_
    walk_at "g"
    refine w_new fun a1 H6 ha1 e6 k6 => ?_
    walk_at "g"
    refine w_new fun th H7 hth e7 k7 => ?_
    have k16 := Same.trans k2 (Same.trans k3 (Same.trans k4 (Same.trans k5 k6)))
    have k17 := Same.trans k16 k7
    have x7 : KX d H H7 := x1.trans (KX.of k17)
    have D7 : Deck H7 d c (n + 1) := D1.kp (M := []) (Kp.of k17) (by simp) (by simp)
    have hth1 : H1 th = none := k16.free hth
    have hth0 : H th = none := by
      cases e : H th with
      | none => rfl
      | some o =>
        by_cases htd : th = d
        · obtain ⟨⟨xs, e'⟩, _⟩ := D1.at
          rw [htd, e'] at hth1
          cases hth1
        · rw [o1.get htd e] at hth1
          cases hth1
    obtain ⟨thd, thc⟩ := D0.ne1 hth0
    have T7 : ThAt H7 th [(a0, Ct.leaf []), (a1, Ct.tree [("a", 0)])] := by
      refine ⟨e7, fun q hq => ?_⟩
      have hq' : q = (a0, Ct.leaf []) ∨ q = (a1, Ct.tree [("a", 0)]) := by simpa using hq
      rcases hq' with rfl | rfl
      · exact ⟨r0, k7 _ _ (k6 _ _ (k5 _ _ (k4 _ _ e3))), k7 _ _ (k6 _ _ (k5 _ _ (k4 _ _ (k3 _ _ e2))))⟩
      · exact ⟨r1, [(en, "a", 0)], k7 _ _ e6, k7 _ _ (k6 _ _ e5), rfl, fun z hz => by
          have : z = (en, (Str.ofString "a"), 0) := by simpa using hz
          subst this
          exact k7 _ _ (k6 _ _ (k5 _ _ e4))⟩
    have V7 : ScnV ([(a0, Ct.leaf []), (a1, Ct.tree [("a", 0)])].map (·.2)) := ⟨rfl, ⟨_, rfl, .inr rfl⟩, fun i c h2 hi => by
      have := (List.getElem?_eq_some_iff.mp hi).1
      simp only [List.length_map, List.length_cons, List.length_nil] at this
      omega, by simp⟩
    walk_at "g"
    refine w_draw D7 (by omega) (by omega) (by omega) fun many H8 hmany D8 o8 => ?_
    have x8 := x7.trans (D7.kx D8 o8)
    have T8 : ThAt H8 th _ := T7.kp (D7.kx D8 o8).p (D7.kx D8 o8).t (by simpa using thd)
    walk_at "g"
    try refine w_rng1' (by omega) (by omega) ?_
    refine lp_range (fun i σ H' => (∃ y1 y2 : Option V, σ = [some (.ref d), some (.int (m : Int)), some (.int (pick : Int)), some (.ref th), y1, y2, none, none, none, none]) ∧ KX d H H' ∧ Deck H' d c (n + 2 + 5 * i) ∧ ∃ cs : List (Addr × Ct), ThAt H' th cs ∧ ScnV (cs.map (·.2)) ∧ 2 ≤ cs.length ∧ cs.length ≤ 2 + i ∧ (1 ≤ i → 3 ≤ cs.length)) ⟨⟨_, _, rfl⟩, x8, D8, _, T8, V7, by simp, by simp, fun h => absurd h (by decide)⟩ ?_ ?_
    · rintro i σ H9 hi ⟨⟨y1, y2, rfl⟩, x9, D9, cs, T9, V9, hc2, hc3, hc4⟩
      have him : i ≤ 300 ∧ i < m := by omega
      have hth9 := T9.at'
      walk_at "g"
      have erg := rgV_nat (i := 2) (j := ((cs.map fun q => V.ref q.1).length : Int)) 2 cs.length rfl (by rw [List.length_map])
      refine ⟨⟨by omega, by omega, by omega, by rw [List.length_map]; omega, by rw [List.length_map]; omega⟩, ?_⟩
      refine w_new fun ln H10 hln e10 k10 => ?_
      rw [erg] at e10
      have D10 : Deck H10 d c (n + 2 + 5 * i) := D9.kp (M := []) (Kp.of k10) (by simp) (by simp)
      have hln9 : H9 ln = none := hln
      obtain ⟨lnd, lnc⟩ := D9.ne1 hln9
      walk_at "g"
      refine w_draw D10 (by omega) (by decide) (by decide) fun cnt H11 hcnt D11 o11 => ?_
      have e11 := o11.get lnd e10
      walk_at "g"
      refine ⟨d, c, ln, _, cnt, _, rfl, D11, by omega, e11, lnd, lnc, by rw [List.length_map, List.length_range]; omega, by omega, fun H12 tp ps D12 x12 e12 hup hpl hpm => ?_⟩
      have x9_12 : KX d H9 H12 := ((KX.of k10).trans (D10.kx D11 o11)).trans x12
      have T12 : ThAt H12 th cs := T9.kp x9_12.p x9_12.t (by simpa using thd)
      walk_at "g"
      refine w_draw D12 (by omega) (by decide) (by decide) fun st H13 hst D13 o13 => ?_
      have h18 : (10 : Int) ^ Int.toNat 18 = 1000000000000000000 := by decide
      have hst2 : st ≤ 10 ^ 18 := by
        have : (st : Int) < (10 : Int) ^ Int.toNat 18 + 1 := hst
        rw [h18] at this
        omega
      have x13 := D12.kx D13 o13
      have e13 := x13.t _ _ e12
      have T13 : ThAt H13 th cs := T12.kp x13.p x13.t (by simpa using thd)
      walk_at "g"
      refine w_new fun av H14 hav e14 k14 => ?_
      have T14 := T13.same k14
      have D14 : Deck H14 d c _ := D13.kp (M := []) (Kp.of k14) (by simp) (by simp)
      have x9_14 : KX d H9 H14 := (x9_12.trans x13).trans (KX.of k14)
      have hps : ∀ p ∈ ps, 2 ≤ p ∧ p < cs.length := fun p hp => by
        obtain ⟨k, hk, e⟩ := List.mem_map.mp (hpm p hp)
        rw [List.mem_range] at hk
        omega
      walk_at "g"
      refine ⟨th, av, cs, .ver ps 1 st, rfl, T14, V9.nd, ⟨tp, e14, k14 _ _ e13⟩, by omega, fun q hq => V9.txts _ (List.mem_map_of_mem hq), trivial, fun j b hj => ?_, fun hno H15 T15 o15 => ?_⟩
      · walk_at "g"
        refine ⟨⟨_, _, rfl⟩, x9.trans x9_14, D14.mono (by omega), cs, T14, V9, hc2, by omega, fun _ => ?_⟩
        have hj3 := (List.getElem?_eq_some_iff.mp hj).1
        match j, hj with
        | 0, hj =>
          have := V9.c0
          rw [List.getElem?_map, hj] at this
          cases this
        | 1, hj =>
          obtain ⟨es, this, _⟩ := V9.c1
          rw [List.getElem?_map, hj] at this
          cases this
        | j + 2, hj => omega
      · walk_at "g"
        refine ⟨⟨_, _, rfl⟩, (x9.trans x9_14).offN o15 hth0, (D14.kp (M := [th]) (o15.kp (by simp)) (by simpa using thd.symm) (by simpa using thc.symm)).mono (by omega), _, T15, ?_, by rw [List.length_append]; omega, by rw [List.length_append]; simp only [List.length_cons, List.length_nil]; omega, fun _ => by rw [List.length_append]; simp only [List.length_cons, List.length_nil]; omega⟩
        rw [List.map_append, List.map_cons, List.map_nil]
        have hl1 : (cs.map (·.2)).length = cs.length := List.length_map _
        refine ⟨by rw [List.getElem?_append_left (by omega)]; exact V9.c0, by obtain ⟨es, g1, g2⟩ := V9.c1; exact ⟨es, by rw [List.getElem?_append_left (by omega)]; exact g1, g2⟩, fun j c' hj2 hj => ?_, ?_⟩
        · by_cases hjl : j < cs.length
          · rw [List.getElem?_append_left (by omega)] at hj
            exact V9.vs j c' hj2 hj
          · have hj' := (List.getElem?_eq_some_iff.mp hj).1
            rw [List.length_append, hl1] at hj'
            simp only [List.length_cons, List.length_nil] at hj'
            have ej : j = cs.length := by omega
            rw [List.getElem?_append_right (by omega), hl1, ej, Nat.sub_self] at hj
            have : c' = .ver ps 1 st := by simpa using hj.symm
            exact ⟨ps, st, this, hup, by omega, fun p hp => by have := hps p hp; omega, hst2⟩
        · rw [List.nodup_append]
          refine ⟨V9.nd, by simp, fun x hx y hy e => ?_⟩
          obtain ⟨z, hz, rfl⟩ := List.mem_map.mp hx
          have e' : y = .ver ps 1 st := by simpa using hy
          rw [e'] at e
          exact hno z hz e
    · rintro σ H9 ⟨⟨y1, y2, rfl⟩, x9, D9, cs, T9, V9, hc2, hc3, hc4⟩
      have hi9 : ((1 : Int) + (many : Int)).toNat = many + 1 := by omega
      rw [hi9] at D9 hc3 hc4
      have hcl : 3 ≤ cs.length := hc4 (by omega)
      have hmany2 : many < m := by omega
      have hth9 := T9.at'
      walk_at "g"
      have erg := rgV_nat (i := 0) (j := ((cs.map fun q => V.ref q.1).length : Int)) 0 cs.length rfl (by rw [List.length_map])
      refine ⟨⟨by omega, by omega, by omega, by rw [List.length_map]; omega, by rw [List.length_map]; omega⟩, ?_⟩
      refine w_new fun ln H10 hln e10 k10 => ?_
      rw [erg] at e10
      generalize hnm : ((List.range (cs.length - 0)).map fun k => 0 + k) = nm at e10
      have hnml : nm.length = cs.length := by rw [← hnm, List.length_map, List.length_range]; omega
      have hnmm : ∀ x ∈ nm, x < cs.length := fun x hx => by
        rw [← hnm] at hx
        obtain ⟨k, hk, e⟩ := List.mem_map.mp hx
        rw [List.mem_range] at hk
        omega
      have D10 : Deck H10 d c _ := D9.kp (M := []) (Kp.of k10) (by simp) (by simp)
      have hln9 : H9 ln = none := hln
      obtain ⟨lnd, lnc⟩ := D9.ne1 hln9
      have T10 := T9.same k10
      have x10 : KX d H H10 := x9.trans (KX.of k10)
      walk_at "g"
      refine w_seqJ (fun σ' H' => ∃ (hd : Addr) (y8 : Option V) (hv : List Nat), σ' = [some (.ref d), some (.int (m : Int)), some (.int (pick : Int)), some (.ref th), y1, y2, some (.ref ln), some (.ref hd), y8, none] ∧ KX d H10 H' ∧ H10 hd = none ∧ Deck H' d c (n + 2 + 5 * (many + 1) + cs.length + 4) ∧ H' hd = some (.lst (hv.map nV)) ∧ hv.length ≤ cs.length ∧ ∀ x ∈ hv, x < cs.length) ?_ ?_
      · rintro σ' H11 ⟨hd, y8, hv, rfl, x11, hhd, D11, e11, hvl, hvm⟩
        have T11 : ThAt H11 th cs := T10.kp x11.p x11.t (by simpa using thd)
        have hth11 := T11.at'
        obtain ⟨hdd, hdc⟩ := D10.ne1 hhd
        walk_at "g"
        refine w_draw D11 (by omega) (by rw [List.length_map]; omega) (by rw [List.length_map]; omega) fun r H12 hr12 D12 o12 => ?_
        rw [List.length_map] at hr12
        have e12 := o12.get hdd e11
        have x12 := x11.trans (D11.kx D12 o12)
        walk_at "g"
        refine w_app e12 (by rw [List.length_map]; exact small1kl (by omega)) fun H13 e13 o13 => ?_
        have hdT : H10 hd = none := hhd
        have x13 : KX d H10 H13 := x12.offN o13 hhd
        have D13 : Deck H13 d c _ := D12.kp (M := [hd]) (o13.kp (by simp)) (by simpa using hdd.symm) (by simpa using hdc.symm)
        have e13' : H13 hd = some (.lst (((hv ++ [2 + r]).map fun n : Nat => (n : Int)).map V.int)) := by
          rw [e13, ← nV_map, List.map_append, List.map_cons, List.map_nil]
          rw [show (nV (2 + r)) = V.int (2 + (r : Int)) by show V.int ((2 + r : Nat) : Int) = _; rw [show ((2 + r : Nat) : Int) = 2 + (r : Int) by omega]]
        walk_at "g"
        refine w_setOf (.of e13') (by rw [List.length_map, List.length_append]; simp only [List.length_cons, List.length_nil]; omega) fun st c3 H14 hst hc e14 k14 => ?_
        walk_at "g"
        refine w_sortS e14 (by rw [List.length_map, List.length_append] at hc; simp only [List.length_cons, List.length_nil] at hc; omega) fun ys hl H15 hup hmem hhl e15 k15 => ?_
        obtain ⟨hs, rfl⟩ := ints_nats (zs := ys) fun z hz => by
          have := of_decide_eq_true ((hmem z).mp hz)
          obtain ⟨n, _, rfl⟩ := List.mem_map.mp this
          omega
        have hmem2 : ∀ x, x ∈ hs ↔ x ∈ hv ++ [2 + r] := fun x => by
          rw [← int_mem, hmem x, decide_eq_true_iff, int_mem]
        have hup2 : hs.Pairwise (· < ·) := by
          rw [List.pairwise_map] at hup
          exact hup.imp fun {a b} h => by omega
        walk_at "g"
        refine w_new fun t H16 ht e16 k16' => ?_
        have k1316 := Same.trans k14 (Same.trans k15 k16')
        have x16 : KX d H10 H16 := x13.trans (KX.of k1316)
        have T16 : ThAt H16 th cs := T10.kp x16.p x16.t (by simpa using thd)
        have hhl13 : H13 hl = none := k14.free hhl
        have hhl0 : H hl = none := by
          cases e : H hl with
          | none => rfl
          | some o =>
            by_cases hld : hl = d
            · obtain ⟨⟨xs, e'⟩, _⟩ := D13.at
              rw [hld, e'] at hhl13
              cases hhl13
            · rw [(x10.trans x13).p _ _ (by simpa using hld) e] at hhl13
              cases hhl13
        refine q H16 t th hl cs hs ((D13.kp (M := []) (Kp.of k1316) (by simp) (by simp)).mono (by omega)) (x10.trans x16) hth0 hhl0 e16 T16 (by rw [k16' _ _ e15, nV_map]) V9 hcl (by omega) hup2 (fun x hx => ?_) ⟨2 + r, (hmem2 _).mpr (by simp), by omega⟩
        rcases List.mem_append.mp ((hmem2 x).mp hx) with h | h
        · exact hvm x h
        · have : x = 2 + r := by simpa using h
          omega
      · intro U hU
        walk_at "g"
        refine w_ite (fun h0 => ?_) (fun h0 => ?_)
        · walk_at "g"
          refine lcp_some (walk_list (K := K) (a := ln) (xs := nm.map nV)) [d] (fun y => ∃ x : Nat, x < cs.length ∧ y = nV x) (fun i H' => Deck H' d c (n + 2 + 5 * (many + 1) + i) ∧ KX d H10 H') (by rw [List.length_map]; omega) (fun D hD i H1' o z => ⟨z.1.mut (D10.ne1 hD).1 (D10.ne1 hD).2, z.2.offN (fun x hx => upd_ne hx) hD⟩) (fun i H' k _ => .of (k _ _ (by simpa using lnd) e10)) ⟨D10, KX.refl⟩ ?_ (fun b hb => by
            have : b = d := by simpa using hb
            subst this
            obtain ⟨⟨xs, e'⟩, _⟩ := D10.at
            exact ⟨_, e'⟩) ?_
          · rintro i y H11 H12 R R0 hi k11 ⟨D11, x11⟩ ⟨rfl, hy⟩ hR hR0
            obtain ⟨x, hx, rfl⟩ := map_at hy
            rw [List.length_map] at hi
            refine w_name ⟨rfl, ?_⟩
            walk_at "g"
            refine w_draw D11 (by omega) (by decide) (by decide) fun r H13 hr13 D13 o13 => ?_
            have x13 := x11.trans (D11.kx D13 o13)
            walk_at "g"
            refine w_ite (fun h1 => ?_) (fun h1 => ?_)
            · walk_at "g"
              exact hR _ _ ⟨x, hnmm x (List.mem_of_getElem? hx), rfl⟩ (o13.kp (by simp)) ⟨D13, x13⟩
            · exact hR0 _ (o13.kp (by simp)) ⟨D13, x13⟩
          · intro D H11 ys hyl hyp hD k11 ⟨D11, x11⟩ eD
            walk_at "g"
            obtain ⟨hv, rfl⟩ := nats_of fun y hy => by
              obtain ⟨x, _, e⟩ := hyp y hy
              exact ⟨x, e⟩
            refine hU _ _ ⟨D, _, hv, rfl, x11, hD, D11.mono (by rw [List.length_map]; omega), eD, by rw [List.length_map, List.length_map] at hyl; omega, fun x hx => ?_⟩
            obtain ⟨x', hx', e⟩ := hyp (nV x) (List.mem_map_of_mem hx)
            have : (x : Int) = x' := V.int.inj e
            omega
        · walk_at "g"
          refine w_draw D10 (by omega) (by decide) (by decide) fun r H11 hr11 D11 o11 => ?_
          have x11 := D10.kx D11 o11
          have T11 : ThAt H11 th cs := T10.kp x11.p x11.t (by simpa using thd)
          have hth11 := T11.at'
          walk_at "g"
          try refine w_rng1' (by omega) (by omega) ?_
          refine lcp_gen (walk_range (lo := 0) (n := ((r : Int)).toNat)) [d] (fun i y _ => ∃ x : Nat, y = nV x) (fun i H' => Deck H' d c (n + 2 + 5 * (many + 1) + 1 + i) ∧ KX d H11 H') (by omega) (fun _ _ _ _ _ h => h) (fun D hD i H1' o z => ⟨z.1.mut (D11.ne1 hD).1 (D11.ne1 hD).2, z.2.offN (fun x hx => upd_ne hx) hD⟩) (fun _ _ _ _ => trivial) ⟨D11, KX.refl⟩ ?_ (fun b hb => by
            have : b = d := by simpa using hb
            subst this
            obtain ⟨⟨xs, e'⟩, _⟩ := D11.at
            exact ⟨_, e'⟩) ?_
          · rintro i y H12 H13 R hi k12 t12 ⟨D12, x12⟩ ⟨rfl, rfl⟩ hR
            have T12 := T11.kp (M := [d]) x12.p x12.t (by simpa using thd)
            have hth12 := T12.at'
            refine w_name ⟨rfl, ?_⟩
            walk_at "g"
            refine w_draw D12 (by omega) (by rw [List.length_map]; omega) (by rw [List.length_map]; omega) fun r2 H14 hr14 D14 o14 => ?_
            exact hR _ _ ⟨r2, rfl⟩ (o14.kp (by simp)) (D12.kx D14 o14).t ⟨D14, x12.trans (D12.kx D14 o14)⟩
          · intro L H12 ys hyl hyp hL k12 t12 ⟨D12, x12⟩ eL
            obtain ⟨gl, rfl⟩ := nats_of fun y hy => by
              obtain ⟨i, hi, e⟩ := List.getElem_of_mem hy
              exact hyp i y (by rw [List.getElem?_eq_getElem hi, e])
            have x1012 := x11.trans x12
            have e12 := x1012.p _ _ (by simpa using lnd) e10
            walk_at "g"
            refine lcp_some (walk_list (K := K) (a := ln) (xs := nm.map nV)) [] (fun y => ∃ x : Nat, x < cs.length ∧ y = nV x) (fun i H' => True) (by rw [List.length_map]; omega) (fun D hD i H1' o z => trivial) (fun i H' k _ => .of (k _ _ (by simp) e12)) trivial ?_ (by simp) ?_
            · rintro i y H13 H14 R R0 hi k13 _ ⟨rfl, hy⟩ hR hR0
              obtain ⟨x, hx, rfl⟩ := map_at hy
              have eL13 := k13.same _ _ eL
              refine w_name ⟨rfl, ?_⟩
              walk_at "g"
              refine w_ninNL eL13 ?_
              walk_at "g"
              by_cases hxg : x ∈ gl
              rotate_left
              · rw [decide_eq_false hxg]
                walk_at "g"
                exact hR _ _ ⟨x, hnmm x (List.mem_of_getElem? hx), rfl⟩ Kp.refl trivial
              · rw [decide_eq_true hxg]
                walk_at "g"
                exact hR0 _ Kp.refl trivial
            · intro D H13 ys hyl2 hyp2 hD k13 _ eD
              walk_at "g"
              obtain ⟨hv, rfl⟩ := nats_of fun y hy => by
                obtain ⟨x, _, e⟩ := hyp2 y hy
                exact ⟨x, e⟩
              have hD10 : H10 D = none := by
                cases e : H10 D with
                | none => rfl
                | some o =>
                  by_cases hDd : D = d
                  · obtain ⟨⟨xs, e'⟩, _⟩ := D12.at
                    rw [hDd, e'] at hD
                    cases hD
                  · rw [x1012.p _ _ (by simpa using hDd) e] at hD
                    cases hD
              refine hU _ _ ⟨D, _, hv, rfl, x1012.trans (KX.of k13.same), hD10, (D12.kp (M := []) k13 (by simp) (by simp)).mono (by omega), eD, by rw [List.length_map, List.length_map] at hyl2; omega, fun x hx => ?_⟩
              obtain ⟨x', hx', e⟩ := hyp2 (nV x) (List.mem_map_of_mem hx)
              have : (x : Int) = x' := V.int.inj e
              omega
end
structure StAt (CS : Addr) (H : Hp) (s dy p hd : Addr) (rs : List (Str × V)) (k : Nat) (F : Nat → Prop) : Prop where
  ob : H s = some (.ins CS dy (("book", .ref p) :: ("here", .ref hd) :: ("turns", nV k) :: rs))
  here : FAt H hd F
  ne : hd ≠ s
theorem StAt.kp {CS : Addr} {M : List Addr} {H H' : Hp} {s dy p hd : Addr} {rs : List (Str × V)} {k : Nat} {F : Nat → Prop} (h : StAt CS H s dy p hd rs k F) (kp : Kp M H H') (h1 : s ∉ M) (h2 : hd ∉ M) : StAt CS H' s dy p hd rs k F := ⟨kp _ _ h1 h.ob, h.here.kp kp h2, h.ne⟩
theorem StAt.same {CS : Addr} {H H' : Hp} {s dy p hd : Addr} {rs : List (Str × V)} {k : Nat} {F : Nat → Prop} (h : StAt CS H s dy p hd rs k F) (kp : Same H H') : StAt CS H' s dy p hd rs k F := h.kp (M := []) (Kp.of kp) (by simp) (by simp)
def spStoreInit (CS : Addr) : Sp := fun vs H Q _ => ∃ (s dy p : Addr), vs = [.ref s, .ref p] ∧ H s = some (.ins CS dy []) ∧ ∀ (hd : Addr) (H' : Hp), H hd = none → StAt CS H' s dy p hd [] 0 (fun _ => False) → Kp [s] H H' → Q .non H'
def spPut (P : Program) (w : World) (C CS : Addr) : Sp := fun vs H Q _ => ∃ (s dy p dx lc ld lg hd : Addr) (cs : List (Addr × Ct)) (ds : List Nat) (rs : List (Str × V)) (k n : Nat) (F : Nat → Prop), vs = [.ref s, nV n] ∧ rs.length ≤ 900 ∧ StAt CS H s dy p hd rs k F ∧ BookAt P w C H p dx lc ld lg cs ds ∧ n < cs.length ∧ (F n → Q (.bl false) H) ∧ (¬ F n → ∀ H', StAt CS H' s dy p hd rs (k + 1) (fun m => F m ∨ m = n) → Kp [s, hd] H H' → KT H H' → Q (.bl true) H')
def spHeld (CS : Addr) : Sp := fun vs H Q _ => ∃ (s dy p hd : Addr) (rs : List (Str × V)) (k : Nat) (F : Nat → Prop), vs = [.ref s] ∧ StAt CS H s dy p hd rs k F ∧ ∀ (ns : List Nat) (l : Addr) (H' : Hp), ns.Pairwise (· < ·) → (∀ n, n ∈ ns ↔ F n) → ns.length ≤ 1000 → H l = none → H' l = some (.lst (ns.map nV)) → Same H H' → Q (.ref l) H'
section
variable {P : Program} {w : World} {K : PySem.W.Frag} {mg : Str → Option Value} {base : Heap} {C CH CS : Addr}
theorem ok_storeinit {f : Addr} {fd : FuncData} (T : Txt K mg) (F : Fun K "__init__" "Store.__init__" s_Store___init__ f fd) (K_Store : Kf K CS ["book", "here", "turns"]) : FnOk P w K mg base CX0 1 f fd ["self", "book"] (spStoreInit CS) := by
  have cl := K_Store.cl
  have n1 := K_Store.na "book" (by simp)
  have n2 := K_Store.na "here" (by simp)
  have n3 := K_Store.na "turns" (by simp)
  refine F.ok sc_Store___init__ (fun vs H Q E h => ?_) (fun cdv A outer s H vs Q E hr h => ?_)
  · obtain ⟨s, dy, p, rfl, _⟩ := h
    rfl
  · obtain ⟨s, dy, p, rfl, hs, q⟩ := h
    refine ⟨_,
      (pss_cons
        (ps_fld (pv 0) (pv 1) rfl)
      (pss_cons
        (ps_fld (pv 0) pe_dnewK rfl)
      (pss_one
        (ps_fld (pv 0) pe_int rfl))))
      , ?_⟩
    rw [show L2.start N_Store___init__ [V.ref s, V.ref p] = [some (.ref s), some (.ref p)] from rfl]
    walk_at "x"
    refine w_fldS' hs cl n1 (by decide) fun H1 o1 f1 => ?_
    walk_at "g"
    refine w_new fun hd H2 hhd e2 k2 => ?_
    have o2 := k2 _ _ o1
    have nhd : hd ≠ s := (ne_of_none o1 hhd).symm
    have hhd0 : H hd = none := by rw [← f1 hd nhd]; exact hhd
    walk_at "g"
    refine w_fldS' o2 cl n2 (show (1 : Nat) < 1000 by decide) fun H3 o3 f3 => ?_
    walk_at "g"
    refine w_fldS' o3 cl n3 (show (2 : Nat) < 1000 by decide) fun H4 o4 f4 => ?_
    refine q hd H4 hhd0 ⟨o4, ⟨[], [], f4.get nhd (f3.get nhd e2), rfl, .nil, by simp, by simp⟩, nhd⟩ fun b o hb e => ?_
    have hb' : b ≠ s := by simpa using hb
    exact f4.get hb' (f3.get hb' (k2 _ _ (f1.get hb' e)))
theorem w_fldAug {σ : L2.St} {H : Hp} {nx bk ct : L2.St → Hp → Prop} {rt : VK} {ta tv : TE} {f : Str} {u : TS} {rd : V → V → Hp → VK → Prop} (h : sFldAug K ta tv rd f ⟨u ⟨nx, rt, bk, ct⟩, rt, bk, ct⟩ σ H) : tSeq (sFldAug K ta tv rd f) u ⟨nx, rt, bk, ct⟩ σ H := h
theorem ok_put {f fN fI : Addr} {fd fdN fdI : FuncData} (T : Txt K mg) (F : Fun K "put" "Store.put" s_Store_put f fd) (K_Book : Kl K mg "Book" C ["contents", "depths", "given"]) (K_Store : Kf K CS ["book", "here", "turns"]) (D_is_name : Df K mg "is_name" s_is_name ["book", "thing"] fN fdN) (D_is_int : DfD K mg "is_int" s_is_int ["thing", "least"] [.int 0] fI fdI) : FnOk P w K mg base CX0 3 f fd ["self", "name"] (spPut P w C CS) := by
  have G_is_name : FnOk P w K mg base CX0 2 fN fdN ["book", "thing"] (spIsName P w C) := ok_isname T D_is_name.fn K_Book D_is_int
  have cl := K_Store.cl
  have n1 := K_Store.na "book" (by simp)
  have n2 := K_Store.na "here" (by simp)
  have n3 := K_Store.na "turns" (by simp)
  refine F.ok sc_Store_put (fun vs H Q E h => ?_) (fun cdv A outer s H vs Q E hr h => ?_)
  · obtain ⟨s, dy, p, dx, lc, ld, lg, hd, cs, ds, rs, k, n, F, rfl, _⟩ := h
    rfl
  · obtain ⟨s, dy, p, dx, lc, ld, lg, hd, cs, ds, rs, k, n, F, rfl, hrs, S, B, hn, q1, q2⟩ := h
    have hu := hu_of hr
    have ob := S.ob
    refine ⟨_,
      (pss_cons
        (ps_if (pt_not (pt_val (pe_call G_is_name (hr.mono (by omega)) (by rfl) D_is_name.g D_is_name.fn.kp D_is_name.b .nil pass0 (pa_cons (pe_fldK (K := K) rfl (pv 0) rfl) (pa_cons (pv 1) pa_nil)))))
          pss_never
          pss_nil)
      (pss_cons
        (ps_if (pt_cmp (pc_din hu (pv 1) (pe_fldK (K := K) rfl (pv 0) rfl)))
          (pss_one
            (ps_ret pe_bl))
          pss_nil)
      (pss_cons
        (ps_dput hu (pe_fldK (K := K) rfl (pv 0) rfl) (pv 1) pe_bl rfl)
      (pss_cons
        (ps_fldaug (pv 0) pe_int in_add)
      (pss_one
        (ps_ret pe_bl))))))
      , ?_⟩
    rw [show L2.start N_Store_put [V.ref s, nV n] = [some (.ref s), some (.int (n : Int))] from rfl]
    refine w_seq ?_
    walk_at "x"
    refine ⟨p, dx, lc, ld, lg, cs, ds, nV n, "int", rfl, B, .int _, fun m _ _ => ?_, fun hm => absurd hn (hm n rfl)⟩
    walk_at "g"
    refine w_seq ?_
    walk_at "g"
    have hcs : n < 1000 := by have := B.few; omega
    refine w_fin' S.here (fun hin => ?_) fun hno => ?_
    · walk_at "g"
      exact q1 hin
    · walk_at "g"
      refine w_fput S.here hcs fun H1 F1 o1 => ?_
      have ob1 := o1.get S.ne.symm ob
      walk_at "g"
      refine w_fldAug ?_
      unfold sFldAug
      walk_at "g"
      refine ⟨s, CS, dy, _, nV k, rfl, ob1, cl, n3, rfl, ?_⟩
      walk_at "g"
      refine ⟨(k : Int), 1, rfl, rfl, dy, _, ob1, by simp only [List.length_cons]; omega, ?_⟩
      walk_at "g"
      obtain ⟨fk, hfk⟩ := S.here.obj
      refine q2 hno _ ⟨upd_same, F1.kp (M := [s]) (Kp.mut (by simp)) (by simpa using S.ne), S.ne⟩ ((o1.kp (by simp)).trans (Kp.mut (by simp))) ⟨fun b xs e => ?_, fun b u xs e => ?_⟩ <;>
      (rw [upd_ne (ne_of e ob (fun z => nomatch z))]
       exact o1.get (ne_of e hfk (fun z => nomatch z)) e)
theorem ok_held {f : Addr} {fd : FuncData} (T : Txt K mg) (F : Fun K "held" "Store.held" s_Store_held f fd) (K_Store : Kf K CS ["book", "here", "turns"]) : FnOk P w K mg base CX0 1 f fd ["self"] (spHeld CS) := by
  have cl := K_Store.cl
  have n2 := K_Store.na "here" (by simp)
  refine F.ok sc_Store_held (fun vs H Q E h => ?_) (fun cdv A outer s H vs Q E hr h => ?_)
  · obtain ⟨s, dy, p, hd, rs, k, F, rfl, _⟩ := h
    rfl
  · obtain ⟨s, dy, p, hd, rs, k, F, rfl, S, q⟩ := h
    have ob := S.ob
    refine ⟨_,
      (pss_one
        (ps_ret (pe_callB (c_sortA rfl) (by rfl) T.n_sorted (by decide +kernel) (pa_cons (pe_fldK (K := K) rfl (pv 0) rfl) pa_nil))))
      , ?_⟩
    rw [show L2.start N_Store_held [V.ref s] = [some (.ref s)] from rfl]
    walk_at "x"
    refine w_fsort S.here fun ns l H1 hup hmem hnl hl e1 k1 => ?_
    exact q ns l H1 hup hmem hnl hl e1 k1
end
local macro_rules | `(tactic| walk_at "s") => `(tactic| first
  | with_reducible refine w_dnewT ?_
  | with_reducible refine w_valsT ?_
  | with_reducible refine w_vals ?_
  | with_reducible refine w_itemsT ?_
  | with_reducible refine w_dpopT ?_
  | with_reducible refine w_dpop1 ?_
  | ((with_reducible refine' w_isDT ?h1 ?_); (case h1 => assumption))
  | ((with_reducible refine' w_valsT' ?h1 ?_); (case h1 => assumption))
  | ((with_reducible refine' w_vals' ?h1 ?_); (case h1 => assumption))
  | ((with_reducible refine' w_itemsT' ?h1 ?_); (case h1 => assumption))
  | ((with_reducible refine' w_keysT' ?h1 ?_); (case h1 => assumption))
  )
/-! ### houses -/
def hrs (a1 a2 a3 a4 : Addr) : List (Str × V) := [("stands", .ref a1), ("lately", .ref a2), ("others", .ref a3), ("pinned", .ref a4)]
structure HsAt (CU : Addr) (H : Hp) (s dy p hd a1 a2 a3 a4 : Addr) (k : Nat) (F : Nat → Prop) : Prop where
  st : StAt CU H s dy p hd (hrs a1 a2 a3 a4) k F
  h1 : H a1 = some (.dK [])
  h2 : H a2 = some (.lst [])
  h3 : H a3 = some (.dT [])
  h4 : H a4 = some (.lst [])
local macro_rules | `(tactic| walk_at "s") => `(tactic| first
  | with_reducible refine w_clsF ?_
  )
def spHouseInit (CU : Addr) : Sp := fun vs H Q _ => ∃ (s dy p : Addr), vs = [.ref s, .ref p] ∧ H s = some (.ins CU dy []) ∧ ∀ (hd a1 a2 a3 a4 : Addr) (H' : Hp), H hd = none → H a1 = none → H a2 = none → H a3 = none → H a4 = none → HsAt CU H' s dy p hd a1 a2 a3 a4 0 (fun _ => False) → (hd ≠ a1 ∧ hd ≠ a2 ∧ hd ≠ a3 ∧ hd ≠ a4) → (s ≠ a1 ∧ s ≠ a2 ∧ s ≠ a3 ∧ s ≠ a4 ∧ a2 ≠ a4) → Kp [s] H H' → Q .non H'
def spLHouse (P : Program) (w : World) (C CU : Addr) : Sp := fun vs H Q _ => ∃ (p dx lc ld lg l : Addr) (cs : List (Addr × Ct)) (ds hs : List Nat), vs = [.ref p, .ref l] ∧ BookAt P w C H p dx lc ld lg cs ds ∧ H l = some (.lst (hs.map nV)) ∧ (∀ n ∈ hs, n < cs.length) ∧ hs.length ≤ 400 ∧
  ∀ (s dy hd a1 a2 a3 a4 : Addr) (k : Nat) (H' : Hp), H s = none → H hd = none → H a1 = none → H a2 = none → H a3 = none → H a4 = none → HsAt CU H' s dy p hd a1 a2 a3 a4 k (fun n => n ∈ hs) → (hd ≠ a1 ∧ hd ≠ a2 ∧ hd ≠ a3 ∧ hd ≠ a4) → (s ≠ a1 ∧ s ≠ a2 ∧ s ≠ a3 ∧ s ≠ a4 ∧ a2 ≠ a4) → Same H H' → Q (.ref s) H'
section
variable {P : Program} {w : World} {K : PySem.W.Frag} {mg : Str → Option Value} {base : Heap} {C CH CS CU : Addr}
theorem house_kf (K_House : Kl K mg "House" CU ["book", "here", "turns", "stands", "lately", "others", "pinned"]) : Kf K CU ["book", "here", "turns"] := ⟨K_House.cl, fun f hf => K_House.na f (by
  simp only [List.mem_cons, List.not_mem_nil, or_false] at hf ⊢
  rcases hf with h | h | h
  · exact .inl h
  · exact .inr (.inl h)
  · exact .inr (.inr (.inl h)))⟩
theorem ok_houseinit {f fS : Addr} {fd fdS : FuncData} (T : Txt K mg) (F : Fun K "__init__" "House.__init__" s_House___init__ f fd) (K_Store : Kl K mg "Store" CS ["book", "here", "turns"]) (K_House : Kl K mg "House" CU ["book", "here", "turns", "stands", "lately", "others", "pinned"]) (D_Store___init__ : DfM K CS "__init__" "Store.__init__" s_Store___init__ ["self", "book"] fS fdS)
    (R_Store : ClX.CRead K CS (.type "type")) (V_Store___init__ : ClX.CVal K CS (.type "type") "__init__" (.ref fS) (.ref fS)) : FnOk P w K mg base CX0 2 f fd ["self", "book"] (spHouseInit CU) := by
  have G_Store___init__ : FnOk P w K mg base CX0 1 fS fdS ["self", "book"] (spStoreInit CU) := ok_storeinit T D_Store___init__.fn (house_kf K_House)
  let C_Store := CS
  have cl := K_House.cl
  have n1 := K_House.na "stands" (by simp)
  have n2 := K_House.na "lately" (by simp)
  have n3 := K_House.na "others" (by simp)
  have n4 := K_House.na "pinned" (by simp)
  refine F.ok sc_House___init__ (fun vs H Q E h => ?_) (fun cdv A outer s H vs Q E hr h => ?_)
  · obtain ⟨s, dy, p, rfl, _⟩ := h
    rfl
  · obtain ⟨s, dy, p, rfl, hs, q⟩ := h
    refine ⟨_,
      (pss_cons
        (ps_expr (pe_clsF (pe_glob (v := .ref C_Store) rfl K_Store.g rfl) R_Store V_Store___init__ D_Store___init__.fn.kp G_Store___init__ (hr.mono (by omega)) D_Store___init__.b .nil pass0 (pa_cons (pv 0) (pa_cons (pv 1) pa_nil))))
      (pss_cons
        (ps_fld (pv 0) pe_dnewK rfl)
      (pss_cons
        (ps_fld (pv 0) (pe_lst pa_nil) rfl)
      (pss_cons
        (ps_fld (pv 0) pe_dnewT rfl)
      (pss_one
        (ps_fld (pv 0) (pe_lst pa_nil) rfl))))))
      , ?_⟩
    rw [show L2.start N_House___init__ [V.ref s, V.ref p] = [some (.ref s), some (.ref p)] from rfl]
    walk_at "x"
    refine ⟨s, dy, p, rfl, hs, fun hd H1 hhd S1 k1 => ?_⟩
    have o1 := S1.ob
    obtain ⟨fk, efk⟩ := S1.here.obj
    have nh := S1.ne
    walk_at "g"
    refine w_new fun a1 H2 ha1 e2 k2 => ?_
    have o2 := k2 _ _ o1
    have m1 : a1 ≠ s := (ne_of_none o1 ha1).symm
    have p1 : a1 ≠ hd := (ne_of_none efk ha1).symm
    walk_at "g"
    refine w_fldS' o2 cl n1 (show (3 : Nat) < 1000 by decide) fun H3 o3 f3 => ?_
    walk_at "g"
    refine w_new fun a2 H4 ha2 e4 k4 => ?_
    have o4 := k4 _ _ o3
    have m2 : a2 ≠ s := (ne_of_none o3 ha2).symm
    have p2 : a2 ≠ hd := (ne_of_none (f3.get nh (k2 _ _ efk)) ha2).symm
    walk_at "g"
    refine w_fldS' o4 cl n2 (show (4 : Nat) < 1000 by decide) fun H5 o5 f5 => ?_
    walk_at "g"
    refine w_new fun a3 H6 ha3 e6 k6 => ?_
    have o6 := k6 _ _ o5
    have m3 : a3 ≠ s := (ne_of_none o5 ha3).symm
    have p3 : a3 ≠ hd := (ne_of_none (f5.get nh (k4 _ _ (f3.get nh (k2 _ _ efk)))) ha3).symm
    walk_at "g"
    refine w_fldS' o6 cl n3 (show (5 : Nat) < 1000 by decide) fun H7 o7 f7 => ?_
    walk_at "g"
    refine w_new fun a4 H8 ha4 e8 k8 => ?_
    have o8 := k8 _ _ o7
    have m4 : a4 ≠ s := (ne_of_none o7 ha4).symm
    have p4 : a4 ≠ hd := (ne_of_none (f7.get nh (k6 _ _ (f5.get nh (k4 _ _ (f3.get nh (k2 _ _ efk)))))) ha4).symm
    walk_at "g"
    refine w_fldS' o8 cl n4 (show (6 : Nat) < 1000 by decide) fun H9 o9 f9 => ?_
    have t12 : ∀ b o, b ≠ s → H1 b = some o → H3 b = some o := fun b o hb e => f3.get hb (k2 _ _ e)
    have t15 : ∀ b o, b ≠ s → H1 b = some o → H5 b = some o := fun b o hb e => f5.get hb (k4 _ _ (t12 b o hb e))
    have t17 : ∀ b o, b ≠ s → H1 b = some o → H7 b = some o := fun b o hb e => f7.get hb (k6 _ _ (t15 b o hb e))
    have t19 : ∀ b o, b ≠ s → H1 b = some o → H9 b = some o := fun b o hb e => f9.get hb (k8 _ _ (t17 b o hb e))
    have free : ∀ {a : Addr} {H' : Hp}, a ≠ s → (∀ b o, b ≠ s → H1 b = some o → H' b = some o) → H' a = none → H a = none := fun {a H'} ha t hn => by
      cases e : H a with
      | none => rfl
      | some o =>
        rw [t a o ha (k1 _ _ (by simpa using ha) e)] at hn
        cases hn
    refine q hd a1 a2 a3 a4 H9 hhd (free m1 (fun _ _ _ e => e) ha1) (free m2 t12 ha2) (free m3 t15 ha3) (free m4 t17 ha4) ⟨⟨o9, ?_, nh⟩, ?_, ?_, ?_, ?_⟩ ⟨p1.symm, p2.symm, p3.symm, p4.symm⟩ ⟨m1.symm, m2.symm, m3.symm, m4.symm, ne_of_none (f7.get m2 (k6 _ _ (f5.get m2 e4))) ha4⟩ fun b o hb e => ?_
    · exact S1.here.kp (M := [s]) (fun b o hb e => t19 b o (by simpa using hb) e) (by simpa using nh)
    · exact f9.get m1 (k8 _ _ (f7.get m1 (k6 _ _ (f5.get m1 (k4 _ _ (f3.get m1 e2))))))
    · exact f9.get m2 (k8 _ _ (f7.get m2 (k6 _ _ (f5.get m2 e4))))
    · exact f9.get m3 (k8 _ _ (f7.get m3 e6))
    · exact f9.get m4 e8
    · have hb' : b ≠ s := by simpa using hb
      exact t19 b o hb' (k1 _ _ hb e)
theorem ok_lhouse {f fS fU fP fN fI : Addr} {fd fdS fdU fdP fdN fdI : FuncData} (T : Txt K mg) (F : Fun K "_law_house" "_law_house" s_law_house f fd) (K_Book : Kl K mg "Book" C ["contents", "depths", "given"]) (K_Store : Kl K mg "Store" CS ["book", "here", "turns"]) (K_House : Kl K mg "House" CU ["book", "here", "turns", "stands", "lately", "others", "pinned"]) (M_House : Mk K CU fU) (D_Store___init__ : DfM K CS "__init__" "Store.__init__" s_Store___init__ ["self", "book"] fS fdS)
    (D_House___init__ : DfM K CU "__init__" "House.__init__" s_House___init__ ["self", "book"] fU fdU) (D_Store_put : DfM K CS "put" "Store.put" s_Store_put ["self", "name"] fP fdP) (I_House_put : Meth K CU "put" fP) (D_is_name : Df K mg "is_name" s_is_name ["book", "thing"] fN fdN) (D_is_int : DfD K mg "is_int" s_is_int ["thing", "least"] [.int 0] fI fdI)
    (R_Store : ClX.CRead K CS (.type "type")) (V_Store___init__ : ClX.CVal K CS (.type "type") "__init__" (.ref fS) (.ref fS)) : FnOk P w K mg base CX0 5 f fd ["_law_book_here", "_law_held"] (spLHouse P w C CU) := by
  have G_House___init__ : FnOk P w K mg base CX0 2 fU fdU ["self", "book"] (spHouseInit CU) := ok_houseinit T D_House___init__.fn K_Store K_House D_Store___init__ R_Store V_Store___init__
  have G_House_put : FnOk P w K mg base CX0 3 fP fdP ["self", "name"] (spPut P w C CU) := ok_put T D_Store_put.fn K_Book (house_kf K_House) D_is_name D_is_int
  refine F.ok sc_law_house (fun vs H Q E h => ?_) (fun cdv A outer s H vs Q E hr h => ?_)
  · obtain ⟨p, dx, lc, ld, lg, l, cs, ds, hs, rfl, _⟩ := h
    rfl
  · obtain ⟨p, dx, lc, ld, lg, l, cs, ds, hs, rfl, B, hl, hin, hlen, q⟩ := h
    refine ⟨_,
      (pss_cons
        (ps_set (i := 2) sc_law_house.nd rfl (.inl rfl) (pe_make M_House G_House___init__ (hr.mono (by omega)) (by rfl) K_House.g D_House___init__.b .nil pass0 (pa_cons (pv 0) pa_nil)))
      (pss_cons
        (ps_for PassesOwn.never rfl (pi_list (pv 1)) (pg_name (i := 3) sc_law_house.nd rfl (.inl rfl))
          (pss_one
            (ps_expr (pe_meth (pv 2) K_House.cl I_House_put G_House_put (hr.mono (by omega)) D_Store_put.b .nil pass0 (pa_cons (pv 3) pa_nil)))))
      (pss_one
        (ps_ret (pv 2)))))
      , ?_⟩
    rw [show L2.start N_law_house [V.ref p, V.ref l] = [some (.ref p), some (.ref l), none, none] from rfl]
    walk_at "x"
    refine w_make' fun s dy H1 hs0 hdy hne e1 k1 => ?_
    refine ⟨s, dy, p, rfl, e1, fun hd a1 a2 a3 a4 H2 hhd h1 h2 h3 h4 S2 nh ns k2 => ⟨rfl, ?_⟩⟩
    have s2 : Same H H2 := fun b o e => k2 _ _ (by simpa using ne_of_none e hs0) (k1 _ _ e)
    have hhd0 := k1.free hhd
    walk_at "g"
    try refine w_itL' (.of (s2 _ _ hl)) ?_
    refine lp_list (xs := hs.map nV) (fun i σ H' => (∃ y : Option V, σ = [some (.ref p), some (.ref l), some (.ref s), y]) ∧ Same H H' ∧ Kp [s, hd] H2 H' ∧ ∃ k, HsAt CU H' s dy p hd a1 a2 a3 a4 k (fun m => m ∈ hs.take i)) ⟨⟨_, rfl⟩, s2, Kp.refl, 0, ⟨S2.st.ob, S2.st.here.iff (fun n => by simp), S2.st.ne⟩, S2.h1, S2.h2, S2.h3, S2.h4⟩ (fun i σ H' _ h => .of (h.2.1 _ _ hl)) ?_ ?_
    · rintro i x σ H3 hx ⟨⟨y, rfl⟩, s3, k3, k, S3⟩
      obtain ⟨m, hm, rfl⟩ := map_at hx
      have ob3 := S3.st.ob
      have etk : hs.take (i + 1) = hs.take i ++ [m] := by rw [List.take_add_one, hm]; rfl
      walk_at "g"
      refine ⟨s, dy, p, dx, lc, ld, lg, hd, cs, ds, hrs a1 a2 a3 a4, k, m, _, rfl, (show (4 : Nat) ≤ 900 by decide), S3.st, B.same s3, hin m (List.mem_of_getElem? hm), fun h => ?_, fun _ H4 S4 k4 t4 => ?_⟩
      · walk_at "g"
        refine ⟨⟨_, rfl⟩, s3, k3, k, ⟨S3.st.ob, S3.st.here.iff fun n => ?_, S3.st.ne⟩, S3.h1, S3.h2, S3.h3, S3.h4⟩
        rw [etk]
        simp only [List.mem_append, List.mem_cons, List.not_mem_nil, or_false]
        constructor
        · exact .inl
        · rintro (h1 | rfl)
          · exact h1
          · exact h
      · walk_at "g"
        have out : ∀ {a : Addr}, hd ≠ a → s ≠ a → a ∉ [s, hd] := fun {a} g1 g2 => by
          simp only [List.mem_cons, List.not_mem_nil, or_false, not_or]
          exact ⟨g2.symm, g1.symm⟩
        refine ⟨⟨_, rfl⟩, fun b o e => k4 _ _ ?_ (s3 _ _ e), k3.trans k4, k + 1, ⟨S4.ob, S4.here.iff fun n => ?_, S4.ne⟩, k4 _ _ (out nh.1 ns.1) S3.h1, k4 _ _ (out nh.2.1 ns.2.1) S3.h2, k4 _ _ (out nh.2.2.1 ns.2.2.1) S3.h3, k4 _ _ (out nh.2.2.2 ns.2.2.2.1) S3.h4⟩
        · simp only [List.mem_cons, List.not_mem_nil, or_false, not_or]
          exact ⟨ne_of_none e hs0, ne_of_none e hhd0⟩
        · rw [etk]
          simp only [List.mem_append, List.mem_cons, List.not_mem_nil, or_false]
    · rintro σ H3 ⟨⟨y, rfl⟩, s3, k3, k, S3⟩
      rw [List.length_map, List.take_length] at S3
      walk_at "g"
      exact q s dy hd a1 a2 a3 a4 k H3 hs0 hhd0 (k1.free h1) (k1.free h2) (k1.free h3) (k1.free h4) S3 nh ns s3
end
/-! ### pins: what is refused -/
theorem mk1_sameR {K : PySem.W.Frag} {C : Addr} {f : Str} {x : V} {H : Hp} {Qx : XK} {a : Addr} (ha : H a = none) (h : ∀ d H', Same H H' → H d = none → H' d = some (.xd [(f, x)]) → Qx (.ref C) (some d) H') :
    spInit1 K C f [.ref a, x] (upd H a (exo a C none)) (fun v H2 => v = .non ∧ ∃ (d : Addr) (fs : List (Str × V)), H2 a = some (exo a C (some d)) ∧ H2 d = some (exd d fs) ∧ H d = none ∧ Qx (.ref C) (some d) (upd (del H2 a) d (.xd fs))) (fun _ _ _ => False) := by
  refine ⟨a, x, rfl, upd_same, fun dx hd hne => ⟨rfl, dx, _, upd_same, ?_, (upd_none hd).1, h dx _ (fun b o e => ?_) (upd_none hd).1 upd_same⟩⟩
  · rw [upd_ne hne, upd_same]
  · have n1 : b ≠ dx := ne_of_none e (upd_none hd).1
    have n2 : b ≠ a := ne_of_none e ha
    rw [upd_ne n1, del_ne n2, upd_ne n2, upd_ne n1, upd_ne n2]
    exact e
/-- NoName of x is raised -/
def NoNm (CN : Addr) (H : Hp) (E : XK) (x : V) : Prop := ∀ (d : Addr) (H' : Hp), Same H H' → H d = none → H' d = some (.xd [("name", x)]) → E (.ref CN) (some d) H'
section
variable {P : Program} {w : World} {K : PySem.W.Frag} {mg : Str → Option Value} {base : Heap}
theorem ok_nninit {f C : Addr} {fd : FuncData} (F : Fun K "__init__" "NoName.__init__" s_NoName___init__ f fd) (XT : OexC K C) (n1 : PySem.W.findIn K (.ref C) "name" = some none) : FnOk P w K mg base CX0 1 f fd ["self", "name"] (spInit1 K C "name") := by
  refine F.ok sc_NoName___init__ (fun vs H Q E h => ?_) (fun cdv A outer s H vs Q E hr h => ?_)
  · obtain ⟨a, x, rfl, _⟩ := h
    rfl
  · obtain ⟨a, x, rfl, e, q⟩ := h
    refine ⟨_,
      (pss_one
        (ps_ost (pv 0) (pv 1)))
      , ?_⟩
    rw [show L2.start N_NoName___init__ [V.ref a, x] = [some (.ref a), some x] from rfl]
    refine w_ost ?_
    walk_at "x"
    exact ⟨a, C, rfl, XT, n1, .inl ⟨e, fun dx hd hne => q dx hd hne⟩⟩
theorem ok_lkinit {f C : Addr} {fd : FuncData} (F : Fun K "__init__" "Lack.__init__" s_Lack___init__ f fd) (XT : OexC K C) (n1 : PySem.W.findIn K (.ref C) "name" = some none) : FnOk P w K mg base CX0 1 f fd ["self", "name"] (spInit1 K C "name") := by
  refine F.ok sc_Lack___init__ (fun vs H Q E h => ?_) (fun cdv A outer s H vs Q E hr h => ?_)
  · obtain ⟨a, x, rfl, _⟩ := h
    rfl
  · obtain ⟨a, x, rfl, e, q⟩ := h
    refine ⟨_,
      (pss_one
        (ps_ost (pv 0) (pv 1)))
      , ?_⟩
    rw [show L2.start N_Lack___init__ [V.ref a, x] = [some (.ref a), some x] from rfl]
    refine w_ost ?_
    walk_at "x"
    exact ⟨a, C, rfl, XT, n1, .inl ⟨e, fun dx hd hne => q dx hd hne⟩⟩
end
theorem fat_merge {H : Hp} {f : Addr} (ns : List Nat) (hb : ∀ n ∈ ns, n < 1000) (e : H f = some (.dK (mergeK [] (ns.map fun n : Nat => ((Sum.inl (n : Int) : Key), V.bl true))))) : FAt H f (fun n => n ∈ ns) := by
  have key : ∀ i, i ≤ ns.length → ∃ ks : List Int, (mergeK [] ((ns.take i).map fun n : Nat => ((Sum.inl (n : Int) : Key), V.bl true))).map (·.1) = ks.map (Sum.inl : Int → Key) ∧ ks.Nodup ∧ (∀ k ∈ ks, 0 ≤ k ∧ k < 1000) ∧ ∀ n : Nat, (n : Int) ∈ ks ↔ n ∈ ns.take i := by
    intro i
    induction i with
    | zero => exact fun _ => ⟨[], rfl, by simp, by simp, by simp⟩
    | succ i ih =>
      intro hi
      obtain ⟨ks, h1, h2, h3, h4⟩ := ih (by omega)
      have hlt : i < ns.length := by omega
      have et : ns.take (i + 1) = ns.take i ++ [ns[i]] := by rw [List.take_add_one, List.getElem?_eq_getElem hlt]; rfl
      have hbi := hb ns[i] (List.getElem_mem hlt)
      refine ⟨addK ks (ns[i] : Int), ?_, nd_addK h2, fun k hk => ?_, fun n => ?_⟩
      · rw [et, List.map_append, List.map_cons, List.map_nil, mergeK_snoc]
        exact putK_keys h1
      · rcases mem_addK.mp hk with h | h
        · exact h3 k h
        · omega
      · rw [mem_addK, h4, et, List.mem_append, List.mem_singleton]
        constructor
        · rintro (h | h)
          · exact .inl h
          · exact .inr (by omega)
        · rintro (h | h)
          · exact .inl h
          · exact .inr (by omega)
  obtain ⟨ks, h1, h2, h3, h4⟩ := key ns.length (Nat.le_refl _)
  rw [List.take_length] at h1 h4
  exact ⟨_, ks, e, h1, h2, h3, h4⟩

inductive Rf where
  | ok
  | nn (i : Int)
  | lk (i : Int)
  | lg
open Classical in
/-- what must_hold says of names -/
noncomputable def dueN (n : Nat) (F : Nat → Prop) (is : List Int) : Rf :=
  match is.find? (fun i => !decide (0 ≤ i ∧ i < (n : Int))) with
  | some i => .nn i
  | none => match is.find? (fun i => !decide (F i.toNat)) with
    | some i => .lk i
    | none => .ok
open Classical in
theorem dueN_ok {n : Nat} {F : Nat → Prop} {is : List Int} (h : dueN n F is = .ok) : ∃ ns : List Nat, is = ns.map (fun n : Nat => (n : Int)) ∧ ∀ m ∈ ns, m < n ∧ F m := by
  unfold dueN at h
  cases h1 : is.find? (fun i => !decide (0 ≤ i ∧ i < (n : Int))) with
  | some i => rw [h1] at h; cases h
  | none =>
    rw [h1] at h
    cases h2 : is.find? (fun i => !decide (F i.toNat)) with
    | some i => rw [h2] at h; cases h
    | none =>
      rw [List.find?_eq_none] at h1 h2
      refine ⟨is.map Int.toNat, ?_, fun m hm => ?_⟩
      · rw [List.map_map]
        symm
        refine List.map_congr_left (f := _) (g := id) (fun i hi => ?_) |>.trans (List.map_id _)
        have := h1 i hi
        simp only [Bool.not_eq_true', decide_eq_false_iff_not, Classical.not_not] at this
        show ((i.toNat : Nat) : Int) = i
        omega
      · obtain ⟨i, hi, rfl⟩ := List.mem_map.mp hm
        have g1 := h1 i hi
        have g2 := h2 i hi
        simp only [Bool.not_eq_true', decide_eq_false_iff_not, Classical.not_not] at g1 g2
        exact ⟨by omega, g2⟩
theorem dueN_nn {n : Nat} {F : Nat → Prop} {is pre post : List Int} {z : Int} (e : is = pre ++ z :: post) (h1 : ∀ y ∈ pre, 0 ≤ y ∧ y < (n : Int)) (h2 : ¬ (0 ≤ z ∧ z < (n : Int))) : dueN n F is = .nn z := by
  have hf : is.find? (fun i => !decide (0 ≤ i ∧ i < (n : Int))) = some z := by
    rw [e, List.find?_append, List.find?_eq_none.mpr fun y' hy' => by have := h1 y' hy'; simp [this], Option.none_or, List.find?_cons_of_pos]
    show (!decide _) = true
    rw [Bool.not_eq_true', decide_eq_false_iff_not]
    exact h2
  unfold dueN
  rw [hf]
theorem dueN_none {n : Nat} {is : List Int} (h : ∀ y ∈ is, 0 ≤ y ∧ y < (n : Int)) : is.find? (fun i => !decide (0 ≤ i ∧ i < (n : Int))) = none := List.find?_eq_none.mpr fun y' hy' => by have := h y' hy'; simp [this]
theorem dueN_lk {n : Nat} {F : Nat → Prop} {is pre post : List Int} {z : Int} (h : ∀ y ∈ is, 0 ≤ y ∧ y < (n : Int)) (e : is = pre ++ z :: post) (h1 : ∀ y ∈ pre, F y.toNat) (h2 : ¬ F z.toNat) : dueN n F is = .lk z := by
  unfold dueN
  rw [dueN_none h]
  dsimp only
  rw [e, List.find?_append, List.find?_eq_none.mpr fun y' hy' => by have := h1 y' hy'; simp [this], Option.none_or, List.find?_cons_of_pos]
  simpa using h2
theorem dueN_good {n : Nat} {F : Nat → Prop} {is : List Int} (h : ∀ y ∈ is, 0 ≤ y ∧ y < (n : Int)) (h1 : ∀ y ∈ is, F y.toNat) : dueN n F is = .ok := by
  unfold dueN
  rw [dueN_none h]
  dsimp only
  rw [List.find?_eq_none.mpr fun y' hy' => by have := h1 y' hy'; simp [this]]
/-- how a deed ends -/
def RfO (CN CL CG : Addr) (H : Hp) (E : XK) (q : Prop) : Rf → Prop
  | .ok => q
  | .nn i => NoNm CN H E (.int i)
  | .lk i => NoNm CL H E (.int i)
  | .lg => E (.ref CG) none H
def spHHolds (P : Program) (w : World) (C CS : Addr) : Sp := fun vs H Q _ => ∃ (s dy p dx lc ld lg hd : Addr) (cs : List (Addr × Ct)) (ds : List Nat) (rs : List (Str × V)) (k : Nat) (x : V) (a : String) (F : Nat → Prop), vs = [.ref s, x] ∧ StAt CS H s dy p hd rs k F ∧ BookAt P w C H p dx lc ld lg cs ds ∧ Ty H x a ∧ ((∃ n : Nat, x = nV n ∧ n < cs.length ∧ F n) → Q (.bl true) H) ∧ ((∀ n : Nat, x = nV n → n < cs.length → ¬ F n) → Q (.bl false) H)
def spMarks (CU : Addr) : Sp := fun vs H Q _ => ∃ (s dy p hd a1 a2 a3 a4 : Addr) (k : Nat) (F : Nat → Prop) (ms : List (Str × Int)), vs = [.ref s] ∧ StAt CU H s dy p hd (hrs a1 a2 a3 a4) k F ∧ H a1 = some (.dK (kvTI ms)) ∧ (ms.map (·.1)).Nodup ∧
  ∀ (H' : Hp) (l : Addr) (ts : List TI), Same H H' → H l = none → H' l = some (.lst (ts.map fun t => .ref t.1)) → (∀ t ∈ ts, H' t.1 = some (.tup [.str t.2.1, .int t.2.2])) → (ts.map (·.2)).Perm ms → ts.Pairwise (fun x y => txLt x.2.1 y.2.1) → Q (.ref l) H'
def spMustE (P : Program) (w : World) (C CU CN CL : Addr) : Sp := fun vs H Q E => ∃ (s dy p dx lc ld lg hd a1 a2 a3 a4 t : Addr) (cs : List (Addr × Ct)) (ds : List Nat) (k : Nat) (F : Nat → Prop) (is : List Int), vs = [.ref s, .ref t] ∧ StAt CU H s dy p hd (hrs a1 a2 a3 a4) k F ∧ BookAt P w C H p dx lc ld lg cs ds ∧ H t = some (.tup (is.map V.int)) ∧ RfO CN CL CN H E (Q .non H) (dueN cs.length F is)
def spPinInitF (CP : Addr) : Sp := fun vs H Q _ => ∃ (z dz s t : Addr) (ns : List Nat), vs = [.ref z, .ref s, .ref t] ∧ H z = some (.ins CP dz []) ∧ H t = some (.tup (ns.map nV)) ∧ ns.length ≤ 1000 ∧ (∀ n ∈ ns, n < 1000) ∧ ∀ (od : Addr) (H' : Hp), H od = none → od ≠ z → H' z = some (.ins CP dz [("store", .ref s), ("on", .ref od), ("loose", .bl false)]) → FAt H' od (fun n => n ∈ ns) → Kp [z] H H' → Q .non H'
def pinO (CP : Addr) (H : Hp) (z dz s od : Addr) (b : Bool) : Prop := H z = some (.ins CP dz [("store", .ref s), ("on", .ref od), ("loose", .bl b)])
def spPinE (P : Program) (w : World) (C CU CP CN CL : Addr) : Sp := fun vs H Q E => ∃ (s dy p dx lc ld lg hd a1 a2 a3 a4 t : Addr) (cs : List (Addr × Ct)) (ds : List Nat) (k : Nat) (F : Nat → Prop) (is : List Int) (xs : List V), vs = [.ref s, .ref t] ∧ StAt CU H s dy p hd (hrs a1 a2 a3 a4) k F ∧ BookAt P w C H p dx lc ld lg cs ds ∧ H t = some (.tup (is.map V.int)) ∧ is.length ≤ 1000 ∧ H a4 = some (.lst xs) ∧ xs.length ≤ 1000 ∧
  RfO CN CL CN H E (∀ (z dz od : Addr) (H' : Hp), H z = none → H od = none → z ≠ od → pinO CP H' z dz s od false → FAt H' od (fun n => (n : Int) ∈ is) → H' a4 = some (.lst (xs ++ [.ref z])) → Kp [a4] H H' → KT H H' → Q (.ref z) H') (dueN cs.length F is)
open Classical in
def spAdd (P : Program) (w : World) (C CU CP CN CL CG : Addr) : Sp := fun vs H Q E => ∃ (z dz od s dy p dx lc ld lg hd a1 a2 a3 a4 : Addr) (b : Bool) (G : Nat → Prop) (cs : List (Addr × Ct)) (ds : List Nat) (k : Nat) (F : Nat → Prop) (i : Int), vs = [.ref z, .int i] ∧ pinO CP H z dz s od b ∧ FAt H od G ∧ StAt CU H s dy p hd (hrs a1 a2 a3 a4) k F ∧ BookAt P w C H p dx lc ld lg cs ds ∧
  RfO CN CL CG H E (∀ n : Nat, i = n → ∀ H', FAt H' od (fun m => G m ∨ m = n) → Kp [od] H H' → KT H H' → Q .non H') (if b = true then .lg else dueN cs.length F [i])
def spLetGo (CP : Addr) : Sp := fun vs H Q _ => ∃ (z dz s od : Addr) (b : Bool), vs = [.ref z] ∧ pinO CP H z dz s od b ∧ ∀ (od' : Addr) (H' : Hp), H od' = none → od' ≠ z → pinO CP H' z dz s od' true → FAt H' od' (fun _ => False) → Kp [z] H H' → KT H H' → Q .non H'
def spPNames (CP : Addr) : Sp := fun vs H Q _ => ∃ (z dz s od : Addr) (b : Bool) (G : Nat → Prop), vs = [.ref z] ∧ pinO CP H z dz s od b ∧ FAt H od G ∧ ∀ (ns : List Nat) (l : Addr) (H' : Hp), ns.Pairwise (· < ·) → (∀ n, n ∈ ns ↔ G n) → ns.length ≤ 1000 → H l = none → H' l = some (.lst (ns.map nV)) → Same H H' → Q (.ref l) H'
def spPLen (CP : Addr) : Sp := fun vs H Q _ => ∃ (z dz s od : Addr) (b : Bool) (G : Nat → Prop), vs = [.ref z] ∧ pinO CP H z dz s od b ∧ FAt H od G ∧ ∀ ns : List Nat, ns.Nodup → (∀ n, n ∈ ns ↔ G n) → Q (nV ns.length) H
theorem FAt.len {H : Hp} {f : Addr} {F : Nat → Prop} (h : FAt H f F) : ∃ kvs, H f = some (.dK kvs) ∧ ∃ ns : List Nat, ns.Nodup ∧ (∀ n, n ∈ ns ↔ F n) ∧ kvs.length = ns.length := by
  obtain ⟨fk, ks, h1, h2, h3, h4, h5⟩ := h
  refine ⟨fk, h1, ks.map Int.toNat, ?_, fun n => ?_, ?_⟩
  · unfold List.Nodup at h3 ⊢
    rw [List.pairwise_map]
    refine List.Pairwise.imp_of_mem (fun {a b} ha hb hne => ?_) h3
    have := h4 a ha
    have := h4 b hb
    omega
  · rw [← h5, List.mem_map]
    constructor
    · rintro ⟨k, hk, rfl⟩
      have := h4 k hk
      rwa [show ((k.toNat : Nat) : Int) = k by omega]
    · exact fun h => ⟨_, h, by omega⟩
  · rw [List.length_map, ← List.length_map (f := (·.1)) (as := fk), h2, List.length_map]
theorem nodup_len {a b : List Nat} (ha : a.Nodup) (hb : b.Nodup) (h : ∀ n, n ∈ a ↔ n ∈ b) : a.length = b.length := by
  refine (List.Perm.length_eq ?_)
  exact (List.perm_ext_iff_of_nodup ha hb).mpr h
theorem rise_nodup {a : List Nat} (h : a.Pairwise (· < ·)) : a.Nodup := h.imp fun {a b} h => by omega
section
variable {P : Program} {w : World} {K : PySem.W.Frag} {mg : Str → Option Value} {base : Heap} {C CH CS CU CP : Addr}
theorem ok_hholds {f fN fI : Addr} {fd fdN fdI : FuncData} (T : Txt K mg) (F : Fun K "holds" "Store.holds" s_Store_holds f fd) (K_Book : Kl K mg "Book" C ["contents", "depths", "given"]) (K_Store : Kf K CS ["book", "here", "turns"]) (D_is_name : Df K mg "is_name" s_is_name ["book", "thing"] fN fdN) (D_is_int : DfD K mg "is_int" s_is_int ["thing", "least"] [.int 0] fI fdI) : FnOk P w K mg base CX0 3 f fd ["self", "name"] (spHHolds P w C CS) := by
  have G_is_name : FnOk P w K mg base CX0 2 fN fdN ["book", "thing"] (spIsName P w C) := ok_isname T D_is_name.fn K_Book D_is_int
  have cl := K_Store.cl
  have n1 := K_Store.na "book" (by simp)
  have n2 := K_Store.na "here" (by simp)
  refine F.ok sc_Store_holds (fun vs H Q E h => ?_) (fun cdv A outer s H vs Q E hr h => ?_)
  · obtain ⟨s, dy, p, dx, lc, ld, lg, hd, cs, ds, rs, k, x, a, F, rfl, _⟩ := h
    rfl
  · obtain ⟨s, dy, p, dx, lc, ld, lg, hd, cs, ds, rs, k, x, a, F, rfl, S, B, ty, q1, q2⟩ := h
    have hu := hu_of hr
    have ob := S.ob
    refine ⟨_,
      (pss_one
        (ps_ret (pe_and (pe_call G_is_name (hr.mono (by omega)) (by rfl) D_is_name.g D_is_name.fn.kp D_is_name.b .nil pass0 (pa_cons (pe_fldK (K := K) rfl (pv 0) rfl) (pa_cons (pv 1) pa_nil))) (pe_one (pe_cmp (pc_din hu (pv 1) (pe_fldK (K := K) rfl (pv 0) rfl)))))))
      , ?_⟩
    rw [show L2.start N_Store_holds [V.ref s, x] = [some (.ref s), some x] from rfl]
    walk_at "x"
    refine ⟨p, dx, lc, ld, lg, cs, ds, x, a, rfl, B, ty, fun n e hn => ?_, fun hn => ?_⟩
    · subst e
      walk_at "g"
      refine w_fin' S.here (fun hin => ?_) fun hno => ?_
      · exact q1 ⟨n, rfl, hn, hin⟩
      · exact q2 fun m e _ => by
          have : n = m := by have : (n : Int) = m := V.int.inj e; omega
          subst this
          exact hno
    · walk_at "g"
      exact q2 fun n e h => absurd h (hn n e)
theorem ok_pininitF {f : Addr} {fd : FuncData} (T : Txt K mg) (F : Fun K "__init__" "Pin.__init__" s_Pin___init__ f fd) (K_Pin : Kl K mg "Pin" CP ["store", "on", "loose"]) : FnOk P w K mg base CX0 1 f fd ["self", "store", "names"] (spPinInitF CP) := by
  have cl := K_Pin.cl
  have n1 := K_Pin.na "store" (by simp)
  have n2 := K_Pin.na "on" (by simp)
  have n3 := K_Pin.na "loose" (by simp)
  refine F.ok sc_Pin___init__ (fun vs H Q E h => ?_) (fun cdv A outer s H vs Q E hr h => ?_)
  · obtain ⟨z, dz, s, t, ns, rfl, _⟩ := h
    rfl
  · obtain ⟨z, dz, s, t, ns, rfl, ez, et, hnl, hns, q⟩ := h
    refine ⟨_,
      (pss_cons
        (ps_fld (pv 0) (pv 1) rfl)
      (pss_cons
        (ps_fld (pv 0) (pe_dc (own := [("name", 3)]) (g := (gName 3)) rfl sc_Pin___init__.nd (pi_tup (pv 2)) (blkOk_by (own := [("name", 3)]) (N := N_Pin___init__) (sc := defScope s_Pin___init__) (by decide +kernel)) (fun _ _ _ _ _ => (pg_name (i := 3) sc_Pin___init__.nd rfl (.inl rfl))) (fun _ _ _ _ _ => pts_nil) (fun _ _ _ _ _ => (pv 3)) (fun _ _ _ _ _ => pe_bl)) rfl)
      (pss_one
        (ps_fld (pv 0) pe_bl rfl))))
      , ?_⟩
    rw [show L2.start N_Pin___init__ [V.ref z, V.ref s, V.ref t] = [some (.ref z), some (.ref s), some (.ref t), none] from rfl]
    walk_at "x"
    refine w_fldS' ez cl n1 (by decide) fun H2 o2 f2 => ?_
    have tz : t ≠ z := ne_of et ez (fun z => nomatch z)
    have et2 := f2.get tz et
    walk_at "g"
    refine dcp_map (walk_tup (K := K) (a := t) (xs := ns.map nV)) [] (ns.map fun n : Nat => ((Sum.inl (n : Int) : Key), V.bl true)) (by simp) (by rw [List.length_map]; omega) (fun H' k => .of (k _ _ (by simp) et2)) ?_ (by simp) ?_
    · rintro i x H6 H7 R hi k6 ⟨rfl, hx⟩ hR
      obtain ⟨n, hn, rfl⟩ := map_at hx
      refine w_name ⟨rfl, ?_⟩
      walk_at "g"
      exact hR _ _ (by rw [List.getElem?_map, hn]; rfl) Kp.refl
    intro od H3 hod k3' e3
    have k3 := k3'.same
    have o3 := k3 _ _ o2
    have nod : od ≠ z := fun h => by rw [h, o2] at hod; cases hod
    have hod0 : H od = none := by
      cases e : H od with
      | none => rfl
      | some o => rw [f2.get nod e] at hod; cases hod
    walk_at "g"
    refine w_fldS' o3 cl n2 (show (1 : Nat) < 1000 by decide) fun H4 o4 f4 => ?_
    walk_at "g"
    refine w_fldS' o4 cl n3 (show (2 : Nat) < 1000 by decide) fun H5 o5 f5 => ?_
    exact q od H5 hod0 nod o5 (fat_merge ns hns (f5.get nod (f4.get nod e3))) fun b o hb e => by
      have hb' : b ≠ z := by simpa using hb
      exact f5.get hb' (f4.get hb' (k3 _ _ (f2.get hb' e)))
theorem ok_musthE {f fH fN fI fE fL C_NoName C_Lack : Addr} {fd fdH fdN fdI fdE fdL : FuncData} (T : Txt K mg) (F : Fun K "must_hold" "must_hold" s_must_hold f fd) (K_Book : Kl K mg "Book" C ["contents", "depths", "given"]) (K_House : Kl K mg "House" CU ["book", "here", "turns", "stands", "lately", "others", "pinned"]) (D_Store_holds : DfM K CS "holds" "Store.holds" s_Store_holds ["self", "name"] fH fdH) (I_House_holds : Meth K CU "holds" fH) (D_is_name : Df K mg "is_name" s_is_name ["book", "thing"] fN fdN) (D_is_int : DfD K mg "is_int" s_is_int ["thing", "least"] [.int 0] fI fdI)
    (FE : Fun K "__init__" "NoName.__init__" s_NoName___init__ fE fdE) (X_NoName : ExnI K mg "NoName" C_NoName fE fdE ["self", "name"] ["name"]) (FL : Fun K "__init__" "Lack.__init__" s_Lack___init__ fL fdL) (X_Lack : ExnI K mg "Lack" C_Lack fL fdL ["self", "name"] ["name"]) : FnOk P w K mg base (L2.CX P w) 4 f fd ["store", "names"] (spMustE P w C CU C_NoName C_Lack) := by
  have G_is_name : FnOk P w K mg base CX0 2 fN fdN ["book", "thing"] (spIsName P w C) := ok_isname T D_is_name.fn K_Book D_is_int
  have G_House_holds : FnOk P w K mg base CX0 3 fH fdH ["self", "name"] (spHHolds P w C CU) := ok_hholds T D_Store_holds.fn K_Book (house_kf K_House) D_is_name D_is_int
  have G_NoName___init__ : FnOk P w K mg base CX0 1 fE fdE ["self", "name"] (spInit1 K C_NoName "name") := ok_nninit FE X_NoName.T (X_NoName.nf "name" (by simp))
  have G_Lack___init__ : FnOk P w K mg base CX0 1 fL fdL ["self", "name"] (spInit1 K C_Lack "name") := ok_lkinit FL X_Lack.T (X_Lack.nf "name" (by simp))
  have cl := K_House.cl
  have n1 := K_House.na "book" (by simp)
  refine F.okX sc_must_hold (fun vs H Q E h => ?_) (fun cdv A outer s H vs Q E hr h => ?_)
  · obtain ⟨s, dy, p, dx, lc, ld, lg, hd, a1, a2, a3, a4, t, cs, ds, k, F, ns, rfl, _⟩ := h
    rfl
  · obtain ⟨s, dy, p, dx, lc, ld, lg, hd, a1, a2, a3, a4, t, cs, ds, k, F, is, rfl, S, B, et, q⟩ := h
    have ob := S.ob
    refine ⟨_,
      (pss_cons
        (ps_for (passes_of rfl) rfl (pi_tup (pv 1)) (pg_name (i := 2) sc_must_hold.nd rfl (.inl rfl))
          (pss_one
            (ps_if (pt_not (pt_val (pe_call G_is_name (hr.mono (by omega)) (by rfl) D_is_name.g D_is_name.fn.kp D_is_name.b .nil pass0 (pa_cons (pe_fldK (K := K) rfl (pv 0) rfl) (pa_cons (pv 2) pa_nil)))))
              (pss_one
                (ps_raise rfl (takes_of rfl rfl rfl rfl) (pmk_oex X_NoName.T X_NoName.i X_NoName.t G_NoName___init__ (hr.mono (by omega)) X_NoName.b .nil pass0 (by rfl) X_NoName.g (pa_cons (pv 2) pa_nil))))
              pss_nil)))
      (pss_one
        (ps_for (passes_of rfl) rfl (pi_tup (pv 1)) (pg_name (i := 2) sc_must_hold.nd rfl (.inl rfl))
          (pss_one
            (ps_if (pt_not (pt_val (pe_meth (pv 0) K_House.cl I_House_holds G_House_holds (hr.mono (by omega)) D_Store_holds.b .nil pass0 (pa_cons (pv 2) pa_nil))))
              (pss_one
                (ps_raise rfl (takes_of rfl rfl rfl rfl) (pmk_oex X_Lack.T X_Lack.i X_Lack.t G_Lack___init__ (hr.mono (by omega)) X_Lack.b .nil pass0 (by rfl) X_Lack.g (pa_cons (pv 2) pa_nil))))
              pss_nil)))))
      , ?_⟩
    rw [show L2.start N_must_hold [V.ref s, V.ref t] = [some (.ref s), some (.ref t), none] from rfl]
    walk_at "x"
    refine lp_tup (xs := is.map V.int) (fun i σ H' => ∃ y : Option V, σ = [some (.ref s), some (.ref t), y] ∧ H' = H ∧ ∀ z ∈ is.take i, 0 ≤ z ∧ z < (cs.length : Int)) ⟨_, rfl, rfl, by simp⟩ (fun i σ H' _ h => by obtain ⟨_, _, e, _⟩ := h; rw [e]; exact .of et) ?_ ?_
    · rintro i x σ H1 hx ⟨y, rfl, rfl, ht⟩
      obtain ⟨z, hz, rfl⟩ := map_at hx
      have hzl := (List.getElem?_eq_some_iff.mp hz)
      have etk : is.take (i + 1) = is.take i ++ [z] := by rw [List.take_add_one, hz]; rfl
      have esp : is = is.take i ++ z :: is.drop (i + 1) := by
        obtain ⟨h1, h2⟩ := hzl
        rw [← h2, ← List.drop_eq_getElem_cons h1, List.take_append_drop]
      walk_at "g"
      refine ⟨p, dx, lc, ld, lg, cs, ds, .int z, "int", rfl, B, .int _, fun m em hm => ?_, fun hm => ?_⟩
      · have ez : z = (m : Int) := V.int.inj em
        walk_at "g"
        refine ⟨_, rfl, rfl, fun y' hy' => ?_⟩
        rw [etk] at hy'
        rcases List.mem_append.mp hy' with g | g
        · exact ht y' g
        · have : y' = z := by simpa using g
          omega
      · have hbad : ¬ (0 ≤ z ∧ z < (cs.length : Int)) := fun ⟨g1, g2⟩ => hm z.toNat (by show V.int z = V.int _; rw [show ((z.toNat : Nat) : Int) = z by omega]) (by omega)
        rw [dueN_nn esp ht hbad] at q
        walk_at "g"
        refine w_mkO ?_
        walk_at "g"
        exact ⟨by simp, fun a ha => mk1_sameR ha fun d H4 k4 hd e4 => q d H4 k4 hd e4⟩
    rintro σ H1 ⟨y, rfl, rfl, ht⟩
    rw [List.length_map, List.take_length] at ht
    walk_at "g"
    refine lp_tup (xs := is.map V.int) (fun i σ H' => ∃ y : Option V, σ = [some (.ref s), some (.ref t), y] ∧ H' = H1 ∧ ∀ z ∈ is.take i, F z.toNat) ⟨_, rfl, rfl, by simp⟩ (fun i σ H' _ h => by obtain ⟨_, _, e, _⟩ := h; rw [e]; exact .of et) ?_ ?_
    · rintro i x σ H2 hx ⟨y, rfl, rfl, ht2⟩
      obtain ⟨z, hz, rfl⟩ := map_at hx
      have hzl := (List.getElem?_eq_some_iff.mp hz)
      have hz0 := ht z (List.mem_of_getElem? hz)
      have etk : is.take (i + 1) = is.take i ++ [z] := by rw [List.take_add_one, hz]; rfl
      have esp : is = is.take i ++ z :: is.drop (i + 1) := by
        obtain ⟨h1, h2⟩ := hzl
        rw [← h2, ← List.drop_eq_getElem_cons h1, List.take_append_drop]
      walk_at "g"
      refine ⟨s, dy, p, dx, lc, ld, lg, hd, cs, ds, hrs a1 a2 a3 a4, k, .int z, "int", F, rfl, S, B, .int _, fun ⟨m, em, hm, hF⟩ => ?_, fun hno => ?_⟩
      · have ez : z = (m : Int) := V.int.inj em
        walk_at "g"
        refine ⟨_, rfl, rfl, fun y' hy' => ?_⟩
        rw [etk] at hy'
        rcases List.mem_append.mp hy' with g | g
        · exact ht2 y' g
        · have : y' = z := by simpa using g
          rw [this, ez]
          exact hF
      · have hbad : ¬ F z.toNat := hno z.toNat (by show V.int z = V.int _; rw [show ((z.toNat : Nat) : Int) = z by omega]) (by omega)
        rw [dueN_lk ht esp ht2 hbad] at q
        walk_at "g"
        refine w_mkO ?_
        walk_at "g"
        exact ⟨by simp, fun a ha => mk1_sameR ha fun d H4 k4 hd e4 => q d H4 k4 hd e4⟩
    rintro σ H2 ⟨y, rfl, rfl, ht2⟩
    rw [List.length_map, List.take_length] at ht2
    rw [dueN_good ht ht2] at q
    walk_at "g"
    exact q
theorem ok_marks {f : Addr} {fd : FuncData} (T : Txt K mg) (F : Fun K "marks" "House.marks" s_House_marks f fd) (K_House : Kl K mg "House" CU ["book", "here", "turns", "stands", "lately", "others", "pinned"]) : FnOk P w K mg base CX0 1 f fd ["self"] (spMarks CU) := by
  have cl := K_House.cl
  have n4 := K_House.na "stands" (by simp)
  refine F.ok sc_House_marks (fun vs H Q E h => ?_) (fun cdv A outer s H vs Q E hr h => ?_)
  · obtain ⟨s, dy, p, hd, a1, a2, a3, a4, k, F, ms, rfl, _⟩ := h
    rfl
  · obtain ⟨s, dy, p, hd, a1, a2, a3, a4, k, F, ms, rfl, S, e1, nd, q⟩ := h
    have hu := hu_of hr
    have ob := S.ob
    refine ⟨_,
      (pss_one
        (ps_ret (pe_callB (r := rSortI) (c_sortI rfl hr.units) (by rfl) T.n_sorted (by decide +kernel) (pa_cons (pe_bm0 PySem.F.plainAttrs_dict PySem.F.slot_dict_items PySem.F.type_dict_items mt_itemsK (pe_fldK (K := K) rfl (pv 0) rfl)) pa_nil))))
      , ?_⟩
    rw [show L2.start N_House_marks [V.ref s] = [some (.ref s)] from rfl]
    walk_at "x"
    refine w_bm0D ?_
    walk_at "g"
    refine w_tyDK e1 ?_
    refine w_itemsK e1 fun v H2 hv2 e2 k2 => ?_
    walk_at "g"
    refine w_sortI e2 (k2 _ _ e1) nd fun H3 l ts k3 hl e3 hts hperm hsrt => ?_
    exact q H3 l ts (Same.trans k2 k3) (k2.free hl) e3 hts hperm hsrt
end
theorem KT.offI {a C d : Addr} {H H1 : Hp} {fs : List (Str × V)} (o : Off a H H1) (e : H a = some (.ins C d fs)) : KT H H1 := ⟨fun b xs h => o.get (ne_of h e (fun z => nomatch z)) h, fun b u xs h => o.get (ne_of h e (fun z => nomatch z)) h⟩
theorem KT.offD {a : Addr} {H H1 : Hp} {kvs : List (Key × V)} (o : Off a H H1) (e : H a = some (.dK kvs)) : KT H H1 := ⟨fun b xs h => o.get (ne_of h e (fun z => nomatch z)) h, fun b u xs h => o.get (ne_of h e (fun z => nomatch z)) h⟩
theorem KT.offT {a : Addr} {H H1 : Hp} {kvs : List (List Key × V)} (o : Off a H H1) (e : H a = some (.dT kvs)) : KT H H1 := ⟨fun b xs h => o.get (ne_of h e (fun z => nomatch z)) h, fun b u xs h => o.get (ne_of h e (fun z => nomatch z)) h⟩
section
variable {P : Program} {w : World} {K : PySem.W.Frag} {mg : Str → Option Value} {base : Heap} {C CH CS CU CP : Addr}
theorem ok_pinE {f fM fQ fH fN fI fE fL C_NoName C_Lack : Addr} {fd fdM fdQ fdH fdN fdI fdE fdL : FuncData} (T : Txt K mg) (F : Fun K "pin" "House.pin" s_House_pin f fd) (K_Book : Kl K mg "Book" C ["contents", "depths", "given"]) (K_House : Kl K mg "House" CU ["book", "here", "turns", "stands", "lately", "others", "pinned"]) (K_Pin : Kl K mg "Pin" CP ["store", "on", "loose"]) (M_Pin : Mk K CP fQ) (D_Pin___init__ : DfM K CP "__init__" "Pin.__init__" s_Pin___init__ ["self", "store", "names"] fQ fdQ) (D_must_hold : Df K mg "must_hold" s_must_hold ["store", "names"] fM fdM) (D_Store_holds : DfM K CS "holds" "Store.holds" s_Store_holds ["self", "name"] fH fdH) (I_House_holds : Meth K CU "holds" fH) (D_is_name : Df K mg "is_name" s_is_name ["book", "thing"] fN fdN) (D_is_int : DfD K mg "is_int" s_is_int ["thing", "least"] [.int 0] fI fdI)
    (FE : Fun K "__init__" "NoName.__init__" s_NoName___init__ fE fdE) (X_NoName : ExnI K mg "NoName" C_NoName fE fdE ["self", "name"] ["name"]) (FL : Fun K "__init__" "Lack.__init__" s_Lack___init__ fL fdL) (X_Lack : ExnI K mg "Lack" C_Lack fL fdL ["self", "name"] ["name"]) : FnOk P w K mg base (L2.CX P w) 5 f fd ["self", "names"] (spPinE P w C CU CP C_NoName C_Lack) := by
  have G_must_hold : FnOk P w K mg base (L2.CX P w) 4 fM fdM ["store", "names"] (spMustE P w C CU C_NoName C_Lack) := ok_musthE T D_must_hold.fn K_Book K_House D_Store_holds I_House_holds D_is_name D_is_int FE X_NoName FL X_Lack
  have G_Pin___init__ : FnOk P w K mg base CX0 1 fQ fdQ ["self", "store", "names"] (spPinInitF CP) := ok_pininitF T D_Pin___init__.fn K_Pin
  have cl := K_House.cl
  have n7 := K_House.na "pinned" (by simp)
  refine F.okX sc_House_pin (fun vs H Q E h => ?_) (fun cdv A outer s H vs Q E hr h => ?_)
  · obtain ⟨s, dy, p, dx, lc, ld, lg, hd, a1, a2, a3, a4, t, cs, ds, k, F, ns, xs, rfl, _⟩ := h
    rfl
  · obtain ⟨s, dy, p, dx, lc, ld, lg, hd, a1, a2, a3, a4, t, cs, ds, k, F, is, xs, rfl, S, B, et, hil, e4, hxl, q⟩ := h
    have ob := S.ob
    refine ⟨_,
      (pss_cons
        (ps_expr (pe_call G_must_hold (hr.mono (by omega)) (by rfl) D_must_hold.g D_must_hold.fn.kp D_must_hold.b .nil (passes_call (takes_of rfl rfl rfl rfl) (fun _ _ _ _ h => h)) (pa_cons (pv 0) (pa_cons (pv 1) pa_nil))))
      (pss_cons
        (ps_set (i := 2) sc_House_pin.nd rfl (.inl rfl) (pe_make M_Pin G_Pin___init__ (hr.mono (by omega)) (by rfl) K_Pin.g D_Pin___init__.b .nil pass0 (pa_cons (pv 0) (pa_cons (pv 1) pa_nil))))
      (pss_cons
        (ps_expr (pe_bm PySem.F.plainAttrs_list PySem.F.slot_list_append PySem.F.type_list_append mt_append (pe_fldK (K := K) rfl (pv 0) rfl) (pa_cons (pv 2) pa_nil)))
      (pss_one
        (ps_ret (pv 2))))))
      , ?_⟩
    rw [show L2.start N_House_pin [V.ref s, V.ref t] = [some (.ref s), some (.ref t), none] from rfl]
    walk_at "x"
    refine ⟨s, dy, p, dx, lc, ld, lg, hd, a1, a2, a3, a4, t, cs, ds, k, F, is, rfl, S, B, et, ?_⟩
    cases hdu : dueN cs.length F is with
    | nn i => rw [hdu] at q; exact q
    | lk i => rw [hdu] at q; exact q
    | lg => rw [hdu] at q; exact q
    | ok =>
    rw [hdu] at q
    obtain ⟨ns, ens, hns⟩ := dueN_ok hdu
    have et' : H t = some (.tup (ns.map nV)) := by rw [et, ens, ← nV_map]
    have few := B.few
    unfold RfO
    dsimp only
    walk_at "g"
    refine w_make' fun z dz H1 hz hdz hne e1 k1 => ?_
    refine ⟨z, dz, s, t, ns, rfl, e1, k1 _ _ et', by rw [ens, List.length_map] at hil; exact hil, fun n hn => by have := (hns n hn).1; omega, fun od H2 hod nod e2 F2 k2 => ⟨rfl, ?_⟩⟩
    have s02 : Same H H2 := fun b o e => k2 _ _ (by simpa using ne_of_none e hz) (k1 _ _ e)
    have ob2 := s02 _ _ ob
    have e42 := s02 _ _ e4
    have hod0 : H od = none := k1.free hod
    have nz4 : z ≠ a4 := (ne_of_none e4 hz).symm
    have nod4 : od ≠ a4 := (ne_of_none e4 hod0).symm
    walk_at "g"
    refine w_app e42 (small2000 (by omega)) fun H3 e3 o3 => ?_
    walk_at "g"
    exact q z dz od H3 hz hod0 nod.symm (o3.get nz4 e2) ((F2.iff fun n => by rw [ens]; exact int_mem.symm).kp (o3.kp (M := [a4]) (by simp)) (by simpa using nod4)) e3 (fun b o hb e => o3.get (by simpa using hb) (s02 _ _ e)) ((KT.of s02).trans (KT.off o3 e42))
theorem ok_add {f fM fH fN fI fE fL C_NoName C_Lack C_LetGo : Addr} {fd fdM fdH fdN fdI fdE fdL : FuncData} (T : Txt K mg) (F : Fun K "add" "Pin.add" s_Pin_add f fd) (K_Book : Kl K mg "Book" C ["contents", "depths", "given"]) (K_House : Kl K mg "House" CU ["book", "here", "turns", "stands", "lately", "others", "pinned"]) (K_Pin : Kl K mg "Pin" CP ["store", "on", "loose"]) (D_must_hold : Df K mg "must_hold" s_must_hold ["store", "names"] fM fdM) (D_Store_holds : DfM K CS "holds" "Store.holds" s_Store_holds ["self", "name"] fH fdH) (I_House_holds : Meth K CU "holds" fH) (D_is_name : Df K mg "is_name" s_is_name ["book", "thing"] fN fdN) (D_is_int : DfD K mg "is_int" s_is_int ["thing", "least"] [.int 0] fI fdI)
    (FE : Fun K "__init__" "NoName.__init__" s_NoName___init__ fE fdE) (X_NoName : ExnI K mg "NoName" C_NoName fE fdE ["self", "name"] ["name"]) (FL : Fun K "__init__" "Lack.__init__" s_Lack___init__ fL fdL) (X_Lack : ExnI K mg "Lack" C_Lack fL fdL ["self", "name"] ["name"]) (X_LetGo : Exn K mg "LetGo" C_LetGo) : FnOk P w K mg base (L2.CX P w) 5 f fd ["self", "name"] (spAdd P w C CU CP C_NoName C_Lack C_LetGo) := by
  have G_must_hold : FnOk P w K mg base (L2.CX P w) 4 fM fdM ["store", "names"] (spMustE P w C CU C_NoName C_Lack) := ok_musthE T D_must_hold.fn K_Book K_House D_Store_holds I_House_holds D_is_name D_is_int FE X_NoName FL X_Lack
  have g_LetGo := X_LetGo.g
  have cl := K_Pin.cl
  have n1 := K_Pin.na "store" (by simp)
  have n2 := K_Pin.na "on" (by simp)
  have n3 := K_Pin.na "loose" (by simp)
  refine F.okX sc_Pin_add (fun vs H Q E h => ?_) (fun cdv A outer s H vs Q E hr h => ?_)
  · obtain ⟨z, dz, od, s, dy, p, dx, lc, ld, lg, hd, a1, a2, a3, a4, b, G, cs, ds, k, F, i, rfl, _⟩ := h
    rfl
  · obtain ⟨z, dz, od, s, dy, p, dx, lc, ld, lg, hd, a1, a2, a3, a4, b, G, cs, ds, k, F, i, rfl, ez, Fo, S, B, q⟩ := h
    have hu := hu_of hr
    unfold pinO at ez
    have few := B.few
    refine ⟨_,
      (pss_cons
        (ps_if (pt_val (pe_fldK (K := K) rfl (pv 0) rfl))
          (pss_one
            (ps_raise rfl (takes_of rfl rfl rfl rfl) (pmk_own PySem.F.excBase_ValueError X_LetGo.x X_LetGo.g X_LetGo.k (raises_own X_LetGo.b X_LetGo.t) rfl)))
          pss_nil)
      (pss_cons
        (ps_expr (pe_call G_must_hold (hr.mono (by omega)) (by rfl) D_must_hold.g D_must_hold.fn.kp D_must_hold.b .nil (passes_call (takes_of rfl rfl rfl rfl) (fun _ _ _ _ h => h)) (pa_cons (pe_fldK (K := K) rfl (pv 0) rfl) (pa_cons (pe_tup (pa_cons (pv 1) pa_nil)) pa_nil))))
      (pss_one
        (ps_dput hu (pe_fldK (K := K) rfl (pv 0) rfl) (pv 1) pe_bl rfl))))
      , ?_⟩
    rw [show L2.start N_Pin_add [V.ref z, V.int i] = [some (.ref z), some (.int i)] from rfl]
    refine w_seq ?_
    walk_at "x"
    cases b with
    | true =>
      walk_at "g"
      exact q
    | false =>
      rw [if_neg (by decide)] at q
      walk_at "g"
      refine w_new fun t H1 ht e1 k1 => ?_
      have S1 := S.same k1
      have B1 := B.same k1
      have ez1 := k1 _ _ ez
      have F1 := Fo.same k1
      walk_at "g"
      refine ⟨s, dy, p, dx, lc, ld, lg, hd, a1, a2, a3, a4, t, cs, ds, k, F, [i], rfl, S1, B1, e1, ?_⟩
      cases hdu : dueN cs.length F [i] with
      | nn j => rw [hdu] at q; exact fun d H' k2 hd2 e2 => q d H' (Same.trans k1 k2) (k1.free hd2) e2
      | lk j => rw [hdu] at q; exact fun d H' k2 hd2 e2 => q d H' (Same.trans k1 k2) (k1.free hd2) e2
      | lg =>
        unfold dueN at hdu
        split at hdu
        · cases hdu
        · split at hdu <;> cases hdu
      | ok =>
      rw [hdu] at q
      obtain ⟨ns, ens, hns⟩ := dueN_ok hdu
      obtain ⟨n, rfl⟩ : ∃ n, ns = [n] := by
        match ns, ens with
        | [n], _ => exact ⟨n, rfl⟩
      have en : i = (n : Int) := by simpa using ens
      subst en
      have hn := (hns n (by simp)).1
      unfold RfO
      dsimp only
      have F1' := F1
      walk_at "g"
      refine w_fput F1 (by omega) fun H2 F2 o2 => ?_
      obtain ⟨fk, hfk⟩ := F1.obj
      obtain ⟨fk0, hfk0⟩ := Fo.obj
      exact q n rfl H2 F2 (fun b o hb e => o2.get (by simpa using hb) (k1 _ _ e)) ((KT.of k1).trans (KT.offD o2 hfk))
theorem ok_letgo {f : Addr} {fd : FuncData} (T : Txt K mg) (F : Fun K "let_go" "Pin.let_go" s_Pin_let_go f fd) (K_Pin : Kl K mg "Pin" CP ["store", "on", "loose"]) : FnOk P w K mg base CX0 1 f fd ["self"] (spLetGo CP) := by
  have cl := K_Pin.cl
  have n1 := K_Pin.na "store" (by simp)
  have n2 := K_Pin.na "on" (by simp)
  have n3 := K_Pin.na "loose" (by simp)
  refine F.ok sc_Pin_let_go (fun vs H Q E h => ?_) (fun cdv A outer s H vs Q E hr h => ?_)
  · obtain ⟨z, dz, s, od, b, rfl, _⟩ := h
    rfl
  · obtain ⟨z, dz, s, od, b, rfl, ez, q⟩ := h
    unfold pinO at ez
    refine ⟨_,
      (pss_cons
        (ps_fld (pv 0) pe_dnewK rfl)
      (pss_one
        (ps_fld (pv 0) pe_bl rfl)))
      , ?_⟩
    rw [show L2.start N_Pin_let_go [V.ref z] = [some (.ref z)] from rfl]
    walk_at "x"
    refine w_new fun o' H1 ho e1 k1 => ?_
    have ez1 := k1 _ _ ez
    have noz : o' ≠ z := (ne_of_none ez ho).symm
    walk_at "g"
    refine w_fldS' ez1 cl n2 (show (3 : Nat) < 1000 by decide) fun H2 e2 f2 => ?_
    walk_at "g"
    refine w_fldS' e2 cl n3 (show (3 : Nat) < 1000 by decide) fun H3 e3 f3 => ?_
    have k : Kp [z] H H3 := fun b o hb e => by
      have hb' : b ≠ z := by simpa using hb
      exact f3.get hb' (f2.get hb' (k1 _ _ e))
    exact q o' H3 ho noz e3 ⟨[], [], f3.get noz (f2.get noz e1), rfl, .nil, by simp, by simp⟩ k ((KT.of k1).trans ((KT.offI f2 ez1).trans (KT.offI f3 e2)))
theorem ok_pnames {f : Addr} {fd : FuncData} (T : Txt K mg) (F : Fun K "names" "Pin.names" s_Pin_names f fd) (K_Pin : Kl K mg "Pin" CP ["store", "on", "loose"]) : FnOk P w K mg base CX0 1 f fd ["self"] (spPNames CP) := by
  have cl := K_Pin.cl
  have n2 := K_Pin.na "on" (by simp)
  refine F.ok sc_Pin_names (fun vs H Q E h => ?_) (fun cdv A outer s H vs Q E hr h => ?_)
  · obtain ⟨z, dz, s, od, b, G, rfl, _⟩ := h
    rfl
  · obtain ⟨z, dz, s, od, b, G, rfl, ez, Fo, q⟩ := h
    unfold pinO at ez
    refine ⟨_,
      (pss_one
        (ps_ret (pe_callB (c_sortA rfl) (by rfl) T.n_sorted (by decide +kernel) (pa_cons (pe_fldK (K := K) rfl (pv 0) rfl) pa_nil))))
      , ?_⟩
    rw [show L2.start N_Pin_names [V.ref z] = [some (.ref z)] from rfl]
    walk_at "x"
    refine w_fsort Fo fun ns l H1 hup hmem hnl hl e1 k1 => ?_
    exact q ns l H1 hup hmem hnl hl e1 k1
theorem ok_plen {f : Addr} {fd : FuncData} (T : Txt K mg) (F : Fun K "__len__" "Pin.__len__" s_Pin___len__ f fd) (K_Pin : Kl K mg "Pin" CP ["store", "on", "loose"]) : FnOk P w K mg base CX0 1 f fd ["self"] (spPLen CP) := by
  have cl := K_Pin.cl
  have n2 := K_Pin.na "on" (by simp)
  refine F.ok sc_Pin___len__ (fun vs H Q E h => ?_) (fun cdv A outer s H vs Q E hr h => ?_)
  · obtain ⟨z, dz, s, od, b, G, rfl, _⟩ := h
    rfl
  · obtain ⟨z, dz, s, od, b, G, rfl, ez, Fo, q⟩ := h
    unfold pinO at ez
    obtain ⟨kvs, ekv, ns', nd', hm', hl'⟩ := Fo.len
    refine ⟨_,
      (pss_one
        (ps_ret (pe_callB c_lenD (by rfl) T.n_len (by decide +kernel) (pa_cons (pe_fldK (K := K) rfl (pv 0) rfl) pa_nil))))
      , ?_⟩
    rw [show L2.start N_Pin___len__ [V.ref z] = [some (.ref z)] from rfl]
    walk_at "x"
    refine w_lenD ekv ?_
    rw [hl']
    exact q ns' nd' hm'
end
local macro_rules | `(tactic| walk_at "s") => `(tactic| first
  | with_reducible refine w_dnewT ?_
  | with_reducible refine w_valsT ?_
  | with_reducible refine w_vals ?_
  | with_reducible refine w_itemsT ?_
  | with_reducible refine w_dpopT ?_
  | with_reducible refine w_dpop1 ?_
  | ((with_reducible refine' w_isDT ?h1 ?_); (case h1 => assumption))
  | ((with_reducible refine' w_valsT' ?h1 ?_); (case h1 => assumption))
  | ((with_reducible refine' w_vals' ?h1 ?_); (case h1 => assumption))
  | ((with_reducible refine' w_itemsT' ?h1 ?_); (case h1 => assumption))
  | ((with_reducible refine' w_keysT' ?h1 ?_); (case h1 => assumption))
  )
/-! ### far marks, roots -/
def farK (fs : List (TTx × Nat)) : List (List Key × V) := fs.map fun q => (ttK q.1, nV q.2)
theorem farK_val (fs : List (TTx × Nat)) (q : TTx) : valV (farK fs) (ttK q) = (fs.lookup q).map nV := by
  induction fs with
  | nil => rfl
  | cons p r ih =>
    unfold farK valV at ih ⊢
    rw [List.map_cons, List.find?_cons]
    by_cases h : q = p.1
    · subst h
      have e1 : List.lookup p.1 (p :: r) = some p.2 := by
        rw [show p = (p.1, p.2) from rfl, List.lookup_cons_self]
      rw [e1]
      simp
    · have e2 : List.lookup q (p :: r) = List.lookup q r := by
        rw [show p = (p.1, p.2) from rfl, List.lookup_cons]
        have : (q == p.1) = false := by simpa using h
        rw [this]
      rw [e2, ← ih]
      have : ¬ (ttK p.1 = ttK q) := fun e => h (ttK_inj e).symm
      simp [this]
def putFs (fs : List (TTx × Nat)) (q : TTx) (n : Nat) : List (TTx × Nat) := if (fs.any fun p => decide (p.1 = q)) = true then fs.map (fun p => if p.1 = q then (p.1, n) else p) else fs ++ [(q, n)]
def dropFs (fs : List (TTx × Nat)) (q : TTx) : List (TTx × Nat) := fs.filter fun p => decide (p.1 ≠ q)
theorem ttK_iff {p q : TTx} : ttK p = ttK q ↔ p = q := ⟨ttK_inj, fun e => by rw [e]⟩
theorem farK_put (fs : List (TTx × Nat)) (q : TTx) (n : Nat) : putK (farK fs) (ttK q) (nV n) = farK (putFs fs q n) := by
  unfold putK putFs
  have e : ((farK fs).any fun kv => decide (kv.1 = ttK q)) = (fs.any fun p => decide (p.1 = q)) := by
    unfold farK
    rw [List.any_map]
    congr 1
    funext p
    show decide (ttK p.1 = ttK q) = decide (p.1 = q)
    rw [decide_eq_decide]
    exact ttK_iff
  rw [e]
  by_cases h : (fs.any fun p => decide (p.1 = q)) = true
  · rw [if_pos h, if_pos h]
    unfold farK
    rw [List.map_map, List.map_map]
    refine List.map_congr_left fun p hp => ?_
    show (if ttK p.1 = ttK q then (ttK p.1, nV n) else (ttK p.1, nV p.2)) = _
    by_cases hq : p.1 = q
    · rw [if_pos (ttK_iff.mpr hq)]
      show _ = (ttK (if p.1 = q then (p.1, n) else p).1, nV (if p.1 = q then (p.1, n) else p).2)
      rw [if_pos hq]
    · rw [if_neg (fun e => hq (ttK_iff.mp e))]
      show _ = (ttK (if p.1 = q then (p.1, n) else p).1, nV (if p.1 = q then (p.1, n) else p).2)
      rw [if_neg hq]
  · rw [if_neg h, if_neg h]
    unfold farK
    rw [List.map_append]
    rfl
theorem farK_drop (fs : List (TTx × Nat)) (q : TTx) : dropK (farK fs) (ttK q) = farK (dropFs fs q) := by
  unfold dropK dropFs farK
  rw [List.filter_map]
  congr 1
  refine List.filter_congr fun p _ => ?_
  show decide (ttK p.1 ≠ ttK q) = decide (p.1 ≠ q)
  rw [decide_eq_decide]
  exact not_congr ttK_iff
theorem putFs_keys (fs : List (TTx × Nat)) (q : TTx) (n : Nat) : (putFs fs q n).map (·.1) = if (fs.any fun p => decide (p.1 = q)) = true then fs.map (·.1) else fs.map (·.1) ++ [q] := by
  unfold putFs
  by_cases h : (fs.any fun p => decide (p.1 = q)) = true
  · rw [if_pos h, if_pos h, List.map_map]
    refine List.map_congr_left fun p _ => ?_
    show (if p.1 = q then (p.1, n) else p).1 = p.1
    split <;> rfl
  · rw [if_neg h, if_neg h, List.map_append]
    rfl
theorem putFs_nd {fs : List (TTx × Nat)} (nd : (fs.map (·.1)).Nodup) (q : TTx) (n : Nat) : ((putFs fs q n).map (·.1)).Nodup := by
  rw [putFs_keys]
  by_cases h : (fs.any fun p => decide (p.1 = q)) = true
  · rw [if_pos h]; exact nd
  · rw [if_neg h, List.nodup_append]
    refine ⟨nd, by simp, fun x hx y hy e => h ?_⟩
    obtain ⟨p, hp, rfl⟩ := List.mem_map.mp hx
    rw [List.any_eq_true]
    exact ⟨p, hp, decide_eq_true (by rw [e]; simpa using hy)⟩
theorem putFs_len (fs : List (TTx × Nat)) (q : TTx) (n : Nat) : (putFs fs q n).length ≤ fs.length + 1 := by
  unfold putFs
  split
  · rw [List.length_map]; omega
  · rw [List.length_append]; simp
theorem putFs_val {fs : List (TTx × Nat)} {q : TTx} {n : Nat} {p : TTx × Nat} (h : p ∈ putFs fs q n) : p.2 = n ∨ ∃ p' ∈ fs, p'.2 = p.2 := by
  unfold putFs at h
  split at h
  · obtain ⟨p', hp', rfl⟩ := List.mem_map.mp h
    by_cases e : p'.1 = q
    · rw [if_pos e]; exact .inl rfl
    · rw [if_neg e]; exact .inr ⟨p', hp', rfl⟩
  · rcases List.mem_append.mp h with g | g
    · exact .inr ⟨p, g, rfl⟩
    · left
      have : p = (q, n) := by simpa using g
      rw [this]
theorem dropFs_nd {fs : List (TTx × Nat)} (nd : (fs.map (·.1)).Nodup) (q : TTx) : ((dropFs fs q).map (·.1)).Nodup := nd.sublist (List.Sublist.map _ List.filter_sublist)
theorem dropFs_none {fs : List (TTx × Nat)} {q : TTx} (h : fs.lookup q = none) : dropFs fs q = fs := by
  unfold dropFs
  rw [List.filter_eq_self]
  intro p hp
  refine decide_eq_true fun e => ?_
  rw [List.lookup_eq_none_iff] at h
  have := h p hp
  rw [e] at this
  simp at this
theorem t3_of {H3 : Hp} : ∀ (fs : List (TTx × Nat)) (ys : List V), ys.length = fs.length → (∀ (i : Nat) (y : V) (q : TTx × Nat), ys[i]? = some y → fs[i]? = some q → ∃ a : Addr, y = .ref a ∧ H3 a = some (.tup [.str q.1.1, .str q.1.2, nV q.2])) →
    ∃ bs : List T3, ys = bs.map (fun b => V.ref b.1) ∧ bs.map (·.2) = fs.map (fun q => (q.1, (q.2 : Int))) ∧ ∀ b ∈ bs, H3 b.1 = some (.tup [.str b.2.1.1, .str b.2.1.2, .int b.2.2])
  | [], [], _, _ => ⟨[], rfl, rfl, by simp⟩
  | [], _ :: _, h, _ => by cases h
  | _ :: _, [], h, _ => by cases h
  | q :: fs, y :: ys, hl, h => by
    obtain ⟨bs, h1, h2, h3⟩ := t3_of fs ys (by simpa using hl) fun i y' q' hy hq => h (i + 1) y' q' (by simpa using hy) (by simpa using hq)
    obtain ⟨a, e1, e2⟩ := h 0 y q rfl rfl
    refine ⟨(a, q.1, (q.2 : Int)) :: bs, by rw [h1, e1]; rfl, by rw [List.map_cons, List.map_cons, h2], fun b hb => ?_⟩
    rcases List.mem_cons.mp hb with rfl | hb
    · exact e2
    · exact h3 b hb
open Classical in
/-- what must_have says of a version -/
noncomputable def dueV (cs : List (Addr × Ct)) (F : Nat → Prop) (i : Int) : Rf :=
  if ∃ n : Nat, i = n ∧ isV cs n then (if F i.toNat then .ok else .lk i) else .nn i
def spMustHave (P : Program) (w : World) (C CU CN CL : Addr) : Sp := fun vs H Q E => ∃ (s dy p dx lc ld lg hd a1 a2 a3 a4 : Addr) (cs : List (Addr × Ct)) (ds : List Nat) (k : Nat) (F : Nat → Prop) (i : Int), vs = [.ref s, .int i] ∧ StAt CU H s dy p hd (hrs a1 a2 a3 a4) k F ∧ BookAt P w C H p dx lc ld lg cs ds ∧ RfO CN CL CN H E (Q .non H) (dueV cs F i)
def spSetFar (P : Program) (w : World) (C CU CN CL : Addr) : Sp := fun vs H Q E => ∃ (s dy p dx lc ld lg hd a1 a2 a3 a4 : Addr) (cs : List (Addr × Ct)) (ds : List Nat) (k : Nat) (F : Nat → Prop) (fs : List (TTx × Nat)) (l m : Str) (x : V), vs = [.ref s, .str l, .str m, x] ∧ StAt CU H s dy p hd (hrs a1 a2 a3 a4) k F ∧ BookAt P w C H p dx lc ld lg cs ds ∧ H a3 = some (.dT (farK fs)) ∧ fs.length ≤ 1000 ∧
  ((x = .non ∧ ∀ H', H' a3 = some (.dT (farK (dropFs fs (l, m)))) → Kp [a3] H H' → KT H H' → Q .non H') ∨ ∃ i : Int, x = .int i ∧ RfO CN CL CN H E (∀ H', H' a3 = some (.dT (farK (putFs fs (l, m) i.toNat))) → Kp [a3] H H' → KT H H' → Q .non H') (dueV cs F i))
def spFar (CU : Addr) : Sp := fun vs H Q _ => ∃ (s dy p hd a1 a2 a3 a4 : Addr) (k : Nat) (F : Nat → Prop) (fs : List (TTx × Nat)), vs = [.ref s] ∧ StAt CU H s dy p hd (hrs a1 a2 a3 a4) k F ∧ H a3 = some (.dT (farK fs)) ∧ (fs.map (·.1)).Nodup ∧ fs.length ≤ 1000 ∧
  ∀ (ts : List T3) (l : Addr) (H' : Hp), (ts.map (·.2)).Perm (fs.map fun q => (q.1, (q.2 : Int))) → ts.Pairwise (fun x y => ttLt x.2.1 y.2.1) → H l = none → H' l = some (.lst (ts.map fun t => V.ref t.1)) → (∀ t ∈ ts, H' t.1 = some (.tup [.str t.2.1.1, .str t.2.1.2, .int t.2.2])) → Same H H' → Q (.ref l) H'
section
variable {P : Program} {w : World} {K : PySem.W.Frag} {mg : Str → Option Value} {base : Heap} {C CH CS CU CP : Addr}
theorem ok_musthave {f fK fH fG fN fI fE fL C_NoName C_Lack : Addr} {fd fdK fdH fdG fdN fdI fdE fdL : FuncData} (T : Txt K mg) (F : Fun K "must_have" "House.must_have" s_House_must_have f fd) (K_Book : Kl K mg "Book" C ["contents", "depths", "given"]) (K_House : Kl K mg "House" CU ["book", "here", "turns", "stands", "lately", "others", "pinned"]) (D_is_kind : Df K mg "is_kind" s_is_kind ["book", "thing", "kind"] fK fdK) (D_Store_holds : DfM K CS "holds" "Store.holds" s_Store_holds ["self", "name"] fH fdH) (I_House_holds : Meth K CU "holds" fH) (D_Book_thing : DfM K C "thing" "Book.thing" s_Book_thing ["self", "name"] fG fdG) (D_is_name : Df K mg "is_name" s_is_name ["book", "thing"] fN fdN) (D_is_int : DfD K mg "is_int" s_is_int ["thing", "least"] [.int 0] fI fdI) (G_is_kind : FnOk P w K mg base CX0 3 fK fdK ["book", "thing", "kind"] (spIsKind P w C))
    (FE : Fun K "__init__" "NoName.__init__" s_NoName___init__ fE fdE) (X_NoName : ExnI K mg "NoName" C_NoName fE fdE ["self", "name"] ["name"]) (FL : Fun K "__init__" "Lack.__init__" s_Lack___init__ fL fdL) (X_Lack : ExnI K mg "Lack" C_Lack fL fdL ["self", "name"] ["name"]) : FnOk P w K mg base (L2.CX P w) 5 f fd ["self", "version"] (spMustHave P w C CU C_NoName C_Lack) := by
  have G_House_holds : FnOk P w K mg base CX0 3 fH fdH ["self", "name"] (spHHolds P w C CU) := ok_hholds T D_Store_holds.fn K_Book (house_kf K_House) D_is_name D_is_int
  have G_NoName___init__ : FnOk P w K mg base CX0 1 fE fdE ["self", "name"] (spInit1 K C_NoName "name") := ok_nninit FE X_NoName.T (X_NoName.nf "name" (by simp))
  have G_Lack___init__ : FnOk P w K mg base CX0 1 fL fdL ["self", "name"] (spInit1 K C_Lack "name") := ok_lkinit FL X_Lack.T (X_Lack.nf "name" (by simp))
  have cl := K_House.cl
  have n1 := K_House.na "book" (by simp)
  refine F.okX sc_House_must_have (fun vs H Q E h => ?_) (fun cdv A outer s H vs Q E hr h => ?_)
  · obtain ⟨s, dy, p, dx, lc, ld, lg, hd, a1, a2, a3, a4, cs, ds, k, F, i, rfl, _⟩ := h
    rfl
  · obtain ⟨s, dy, p, dx, lc, ld, lg, hd, a1, a2, a3, a4, cs, ds, k, F, i, rfl, S, B, q⟩ := h
    have ob := S.ob
    refine ⟨_,
      (pss_cons
        (ps_if (pt_not (pt_val (pe_call G_is_kind (hr.mono (by omega)) (by rfl) D_is_kind.g D_is_kind.fn.kp D_is_kind.b .nil pass0 (pa_cons (pe_fldK (K := K) rfl (pv 0) rfl) (pa_cons (pv 1) (pa_cons pe_str pa_nil))))))
          (pss_one
            (ps_raise rfl (takes_of rfl rfl rfl rfl) (pmk_oex X_NoName.T X_NoName.i X_NoName.t G_NoName___init__ (hr.mono (by omega)) X_NoName.b .nil pass0 (by rfl) X_NoName.g (pa_cons (pv 1) pa_nil))))
          pss_nil)
      (pss_one
        (ps_if (pt_not (pt_val (pe_meth (pv 0) K_House.cl I_House_holds G_House_holds (hr.mono (by omega)) D_Store_holds.b .nil pass0 (pa_cons (pv 1) pa_nil))))
          (pss_one
            (ps_raise rfl (takes_of rfl rfl rfl rfl) (pmk_oex X_Lack.T X_Lack.i X_Lack.t G_Lack___init__ (hr.mono (by omega)) X_Lack.b .nil pass0 (by rfl) X_Lack.g (pa_cons (pv 1) pa_nil))))
          pss_nil)))
      , ?_⟩
    rw [show L2.start N_House_must_have [V.ref s, V.int i] = [some (.ref s), some (.int i)] from rfl]
    refine w_seq ?_
    walk_at "x"
    have bad : (¬ ∃ n : Nat, i = n ∧ isV cs n) → NoNm C_NoName H E (.int i) := fun h => by
      unfold dueV at q
      rw [if_neg h] at q
      exact q
    refine ⟨p, dx, lc, ld, lg, cs, ds, .int i, "int", "version", rfl, B, .int _, fun n qc en hn => ?_, fun hno => ?_⟩
    · have ei : i = (n : Int) := V.int.inj en
      subst ei
      by_cases hw : qc.2.word = "version"
      · rw [decide_eq_true hw]
        have iv := (word_isV hn).mp hw
        have hx : ∃ m : Nat, ((n : Int)) = m ∧ isV cs m := ⟨n, rfl, iv⟩
        unfold dueV at q
        rw [if_pos hx, Int.toNat_natCast] at q
        walk_at "g"
        refine ⟨s, dy, p, dx, lc, ld, lg, hd, cs, ds, hrs a1 a2 a3 a4, k, .int (n : Int), "int", F, rfl, S, B, .int _, fun ⟨m, em, hm, hF⟩ => ?_, fun hno => ?_⟩
        · have : m = n := by have := V.int.inj em; omega
          subst this
          rw [if_pos hF] at q
          walk_at "g"
          exact q
        · have hF : ¬ F n := hno n rfl iv.lt
          rw [if_neg hF] at q
          walk_at "g"
          refine w_mkO ?_
          walk_at "g"
          exact ⟨by simp, fun a ha => mk1_sameR ha fun d H4 k4 hd e4 => q d H4 k4 hd e4⟩
      · rw [decide_eq_false hw]
        walk_at "g"
        refine w_mkO ?_
        walk_at "g"
        refine ⟨by simp, fun a ha => mk1_sameR ha fun d H4 k4 hd e4 => bad ?_ d H4 k4 hd e4⟩
        rintro ⟨m, em, iv⟩
        have : m = n := by omega
        subst this
        exact hw ((word_isV hn).mpr iv)
    · walk_at "g"
      refine w_mkO ?_
      walk_at "g"
      refine ⟨by simp, fun a ha => mk1_sameR ha fun d H4 k4 hd e4 => bad ?_ d H4 k4 hd e4⟩
      rintro ⟨m, em, iv⟩
      exact hno m (by rw [em]) iv.lt
theorem ok_setfar {f fMH C_NoName C_Lack : Addr} {fd fdMH : FuncData} (T : Txt K mg) (F : Fun K "set_far" "House.set_far" s_House_set_far f fd) (K_Book : Kl K mg "Book" C ["contents", "depths", "given"]) (K_House : Kl K mg "House" CU ["book", "here", "turns", "stands", "lately", "others", "pinned"]) (D_House_must_have : DfM K CU "must_have" "House.must_have" s_House_must_have ["self", "version"] fMH fdMH) (G_House_must_have : FnOk P w K mg base (L2.CX P w) 5 fMH fdMH ["self", "version"] (spMustHave P w C CU C_NoName C_Lack)) : FnOk P w K mg base (L2.CX P w) 6 f fd ["self", "label", "mark", "version"] (spSetFar P w C CU C_NoName C_Lack) := by
  have cl := K_House.cl
  have n1 := K_House.na "others" (by simp)
  refine F.okX sc_House_set_far (fun vs H Q E h => ?_) (fun cdv A outer s H vs Q E hr h => ?_)
  · obtain ⟨s, dy, p, dx, lc, ld, lg, hd, a1, a2, a3, a4, cs, ds, k, F, fs, l, m, x, rfl, _⟩ := h
    rfl
  · obtain ⟨s, dy, p, dx, lc, ld, lg, hd, a1, a2, a3, a4, cs, ds, k, F, fs, l, m, x, rfl, S, B, e3, hfl, q⟩ := h
    have hu := hu_of hr
    have ob := S.ob
    have hfk : (farK fs).length < sizeLine := by unfold farK; rw [List.length_map]; exact small2000 (by omega)
    refine ⟨_,
      (pss_one
        (ps_if (pt_cmpR o_notN (pv 3) pe_non (nomark _))
          (pss_cons
            (ps_expr (pe_meth (pv 0) K_House.cl D_House_must_have.m G_House_must_have (hr.mono (by omega)) D_House_must_have.b .nil (passes_call (takes_of rfl rfl rfl rfl) (fun _ _ _ _ h => h)) (pa_cons (pv 3) pa_nil)))
          (pss_one
            (ps_dput hu (pe_fldK (K := K) rfl (pv 0) rfl) (pe_tup (pa_cons (pv 1) (pa_cons (pv 2) pa_nil))) (pv 3) rfl)))
          (pss_one
            (ps_if (pt_cmp (pc_din hu (pe_tup (pa_cons (pv 1) (pa_cons (pv 2) pa_nil))) (pe_fldK (K := K) rfl (pv 0) rfl)))
              (pss_one
                (ps_expr (pe_dpopT hu (pe_fldK (K := K) rfl (pv 0) rfl) (pe_tup (pa_cons (pv 1) (pa_cons (pv 2) pa_nil))) ⟨rfl, rfl, rfl, rfl⟩)))
              pss_nil))))
      , ?_⟩
    rw [show L2.start N_House_set_far [V.ref s, V.str l, V.str m, x] = [some (.ref s), some (.str l), some (.str m), some x] from rfl]
    rcases q with ⟨rfl, q⟩ | ⟨i, rfl, q⟩
    · walk_at "x"
      refine w_nyes rfl ?_
      walk_at "g"
      refine w_new fun t H1 ht et k1 => ?_
      have e31 := k1 _ _ e3
      have ob1 := k1 _ _ ob
      walk_at "g"
      refine w_dinT (k := ttK (l, m)) e31 et ?_
      rw [farK_val]
      cases hlk : fs.lookup (l, m) with
      | none =>
        walk_at "g"
        exact q H1 (by rw [dropFs_none hlk]; exact e31) (Kp.of k1) (KT.of k1)
      | some n =>
        rw [show (Option.map nV (some n)).isSome = true from rfl]
        walk_at "g"
        refine w_new fun t2 H2 ht2 et2 k2 => ?_
        have e32 := k2 _ _ e31
        have ob2 := k2 _ _ ob1
        have hv : valV (farK fs) (ttK (l, m)) = some (nV n) := by rw [farK_val, hlk]; rfl
        refine w_dpopT' (k := ttK (l, m)) e32 et2 hv fun H3 e33 o3 => ?_
        rw [farK_drop] at e33
        exact q H3 e33 (fun b o hb e => o3.get (by simpa using hb) (k2 _ _ (k1 _ _ e))) ((KT.of k1).trans ((KT.of k2).trans (KT.offT o3 e32)))
    · walk_at "x"
      refine w_nno (fun z => nomatch z) ?_
      walk_at "g"
      refine ⟨s, dy, p, dx, lc, ld, lg, hd, a1, a2, a3, a4, cs, ds, k, F, i, rfl, S, B, ?_⟩
      cases hdu : dueV cs F i with
      | nn j => rw [hdu] at q; exact q
      | lk j => rw [hdu] at q; exact q
      | lg => rw [hdu] at q; exact q
      | ok =>
      rw [hdu] at q
      obtain ⟨n, en, iv, hF⟩ : ∃ n : Nat, i = n ∧ isV cs n ∧ F n := by
        unfold dueV at hdu
        by_cases h : ∃ n : Nat, i = n ∧ isV cs n
        · rw [if_pos h] at hdu
          obtain ⟨n, en, iv⟩ := h
          subst en
          rw [Int.toNat_natCast] at hdu
          by_cases hF : F n
          · exact ⟨n, rfl, iv, hF⟩
          · rw [if_neg hF] at hdu; cases hdu
        · rw [if_neg h] at hdu; cases hdu
      subst en
      rw [Int.toNat_natCast] at q
      unfold RfO
      dsimp only
      walk_at "g"
      refine w_new fun t H1 ht et k1 => ?_
      have e31 := k1 _ _ e3
      have ob1 := k1 _ _ ob
      walk_at "g"
      refine w_dputT (k := ttK (l, m)) e31 et hfk fun H2 e32 o2 => ?_
      rw [farK_put] at e32
      exact q H2 e32 (fun b o hb e => o2.get (by simpa using hb) (k1 _ _ e)) ((KT.of k1).trans (KT.offT o2 e31))
theorem ok_far {f : Addr} {fd : FuncData} (T : Txt K mg) (F : Fun K "far" "House.far" s_House_far f fd) (K_House : Kl K mg "House" CU ["book", "here", "turns", "stands", "lately", "others", "pinned"]) : FnOk P w K mg base CX0 1 f fd ["self"] (spFar CU) := by
  have cl := K_House.cl
  have n3 := K_House.na "others" (by simp)
  refine F.ok sc_House_far (fun vs H Q E h => ?_) (fun cdv A outer s H vs Q E hr h => ?_)
  · obtain ⟨s, dy, p, hd, a1, a2, a3, a4, k, F, fs, rfl, _⟩ := h
    rfl
  · obtain ⟨s, dy, p, hd, a1, a2, a3, a4, k, F, fs, rfl, S, e3, nd, hfl, q⟩ := h
    have ob := S.ob
    refine ⟨_,
      (pss_one
        (ps_ret (pe_callB (r := rSortT3) (c_sortT3 hr.units) (by rfl) T.n_sorted (by decide +kernel) (pa_cons (pe_lock (pe_lc (own := [("version", 1), ("label", 2), ("mark", 3)]) (g := (gTup K 2 (gCons (gTup K 2 (gCons (gName 2) (gCons (gName 3) gNil))) (gCons (gName 1) gNil)))) rfl sc_House_far.nd (pi_itemsT (pe_fldK (K := K) rfl (pv 0) rfl)) (blkOk_by (own := [("version", 1), ("label", 2), ("mark", 3)]) (N := N_House_far) (sc := defScope s_House_far) (by decide +kernel)) (fun _ _ _ _ _ => (pg_tup rfl (pgs_cons (pg_tup rfl (pgs_cons (pg_name (i := 2) sc_House_far.nd rfl (.inl rfl)) (pgs_cons (pg_name (i := 3) sc_House_far.nd rfl (.inl rfl)) pgs_nil))) (pgs_cons (pg_name (i := 1) sc_House_far.nd rfl (.inl rfl)) pgs_nil)))) (fun _ _ _ _ _ => pts_nil) (fun _ _ _ _ _ => (pe_tup (pa_cons (pv 2) (pa_cons (pv 3) (pa_cons (pv 1) pa_nil))))))) pa_nil))))
      , ?_⟩
    rw [show L2.start N_House_far [V.ref s] = [some (.ref s), none, none, none] from rfl]
    walk_at "x"
    refine w_lockET e3 fun od H1 e1 o1 => ?_
    have nsa : s ≠ a3 := ne_of ob e3 (fun z => nomatch z)
    have ob1 := o1.get nsa ob
    walk_at "g"
    have hfk : (farK fs).length = fs.length := by unfold farK; exact List.length_map _
    refine lcp_gen walk_itemsT [] (fun i y H' => ∃ (a : Addr) (q : TTx × Nat), y = .ref a ∧ fs[i]? = some q ∧ H' a = some (.tup [.str q.1.1, .str q.1.2, nV q.2])) (fun _ _ => True) (by rw [hfk]; omega) (fun i y H1 H2 t ⟨a, q, h1, h2, h3⟩ => ⟨a, q, h1, h2, t _ _ h3⟩) (fun _ _ _ _ _ _ => trivial) (fun i H' k _ => k _ _ (by simp) e1) trivial ?_ (by simp) ?_
    · rintro i x H2 H3 R hi k2 t2 _ ⟨T, kk, v, qa, h1, h2, rfl, hT, rfl⟩ hR
      obtain ⟨q0, hq0, e0⟩ := Option.map_eq_some_iff.mp (by unfold farK at h1; rw [List.getElem?_map] at h1; exact h1)
      cases e0
      have k3 : Same H2 (upd H2 T (.tup [.ref qa, nV q0.2])) := Same.new hT
      have h2' := k3 _ _ h2
      have h2'' : (upd H2 T (.tup [.ref qa, nV q0.2])) qa = some (.tup [V.str q0.1.1, V.str q0.1.2]) := h2'
      clear h2' h2
      refine w_gtup (K := K) (xs := [.ref qa, nV q0.2]) (.of upd_same) rfl ?_
      walk_at "g"
      refine ⟨rfl, ?_⟩
      walk_at "g"
      refine w_new fun a H4 ha e4 k4 => ?_
      exact hR _ _ ⟨a, q0, rfl, hq0, e4⟩ (Kp.of (Same.trans k3 k4)) (KT.of (Same.trans k3 k4)) trivial
    · intro D H2 ys hyl hys hD k2 t2 _ eD
      have e2 := k2 _ _ (by simp) e1
      refine ⟨e2, ?_⟩
      obtain ⟨H3, hH3⟩ : ∃ H3, H3 = upd H2 a3 (.dT (farK fs)) := ⟨_, rfl⟩
      rw [← hH3]
      have nD3 : D ≠ a3 := fun h => by rw [h, e1] at hD; cases hD
      have o3 : Off a3 H2 H3 := fun b hb => by rw [hH3]; exact upd_ne hb
      have e33 : H3 a3 = some (.dT (farK fs)) := by rw [hH3]; exact upd_same
      have s03 : Same H H3 := fun b o e => by
        by_cases hb : b = a3
        · rw [hb, e3] at e
          rw [hb, e33, ← e]
        · exact o3.get hb (k2 _ _ (by simp) (o1.get hb e))
      have hD0 : H D = none := by rw [← o1 D nD3]; exact hD
      have eD3 := o3.get nD3 eD
      -- the tuples
      have hfk2 := hfk
      obtain ⟨bs, hbs, hbt⟩ : ∃ bs : List T3, ys = bs.map (fun b => V.ref b.1) ∧ bs.map (·.2) = fs.map (fun q => (q.1, (q.2 : Int))) ∧ ∀ b ∈ bs, H3 b.1 = some (.tup [.str b.2.1.1, .str b.2.1.2, .int b.2.2]) := by
        rw [hfk] at hyl
        refine t3_of fs ys hyl fun i y q hy hq => ?_
        obtain ⟨a, q', h1, h2, h3⟩ := hys i y hy
        rw [hq] at h2
        have h2 := Option.some.inj h2
        subst h2
        exact ⟨a, h1, o3.get (fun h => by rw [h, e2] at h3; cases h3) h3⟩
      subst hbs
      walk_at "g"
      refine w_sortT3 eD3 hbt.2 ?_ ?_ fun ts l H4 hp hs hl e4 k4 => ?_
      · have : bs.map (·.2.1) = fs.map (·.1) := by
          have e := congrArg (List.map Prod.fst) hbt.1
          rw [List.map_map, List.map_map] at e
          exact e
        rw [this]
        exact nd
      · rw [hfk, List.length_map] at hyl
        omega
      · refine q ts l H4 ?_ hs (s03.free hl) e4 (fun t ht => k4 _ _ (hbt.2 t (hp.mem_iff.mp ht))) (Same.trans s03 k4)
        have := hp.map (·.2)
        rwa [hbt.1] at this
end
local macro_rules | `(tactic| walk_at "s") => `(tactic| first
  | with_reducible refine w_dnewT ?_
  | with_reducible refine w_valsT ?_
  | with_reducible refine w_vals ?_
  | with_reducible refine w_itemsT ?_
  | with_reducible refine w_dpopT ?_
  | with_reducible refine w_dpop1 ?_
  | ((with_reducible refine' w_isDT ?h1 ?_); (case h1 => assumption))
  | ((with_reducible refine' w_valsT' ?h1 ?_); (case h1 => assumption))
  | ((with_reducible refine' w_vals' ?h1 ?_); (case h1 => assumption))
  | ((with_reducible refine' w_itemsT' ?h1 ?_); (case h1 => assumption))
  | ((with_reducible refine' w_keysT' ?h1 ?_); (case h1 => assumption))
  )
structure PinD where
  z : Addr
  dz : Addr
  od : Addr
  b : Bool
  G : Nat → Prop
def rootsP (ms : List (Str × Nat)) (fs : List (TTx × Nat)) (al : List PinD) (n : Nat) : Prop := (∃ q ∈ ms, q.2 = n) ∨ (∃ q ∈ fs, q.2 = n) ∨ ∃ q ∈ al, q.b = false ∧ q.G n
def mkK (ms : List (Str × Nat)) : List (Key × V) := ms.map fun q => ((Sum.inr q.1 : Key), nV q.2)
def spRoots (CU CP : Addr) : Sp := fun vs H Q _ => ∃ (s dy p hd a1 a2 a3 a4 : Addr) (k : Nat) (F : Nat → Prop) (ms : List (Str × Nat)) (fs : List (TTx × Nat)) (al : List PinD), vs = [.ref s] ∧ StAt CU H s dy p hd (hrs a1 a2 a3 a4) k F ∧ H a1 = some (.dK (mkK ms)) ∧ H a3 = some (.dT (farK fs)) ∧ H a4 = some (.lst (al.map fun q => V.ref q.z)) ∧ ms.length ≤ 1000 ∧ fs.length ≤ 1000 ∧ al.length ≤ 1000 ∧
  (∀ q ∈ ms, q.2 < 1000) ∧ (∀ q ∈ fs, q.2 < 1000) ∧ (∀ q ∈ al, pinO CP H q.z q.dz s q.od q.b ∧ FAt H q.od q.G ∧ ∀ n, q.G n → n < 1000) ∧
  ∀ (ns : List Nat) (l a4' : Addr) (H' : Hp), ns.Pairwise (· < ·) → (∀ n, n ∈ ns ↔ rootsP ms fs al n) → H l = none → H a4' = none → a4' ≠ l → StAt CU H' s dy p hd (hrs a1 a2 a3 a4') k F → H' l = some (.lst (ns.map nV)) → H' a4' = some (.lst ((al.filter fun q => !q.b).map fun q => V.ref q.z)) → Kp [s] H H' → KT H H' → Q (.ref l) H'
theorem alive_fm : ∀ al : List PinD, al.filterMap (fun q => if q.b = true then none else some (V.ref q.z)) = (al.filter fun q => !q.b).map fun q => V.ref q.z
  | [] => rfl
  | a :: r => by
    have ih := alive_fm r
    cases hb : a.b with
    | true => rw [List.filterMap_cons_none (by rw [hb]; rfl), List.filter_cons_of_neg (by rw [hb]; decide), ih]
    | false => rw [List.filterMap_cons_some (b := V.ref a.z) (by rw [hb]; rfl), List.filter_cons_of_pos (by rw [hb]; decide), List.map_cons, ih]
theorem lock_kp {M : List Addr} {H H3 H4 : Hp} {d : Addr} {X : HO} (e : H d = some X) (o : Off d H H3) (k : Kp M H3 H4) : Kp M H (upd H4 d X) := fun b u hb h => by
  by_cases hd : b = d
  · subst hd
    rw [upd_same, ← h, e]
  · rw [upd_ne hd]
    exact k _ _ hb (o.get hd h)
section
variable {P : Program} {w : World} {K : PySem.W.Frag} {mg : Str → Option Value} {base : Heap} {C CH CS CU CP : Addr}
theorem ok_roots {f fN : Addr} {fd fdN : FuncData} (T : Txt K mg) (F : Fun K "roots" "House.roots" s_House_roots f fd) (K_House : Kl K mg "House" CU ["book", "here", "turns", "stands", "lately", "others", "pinned"]) (K_Pin : Kl K mg "Pin" CP ["store", "on", "loose"]) (D_Pin_names : DfM K CP "names" "Pin.names" s_Pin_names ["self"] fN fdN) : FnOk P w K mg base CX0 2 f fd ["self"] (spRoots CU CP) := by
  have G_Pin_names : FnOk P w K mg base CX0 1 fN fdN ["self"] (spPNames CP) := ok_pnames T D_Pin_names.fn K_Pin
  have cl := K_House.cl
  have clP := K_Pin.cl
  have m3 := K_Pin.na "loose" (by simp)
  have n1 := K_House.na "stands" (by simp)
  have n3 := K_House.na "others" (by simp)
  have n4 := K_House.na "pinned" (by simp)
  refine F.ok sc_House_roots (fun vs H Q E h => ?_) (fun cdv A outer s H vs Q E hr h => ?_)
  · obtain ⟨s, dy, p, hd, a1, a2, a3, a4, k, F, ms, fs, al, rfl, _⟩ := h
    rfl
  · obtain ⟨s, dy, p, hd, a1, a2, a3, a4, k, F, ms, fs, al, rfl, S, e1, e3, e4, hml, hfl, hal, hmb, hfb, hpb, q⟩ := h
    have ob := S.ob
    have hu := hu_of hr
    refine ⟨_,
      (pss_cons
        (ps_fld (pv 0) (pe_lc (own := [("one", 3)]) (g := (gName 3)) rfl sc_House_roots.nd (pi_list (pe_fldK (K := K) rfl (pv 0) rfl)) (blkOk_by (own := [("one", 3)]) (N := N_House_roots) (sc := defScope s_House_roots) (by decide +kernel)) (fun _ _ _ _ _ => (pg_name (i := 3) sc_House_roots.nd rfl (.inl rfl))) (fun _ _ _ _ _ => (pts_one (pt_not (pt_val (pe_fldK (K := K) rfl (pv 3) rfl))))) (fun _ _ _ _ _ => (pv 3))) rfl)
      (pss_cons
        (ps_lock (ps_setDc (i := 1) (own := [("version", 2)]) (g := (gName 2)) rfl sc_House_roots.nd rfl rfl (sw_trueD rfl rfl rfl (by decide +kernel)) (pi_values (pe_fldK (K := K) rfl (pv 0) rfl)) (blkOk_by (own := [("version", 2)]) (N := N_House_roots) (sc := defScope s_House_roots) (by decide +kernel)) (fun _ _ _ _ _ => (pg_name (i := 2) sc_House_roots.nd rfl (.inl rfl))) (fun _ _ _ _ _ => pts_nil) (fun _ _ _ _ _ => (pv 2)) (fun _ _ _ _ _ => pe_bl)))
      (pss_cons
        (ps_lock (ps_for PassesOwn.never rfl (pi_valuesT (pe_fldK (K := K) rfl (pv 0) rfl)) (pg_name (i := 2) sc_House_roots.nd rfl (.inl rfl))
          (pss_one
            (ps_dput hu (pv 1) (pv 2) pe_bl rfl))))
      (pss_cons
        (ps_for PassesOwn.never rfl (pi_list (pe_fldK (K := K) rfl (pv 0) rfl)) (pg_name (i := 3) sc_House_roots.nd rfl (.inl rfl))
          (pss_one
            (ps_for PassesOwn.never rfl (pi_list (pe_meth0 (pv 3) K_Pin.cl D_Pin_names.m G_Pin_names (hr.mono (by omega)) D_Pin_names.b .nil pass0)) (pg_name (i := 4) sc_House_roots.nd rfl (.inl rfl))
              (pss_one
                (ps_dput hu (pv 1) (pv 4) pe_bl rfl)))))
      (pss_one
        (ps_ret (pe_callB (c_sortA rfl) (by rfl) T.n_sorted (by decide +kernel) (pa_cons (pv 1) pa_nil))))))))
      , ?_⟩
    rw [show L2.start N_House_roots [V.ref s] = [some (.ref s), none, none, none, none] from rfl]
    walk_at "x"
    refine lcp_sel (walk_list (K := K) (a := a4) (xs := al.map fun q => V.ref q.z)) [] (fun i => al[i]?.bind fun q => if q.b = true then none else some (V.ref q.z)) (by rw [List.length_map]; omega) (fun H' k => .of (k _ _ (by simp) e4)) ?_ (by simp) ?_
    · rintro i x H1 H2 R R0 hi k1 ⟨rfl, hx⟩ h1 h2
      rw [List.getElem?_map] at hx
      obtain ⟨qd, hqd, rfl⟩ := Option.map_eq_some_iff.mp hx
      obtain ⟨ez, _, _⟩ := hpb qd (List.mem_of_getElem? hqd)
      unfold pinO at ez
      have ez1 := k1 _ _ (by simp) ez
      refine w_name ⟨rfl, ?_⟩
      walk_at "g"
      have hsel : (al[i]?.bind fun q => if q.b = true then none else some (V.ref q.z)) = if qd.b = true then none else some (V.ref qd.z) := by rw [hqd]; rfl
      cases hb : qd.b with
      | true =>
        rw [hb, if_pos rfl] at hsel
        walk_at "g"
        exact h2 _ hsel Kp.refl
      | false =>
        rw [hb, if_neg (by decide)] at hsel
        walk_at "g"
        exact h1 _ _ hsel Kp.refl
    intro b4 H1 hb4 k1' eb4
    have k1 := k1'.same
    have S1 := S.same k1
    have ob1 := S1.ob
    have e11 := k1 _ _ e1
    have e31 := k1 _ _ e3
    walk_at "g"
    refine w_fldS' ob1 cl n4 (show (7 : Nat) < 1000 by decide) fun H2 ob2 o2 => ?_
    have nb4 : b4 ≠ s := (ne_of_none ob hb4).symm
    have n1s : a1 ≠ s := ne_of e1 ob (fun z => nomatch z)
    have n3s : a3 ≠ s := ne_of e3 ob (fun z => nomatch z)
    have eb42 := o2.get nb4 eb4
    have e12 := o2.get n1s e11
    have e32 := o2.get n3s e31
    have ob2' : H2 s = some (.ins CU dy [("book", .ref p), ("here", .ref hd), ("turns", nV k), ("stands", .ref a1), ("lately", .ref a2), ("others", .ref a3), ("pinned", .ref b4)]) := ob2
    clear ob2
    walk_at "g"
    refine w_lock e12 fun od1 H3 e13 o3 => ?_
    have ob3 := o3.get n1s.symm ob2'
    walk_at "g"
    have hmk : (mkK ms).length = ms.length := by unfold mkK; exact List.length_map _
    refine dcp_map walk_values [] ((ms.map (·.2)).map fun n : Nat => ((Sum.inl (n : Int) : Key), V.bl true)) (by rw [List.length_map, List.length_map, hmk]) (by rw [hmk]; omega) (fun H' k => k _ _ (by simp) e13) ?_ (by simp) ?_
    · rintro i x H4 H5 R hi k4 ⟨rfl, kk, hx⟩ hR
      unfold mkK at hx
      rw [List.getElem?_map] at hx
      obtain ⟨qm, hqm, e0⟩ := Option.map_eq_some_iff.mp hx
      cases e0
      refine w_name ⟨rfl, ?_⟩
      walk_at "g"
      exact hR _ _ (by rw [List.getElem?_map, List.getElem?_map, hqm]; rfl) Kp.refl
    intro f H4 hf k4 ef4
    refine w_name ⟨k4 _ _ (by simp) e13, ?_⟩
    have k24 : Kp [] H2 (upd H4 a1 (.dK (mkK ms))) := lock_kp e12 o3 k4
    have nf1 : f ≠ a1 := fun h => by rw [h, e13] at hf; cases hf
    have ef5 : (upd H4 a1 (.dK (mkK ms))) f = some (.dK (mergeK [] ((ms.map (·.2)).map fun n : Nat => ((Sum.inl (n : Int) : Key), V.bl true)))) := by rw [upd_ne nf1]; exact ef4
    have hf2 : H2 f = none := by rw [← o3 f nf1]; exact hf
    generalize upd H4 a1 (.dK (mkK ms)) = H5 at k24 ef5
    have s25 := k24.same
    have Fm := fat_merge (ms.map (·.2)) (fun n hn => by obtain ⟨q', hq', rfl⟩ := List.mem_map.mp hn; exact hmb q' hq') ef5
    have e35 := s25 _ _ e32
    have ob5 := s25 _ _ ob2'
    have eb45 := s25 _ _ eb42
    have nfs : f ≠ s := (ne_of_none ob2' hf2).symm
    have nf3 : f ≠ a3 := (ne_of_none e32 hf2).symm
    have nf4 : f ≠ b4 := (ne_of_none eb42 hf2).symm
    walk_at "g"
    refine w_lockT e35 fun od2 H6 e36 o6 => ?_
    have ob6 := o6.get n3s.symm ob5
    have Fm6 := Fm.kp (o6.kp (M := [a3]) (by simp)) (by simpa using nf3)
    walk_at "g"
    have hfk : (farK fs).length = fs.length := by unfold farK; exact List.length_map _
    refine lp_it walk_valuesT (fun i σ' H' => (∃ y : Option V, σ' = [some (.ref s), some (.ref f), y, none, none]) ∧ Kp [f] H6 H' ∧ KT H6 H' ∧ FAt H' f (fun n => n ∈ ms.map (·.2) ∨ ∃ q ∈ fs.take i, q.2 = n)) ⟨⟨_, rfl⟩, Kp.refl, .refl, Fm6.iff fun n => by simp⟩ (fun i σ' H' _ h => h.2.1 _ _ (by simpa using nf3.symm) e36) ?_ ?_
    · rintro i x σ' H7 H8 hi ⟨⟨y, rfl⟩, k7, t7, F7⟩ ⟨rfl, kk, hx⟩
      unfold farK at hx
      rw [List.getElem?_map] at hx
      obtain ⟨qf, hqf, e0⟩ := Option.map_eq_some_iff.mp hx
      cases e0
      have hb := hfb qf (List.mem_of_getElem? hqf)
      refine w_name ?_
      walk_at "g"
      refine w_fput F7 hb fun H9 F9 o9 => ?_
      obtain ⟨fk, hfk'⟩ := F7.obj
      refine ⟨⟨_, rfl⟩, k7.trans (o9.kp (by simp)), t7.trans (KT.offD o9 hfk'), F9.iff fun n => ?_⟩
      rw [List.take_add_one, hqf]
      simp only [Option.toList_some, List.mem_append, List.mem_singleton]
      constructor
      · rintro ((h | ⟨q', h1, h2⟩) | h)
        · exact .inl h
        · exact .inr ⟨q', .inl h1, h2⟩
        · exact .inr ⟨qf, .inr rfl, h.symm⟩
      · rintro (h | ⟨q', h1 | rfl, h2⟩)
        · exact .inl (.inl h)
        · exact .inl (.inr ⟨q', h1, h2⟩)
        · exact .inr h2.symm
    rintro σ' H7 ⟨⟨y, rfl⟩, k7, t7, F7⟩
    rw [hfk, List.take_length] at F7
    refine ⟨k7 _ _ (by simpa using nf3.symm) e36, ?_⟩
    have k58 : Kp [f] H5 (upd H7 a3 (.dT (farK fs))) := lock_kp e35 o6 k7
    have F8 : FAt (upd H7 a3 (.dT (farK fs))) f (fun n => n ∈ ms.map (·.2) ∨ ∃ q ∈ fs, q.2 = n) := F7.kp (M := [a3]) (fun b u hb h => by rw [upd_ne (by simpa using hb)]; exact h) (by simpa using nf3)
    have t58 : KT H5 (upd H7 a3 (.dT (farK fs))) := by
      have key : ∀ b u, H5 b = some u → b ≠ f → (upd H7 a3 (.dT (farK fs))) b = some u := fun b u h hb => k58 b u (by simpa using hb) h
      exact ⟨fun b xs h => key b _ h (ne_of h ef5 (fun z => nomatch z)), fun b u xs h => key b _ h (ne_of h ef5 (fun z => nomatch z))⟩
    generalize upd H7 a3 (.dT (farK fs)) = H8 at k58 F8 t58
    have nfs8 : s ≠ f := nfs.symm
    have ob8 := k58 _ _ (by simpa using nfs8) ob5
    have eb48 := k58 _ _ (by simpa using nf4.symm) eb45
    have k02 : Kp [s] H H2 := fun b u hb h => o2.get (by simpa using hb) (k1 _ _ h)
    have hf0 : H f = none := by
      cases e : H f with
      | none => rfl
      | some o => rw [k02 _ _ (by simpa using nfs) e] at hf2; cases hf2
    have k08 : Kp [s] H H8 := fun b u hb h => k58 _ _ (by simpa using ne_of_none h hf0) (s25 _ _ (k02 _ _ hb h))
    have t08 : KT H H8 := ((KT.of k1).trans (KT.offI o2 ob1)).trans ((KT.of s25).trans t58)
    -- the pins
    generalize hal' : (List.range (al.map fun q => V.ref q.z).length).filterMap (fun i => al[i]?.bind fun q => if q.b = true then none else some (V.ref q.z)) = xs at eb48
    have exs : xs = (al.filter fun q => !q.b).map fun q => V.ref q.z := by
      rw [← hal', List.length_map, range_fm]
      exact alive_fm al
    obtain ⟨af, haf⟩ : ∃ af, af = al.filter fun q => !q.b := ⟨_, rfl⟩
    rw [← haf] at exs
    have haf2 : ∀ q' ∈ af, q' ∈ al ∧ q'.b = false := fun q' hq => by
      rw [haf, List.mem_filter] at hq
      exact ⟨hq.1, by simpa using hq.2⟩
    subst exs
    walk_at "g"
    try refine w_itL' (.of eb48) ?_
    refine lp_list (xs := af.map fun q => V.ref q.z) (fun i σ' H' => (∃ y1 y2 y3 : Option V, σ' = [some (.ref s), some (.ref f), y1, y2, y3]) ∧ Kp [f] H8 H' ∧ KT H8 H' ∧ FAt H' f (fun n => (n ∈ ms.map (·.2) ∨ ∃ q ∈ fs, q.2 = n) ∨ ∃ q ∈ af.take i, q.G n)) ⟨⟨_, _, _, rfl⟩, Kp.refl, .refl, F8.iff fun n => by simp⟩ (fun i σ' H' _ h => .of (h.2.1 _ _ (by simpa using nf4.symm) eb48)) ?_ ?_
    · rintro i x σ' H9 hx ⟨⟨y1, y2, y3, rfl⟩, k9, t9, F9⟩
      rw [List.getElem?_map] at hx
      obtain ⟨qd, hqd, rfl⟩ := Option.map_eq_some_iff.mp hx
      obtain ⟨hqa, hqb⟩ := haf2 qd (List.mem_of_getElem? hqd)
      obtain ⟨ez, Fo, hGb⟩ := hpb qd hqa
      unfold pinO at ez
      have nzs : qd.z ≠ s := ne_of ez ob fun h => by
        have := congrArg (fun o => match o with | HO.ins _ _ l => l.length | _ => 0) h
        simp [hrs] at this
      have nos : qd.od ≠ s := by
        obtain ⟨kv, hkv⟩ := Fo.obj
        exact ne_of hkv ob (fun z => nomatch z)
      have nzf : qd.z ≠ f := ne_of_none ez hf0
      have nof : qd.od ≠ f := by
        obtain ⟨kv, hkv⟩ := Fo.obj
        exact ne_of_none hkv hf0
      have ez9 := k9 _ _ (by simpa using nzf) (k08 _ _ (by simpa using nzs) ez)
      have Fo9 := (Fo.kp k08 (by simpa using nos)).kp k9 (by simpa using nof)
      walk_at "g"
      refine ⟨qd.z, qd.dz, s, qd.od, qd.b, qd.G, rfl, ez9, Fo9, fun ns l H10 hup hmem hnl hl e10 k10 => ?_⟩
      have nlf : l ≠ f := by
        obtain ⟨kv, hkv⟩ := F9.obj
        exact (ne_of_none hkv hl).symm
      have F10 := F9.same k10
      walk_at "g"
      try refine w_itL' (.of e10) ?_
      refine lp_list (xs := ns.map nV) (fun j σ' H' => (∃ y1 y3 : Option V, σ' = [some (.ref s), some (.ref f), y1, some (.ref qd.z), y3]) ∧ Kp [f] H10 H' ∧ KT H10 H' ∧ FAt H' f (fun n => ((n ∈ ms.map (·.2) ∨ ∃ q ∈ fs, q.2 = n) ∨ ∃ q ∈ af.take i, q.G n) ∨ n ∈ ns.take j)) ⟨⟨_, _, rfl⟩, Kp.refl, .refl, F10.iff fun n => by simp⟩ (fun j σ' H' _ h => .of (h.2.1 _ _ (by simpa using nlf) e10)) ?_ ?_
      · rintro j x σ' H11 hx ⟨⟨y1, y3, rfl⟩, k11, t11, F11⟩
        obtain ⟨n, hn, rfl⟩ := map_at hx
        have hnb := hGb n ((hmem n).mp (List.mem_of_getElem? hn))
        walk_at "g"
        refine w_fput F11 hnb fun H12 F12 o12 => ?_
        obtain ⟨fk, hfk'⟩ := F11.obj
        refine ⟨⟨_, _, rfl⟩, k11.trans (o12.kp (by simp)), t11.trans (KT.offD o12 hfk'), F12.iff fun m => ?_⟩
        rw [List.take_add_one, hn]
        simp only [Option.toList_some, List.mem_append, List.mem_singleton, or_assoc]
      · rintro σ' H11 ⟨⟨y1, y3, rfl⟩, k11, t11, F11⟩
        rw [List.length_map, List.take_length] at F11
        refine ⟨⟨_, _, _, rfl⟩, k9.trans ((Kp.of k10).trans k11), t9.trans ((KT.of k10).trans t11), F11.iff fun n => ?_⟩
        rw [List.take_add_one, hqd]
        simp only [Option.toList_some, List.mem_append, List.mem_singleton]
        constructor
        · rintro ((h | ⟨q', h1, h2⟩) | h)
          · exact .inl h
          · exact .inr ⟨q', .inl h1, h2⟩
          · exact .inr ⟨qd, .inr rfl, (hmem n).mp h⟩
        · rintro (h | ⟨q', h1 | rfl, h2⟩)
          · exact .inl (.inl h)
          · exact .inl (.inr ⟨q', h1, h2⟩)
          · exact .inr ((hmem n).mpr h2)
    rintro σ' H9 ⟨⟨y1, y2, y3, rfl⟩, k9, t9, F9⟩
    rw [List.length_map, List.take_length] at F9
    walk_at "g"
    refine w_fsort F9 fun ns l H10 hup hmem hnl hl e10 k10 => ?_
    have hb40 : H b4 = none := hb4
    have ob10 := k10 _ _ (k9 _ _ (by simpa using nfs8) ob8)
    have eb410 := k10 _ _ (k9 _ _ (by simpa using nf4.symm) eb48)
    have nbl : b4 ≠ l := ne_of_none (k9 _ _ (by simpa using nf4.symm) eb48) hl
    have k010 : Kp [s] H H10 := fun b u hb h => k10 _ _ (k9 _ _ (by simpa using ne_of_none h hf0) (k08 _ _ hb h))
    have hl0 : H l = none := by
      cases e : H l with
      | none => rfl
      | some o =>
        have nls : l ≠ s := fun h => by rw [h, k9 _ _ (by simpa using nfs8) ob8] at hl; cases hl
        rw [k9 _ _ (by simpa using ne_of_none e hf0) (k08 _ _ (by simpa using nls) e)] at hl
        cases hl
    have nhs : hd ≠ s := S.ne
    refine q ns l b4 H10 hup (fun n => ?_) hl0 hb40 nbl ⟨ob10, S.here.kp k010 (by simpa using nhs), S.ne⟩ e10 (by rw [← haf]; exact eb410) k010 (t08.trans (t9.trans (KT.of k10)))
    rw [hmem]
    unfold rootsP
    constructor
    · rintro ((h | h) | ⟨q', h1, h2⟩)
      · obtain ⟨q', h1, h2⟩ := List.mem_map.mp h
        exact .inl ⟨q', h1, h2⟩
      · exact .inr (.inl h)
      · exact .inr (.inr ⟨q', (haf2 q' h1).1, (haf2 q' h1).2, h2⟩)
    · rintro (⟨q', h1, h2⟩ | h | ⟨q', h1, h2, h3⟩)
      · exact .inl (.inl (List.mem_map.mpr ⟨q', h1, h2⟩))
      · exact .inl (.inr h)
      · refine .inr ⟨q', ?_, h3⟩
        rw [haf, List.mem_filter]
        exact ⟨h1, by rw [h2]; rfl⟩
end
/-! ### what the law says of names and versions -/
local macro_rules | `(tactic| walk_at "s") => `(tactic| first
  | with_reducible refine w_dnewT ?_
  | with_reducible refine w_valsT ?_
  | with_reducible refine w_vals ?_
  | with_reducible refine w_itemsT ?_
  | with_reducible refine w_dpopT ?_
  | with_reducible refine w_dpop1 ?_
  | ((with_reducible refine' w_isDT ?h1 ?_); (case h1 => assumption))
  | ((with_reducible refine' w_valsT' ?h1 ?_); (case h1 => assumption))
  | ((with_reducible refine' w_vals' ?h1 ?_); (case h1 => assumption))
  | ((with_reducible refine' w_itemsT' ?h1 ?_); (case h1 => assumption))
  | ((with_reducible refine' w_keysT' ?h1 ?_); (case h1 => assumption))
  )
def RfAt (H : Hp) (t : Addr) : Rf → Prop
  | .ok => H t = some (.tup [])
  | .nn i => H t = some (.tup [.str "NoName", .int i])
  | .lk i => H t = some (.tup [.str "Lack", .int i])
  | .lg => H t = some (.tup [.str "LetGo"])
theorem RfAt.kt {H H' : Hp} {t : Addr} {r : Rf} (h : RfAt H t r) (k : KT H H') : RfAt H' t r := by
  cases r <;> exact k _ _ h
theorem sd_of {H : Hp} {p q : Addr} {xs : List V} (h1 : H p = some (.tup xs)) (h2 : H q = some (.tup xs)) (hs : ∀ x ∈ xs, Sc x) (hl : xs.length ≤ 100000) : SD 1 H (.ref p) (.ref q) :=
  Or.inr ⟨p, q, _, _, rfl, rfl, .inl ⟨h1, h2⟩, rfl, hl, fun i a b ha hb => by
    rw [ha] at hb
    cases hb
    exact ⟨rfl, hs a (List.mem_of_getElem? ha)⟩⟩
def rfD : Rf → PyData
  | .ok => .tuple []
  | .nn i => .tuple [.str "NoName", .int i]
  | .lk i => .tuple [.str "Lack", .int i]
  | .lg => .tuple [.str "LetGo"]
theorem RfAt.dp {K : PySem.W.Frag} {H : Hp} {t : Addr} {r : Rf} (h : RfAt H t r) : Dp K H (.ref t) (rfD r) := by
  cases r with
  | ok => exact .tup (.of h) .nil
  | nn i => exact .tup (.of h) (.cons (.str _) (.cons (.int _) .nil))
  | lk i => exact .tup (.of h) (.cons (.str _) (.cons (.int _) .nil))
  | lg => exact .tup (.of h) (.cons (.str _) .nil)
def isOk : Rf → Bool
  | .ok => true
  | _ => false
theorem rfD_eqv (r : Rf) : PyData.eqv (rfD r) (.tuple []) = isOk r := by
  cases r <;> simp [rfD, PyData.eqv, PyData.eqvAll, isOk]
theorem rfD_sh (r : Rf) : SeqAt.shaped (rfD r) = true := by
  cases r with
  | ok => rfl
  | nn i => exact (by decide +kernel : SeqAt.shaped (.tuple [.str "NoName", .int 0]) = true)
  | lk i => exact (by decide +kernel : SeqAt.shaped (.tuple [.str "Lack", .int 0]) = true)
  | lg => exact (by decide +kernel : SeqAt.shaped (.tuple [.str "LetGo"]) = true)
theorem w_eqRf {K : PySem.W.Frag} {H : Hp} {Q : VK} {t u : Addr} {r : Rf} (h : RfAt H t r) (hu : H u = some (.tup [])) (q : Q (.bl (isOk r)) H) : rEqD K (.ref t) (.ref u) H Q :=
  ⟨_, _, h.dp, (show Dp K H (.ref u) (.tuple []) from .tup (.of hu) .nil), rfD_sh r, rfl, by rw [rfD_eqv]; exact q⟩
def spLIsVer : Sp := fun vs H Q _ => ∃ (th : Addr) (cs : List (Addr × Ct)) (i : Int), vs = [.ref th, .int i] ∧ ThAt H th cs ∧ cs.length ≤ 1000 ∧ ((∃ n : Nat, i = n ∧ isV cs n) → Q (.bl true) H) ∧ ((¬ ∃ n : Nat, i = n ∧ isV cs n) → Q (.bl false) H)
def spLName : Sp := fun vs H Q _ => ∃ (d c th : Addr) (n : Nat) (cs : List (Addr × Ct)), vs = [.ref d, .ref th] ∧ Deck H d c n ∧ ThAt H th cs ∧ 1 ≤ cs.length ∧ cs.length ≤ 1000 ∧ n + 3 ≤ MOSTD ∧ th ≠ d ∧ ∀ (i : Int) (H' : Hp), Deck H' d c (n + 3) → KX d H H' → Q (.int i) H'
def spLNDue : Sp := fun vs H Q _ => ∃ (th lh l : Addr) (cs : List (Addr × Ct)) (F : Nat → Prop) (is : List Int), vs = [.ref th, .ref lh, .ref l] ∧ ThAt H th cs ∧ cs.length ≤ 1000 ∧ FAt H lh F ∧ H l = some (.lst (is.map V.int)) ∧ is.length ≤ 1000 ∧ ∀ H' t, Same H H' → RfAt H' t (dueN cs.length F is) → Q (.ref t) H'
def spLVDue : Sp := fun vs H Q _ => ∃ (th lh : Addr) (cs : List (Addr × Ct)) (F : Nat → Prop) (x : V), vs = [.ref th, .ref lh, x] ∧ ThAt H th cs ∧ cs.length ≤ 1000 ∧ FAt H lh F ∧ ((x = .non ∧ ∀ H' t, Same H H' → RfAt H' t .ok → Q (.ref t) H') ∨ ∃ i : Int, x = .int i ∧ ∀ H' t, Same H H' → RfAt H' t (dueV cs F i) → Q (.ref t) H')
section
variable {P : Program} {w : World} {K : PySem.W.Frag} {mg : Str → Option Value} {base : Heap} {C CH CS CU CP : Addr}
theorem ok_lisver {f : Addr} {fd : FuncData} (T : Txt K mg) (F : Fun K "_law_is_version" "_law_is_version" s_law_is_version f fd) : FnOk P w K mg base CX0 1 f fd ["_law_things", "_law_name_here"] spLIsVer := by
  refine F.ok sc_law_is_version (fun vs H Q E h => ?_) (fun cdv A outer s H vs Q E hr h => ?_)
  · obtain ⟨th, cs, i, rfl, _⟩ := h
    rfl
  · obtain ⟨th, cs, i, rfl, Th, hcs, qy, qn⟩ := h
    have eth := Th.at'
    refine ⟨_,
      (pss_one
        (ps_ret (pe_and (pe_cmpR op_le pe_int (pv 1) (nomark _)) (pe_and (pe_cmpR op_lt (pv 1) (pe_callB (r := rLen K) c_len (by rfl) T.n_len (by decide +kernel) (pa_cons (pv 0) pa_nil)) (nomark _)) (pe_one (pe_cmpR op_eq (pe_ix (r := rIxT K) ix_tup (pe_ix (r := rIxL K) ix_list (pv 0) (pv 1) (fun _ _ => rfl)) pe_int (fun _ _ => rfl)) pe_str (nomark _)))))))
      , ?_⟩
    rw [show L2.start N_law_is_version [V.ref th, V.int i] = [some (.ref th), some (.int i)] from rfl]
    walk_at "x"
    by_cases h0 : 0 ≤ i
    · rw [decide_eq_true h0, if_pos rfl]
      walk_at "g"
      rw [List.length_map]
      by_cases h1 : i < (cs.length : Int)
      · rw [decide_eq_true h1]
        walk_at "g"
        obtain ⟨n, rfl⟩ : ∃ n : Nat, i = n := ⟨i.toNat, by omega⟩
        have hn : n < cs.length := by omega
        have at1 : atI (cs.map fun q => V.ref q.1) (n : Int) = some (.ref (cs[n]).1) := atI_nat (by rw [List.getElem?_map, List.getElem?_eq_getElem hn]; rfl)
        have hc := Th.ct cs[n] (List.getElem_mem hn)
        have hcn : cs[n]? = some cs[n] := List.getElem?_eq_getElem hn
        obtain ⟨xs, hxs⟩ := hc.head
        have at0 : atI (V.str (cs[n]).2.word :: xs) 0 = some (.str (cs[n]).2.word) := atI_nat (j := 0) rfl
        walk_at "g"
        by_cases hw : (cs[n]).2.word = "version"
        · have iv := (word_isV hcn).mp hw
          rw [hw]
          exact qy ⟨n, rfl, iv⟩
        · rw [decide_eq_false hw]
          exact qn fun ⟨m, em, iv⟩ => by
            have : m = n := by omega
            subst this
            exact hw ((word_isV hcn).mpr iv)
      · rw [decide_eq_false h1]
        walk_at "g"
        exact qn fun ⟨m, em, iv⟩ => by have := iv.lt; omega
    · rw [decide_eq_false h0, if_neg (by decide)]
      exact qn fun ⟨m, em, iv⟩ => by omega
theorem ok_lname {f fM fD : Addr} {fd fdM fdD : FuncData} (T : Txt K mg) (F : Fun K "_law_name" "_law_name" s_law_name f fd) (D_law_mixed : Df K mg "_law_mixed" s_law_mixed ["_law_cell", "_law_turn"] fM fdM) (D_law_draw : Df K mg "_law_draw" s_law_draw ["_law_deck_here", "_law_many"] fD fdD) : FnOk P w K mg base CX0 3 f fd ["_law_deck_here", "_law_things"] spLName := by
  have G_law_draw : FnOk P w K mg base CX0 2 fD fdD ["_law_deck_here", "_law_many"] spDraw := ok_draw T D_law_draw.fn D_law_mixed
  refine F.ok sc_law_name (fun vs H Q E h => ?_) (fun cdv A outer s H vs Q E hr h => ?_)
  · obtain ⟨d, c, th, n, cs, rfl, _⟩ := h
    rfl
  · obtain ⟨d, c, th, n, cs, rfl, D0, Th, hc1, hc2, hn, htd, q⟩ := h
    have eth := Th.at'
    refine ⟨_,
      (pss_cons
        (ps_set (i := 2) sc_law_name.nd rfl (.inl rfl) (pe_call G_law_draw (hr.mono (by omega)) (by rfl) D_law_draw.g D_law_draw.fn.kp D_law_draw.b .nil pass0 (pa_cons (pv 0) (pa_cons pe_int pa_nil))))
      (pss_cons
        (ps_if (pt_cmpR op_eq (pv 2) pe_int (nomark _))
          (pss_one
            (ps_ret (pe_op op_add (pe_callB (r := rLen K) c_len (by rfl) T.n_len (by decide +kernel) (pa_cons (pv 1) pa_nil)) (pe_op op_mul (pe_call G_law_draw (hr.mono (by omega)) (by rfl) D_law_draw.g D_law_draw.fn.kp D_law_draw.b .nil pass0 (pa_cons (pv 0) (pa_cons (pe_op op_pow pe_int pe_int) pa_nil))) (pe_call G_law_draw (hr.mono (by omega)) (by rfl) D_law_draw.g D_law_draw.fn.kp D_law_draw.b .nil pass0 (pa_cons (pv 0) (pa_cons pe_int pa_nil)))))))
          pss_nil)
      (pss_cons
        (ps_if (pt_cmpR op_eq (pv 2) pe_int (nomark _))
          (pss_one
            (ps_ret (pe_op op_sub (pe_un un_neg pe_int) (pe_call G_law_draw (hr.mono (by omega)) (by rfl) D_law_draw.g D_law_draw.fn.kp D_law_draw.b .nil pass0 (pa_cons (pv 0) (pa_cons (pe_op op_pow pe_int pe_int) pa_nil))))))
          pss_nil)
      (pss_one
        (ps_ret (pe_call G_law_draw (hr.mono (by omega)) (by rfl) D_law_draw.g D_law_draw.fn.kp D_law_draw.b .nil pass0 (pa_cons (pv 0) (pa_cons (pe_callB (r := rLen K) c_len (by rfl) T.n_len (by decide +kernel) (pa_cons (pv 1) pa_nil)) pa_nil))))))))
      , ?_⟩
    rw [show L2.start N_law_name [V.ref d, V.ref th] = [some (.ref d), some (.ref th), none] from rfl]
    walk_at "x"
    refine w_draw D0 (by omega) (by decide) (by decide) fun turn H1 hturn D1 o1 => ?_
    have x1 := D0.kx D1 o1
    refine w_name ?_
    refine w_seq ?_
    walk_at "g"
    by_cases t0 : (turn : Int) = 0
    · rw [decide_eq_true t0, if_pos rfl]
      have Th1 := Th.kp x1.p x1.t (by simpa using htd)
      have eth1 := Th1.at'
      walk_at "g"
      refine w_draw D1 (by omega) (by decide) (by decide) fun r1 H2 hr1 D2 o2 => ?_
      walk_at "g"
      refine w_draw D2 (by omega) (by decide) (by decide) fun r2 H3 hr2 D3 o3 => ?_
      walk_at "g"
      exact q _ H3 D3 ((x1.trans (D1.kx D2 o2)).trans (D2.kx D3 o3))
    · rw [decide_eq_false t0, if_neg (by decide)]
      walk_at "g"
      refine w_seq ?_
      walk_at "g"
      by_cases t1 : (turn : Int) = 1
      · rw [decide_eq_true t1, if_pos rfl]
        walk_at "g"
        refine w_draw D1 (by omega) (by decide) (by decide) fun r1 H2 hr1 D2 o2 => ?_
        walk_at "g"
        exact q _ H2 (D2.mono (by omega)) (x1.trans (D1.kx D2 o2))
      · rw [decide_eq_false t1, if_neg (by decide)]
        have Th1 := Th.kp x1.p x1.t (by simpa using htd)
        have eth1 := Th1.at'
        walk_at "g"
        refine w_draw D1 (by omega) (by rw [List.length_map]; omega) (by rw [List.length_map]; omega) fun r1 H2 hr1 D2 o2 => ?_
        exact q _ H2 (D2.mono (by omega)) (x1.trans (D1.kx D2 o2))
theorem ok_lndue {f : Addr} {fd : FuncData} (T : Txt K mg) (F : Fun K "_law_names_due" "_law_names_due" s_law_names_due f fd) : FnOk P w K mg base CX0 1 f fd ["_law_things", "_law_here_here", "_law_names"] spLNDue := by
  refine F.ok sc_law_names_due (fun vs H Q E h => ?_) (fun cdv A outer s H vs Q E hr h => ?_)
  · obtain ⟨th, lh, l, cs, F, is, rfl, _⟩ := h
    rfl
  · obtain ⟨th, lh, l, cs, F, is, rfl, Th, hcs, Fh, el, hil, q⟩ := h
    have hu := hu_of hr
    have eth := Th.at'
    refine ⟨_,
      (pss_cons
        (ps_for PassesOwn.never rfl (pi_list (pv 2)) (pg_name (i := 3) sc_law_names_due.nd rfl (.inl rfl))
          (pss_one
            (ps_if (PW.pt (pw_or (pt_cmpR op_lt (pv 3) pe_int (nomark _)) (pw_or1 (pt_cmpR op_ge (pv 3) (pe_callB (r := rLen K) c_len (by rfl) T.n_len (by decide +kernel) (pa_cons (pv 0) pa_nil)) (nomark _)))))
              (pss_one
                (ps_ret (pe_tup (pa_cons pe_str (pa_cons (pv 3) pa_nil)))))
              pss_nil)))
      (pss_cons
        (ps_for PassesOwn.never rfl (pi_list (pv 2)) (pg_name (i := 3) sc_law_names_due.nd rfl (.inl rfl))
          (pss_one
            (ps_if (pt_cmp (pc_dnotin hu (pv 3) (pv 1)))
              (pss_one
                (ps_ret (pe_tup (pa_cons pe_str (pa_cons (pv 3) pa_nil)))))
              pss_nil)))
      (pss_one
        (ps_ret (pe_tup pa_nil)))))
      , ?_⟩
    rw [show L2.start N_law_names_due [V.ref th, V.ref lh, V.ref l] = [some (.ref th), some (.ref lh), some (.ref l), none] from rfl]
    walk_at "x"
    refine lp_list (xs := is.map V.int) (fun i σ H' => (∃ y : Option V, σ = [some (.ref th), some (.ref lh), some (.ref l), y]) ∧ H' = H ∧ ∀ z ∈ is.take i, 0 ≤ z ∧ z < (cs.length : Int)) ⟨⟨_, rfl⟩, rfl, by simp⟩ (fun i σ H' _ h => by rw [h.2.1]; exact .of el) ?_ ?_
    · rintro i x σ H1 hx ⟨⟨y, rfl⟩, rfl, ht⟩
      obtain ⟨z, hz, rfl⟩ := map_at hx
      have hzl := (List.getElem?_eq_some_iff.mp hz)
      have etk : is.take (i + 1) = is.take i ++ [z] := by rw [List.take_add_one, hz]; rfl
      have esp : is = is.take i ++ z :: is.drop (i + 1) := by
        obtain ⟨h1, h2⟩ := hzl
        rw [← h2, ← List.drop_eq_getElem_cons h1, List.take_append_drop]
      walk_at "g"
      have bad : ¬ (0 ≤ z ∧ z < (cs.length : Int)) → ∀ H' t, Same H1 H' → H' t = some (.tup [.str "NoName", .int z]) → Q (.ref t) H' := fun hb H' t k e => by
        refine q H' t k ?_
        rw [dueN_nn esp ht hb]
        exact e
      by_cases h0 : z < 0
      · rw [decide_eq_true h0]
        walk_at "g"
        refine w_new fun t H2 hnt et k2 => ?_
        exact bad (by omega) H2 t k2 et
      · rw [decide_eq_false h0]
        walk_at "g"
        rw [List.length_map]
        by_cases h1 : (cs.length : Int) ≤ z
        · rw [decide_eq_true h1]
          walk_at "g"
          refine w_new fun t H2 hnt et k2 => ?_
          exact bad (by omega) H2 t k2 et
        · rw [decide_eq_false h1]
          walk_at "g"
          refine ⟨⟨_, rfl⟩, rfl, fun y' hy' => ?_⟩
          rw [etk] at hy'
          rcases List.mem_append.mp hy' with g | g
          · exact ht y' g
          · have : y' = z := by simpa using g
            omega
    rintro σ H1 ⟨⟨y, rfl⟩, rfl, ht⟩
    rw [List.length_map, List.take_length] at ht
    walk_at "g"
    try refine w_itL' (.of el) ?_
    refine lp_list (xs := is.map V.int) (fun i σ H' => (∃ y : Option V, σ = [some (.ref th), some (.ref lh), some (.ref l), y]) ∧ H' = H1 ∧ ∀ z ∈ is.take i, F z.toNat) ⟨⟨_, rfl⟩, rfl, by simp⟩ (fun i σ H' _ h => by rw [h.2.1]; exact .of el) ?_ ?_
    · rintro i x σ H2 hx ⟨⟨y, rfl⟩, rfl, ht2⟩
      obtain ⟨z, hz, rfl⟩ := map_at hx
      have hzl := (List.getElem?_eq_some_iff.mp hz)
      have hz0 := ht z (List.mem_of_getElem? hz)
      have etk : is.take (i + 1) = is.take i ++ [z] := by rw [List.take_add_one, hz]; rfl
      have esp : is = is.take i ++ z :: is.drop (i + 1) := by
        obtain ⟨h1, h2⟩ := hzl
        rw [← h2, ← List.drop_eq_getElem_cons h1, List.take_append_drop]
      walk_at "g"
      refine w_fnin Fh (fun m em hF => ?_) (fun hno => ?_)
      · walk_at "g"
        refine ⟨⟨_, rfl⟩, rfl, fun y' hy' => ?_⟩
        rw [etk] at hy'
        rcases List.mem_append.mp hy' with g | g
        · exact ht2 y' g
        · have : y' = z := by simpa using g
          rw [this, em]
          exact hF
      · have hbad : ¬ F z.toNat := hno z.toNat (by omega)
        walk_at "g"
        refine w_new fun t H3 hnt et k3 => ?_
        refine q H3 t k3 ?_
        rw [dueN_lk ht esp ht2 hbad]
        exact et
    rintro σ H2 ⟨⟨y, rfl⟩, rfl, ht2⟩
    rw [List.length_map, List.take_length] at ht2
    walk_at "g"
    refine w_new fun t H3 hnt et k3 => ?_
    refine q H3 t k3 ?_
    rw [dueN_good ht ht2]
    exact et
theorem ok_lvdue {f fV : Addr} {fd fdV : FuncData} (T : Txt K mg) (F : Fun K "_law_version_due" "_law_version_due" s_law_version_due f fd) (D_law_is_version : Df K mg "_law_is_version" s_law_is_version ["_law_things", "_law_name_here"] fV fdV) : FnOk P w K mg base CX0 2 f fd ["_law_things", "_law_here_here", "_law_version"] spLVDue := by
  have G_law_is_version : FnOk P w K mg base CX0 1 fV fdV ["_law_things", "_law_name_here"] spLIsVer := ok_lisver T D_law_is_version.fn
  refine F.ok sc_law_version_due (fun vs H Q E h => ?_) (fun cdv A outer s H vs Q E hr h => ?_)
  · obtain ⟨th, lh, cs, F, x, rfl, _⟩ := h
    rfl
  · obtain ⟨th, lh, cs, F, x, rfl, Th, hcs, Fh, q⟩ := h
    have hu := hu_of hr
    have eth := Th.at'
    refine ⟨_,
      (pss_cons
        (ps_if (pt_cmpR o_isN (pv 2) pe_non (nomark _))
          (pss_one
            (ps_ret (pe_tup pa_nil)))
          pss_nil)
      (pss_cons
        (ps_if (pt_not (pt_val (pe_call G_law_is_version (hr.mono (by omega)) (by rfl) D_law_is_version.g D_law_is_version.fn.kp D_law_is_version.b .nil pass0 (pa_cons (pv 0) (pa_cons (pv 2) pa_nil)))))
          (pss_one
            (ps_ret (pe_tup (pa_cons pe_str (pa_cons (pv 2) pa_nil)))))
          pss_nil)
      (pss_cons
        (ps_if (pt_cmp (pc_dnotin hu (pv 2) (pv 1)))
          (pss_one
            (ps_ret (pe_tup (pa_cons pe_str (pa_cons (pv 2) pa_nil)))))
          pss_nil)
      (pss_one
        (ps_ret (pe_tup pa_nil))))))
      , ?_⟩
    rw [show L2.start N_law_version_due [V.ref th, V.ref lh, x] = [some (.ref th), some (.ref lh), some x] from rfl]
    walk_at "x"
    refine w_seq ?_
    walk_at "g"
    rcases q with ⟨rfl, q⟩ | ⟨i, rfl, q⟩
    · refine w_yes rfl ?_
      walk_at "g"
      refine w_new fun t H3 hnt et k3 => ?_
      exact q H3 t k3 et
    · refine w_no (fun z => nomatch z) ?_
      walk_at "g"
      refine w_seq ?_
      walk_at "g"
      refine ⟨th, cs, i, rfl, Th, hcs, fun hv => ?_, fun hv => ?_⟩
      · obtain ⟨n, rfl, iv⟩ := hv
        have hv : ∃ m : Nat, (n : Int) = m ∧ isV cs m := ⟨n, rfl, iv⟩
        walk_at "g"
        refine w_seq ?_
        walk_at "g"
        refine w_fnin Fh (fun m em hF => ?_) (fun hno => ?_)
        · have : m = n := by omega
          subst this
          walk_at "g"
          refine w_new fun t H3 hnt et k3 => ?_
          refine q H3 t k3 ?_
          unfold dueV
          rw [if_pos hv, Int.toNat_natCast, if_pos hF]
          exact et
        · have hF : ¬ F n := hno n rfl
          walk_at "g"
          refine w_new fun t H3 hnt et k3 => ?_
          refine q H3 t k3 ?_
          unfold dueV
          rw [if_pos hv, Int.toNat_natCast, if_neg hF]
          exact et
      · walk_at "g"
        refine w_new fun t H3 hnt et k3 => ?_
        refine q H3 t k3 ?_
        unfold dueV
        rw [if_neg hv]
        exact et
end
local macro_rules | `(tactic| walk_at "s") => `(tactic| first
  | with_reducible refine w_dnewT ?_
  | with_reducible refine w_valsT ?_
  | with_reducible refine w_vals ?_
  | with_reducible refine w_itemsT ?_
  | with_reducible refine w_dpopT ?_
  | with_reducible refine w_dpop1 ?_
  | ((with_reducible refine' w_isDT ?h1 ?_); (case h1 => assumption))
  | ((with_reducible refine' w_valsT' ?h1 ?_); (case h1 => assumption))
  | ((with_reducible refine' w_vals' ?h1 ?_); (case h1 => assumption))
  | ((with_reducible refine' w_itemsT' ?h1 ?_); (case h1 => assumption))
  | ((with_reducible refine' w_keysT' ?h1 ?_); (case h1 => assumption))
  )
def spLPinned (P : Program) (w : World) (C CU CP : Addr) : Sp := fun vs H Q _ => ∃ (s dy p dx lc ld lg hd a1 a2 a3 a4 lp t : Addr) (cs : List (Addr × Ct)) (ds : List Nat) (k : Nat) (F : Nat → Prop) (is : List Int) (xs ys : List V), vs = [.ref s, .ref lp, .ref t] ∧ StAt CU H s dy p hd (hrs a1 a2 a3 a4) k F ∧ BookAt P w C H p dx lc ld lg cs ds ∧ H t = some (.tup (is.map V.int)) ∧ is.length ≤ 1000 ∧ H a4 = some (.lst xs) ∧ xs.length ≤ 1000 ∧ H lp = some (.lst ys) ∧ ys.length ≤ 1000 ∧ lp ≠ a4 ∧
  (dueN cs.length F is ≠ .ok → ∀ H' r, Same H H' → RfAt H' r (dueN cs.length F is) → Q (.ref r) H') ∧
  (dueN cs.length F is = .ok → ∀ (z dz od r : Addr) (H' : Hp), H z = none → H od = none → z ≠ od → pinO CP H' z dz s od false → FAt H' od (fun n => (n : Int) ∈ is) → H' a4 = some (.lst (xs ++ [.ref z])) → H' lp = some (.lst (ys ++ [.ref z])) → Kp [a4, lp] H H' → KT H H' → RfAt H' r .ok → Q (.ref r) H')
open Classical in
def spLAdded (P : Program) (w : World) (C CU CP : Addr) : Sp := fun vs H Q _ => ∃ (z dz od s dy p dx lc ld lg hd a1 a2 a3 a4 : Addr) (b : Bool) (G : Nat → Prop) (cs : List (Addr × Ct)) (ds : List Nat) (k : Nat) (F : Nat → Prop) (i : Int), vs = [.ref z, .int i] ∧ pinO CP H z dz s od b ∧ FAt H od G ∧ StAt CU H s dy p hd (hrs a1 a2 a3 a4) k F ∧ BookAt P w C H p dx lc ld lg cs ds ∧
  ((if b = true then .lg else dueN cs.length F [i]) ≠ .ok → ∀ H' r, Same H H' → RfAt H' r (if b = true then .lg else dueN cs.length F [i]) → Q (.ref r) H') ∧
  ((if b = true then .lg else dueN cs.length F [i]) = .ok → ∀ (n : Nat), i = n → ∀ H' r, FAt H' od (fun m => G m ∨ m = n) → Kp [od] H H' → KT H H' → RfAt H' r .ok → Q (.ref r) H')
def spLFarSet (P : Program) (w : World) (C CU : Addr) : Sp := fun vs H Q _ => ∃ (s dy p dx lc ld lg hd a1 a2 a3 a4 : Addr) (cs : List (Addr × Ct)) (ds : List Nat) (k : Nat) (F : Nat → Prop) (fs : List (TTx × Nat)) (l m : Str) (x : V), vs = [.ref s, .str l, .str m, x] ∧ StAt CU H s dy p hd (hrs a1 a2 a3 a4) k F ∧ BookAt P w C H p dx lc ld lg cs ds ∧ H a3 = some (.dT (farK fs)) ∧ fs.length ≤ 1000 ∧
  ((x = .non ∧ ∀ H' r, H' a3 = some (.dT (farK (dropFs fs (l, m)))) → Kp [a3] H H' → KT H H' → RfAt H' r .ok → Q (.ref r) H') ∨ ∃ i : Int, x = .int i ∧
    (dueV cs F i ≠ .ok → ∀ H' r, Same H H' → RfAt H' r (dueV cs F i) → Q (.ref r) H') ∧
    (dueV cs F i = .ok → ∀ H' r, H' a3 = some (.dT (farK (putFs fs (l, m) i.toNat))) → Kp [a3] H H' → KT H H' → RfAt H' r .ok → Q (.ref r) H'))
structure OnD where
  r : Addr
  f : Addr
  b : Bool
  G : Nat → Prop
def OnOk (H : Hp) (q : OnD) : Prop := H q.r = some (.lst [.ref q.f, .bl q.b]) ∧ FAt H q.f q.G
def spLRoots : Sp := fun vs H Q _ => ∃ (lf lo : Addr) (fs : List (TTx × Nat)) (al : List OnD), vs = [.ref lf, .ref lo] ∧ H lf = some (.dT (farK fs)) ∧ H lo = some (.lst (al.map fun q => V.ref q.r)) ∧ fs.length ≤ 1000 ∧ al.length ≤ 1000 ∧ (fs.map (·.1)).Nodup ∧ (∀ q ∈ fs, q.2 < 1000) ∧ (∀ q ∈ al, OnOk H q ∧ ∀ n, q.G n → n < 1000) ∧
  ∀ (ns : List Nat) (l : Addr) (H' : Hp), ns.Pairwise (· < ·) → (∀ n, n ∈ ns ↔ ((∃ q ∈ fs, q.2 = n) ∨ ∃ q ∈ al, q.G n)) → H l = none → H' l = some (.lst (ns.map nV)) → Same H H' → Q (.ref l) H'
theorem lookup_nd : ∀ {fs : List (TTx × Nat)} {q : TTx × Nat}, (fs.map (·.1)).Nodup → q ∈ fs → fs.lookup q.1 = some q.2
  | p :: r, q, nd, h => by
    rw [List.map_cons, List.nodup_cons] at nd
    rcases List.mem_cons.mp h with rfl | h
    · rw [show q = (q.1, q.2) from rfl, List.lookup_cons_self]
    · have hne : (q.1 == p.1) = false := by
        have : ¬ q.1 = p.1 := fun e => nd.1 (by rw [← e]; exact List.mem_map_of_mem h)
        simpa using this
      rw [show p = (p.1, p.2) from rfl, List.lookup_cons, hne]
      exact lookup_nd nd.2 h
section
variable {P : Program} {w : World} {K : PySem.W.Frag} {mg : Str → Option Value} {base : Heap} {C CH CS CU CP : Addr}
theorem ok_lpinned {f fPn fE fL C_NoName C_Lack : Addr} {fd fdPn fdE fdL : FuncData} (T : Txt K mg) (F : Fun K "_law_pinned" "_law_pinned" s_law_pinned f fd) (K_House : Kl K mg "House" CU ["book", "here", "turns", "stands", "lately", "others", "pinned"]) (D_House_pin : DfM K CU "pin" "House.pin" s_House_pin ["self", "names"] fPn fdPn) (G_House_pin : FnOk P w K mg base (L2.CX P w) 5 fPn fdPn ["self", "names"] (spPinE P w C CU CP C_NoName C_Lack))
    (X_NoName : ExnI K mg "NoName" C_NoName fE fdE ["self", "name"] ["name"]) (X_Lack : ExnI K mg "Lack" C_Lack fL fdL ["self", "name"] ["name"]) (xm_NoName_NoName : PySem.W.exmOne K (.ref C_NoName) (.ref C_NoName) = some true) (xm_Lack_NoName : PySem.W.exmOne K (.ref C_Lack) (.ref C_NoName) = some false) (xm_Lack_Lack : PySem.W.exmOne K (.ref C_Lack) (.ref C_Lack) = some true) : FnOk P w K mg base CX0 6 f fd ["_law_house_here", "_law_pins", "_law_names"] (spLPinned P w C CU CP) := by
  have g_NoName := X_NoName.g
  have g_Lack := X_Lack.g
  refine F.ok sc_law_pinned (fun vs H Q E h => ?_) (fun cdv A outer s H vs Q E hr h => ?_)
  · obtain ⟨s, dy, p, dx, lc, ld, lg, hd, a1, a2, a3, a4, lp, t, cs, ds, k, F, is, xs, ys, rfl, _⟩ := h
    rfl
  · obtain ⟨s, dy, p, dx, lc, ld, lg, hd, a1, a2, a3, a4, lp, t, cs, ds, k, F, is, xs, ys, rfl, S, B, et, hil, e4, hxl, elp, hyl, nlp, qb, qo⟩ := h
    refine ⟨_,
      (pss_cons
        (ps_set (i := 3) sc_law_pinned.nd rfl (.inl rfl) (pe_tup pa_nil))
      (pss_cons
        (p_tryG rfl rfl sc_law_pinned.nd takes0 (fun W pn xe tk po =>
          (pss_one
            (ps_expr (pe_bmX (K := K) rfl (r := rAppend) PySem.F.plainAttrs_list PySem.F.slot_list_append PySem.F.type_list_append mt_append (pv 1) (pa_cons (pe_methTS (pv 0) K_House.cl D_House_pin.m G_House_pin (hr.mono (by omega)) D_House_pin.b (fun σ => passAt tk σ) (pa_cons (pv 2) pa_nil)) pa_nil)))))
        (ClOk.as (i := 4) rfl rfl ⟨rfl, by decide, .inl g_NoName⟩ (fun a oe cls d pn hz hf => pss_guard (P := cls = .ref C_NoName) (fun hg =>
          (pss_one
            (ps_set (i := 3) sc_law_pinned.nd rfl (.inl rfl) (pe_tup (pa_cons pe_str (pa_cons (pe_xf X_NoName.f (X_NoName.nf "name" (by simp)) hz hf (pv 4)) pa_nil)))))))
        (ClOk.as (i := 4) rfl rfl ⟨rfl, by decide, .inl g_Lack⟩ (fun a oe cls d pn hz hf => pss_guard (P := cls = .ref C_Lack) (fun hg =>
          (pss_one
            (ps_set (i := 3) sc_law_pinned.nd rfl (.inl rfl) (pe_tup (pa_cons pe_str (pa_cons (pe_xf X_Lack.f (X_Lack.nf "name" (by simp)) hz hf (pv 4)) pa_nil)))))))
        ClOk.nil)))
      (pss_one
        (ps_ret (pv 3)))))
      , ?_⟩
    rw [show L2.start N_law_pinned [V.ref s, V.ref lp, V.ref t] = [some (.ref s), some (.ref lp), some (.ref t), none, none] from rfl]
    walk_at "x"
    refine w_new fun t0 H1 ht0 et0 k1 => ?_
    have S1 := S.same k1
    have B1 := B.same k1
    have et1 := k1 _ _ et
    have e41 := k1 _ _ e4
    have elp1 := k1 _ _ elp
    walk_at "g"
    refine w_seq ?_
    refine w_tryG ?_
    walk_at "g"
    refine w_methS (K := K) ?_
    walk_at "g"
    refine ⟨s, dy, _, rfl, S1.ob, rfl, ?_⟩
    walk_at "g"
    refine ⟨s, dy, p, dx, lc, ld, lg, hd, a1, a2, a3, a4, t, cs, ds, k, F, is, xs, rfl, S1, B1, et1, hil, e41, hxl, ?_⟩
    cases hdu : dueN cs.length F is with
    | nn i =>
      rw [hdu] at qb
      intro d H2 k2 hd2 e2
      refine w_clY xm_NoName_NoName fun ea hea => ?_
      refine w_guard rfl ?_
      walk_at "g"
      refine w_xf ?_
      walk_at "g"
      refine ⟨rfl, rfl, d, _, .int i, rfl, e2, rfl, ?_⟩
      walk_at "g"
      refine w_new fun r H3 hr3 er3 k3 => ?_
      walk_at "g"
      exact qb (fun z => nomatch z) H3 r (Same.trans k1 (Same.trans k2 k3)) er3
    | lk i =>
      rw [hdu] at qb
      intro d H2 k2 hd2 e2
      refine w_clN xm_Lack_NoName ?_
      refine w_clY xm_Lack_Lack fun ea hea => ?_
      refine w_guard rfl ?_
      walk_at "g"
      refine w_xf ?_
      walk_at "g"
      refine ⟨rfl, rfl, d, _, .int i, rfl, e2, rfl, ?_⟩
      walk_at "g"
      refine w_new fun r H3 hr3 er3 k3 => ?_
      walk_at "g"
      exact qb (fun z => nomatch z) H3 r (Same.trans k1 (Same.trans k2 k3)) er3
    | lg =>
      unfold dueN at hdu
      split at hdu
      · cases hdu
      · split at hdu <;> cases hdu
    | ok =>
      intro z dz od H2 hz hod hne ez2 F2 e42 k2 t2
      have elp2 := k2 _ _ (by simpa using nlp) elp1
      have nzl : z ≠ lp := (ne_of_none elp1 hz).symm
      have nol : od ≠ lp := (ne_of_none elp1 hod).symm
      walk_at "g"
      refine w_app elp2 (small2000 (by omega)) fun H3 e3 o3 => ?_
      walk_at "g"
      have et03 := o3.get (ne_of (t2 _ _ et0) elp2 (fun z => nomatch z)) (t2 _ _ et0)
      unfold pinO at ez2
      exact qo hdu z dz od t0 H3 (k1.free hz) (k1.free hod) hne (o3.get nzl ez2) (F2.kp (o3.kp (M := [lp]) (by simp)) (by simpa using nol)) (o3.get nlp.symm e42) e3 (fun b u hb h => by
        simp only [List.mem_cons, List.not_mem_nil, or_false, not_or] at hb
        exact o3.get hb.2 (k2 _ _ (by simpa using hb.1) (k1 _ _ h))) ((KT.of k1).trans (t2.trans (KT.off o3 elp2))) et03
theorem ok_ladded {f fA fE fL C_NoName C_Lack C_LetGo C_HouseError : Addr} {fd fdA fdE fdL : FuncData} (T : Txt K mg) (F : Fun K "_law_added" "_law_added" s_law_added f fd) (K_Pin : Kl K mg "Pin" CP ["store", "on", "loose"]) (D_Pin_add : DfM K CP "add" "Pin.add" s_Pin_add ["self", "name"] fA fdA) (G_Pin_add : FnOk P w K mg base (L2.CX P w) 5 fA fdA ["self", "name"] (spAdd P w C CU CP C_NoName C_Lack C_LetGo))
    (X_NoName : ExnI K mg "NoName" C_NoName fE fdE ["self", "name"] ["name"]) (X_Lack : ExnI K mg "Lack" C_Lack fL fdL ["self", "name"] ["name"]) (X_LetGo : Exn K mg "LetGo" C_LetGo) (EC_LetGo : ExcC K C_LetGo) (g_HouseError : mg "HouseError" = some (.ref C_HouseError)) (xm_NoName_NoName : PySem.W.exmOne K (.ref C_NoName) (.ref C_NoName) = some true) (xm_Lack_NoName : PySem.W.exmOne K (.ref C_Lack) (.ref C_NoName) = some false) (xm_Lack_Lack : PySem.W.exmOne K (.ref C_Lack) (.ref C_Lack) = some true) (xm_LetGo_NoName : PySem.W.exmOne K (.ref C_LetGo) (.ref C_NoName) = some false) (xm_LetGo_Lack : PySem.W.exmOne K (.ref C_LetGo) (.ref C_Lack) = some false) (xm_LetGo_HouseError : PySem.W.exmOne K (.ref C_LetGo) (.ref C_HouseError) = some true)
    (kq_LetGo_LetGo : PySem.W.kitOne K (.ref C_LetGo) (.ref C_LetGo) = some true) (kq_LetGo_ValueError : PySem.W.kitOne K (.ref C_LetGo) (.type "ValueError") = some true) : FnOk P w K mg base CX0 6 f fd ["_law_one", "_law_name_here"] (spLAdded P w C CU CP) := by
  have g_NoName := X_NoName.g
  have g_Lack := X_Lack.g
  have g_LetGo := X_LetGo.g
  refine F.ok sc_law_added (fun vs H Q E h => ?_) (fun cdv A outer s H vs Q E hr h => ?_)
  · obtain ⟨z, dz, od, s, dy, p, dx, lc, ld, lg, hd, a1, a2, a3, a4, b, G, cs, ds, k, F, i, rfl, _⟩ := h
    rfl
  · obtain ⟨z, dz, od, s, dy, p, dx, lc, ld, lg, hd, a1, a2, a3, a4, b, G, cs, ds, k, F, i, rfl, ez, Fo, S, B, qb, qo⟩ := h
    refine ⟨_,
      (pss_cons
        (ps_set (i := 2) sc_law_added.nd rfl (.inl rfl) (pe_tup pa_nil))
      (pss_cons
        (p_tryG rfl rfl sc_law_added.nd takes0 (fun W pn xe tk po =>
          (pss_one
            (ps_expr (pe_methTS (pv 0) K_Pin.cl D_Pin_add.m G_Pin_add (hr.mono (by omega)) D_Pin_add.b (fun σ => passAt tk σ) (pa_cons (pv 1) pa_nil)))))
        (ClOk.as (i := 3) rfl rfl ⟨rfl, by decide, .inl g_NoName⟩ (fun a oe cls d pn hz hf => pss_guard (P := cls = .ref C_NoName) (fun hg =>
          (pss_one
            (ps_set (i := 2) sc_law_added.nd rfl (.inl rfl) (pe_tup (pa_cons pe_str (pa_cons (pe_xf X_NoName.f (X_NoName.nf "name" (by simp)) hz hf (pv 3)) pa_nil)))))))
        (ClOk.as (i := 3) rfl rfl ⟨rfl, by decide, .inl g_Lack⟩ (fun a oe cls d pn hz hf => pss_guard (P := cls = .ref C_Lack) (fun hg =>
          (pss_one
            (ps_set (i := 2) sc_law_added.nd rfl (.inl rfl) (pe_tup (pa_cons pe_str (pa_cons (pe_xf X_Lack.f (X_Lack.nf "name" (by simp)) hz hf (pv 3)) pa_nil)))))))
        (ClOk.as (i := 3) rfl rfl ⟨rfl, by decide, .inl g_HouseError⟩ (fun a oe cls d pn hz hf => pss_guard (P := cls = .ref C_LetGo ∧ d = none) (fun hg =>
          (pss_cons
            (ps_set (i := 2) sc_law_added.nd rfl (.inl rfl) (pe_tup (pa_cons pe_str pa_nil)))
          (pss_one
            (ps_if (PW.pt (pw_and (pt_val (pe_callB (r := rIsE K C_LetGo a) (call_isE EC_LetGo (zc_of hg hz) hf) (by rfl) T.n_isinstance (by decide +kernel) (pa_cons (pv 3) (pa_cons (pe_glob (v := .ref C_LetGo) rfl g_LetGo rfl) pa_nil)))) (pw_and1 (pt_val (pe_callB (r := rIsE K C_LetGo a) (call_isE EC_LetGo (zc_of hg hz) hf) (by rfl) T.n_isinstance (by decide +kernel) (pa_cons (pv 3) (pa_cons (pe_bltn (v := .ty "ValueError") (u := .type "ValueError") (by rfl) T.n_ValueError (by decide +kernel) rfl) pa_nil)))))))
              (pss_one
                (ps_set (i := 2) sc_law_added.nd rfl (.inl rfl) (pe_tup (pa_cons pe_str pa_nil))))
              pss_nil)))))
        ClOk.nil))))
      (pss_one
        (ps_ret (pv 2)))))
      , ?_⟩
    rw [show L2.start N_law_added [V.ref z, V.int i] = [some (.ref z), some (.int i), none, none] from rfl]
    walk_at "x"
    refine w_new fun t0 H1 ht0 et0 k1 => ?_
    have S1 := S.same k1
    have B1 := B.same k1
    unfold pinO at ez
    have ez1 := k1 _ _ ez
    have Fo1 := Fo.same k1
    walk_at "g"
    refine w_seq ?_
    refine w_tryG ?_
    walk_at "g"
    refine w_methS (K := K) ?_
    walk_at "g"
    refine ⟨z, dz, _, rfl, ez1, rfl, ?_⟩
    walk_at "g"
    refine ⟨z, dz, od, s, dy, p, dx, lc, ld, lg, hd, a1, a2, a3, a4, b, G, cs, ds, k, F, i, rfl, ez1, Fo1, S1, B1, ?_⟩
    cases hdu : (if b = true then Rf.lg else dueN cs.length F [i]) with
    | nn j =>
      rw [hdu] at qb
      intro d H2 k2 hd2 e2
      refine w_clY xm_NoName_NoName fun ea hea => ?_
      refine w_guard rfl ?_
      walk_at "g"
      refine w_xf ?_
      walk_at "g"
      refine ⟨rfl, rfl, d, _, .int j, rfl, e2, rfl, ?_⟩
      walk_at "g"
      refine w_new fun r H3 hr3 er3 k3 => ?_
      walk_at "g"
      exact qb (fun z => nomatch z) H3 r (Same.trans k1 (Same.trans k2 k3)) er3
    | lk j =>
      rw [hdu] at qb
      intro d H2 k2 hd2 e2
      refine w_clN xm_Lack_NoName ?_
      refine w_clY xm_Lack_Lack fun ea hea => ?_
      refine w_guard rfl ?_
      walk_at "g"
      refine w_xf ?_
      walk_at "g"
      refine ⟨rfl, rfl, d, _, .int j, rfl, e2, rfl, ?_⟩
      walk_at "g"
      refine w_new fun r H3 hr3 er3 k3 => ?_
      walk_at "g"
      exact qb (fun z => nomatch z) H3 r (Same.trans k1 (Same.trans k2 k3)) er3
    | lg =>
      rw [hdu] at qb
      unfold RfO
      dsimp only
      show wCl K _ _ _ _ _ _ _
      refine w_clN xm_LetGo_NoName ?_
      refine w_clN xm_LetGo_Lack ?_
      refine w_clY xm_LetGo_HouseError fun ea hea => ?_
      refine w_guard ⟨rfl, rfl⟩ ?_
      walk_at "g"
      refine w_new fun r0 H2 hr0 er0 k2 => ?_
      walk_at "g"
      refine w_isE kq_LetGo_LetGo ?_
      walk_at "g"
      refine w_isEt kq_LetGo_ValueError ?_
      walk_at "g"
      refine w_new fun r H3 hr3 er3 k3 => ?_
      walk_at "g"
      exact qb (fun z => nomatch z) H3 r (Same.trans k1 (Same.trans k2 k3)) er3
    | ok =>
      intro n en H2 F2 k2 t2
      walk_at "g"
      exact qo hdu n en H2 t0 F2 (fun b u hb h => k2 _ _ hb (k1 _ _ h)) ((KT.of k1).trans t2) (t2 _ _ et0)
theorem ok_lfarset {f fS fE fL C_NoName C_Lack : Addr} {fd fdS fdE fdL : FuncData} (T : Txt K mg) (F : Fun K "_law_far_set" "_law_far_set" s_law_far_set f fd) (K_House : Kl K mg "House" CU ["book", "here", "turns", "stands", "lately", "others", "pinned"]) (D_House_set_far : DfM K CU "set_far" "House.set_far" s_House_set_far ["self", "label", "mark", "version"] fS fdS) (G_House_set_far : FnOk P w K mg base (L2.CX P w) 6 fS fdS ["self", "label", "mark", "version"] (spSetFar P w C CU C_NoName C_Lack))
    (X_NoName : ExnI K mg "NoName" C_NoName fE fdE ["self", "name"] ["name"]) (X_Lack : ExnI K mg "Lack" C_Lack fL fdL ["self", "name"] ["name"]) (xm_NoName_NoName : PySem.W.exmOne K (.ref C_NoName) (.ref C_NoName) = some true) (xm_Lack_NoName : PySem.W.exmOne K (.ref C_Lack) (.ref C_NoName) = some false) (xm_Lack_Lack : PySem.W.exmOne K (.ref C_Lack) (.ref C_Lack) = some true) : FnOk P w K mg base CX0 7 f fd ["_law_house_here", "_law_label_here", "_law_mark", "_law_version"] (spLFarSet P w C CU) := by
  have g_NoName := X_NoName.g
  have g_Lack := X_Lack.g
  refine F.ok sc_law_far_set (fun vs H Q E h => ?_) (fun cdv A outer s H vs Q E hr h => ?_)
  · obtain ⟨s, dy, p, dx, lc, ld, lg, hd, a1, a2, a3, a4, cs, ds, k, F, fs, l, m, x, rfl, _⟩ := h
    rfl
  · obtain ⟨s, dy, p, dx, lc, ld, lg, hd, a1, a2, a3, a4, cs, ds, k, F, fs, l, m, x, rfl, S, B, e3, hfl, q⟩ := h
    refine ⟨_,
      (pss_cons
        (ps_set (i := 4) sc_law_far_set.nd rfl (.inl rfl) (pe_tup pa_nil))
      (pss_cons
        (p_tryG rfl rfl sc_law_far_set.nd takes0 (fun W pn xe tk po =>
          (pss_one
            (ps_expr (pe_methTS (pv 0) K_House.cl D_House_set_far.m G_House_set_far (hr.mono (by omega)) D_House_set_far.b (fun σ => passAt tk σ) (pa_cons (pv 1) (pa_cons (pv 2) (pa_cons (pv 3) pa_nil)))))))
        (ClOk.as (i := 5) rfl rfl ⟨rfl, by decide, .inl g_NoName⟩ (fun a oe cls d pn hz hf => pss_guard (P := cls = .ref C_NoName) (fun hg =>
          (pss_one
            (ps_set (i := 4) sc_law_far_set.nd rfl (.inl rfl) (pe_tup (pa_cons pe_str (pa_cons (pe_xf X_NoName.f (X_NoName.nf "name" (by simp)) hz hf (pv 5)) pa_nil)))))))
        (ClOk.as (i := 5) rfl rfl ⟨rfl, by decide, .inl g_Lack⟩ (fun a oe cls d pn hz hf => pss_guard (P := cls = .ref C_Lack) (fun hg =>
          (pss_one
            (ps_set (i := 4) sc_law_far_set.nd rfl (.inl rfl) (pe_tup (pa_cons pe_str (pa_cons (pe_xf X_Lack.f (X_Lack.nf "name" (by simp)) hz hf (pv 5)) pa_nil)))))))
        ClOk.nil)))
      (pss_one
        (ps_ret (pv 4)))))
      , ?_⟩
    rw [show L2.start N_law_far_set [V.ref s, V.str l, V.str m, x] = [some (.ref s), some (.str l), some (.str m), some x, none, none] from rfl]
    walk_at "x"
    refine w_new fun t0 H1 ht0 et0 k1 => ?_
    have S1 := S.same k1
    have B1 := B.same k1
    have e31 := k1 _ _ e3
    walk_at "g"
    refine w_seq ?_
    refine w_tryG ?_
    walk_at "g"
    refine w_methS (K := K) ?_
    walk_at "g"
    refine ⟨s, dy, _, rfl, S1.ob, rfl, ?_⟩
    walk_at "g"
    refine ⟨s, dy, p, dx, lc, ld, lg, hd, a1, a2, a3, a4, cs, ds, k, F, fs, l, m, x, rfl, S1, B1, e31, hfl, ?_⟩
    rcases q with ⟨rfl, q⟩ | ⟨i, rfl, qb, qo⟩
    · refine .inl ⟨rfl, fun H2 e2 k2 t2 => ?_⟩
      walk_at "g"
      exact q H2 t0 e2 (fun b u hb h => k2 _ _ hb (k1 _ _ h)) ((KT.of k1).trans t2) (t2 _ _ et0)
    · refine .inr ⟨i, rfl, ?_⟩
      cases hdu : dueV cs F i with
      | nn j =>
        rw [hdu] at qb
        intro d H2 k2 hd2 e2
        refine w_clY xm_NoName_NoName fun ea hea => ?_
        refine w_guard rfl ?_
        walk_at "g"
        refine w_xf ?_
        walk_at "g"
        refine ⟨rfl, rfl, d, _, .int j, rfl, e2, rfl, ?_⟩
        walk_at "g"
        refine w_new fun r H3 hr3 er3 k3 => ?_
        walk_at "g"
        exact qb (fun z => nomatch z) H3 r (Same.trans k1 (Same.trans k2 k3)) er3
      | lk j =>
        rw [hdu] at qb
        intro d H2 k2 hd2 e2
        refine w_clN xm_Lack_NoName ?_
        refine w_clY xm_Lack_Lack fun ea hea => ?_
        refine w_guard rfl ?_
        walk_at "g"
        refine w_xf ?_
        walk_at "g"
        refine ⟨rfl, rfl, d, _, .int j, rfl, e2, rfl, ?_⟩
        walk_at "g"
        refine w_new fun r H3 hr3 er3 k3 => ?_
        walk_at "g"
        exact qb (fun z => nomatch z) H3 r (Same.trans k1 (Same.trans k2 k3)) er3
      | lg =>
        unfold dueV at hdu
        split at hdu
        · split at hdu <;> cases hdu
        · cases hdu
      | ok =>
        intro H2 e2 k2 t2
        walk_at "g"
        exact qo hdu H2 t0 e2 (fun b u hb h => k2 _ _ hb (k1 _ _ h)) ((KT.of k1).trans t2) (t2 _ _ et0)
theorem ok_lroots {f : Addr} {fd : FuncData} (T : Txt K mg) (F : Fun K "_law_roots" "_law_roots" s_law_roots f fd) : FnOk P w K mg base CX0 1 f fd ["_law_far", "_law_ons"] spLRoots := by
  refine F.ok sc_law_roots (fun vs H Q E h => ?_) (fun cdv A outer s H vs Q E hr h => ?_)
  · obtain ⟨lf, lo, fs, al, rfl, _⟩ := h
    rfl
  · obtain ⟨lf, lo, fs, al, rfl, elf, elo, hfl, hal, nd, hfb, hon, q⟩ := h
    have hu := hu_of hr
    have hfk : (farK fs).length = fs.length := by unfold farK; exact List.length_map _
    refine ⟨_,
      (pss_cons
        (ps_set (i := 2) sc_law_roots.nd rfl (.inl rfl) pe_dnewK)
      (pss_cons
        (ps_lock (ps_for PassesOwn.never rfl (pi_keys (pv 0)) (pg_name (i := 3) sc_law_roots.nd rfl (.inl rfl))
          (pss_one
            (ps_dput hu (pv 2) (pe_dget hu (pv 0) (pv 3) (fun _ _ => rfl)) pe_bl rfl))))
      (pss_cons
        (ps_for PassesOwn.never rfl (pi_list (pv 1)) (pg_name (i := 4) sc_law_roots.nd rfl (.inl rfl))
          (pss_one
            (ps_lock (ps_for PassesOwn.never rfl (pi_keys (pe_ix (r := rIxL K) ix_list (pv 4) pe_int (fun _ _ => rfl))) (pg_name (i := 5) sc_law_roots.nd rfl (.inl rfl))
              (pss_one
                (ps_dput hu (pv 2) (pv 5) pe_bl rfl))))))
      (pss_one
        (ps_ret (pe_callB (c_sortA rfl) (by rfl) T.n_sorted (by decide +kernel) (pa_cons (pv 2) pa_nil)))))))
      , ?_⟩
    rw [show L2.start N_law_roots [V.ref lf, V.ref lo] = [some (.ref lf), some (.ref lo), none, none, none, none] from rfl]
    walk_at "x"
    refine w_new fun f H1 hf ef k1 => ?_
    have F1 : FAt H1 f (fun _ => False) := ⟨[], [], ef, rfl, .nil, by simp, by simp⟩
    have elf1 := k1 _ _ elf
    have elo1 := k1 _ _ elo
    have nff : f ≠ lf := (ne_of_none elf hf).symm
    have nfo : f ≠ lo := (ne_of_none elo hf).symm
    walk_at "g"
    refine w_lockT elf1 fun od H2 elf2 o2 => ?_
    have F2 := F1.kp (o2.kp (M := [lf]) (by simp)) (by simpa using nff)
    walk_at "g"
    refine lp_it walk_keysT (fun i σ' H' => (∃ y : Option V, σ' = [some (.ref lf), some (.ref lo), some (.ref f), y, none, none]) ∧ Kp [f] H2 H' ∧ KT H2 H' ∧ FAt H' f (fun n => ∃ q ∈ fs.take i, q.2 = n)) ⟨⟨_, rfl⟩, Kp.refl, .refl, F2.iff fun n => by simp⟩ (fun i σ' H' _ h => h.2.1 _ _ (by simpa using nff.symm) elf2) ?_ ?_
    · rintro i x σ' H3 H4 hi ⟨⟨y, rfl⟩, k3, t3, F3⟩ ⟨rfl, kk, v, qa, hx, rfl, hqa⟩
      have elf3 := k3 _ _ (by simpa using nff.symm) elf2
      unfold farK at hx
      rw [List.getElem?_map] at hx
      obtain ⟨qf, hqf, e0⟩ := Option.map_eq_some_iff.mp hx
      cases e0
      have hb := hfb qf (List.mem_of_getElem? hqf)
      refine w_name ?_
      walk_at "g"
      have hv : valV (farK fs) (ttK qf.1) = some (nV qf.2) := by
        rw [farK_val, lookup_nd nd (List.mem_of_getElem? hqf)]
        rfl
      refine w_dgetTF elf3 hqa hv ?_
      walk_at "g"
      refine w_fput F3 hb fun H5 F5 o5 => ?_
      obtain ⟨fk, hfk'⟩ := F3.obj
      refine ⟨⟨_, rfl⟩, k3.trans (o5.kp (by simp)), t3.trans (KT.offD o5 hfk'), F5.iff fun n => ?_⟩
      rw [List.take_add_one, hqf]
      simp only [Option.toList_some, List.mem_append, List.mem_singleton]
      constructor
      · rintro (⟨q', h1, h2⟩ | h)
        · exact ⟨q', .inl h1, h2⟩
        · exact ⟨qf, .inr rfl, h.symm⟩
      · rintro ⟨q', h1 | rfl, h2⟩
        · exact .inl ⟨q', h1, h2⟩
        · exact .inr h2.symm
    rintro σ' H3 ⟨⟨y, rfl⟩, k3, t3, F3⟩
    rw [hfk, List.take_length] at F3
    refine ⟨k3 _ _ (by simpa using nff.symm) elf2, ?_⟩
    have k13 : Kp [f] H1 (upd H3 lf (.dT (farK fs))) := lock_kp elf1 o2 k3
    have F4 : FAt (upd H3 lf (.dT (farK fs))) f (fun n => ∃ q ∈ fs, q.2 = n) := F3.kp (M := [lf]) (fun b u hb h => by rw [upd_ne (by simpa using hb)]; exact h) (by simpa using nff)
    generalize upd H3 lf (.dT (farK fs)) = H4 at k13 F4
    have s04 : Same H H4 := fun b u h => k13 _ _ (by simpa using ne_of_none h hf) (k1 _ _ h)
    have elo4 := s04 _ _ elo
    walk_at "g"
    try refine w_itL' (.of elo4) ?_
    refine lp_list (xs := al.map fun q => V.ref q.r) (fun i σ' H' => (∃ y1 y2 y3 : Option V, σ' = [some (.ref lf), some (.ref lo), some (.ref f), y1, y2, y3]) ∧ Same H H' ∧ FAt H' f (fun n => (∃ q ∈ fs, q.2 = n) ∨ ∃ q ∈ al.take i, q.G n)) ⟨⟨_, _, _, rfl⟩, s04, F4.iff fun n => by simp⟩ (fun i σ' H' _ h => .of (h.2.1 _ _ elo)) ?_ ?_
    · rintro i x σ' H5 hx ⟨⟨y1, y2, y3, rfl⟩, s5, F5⟩
      rw [List.getElem?_map] at hx
      obtain ⟨qd, hqd, rfl⟩ := Option.map_eq_some_iff.mp hx
      obtain ⟨⟨er, Fo⟩, hGb⟩ := hon qd (List.mem_of_getElem? hqd)
      have er5 := s5 _ _ er
      have Fo5 := Fo.same s5
      have at0 : atI [V.ref qd.f, V.bl qd.b] 0 = some (V.ref qd.f) := atI_nat (j := 0) rfl
      walk_at "g"
      obtain ⟨fk, ks, e6, hks, hnd, hbk, hmk⟩ := Fo5
      have nfq : f ≠ qd.f := by
        obtain ⟨kv, hkv⟩ := Fo.obj
        exact (ne_of_none hkv hf).symm
      refine w_lock e6 fun od3 H7 e7 o7 => ?_
      have er7 := o7.get (ne_of er5 e6 (fun z => nomatch z)) er5
      have F7 := F5.kp (o7.kp (M := [qd.f]) (by simp)) (by simpa using nfq)
      walk_at "g"
      refine lp_keys hks (fun j σ' H' => (∃ y1 y3 : Option V, σ' = [some (.ref lf), some (.ref lo), some (.ref f), y1, some (.ref qd.r), y3]) ∧ Kp [f] H7 H' ∧ FAt H' f (fun n => ((∃ q ∈ fs, q.2 = n) ∨ ∃ q ∈ al.take i, q.G n) ∨ (n : Int) ∈ ks.take j)) ⟨⟨_, _, rfl⟩, Kp.refl, F7.iff fun n => by simp⟩ (fun j σ' H' _ h => h.2.1 _ _ (by simpa using nfq.symm) e7) ?_ ?_
      · rintro j x σ' H8 hx ⟨⟨y1, y3, rfl⟩, k8, F8⟩
        obtain ⟨hx1, hx2⟩ := hbk x (List.mem_of_getElem? hx)
        obtain ⟨n, rfl⟩ : ∃ n : Nat, x = n := ⟨x.toNat, by omega⟩
        refine w_name ?_
        walk_at "g"
        refine w_fput F8 (by omega) fun H9 F9 o9 => ?_
        refine ⟨⟨_, _, rfl⟩, k8.trans (o9.kp (by simp)), F9.iff fun m => ?_⟩
        rw [List.take_add_one, hx]
        simp only [Option.toList_some, List.mem_append, List.mem_singleton, or_assoc]
        have : (m = n) ↔ ((m : Int) = (n : Int)) := by omega
        rw [this]
      · rintro σ' H8 ⟨⟨y1, y3, rfl⟩, k8, F8⟩
        rw [List.take_length] at F8
        refine ⟨k8 _ _ (by simpa using nfq.symm) e7, ?_⟩
        have k58 : Kp [f] H5 (upd H8 qd.f (.dK fk)) := lock_kp e6 o7 k8
        refine ⟨⟨_, _, _, rfl⟩, fun b u h => k58 _ _ (by simpa using ne_of_none h hf) (s5 _ _ h), (F8.kp (M := [qd.f]) (fun b u hb h => by rw [upd_ne (by simpa using hb)]; exact h) (by simpa using nfq)).iff fun n => ?_⟩
        rw [List.take_add_one, hqd]
        simp only [Option.toList_some, List.mem_append, List.mem_singleton]
        rw [hmk]
        constructor
        · rintro ((h | ⟨q', h1, h2⟩) | h)
          · exact .inl h
          · exact .inr ⟨q', .inl h1, h2⟩
          · exact .inr ⟨qd, .inr rfl, h⟩
        · rintro (h | ⟨q', h1 | rfl, h2⟩)
          · exact .inl (.inl h)
          · exact .inl (.inr ⟨q', h1, h2⟩)
          · exact .inr h2
    · rintro σ' H5 ⟨⟨y1, y2, y3, rfl⟩, s5, F5⟩
      rw [List.length_map, List.take_length] at F5
      walk_at "g"
      refine w_fsort F5 fun ns l H6 hup hmem hnl hl e6 k6 => ?_
      exact q ns l H6 hup hmem (s5.free hl) e6 (Same.trans s5 k6)
end
/-! ### the world of k55: addresses by number -/
structure PSt where
  dy : Addr
  dx : Addr
  dz : Nat → Addr
  m : Nat
  k : Nat
  F : Nat → Prop
  fs : List (TTx × Nat)
  lo : Nat → Bool
  G : Nat → Nat → Prop
  al : List Nat
  cs : List (Addr × Ct)
  ds : List Nat
def setA (A : Nat → Addr) (i : Nat) (x : Addr) : Nat → Addr := fun j => if j = i then x else A j
theorem setA_same {A : Nat → Addr} {i : Nat} {x : Addr} : setA A i x i = x := if_pos rfl
theorem setA_ne {A : Nat → Addr} {i j : Nat} {x : Addr} (h : j ≠ i) : setA A i x j = A j := if_neg h
structure W5 (P : Program) (w : World) (C CU CP : Addr) (H : Hp) (A : Nat → Addr) (S : PSt) : Prop where
  inj : ∀ i j, i < 17 + 4 * S.m → j < 17 + 4 * S.m → A i = A j → i = j
  st : StAt CU H (A 1) S.dy (A 12) (A 2) (hrs (A 3) (A 4) (A 5) (A 6)) S.k S.F
  dk : ∃ n, Deck H (A 0) (A 16) n
  bk : BookAt P w C H (A 12) S.dx (A 13) (A 14) (A 15) S.cs S.ds
  th : ThAt H (A 8) S.cs
  e1 : H (A 3) = some (.dK [])
  e2 : ∃ xs, H (A 4) = some (.lst xs)
  e3 : H (A 5) = some (.dT (farK S.fs))
  e4 : H (A 6) = some (.lst (S.al.map fun i => V.ref (A (17 + 4 * i))))
  lh : FAt H (A 7) S.F
  lp : H (A 9) = some (.lst ((List.range S.m).map fun i => V.ref (A (17 + 4 * i))))
  lo : H (A 10) = some (.lst ((List.range S.m).map fun i => V.ref (A (19 + 4 * i))))
  lf : H (A 11) = some (.dT (farK S.fs))
  pz : ∀ i, i < S.m → pinO CP H (A (17 + 4 * i)) (S.dz i) (A 1) (A (18 + 4 * i)) (S.lo i)
  po : ∀ i, i < S.m → FAt H (A (18 + 4 * i)) (S.G i)
  pr : ∀ i, i < S.m → H (A (19 + 4 * i)) = some (.lst [.ref (A (20 + 4 * i)), .bl (!S.lo i)])
  pf : ∀ i, i < S.m → FAt H (A (20 + 4 * i)) (S.G i)
  al1 : ∀ i ∈ S.al, i < S.m
  al2 : ∀ i, i < S.m → S.lo i = false → i ∈ S.al
  al3 : S.al.length ≤ S.m
  le : ∀ i, i < S.m → S.lo i = true → ∀ n, ¬ S.G i n
  gb : ∀ i n, i < S.m → S.G i n → n < S.cs.length
  fb : ∀ q ∈ S.fs, q.2 < S.cs.length
  fn : (S.fs.map (·.1)).Nodup
  fl : S.fs.length ≤ 100
  ml : S.m ≤ 100
  Fb : ∀ n, S.F n → n < S.cs.length
section
variable {P : Program} {w : World} {C CU CP : Addr} {H H' : Hp} {A : Nat → Addr} {S : PSt}
theorem W5.out (W : W5 P w C CU CP H A S) {J : List Nat} (hJ : ∀ j ∈ J, j < 17 + 4 * S.m) {i : Nat} (hi : i < 17 + 4 * S.m) (hn : i ∉ J) : A i ∉ J.map A := fun h => by
  obtain ⟨j, hj, e⟩ := List.mem_map.mp h
  exact hn (W.inj j i (hJ j hj) hi e ▸ hj)
/-- everything stands: no object is free -/
theorem W5.there (W : W5 P w C CU CP H A S) : ∀ i, i < 17 + 4 * S.m → H (A i) ≠ none := by
  intro i hi hz
  obtain ⟨n0, D⟩ := W.dk
  obtain ⟨⟨xd, ed⟩, xc, ec⟩ := D.at
  have fat : ∀ {a : Addr} {F : Nat → Prop}, FAt H a F → H a ≠ none := fun h e => by
    obtain ⟨kv, hkv⟩ := h.obj
    rw [hkv] at e
    cases e
  by_cases hp : 17 ≤ i
  · obtain ⟨j, r, hr, hj, rfl⟩ : ∃ j r, r < 4 ∧ j < S.m ∧ i = 17 + r + 4 * j := ⟨(i - 17) / 4, (i - 17) % 4, by omega, by omega, by omega⟩
    match r, hr with
    | 0, _ => have := W.pz j hj; unfold pinO at this; rw [show 17 + 0 + 4 * j = 17 + 4 * j by omega, this] at hz; cases hz
    | 1, _ => exact fat (W.po j hj) (by rw [show 18 + 4 * j = 17 + 1 + 4 * j by omega]; exact hz)
    | 2, _ => have := W.pr j hj; rw [show 17 + 2 + 4 * j = 19 + 4 * j by omega, this] at hz; cases hz
    | 3, _ => exact fat (W.pf j hj) (by rw [show 20 + 4 * j = 17 + 3 + 4 * j by omega]; exact hz)
  · match i, hp, hz with
    | 0, _, hz => rw [ed] at hz; cases hz
    | 1, _, hz => rw [W.st.ob] at hz; cases hz
    | 2, _, hz => exact fat W.st.here hz
    | 3, _, hz => rw [W.e1] at hz; cases hz
    | 4, _, hz => obtain ⟨xs, e⟩ := W.e2; rw [e] at hz; cases hz
    | 5, _, hz => rw [W.e3] at hz; cases hz
    | 6, _, hz => rw [W.e4] at hz; cases hz
    | 7, _, hz => exact fat W.lh hz
    | 8, _, hz => rw [W.th.at'] at hz; cases hz
    | 9, _, hz => rw [W.lp] at hz; cases hz
    | 10, _, hz => rw [W.lo] at hz; cases hz
    | 11, _, hz => rw [W.lf] at hz; cases hz
    | 12, _, hz => rw [W.bk.ob] at hz; cases hz
    | 13, _, hz => rw [W.bk.co] at hz; cases hz
    | 14, _, hz => rw [W.bk.de] at hz; cases hz
    | 15, _, hz => rw [W.bk.gi.at'] at hz; cases hz
    | 16, _, hz => rw [ec] at hz; cases hz
    | i + 17, hp, _ => exact hp (Nat.le_add_left 17 i)
/-- a fresh address is none of ours -/
theorem W5.fresh (W : W5 P w C CU CP H A S) {x : Addr} (hx : H x = none) : ∀ i, i < 17 + 4 * S.m → A i ≠ x := fun i hi e => W.there i hi (e ▸ hx)
theorem inj_set {A : Nat → Addr} {N i : Nat} {x : Addr} (h : ∀ i j, i < N → j < N → A i = A j → i = j) (hx : ∀ j, j < N → A j ≠ x) : ∀ a b, a < N → b < N → setA A i x a = setA A i x b → a = b := by
  intro a b ha hb e
  unfold setA at e
  by_cases h1 : a = i
  · by_cases h2 : b = i
    · omega
    · rw [if_pos h1, if_neg h2] at e
      exact absurd e.symm (hx b hb)
  · by_cases h2 : b = i
    · rw [if_neg h1, if_pos h2] at e
      exact absurd e (hx a ha)
    · rw [if_neg h1, if_neg h2] at e
      exact h a b ha hb e
/-- what is kept where only the addresses numbered J are touched -/
structure Keep (P : Program) (w : World) (C CU CP : Addr) (H' : Hp) (A : Nat → Addr) (S : PSt) (J : List Nat) : Prop where
  st : 1 ∉ J → 2 ∉ J → StAt CU H' (A 1) S.dy (A 12) (A 2) (hrs (A 3) (A 4) (A 5) (A 6)) S.k S.F
  bk : 12 ∉ J → 13 ∉ J → 14 ∉ J → 15 ∉ J → BookAt P w C H' (A 12) S.dx (A 13) (A 14) (A 15) S.cs S.ds
  th : 8 ∉ J → ThAt H' (A 8) S.cs
  e1 : 3 ∉ J → H' (A 3) = some (.dK [])
  e2 : 4 ∉ J → ∃ xs, H' (A 4) = some (.lst xs)
  e3 : 5 ∉ J → H' (A 5) = some (.dT (farK S.fs))
  e4 : 6 ∉ J → H' (A 6) = some (.lst (S.al.map fun i => V.ref (A (17 + 4 * i))))
  lh : 7 ∉ J → FAt H' (A 7) S.F
  lp : 9 ∉ J → H' (A 9) = some (.lst ((List.range S.m).map fun i => V.ref (A (17 + 4 * i))))
  lo : 10 ∉ J → H' (A 10) = some (.lst ((List.range S.m).map fun i => V.ref (A (19 + 4 * i))))
  lf : 11 ∉ J → H' (A 11) = some (.dT (farK S.fs))
  pz : ∀ i, i < S.m → 17 + 4 * i ∉ J → pinO CP H' (A (17 + 4 * i)) (S.dz i) (A 1) (A (18 + 4 * i)) (S.lo i)
  po : ∀ i, i < S.m → 18 + 4 * i ∉ J → FAt H' (A (18 + 4 * i)) (S.G i)
  pr : ∀ i, i < S.m → 19 + 4 * i ∉ J → H' (A (19 + 4 * i)) = some (.lst [.ref (A (20 + 4 * i)), .bl (!S.lo i)])
  pf : ∀ i, i < S.m → 20 + 4 * i ∉ J → FAt H' (A (20 + 4 * i)) (S.G i)
  dk : 0 ∉ J → 16 ∉ J → ∃ n, Deck H' (A 0) (A 16) n
theorem W5.keep (W : W5 P w C CU CP H A S) {J : List Nat} (hJ : ∀ j ∈ J, j < 17 + 4 * S.m) (k : Kp (J.map A) H H') (t : KT H H') : Keep P w C CU CP H' A S J where
  st := fun h1 h2 => W.st.kp k (W.out hJ (by omega) h1) (W.out hJ (by omega) h2)
  bk := fun h1 h2 h3 h4 => W.bk.kp k t (W.out hJ (by omega) h1) (W.out hJ (by omega) h2) (W.out hJ (by omega) h3) (W.out hJ (by omega) h4)
  th := fun h => W.th.kp k t (W.out hJ (by omega) h)
  e1 := fun h => k _ _ (W.out hJ (by omega) h) W.e1
  e2 := fun h => let ⟨xs, e⟩ := W.e2; ⟨xs, k _ _ (W.out hJ (by omega) h) e⟩
  e3 := fun h => k _ _ (W.out hJ (by omega) h) W.e3
  e4 := fun h => k _ _ (W.out hJ (by omega) h) W.e4
  lh := fun h => W.lh.kp k (W.out hJ (by omega) h)
  lp := fun h => k _ _ (W.out hJ (by omega) h) W.lp
  lo := fun h => k _ _ (W.out hJ (by omega) h) W.lo
  lf := fun h => k _ _ (W.out hJ (by omega) h) W.lf
  pz := fun i hi h => k _ _ (W.out hJ (by omega) h) (W.pz i hi)
  po := fun i hi h => (W.po i hi).kp k (W.out hJ (by omega) h)
  pr := fun i hi h => k _ _ (W.out hJ (by omega) h) (W.pr i hi)
  pf := fun i hi h => (W.pf i hi).kp k (W.out hJ (by omega) h)
  dk := fun h1 h2 => let ⟨n, D⟩ := W.dk; ⟨n, D.kp k (W.out hJ (by omega) h1) (W.out hJ (by omega) h2)⟩
/-- what is touched is none of ours -/
theorem W5.kpM (W : W5 P w C CU CP H A S) {M : List Addr} (k : Kp M H H') (t : KT H H') (o : ∀ i, i < 17 + 4 * S.m → A i ∉ M) : W5 P w C CU CP H' A S :=
  { W with st := W.st.kp k (o _ (by omega)) (o _ (by omega)), bk := W.bk.kp k t (o _ (by omega)) (o _ (by omega)) (o _ (by omega)) (o _ (by omega)), th := W.th.kp k t (o _ (by omega)), e1 := k _ _ (o _ (by omega)) W.e1, e2 := (let ⟨xs, e⟩ := W.e2; ⟨xs, k _ _ (o _ (by omega)) e⟩), e3 := k _ _ (o _ (by omega)) W.e3, e4 := k _ _ (o _ (by omega)) W.e4, lh := W.lh.kp k (o _ (by omega)), lp := k _ _ (o _ (by omega)) W.lp, lo := k _ _ (o _ (by omega)) W.lo, lf := k _ _ (o _ (by omega)) W.lf, pz := fun i hi => k _ _ (o _ (by omega)) (W.pz i hi), po := fun i hi => (W.po i hi).kp k (o _ (by omega)), pr := fun i hi => k _ _ (o _ (by omega)) (W.pr i hi), pf := fun i hi => (W.pf i hi).kp k (o _ (by omega)), dk := (let ⟨n, D⟩ := W.dk; ⟨n, D.kp k (o _ (by omega)) (o _ (by omega))⟩) }
/-- draws and new things -/
theorem W5.kx (W : W5 P w C CU CP H A S) (x : KX (A 0) H H') (D : ∃ n, Deck H' (A 0) (A 16) n) : W5 P w C CU CP H' A S :=
  let R := W.keep (J := [0]) (by simp; omega) (by simpa using x.p) x.t
  { W with st := R.st (by simp) (by simp), bk := R.bk (by simp) (by simp) (by simp) (by simp), th := R.th (by simp), e1 := R.e1 (by simp), e2 := R.e2 (by simp), e3 := R.e3 (by simp), e4 := R.e4 (by simp), lh := R.lh (by simp), lp := R.lp (by simp), lo := R.lo (by simp), lf := R.lf (by simp), pz := fun i hi => R.pz i hi (by simp), po := fun i hi => R.po i hi (by simp), pr := fun i hi => R.pr i hi (by simp), pf := fun i hi => R.pf i hi (by simp), dk := D }
theorem W5.same (W : W5 P w C CU CP H A S) (k : Same H H') : W5 P w C CU CP H' A S :=
  let ⟨n, D⟩ := W.dk
  W.kx (KX.of k) ⟨n, D.kp (M := []) (Kp.of k) (by simp) (by simp)⟩
theorem ran (i j : Nat) (h : j = 17 + 4 * i ∨ j = 18 + 4 * i ∨ j = 19 + 4 * i ∨ j = 20 + 4 * i) (J : List Nat) (hJ : ∀ x ∈ J, x < 17) : j ∉ J := fun hj => by have := hJ j hj; omega
theorem W5.put (W : W5 P w C CU CP H A S) {k' : Nat} {F' : Nat → Prop} (k : Kp ([1, 2, 7].map A) H H') (t : KT H H') (st : StAt CU H' (A 1) S.dy (A 12) (A 2) (hrs (A 3) (A 4) (A 5) (A 6)) k' F') (lh : FAt H' (A 7) F') (Fb : ∀ n, F' n → n < S.cs.length) : W5 P w C CU CP H' A { S with k := k', F := F' } :=
  let R := W.keep (J := [1, 2, 7]) (by simp; omega) k t
  { W with st := st, lh := lh, Fb := Fb, bk := R.bk (by simp) (by simp) (by simp) (by simp), th := R.th (by simp), e1 := R.e1 (by simp), e2 := R.e2 (by simp), e3 := R.e3 (by simp), e4 := R.e4 (by simp), lp := R.lp (by simp), lo := R.lo (by simp), lf := R.lf (by simp), pz := fun i hi => R.pz i hi (ran i _ (by simp) _ (by simp)), po := fun i hi => R.po i hi (ran i _ (by simp) _ (by simp)), pr := fun i hi => R.pr i hi (ran i _ (by simp) _ (by simp)), pf := fun i hi => R.pf i hi (ran i _ (by simp) _ (by simp)), dk := R.dk (by simp) (by simp) }
theorem W5.far (W : W5 P w C CU CP H A S) {fs' : List (TTx × Nat)} (k : Kp ([5, 11].map A) H H') (t : KT H H') (e3 : H' (A 5) = some (.dT (farK fs'))) (lf : H' (A 11) = some (.dT (farK fs'))) (fb : ∀ q ∈ fs', q.2 < S.cs.length) (fn : (fs'.map (·.1)).Nodup) (fl : fs'.length ≤ 100) : W5 P w C CU CP H' A { S with fs := fs' } :=
  let R := W.keep (J := [5, 11]) (by simp; omega) k t
  { W with e3 := e3, lf := lf, fb := fb, fn := fn, fl := fl, st := R.st (by simp) (by simp), bk := R.bk (by simp) (by simp) (by simp) (by simp), th := R.th (by simp), e1 := R.e1 (by simp), e2 := R.e2 (by simp), e4 := R.e4 (by simp), lh := R.lh (by simp), lp := R.lp (by simp), lo := R.lo (by simp), pz := fun i hi => R.pz i hi (ran i _ (by simp) _ (by simp)), po := fun i hi => R.po i hi (ran i _ (by simp) _ (by simp)), pr := fun i hi => R.pr i hi (ran i _ (by simp) _ (by simp)), pf := fun i hi => R.pf i hi (ran i _ (by simp) _ (by simp)), dk := R.dk (by simp) (by simp) }
/-- roots: the house's list of pins is a new one -/
theorem W5.roots (W : W5 P w C CU CP H A S) {x : Addr} {al' : List Nat} (hx : H x = none) (k : Kp ([1].map A) H H') (t : KT H H') (st : StAt CU H' (A 1) S.dy (A 12) (A 2) (hrs (A 3) (A 4) (A 5) x) S.k S.F) (e4 : H' x = some (.lst (al'.map fun i => V.ref (A (17 + 4 * i))))) (h1 : ∀ i ∈ al', i < S.m) (h2 : ∀ i, i < S.m → S.lo i = false → i ∈ al') (h3 : al'.length ≤ S.m) : W5 P w C CU CP H' (setA A 6 x) { S with al := al' } :=
  let R := W.keep (J := [1]) (by simp; omega) k t
  have n : ∀ {i j : Nat}, j = 17 + i → setA A 6 x j = A j := fun h => setA_ne (by omega)
  { W with
    inj := inj_set W.inj (W.fresh hx)
    st := st, e4 := by
      show H' (setA A 6 x 6) = _
      rw [setA_same, e4]
      congr 2
      refine List.map_congr_left fun i _ => ?_
      rw [setA_ne (by omega)]
    al1 := h1, al2 := h2, al3 := h3, bk := R.bk (by simp) (by simp) (by simp) (by simp), th := R.th (by simp), e1 := R.e1 (by simp), e2 := R.e2 (by simp), e3 := R.e3 (by simp), lh := R.lh (by simp)
    lp := by
      show H' (A 9) = some (.lst ((List.range S.m).map fun i => V.ref (setA A 6 x (17 + 4 * i))))
      rw [R.lp (by simp)]
      congr 2
      refine List.map_congr_left fun i _ => ?_
      rw [setA_ne (by omega)]
    lo := by
      show H' (A 10) = some (.lst ((List.range S.m).map fun i => V.ref (setA A 6 x (19 + 4 * i))))
      rw [R.lo (by simp)]
      congr 2
      refine List.map_congr_left fun i _ => ?_
      rw [setA_ne (by omega)]
    lf := R.lf (by simp)
    pz := fun i hi => by
      show pinO CP H' (setA A 6 x (17 + 4 * i)) (S.dz i) (A 1) (setA A 6 x (18 + 4 * i)) (S.lo i)
      rw [setA_ne (by omega), setA_ne (by omega)]
      exact R.pz i hi (ran i _ (by simp) _ (by simp))
    po := fun i hi => by
      rw [setA_ne (by omega)]
      exact R.po i hi (ran i _ (by simp) _ (by simp))
    pr := fun i hi => by
      rw [setA_ne (by omega), setA_ne (by omega)]
      exact R.pr i hi (ran i _ (by simp) _ (by simp))
    pf := fun i hi => by
      rw [setA_ne (by omega)]
      exact R.pf i hi (ran i _ (by simp) _ (by simp))
    dk := R.dk (by simp) (by simp) }
def upN {β : Type} (f : Nat → β) (i : Nat) (x : β) : Nat → β := fun j => if j = i then x else f j
theorem upN_same {β : Type} {f : Nat → β} {i : Nat} {x : β} : upN f i x i = x := if_pos rfl
theorem upN_ne {β : Type} {f : Nat → β} {i j : Nat} {x : β} (h : j ≠ i) : upN f i x j = f j := if_neg h
theorem W5.add (W : W5 P w C CU CP H A S) {i : Nat} {G' : Nat → Prop} (hi : i < S.m) (k : Kp ([18 + 4 * i, 20 + 4 * i].map A) H H') (t : KT H H') (po : FAt H' (A (18 + 4 * i)) G') (pf : FAt H' (A (20 + 4 * i)) G') (hl : S.lo i = false) (hb : ∀ n, G' n → n < S.cs.length) : W5 P w C CU CP H' A { S with G := upN S.G i G' } :=
  let R := W.keep (J := [18 + 4 * i, 20 + 4 * i]) (by simp; omega) k t
  { W with
    st := R.st (by simp; omega) (by simp; omega), bk := R.bk (by simp; omega) (by simp; omega) (by simp; omega) (by simp; omega), th := R.th (by simp; omega), e1 := R.e1 (by simp; omega), e2 := R.e2 (by simp; omega), e3 := R.e3 (by simp; omega), e4 := R.e4 (by simp; omega), lh := R.lh (by simp; omega), lp := R.lp (by simp; omega), lo := R.lo (by simp; omega), lf := R.lf (by simp; omega), dk := R.dk (by simp; omega) (by simp; omega)
    pz := fun j hj => R.pz j hj (by simp; omega)
    po := fun j hj => by
      show FAt H' (A (18 + 4 * j)) (upN S.G i G' j)
      by_cases h : j = i
      · subst h; rw [upN_same]; exact po
      · rw [upN_ne h]; exact R.po j hj (by simp; omega)
    pr := fun j hj => R.pr j hj (by simp; omega)
    pf := fun j hj => by
      show FAt H' (A (20 + 4 * j)) (upN S.G i G' j)
      by_cases h : j = i
      · subst h; rw [upN_same]; exact pf
      · rw [upN_ne h]; exact R.pf j hj (by simp; omega)
    le := fun j hj hlo n => by
      show ¬ upN S.G i G' j n
      by_cases h : j = i
      · subst h; rw [hl] at hlo; cases hlo
      · rw [upN_ne h]; exact W.le j hj hlo n
    gb := fun j n hj hg => by
      have hg : upN S.G i G' j n := hg
      by_cases h : j = i
      · subst h; rw [upN_same] at hg; exact hb n hg
      · rw [upN_ne h] at hg; exact W.gb j n hj hg }
theorem W5.letgo (W : W5 P w C CU CP H A S) {i : Nat} {od r f : Addr} (hi : i < S.m) (hod : H od = none) (hr : H r = none) (hf : H f = none) (n1 : od ≠ r) (n2 : od ≠ f) (n3 : r ≠ f) (k : Kp ([17 + 4 * i, 10].map A) H H') (t : KT H H')
    (pz : pinO CP H' (A (17 + 4 * i)) (S.dz i) (A 1) od true) (po : FAt H' od (fun _ => False)) (pr : H' r = some (.lst [.ref f, .bl false])) (pf : FAt H' f (fun _ => False))
    (lo : H' (A 10) = some (.lst (((List.range S.m).map fun j => V.ref (A (19 + 4 * j))).set i (.ref r)))) : W5 P w C CU CP H' (setA (setA (setA A (18 + 4 * i) od) (19 + 4 * i) r) (20 + 4 * i) f) { S with lo := upN S.lo i true, G := upN S.G i (fun _ => False) } :=
  let R := W.keep (J := [17 + 4 * i, 10]) (by simp; omega) k t
  have e : ∀ j, j ≠ 18 + 4 * i → j ≠ 19 + 4 * i → j ≠ 20 + 4 * i → setA (setA (setA A (18 + 4 * i) od) (19 + 4 * i) r) (20 + 4 * i) f j = A j := fun j h1 h2 h3 => by rw [setA_ne h3, setA_ne h2, setA_ne h1]
  have e18 : setA (setA (setA A (18 + 4 * i) od) (19 + 4 * i) r) (20 + 4 * i) f (18 + 4 * i) = od := by rw [setA_ne (by omega), setA_ne (by omega), setA_same]
  have e19 : setA (setA (setA A (18 + 4 * i) od) (19 + 4 * i) r) (20 + 4 * i) f (19 + 4 * i) = r := by rw [setA_ne (by omega), setA_same]
  have e20 : setA (setA (setA A (18 + 4 * i) od) (19 + 4 * i) r) (20 + 4 * i) f (20 + 4 * i) = f := setA_same
  { W with
    inj := by
      refine inj_set (inj_set (inj_set W.inj (W.fresh hod)) fun j hj => ?_) fun j hj => ?_
      · unfold setA; split
        · exact n1
        · exact W.fresh hr j hj
      · unfold setA; split
        · exact n3
        · split
          · exact n2
          · exact W.fresh hf j hj
    st := by
      rw [e _ (by omega) (by omega) (by omega), e _ (by omega) (by omega) (by omega), e _ (by omega) (by omega) (by omega), e _ (by omega) (by omega) (by omega), e _ (by omega) (by omega) (by omega), e _ (by omega) (by omega) (by omega), e _ (by omega) (by omega) (by omega)]
      exact R.st (by simp; omega) (by simp; omega)
    bk := by
      rw [e _ (by omega) (by omega) (by omega), e _ (by omega) (by omega) (by omega), e _ (by omega) (by omega) (by omega), e _ (by omega) (by omega) (by omega)]
      exact R.bk (by simp; omega) (by simp; omega) (by simp; omega) (by simp; omega)
    th := by rw [e _ (by omega) (by omega) (by omega)]; exact R.th (by simp; omega)
    e1 := by rw [e _ (by omega) (by omega) (by omega)]; exact R.e1 (by simp; omega)
    e2 := by rw [e _ (by omega) (by omega) (by omega)]; exact R.e2 (by simp; omega)
    e3 := by rw [e _ (by omega) (by omega) (by omega)]; exact R.e3 (by simp; omega)
    e4 := by
      rw [e _ (by omega) (by omega) (by omega), R.e4 (by simp; omega)]
      congr 2
      refine List.map_congr_left fun j _ => ?_
      rw [e _ (by omega) (by omega) (by omega)]
    lh := by rw [e _ (by omega) (by omega) (by omega)]; exact R.lh (by simp; omega)
    lp := by
      rw [e _ (by omega) (by omega) (by omega), R.lp (by simp; omega)]
      congr 2
      refine List.map_congr_left fun j _ => ?_
      rw [e _ (by omega) (by omega) (by omega)]
    lo := by
      rw [e _ (by omega) (by omega) (by omega), lo]
      congr 2
      apply List.ext_getElem?
      intro j
      rw [List.getElem?_set, List.getElem?_map, List.getElem?_map, List.length_map, List.length_range]
      by_cases h : i = j
      · subst h
        rw [if_pos rfl, if_pos hi, List.getElem?_range hi]
        show some (V.ref r) = some (V.ref _)
        rw [e19]
      · rw [if_neg h]
        by_cases hj : j < S.m
        · rw [List.getElem?_range hj]
          show some (V.ref (A (19 + 4 * j))) = some (V.ref _)
          rw [e _ (by omega) (by omega) (by omega)]
        · rw [List.getElem?_eq_none (by simpa using hj)]
          rfl
    lf := by rw [e _ (by omega) (by omega) (by omega)]; exact R.lf (by simp; omega)
    dk := by rw [e _ (by omega) (by omega) (by omega), e _ (by omega) (by omega) (by omega)]; exact R.dk (by simp; omega) (by simp; omega)
    pz := fun j hj => by
      show pinO CP H' _ (S.dz j) _ _ (upN S.lo i true j)
      rw [e 1 (by omega) (by omega) (by omega), e (17 + 4 * j) (by omega) (by omega) (by omega)]
      by_cases h : j = i
      · subst h; rw [upN_same, e18]; exact pz
      · rw [upN_ne h, e (18 + 4 * j) (by omega) (by omega) (by omega)]; exact R.pz j hj (by simp; omega)
    po := fun j hj => by
      show FAt H' _ (upN S.G i (fun _ => False) j)
      by_cases h : j = i
      · subst h; rw [upN_same, e18]; exact po
      · rw [upN_ne h, e (18 + 4 * j) (by omega) (by omega) (by omega)]; exact R.po j hj (by simp; omega)
    pr := fun j hj => by
      show H' _ = some (.lst [.ref _, .bl (!upN S.lo i true j)])
      by_cases h : j = i
      · subst h; rw [upN_same, e19, e20]; exact pr
      · rw [upN_ne h, e (19 + 4 * j) (by omega) (by omega) (by omega), e (20 + 4 * j) (by omega) (by omega) (by omega)]; exact R.pr j hj (by simp; omega)
    pf := fun j hj => by
      show FAt H' _ (upN S.G i (fun _ => False) j)
      by_cases h : j = i
      · subst h; rw [upN_same, e20]; exact pf
      · rw [upN_ne h, e (20 + 4 * j) (by omega) (by omega) (by omega)]; exact R.pf j hj (by simp; omega)
    al2 := fun j hj hlo => by
      have hlo : upN S.lo i true j = false := hlo
      by_cases h : j = i
      · subst h; rw [upN_same] at hlo; cases hlo
      · rw [upN_ne h] at hlo; exact W.al2 j hj hlo
    le := fun j hj hlo n => by
      have hlo : upN S.lo i true j = true := hlo
      show ¬ upN S.G i (fun _ => False) j n
      by_cases h : j = i
      · subst h; rw [upN_same]; exact id
      · rw [upN_ne h] at hlo; rw [upN_ne h]; exact W.le j hj hlo n
    gb := fun j n hj hg => by
      have hg : upN S.G i (fun _ => False) j n := hg
      by_cases h : j = i
      · subst h; rw [upN_same] at hg; exact hg.elim
      · rw [upN_ne h] at hg; exact W.gb j n hj hg }
def newA (A : Nat → Addr) (m : Nat) (z od r f : Addr) : Nat → Addr := setA (setA (setA (setA A (17 + 4 * m) z) (18 + 4 * m) od) (19 + 4 * m) r) (20 + 4 * m) f
theorem newA_lt {A : Nat → Addr} {m j : Nat} {z od r f : Addr} (h : j < 17 + 4 * m) : newA A m z od r f j = A j := by
  unfold newA
  rw [setA_ne (by omega), setA_ne (by omega), setA_ne (by omega), setA_ne (by omega)]
theorem newA_0 {A : Nat → Addr} {m : Nat} {z od r f : Addr} : newA A m z od r f (17 + 4 * m) = z := by
  unfold newA
  rw [setA_ne (by omega), setA_ne (by omega), setA_ne (by omega), setA_same]
theorem newA_1 {A : Nat → Addr} {m : Nat} {z od r f : Addr} : newA A m z od r f (18 + 4 * m) = od := by
  unfold newA
  rw [setA_ne (by omega), setA_ne (by omega), setA_same]
theorem newA_2 {A : Nat → Addr} {m : Nat} {z od r f : Addr} : newA A m z od r f (19 + 4 * m) = r := by
  unfold newA
  rw [setA_ne (by omega), setA_same]
theorem newA_3 {A : Nat → Addr} {m : Nat} {z od r f : Addr} : newA A m z od r f (20 + 4 * m) = f := setA_same
theorem newA_cases {m j : Nat} (h : j < 17 + 4 * (m + 1)) : j < 17 + 4 * m ∨ j = 17 + 4 * m ∨ j = 18 + 4 * m ∨ j = 19 + 4 * m ∨ j = 20 + 4 * m := by omega
theorem ran_succ {f : Nat → Addr} {m : Nat} : (List.range (m + 1)).map (fun i => V.ref (f i)) = (List.range m).map (fun i => V.ref (f i)) ++ [V.ref (f m)] := by
  rw [List.range_succ, List.map_append]
  rfl
theorem W5.pin (W : W5 P w C CU CP H A S) {z dz od r f : Addr} {G' : Nat → Prop} (hz : H z = none) (hod : H od = none) (hr : H r = none) (hf : H f = none) (n1 : z ≠ od) (n2 : z ≠ r) (n3 : z ≠ f) (n4 : od ≠ r) (n5 : od ≠ f) (n6 : r ≠ f) (k : Kp ([6, 9, 10].map A) H H') (t : KT H H')
    (pz : pinO CP H' z dz (A 1) od false) (po : FAt H' od G') (pr : H' r = some (.lst [.ref f, .bl true])) (pf : FAt H' f G') (hb : ∀ n, G' n → n < S.cs.length) (hm : S.m < 100)
    (e4 : H' (A 6) = some (.lst ((S.al.map fun i => V.ref (A (17 + 4 * i))) ++ [.ref z])))
    (lp : H' (A 9) = some (.lst (((List.range S.m).map fun i => V.ref (A (17 + 4 * i))) ++ [.ref z])))
    (lo : H' (A 10) = some (.lst (((List.range S.m).map fun i => V.ref (A (19 + 4 * i))) ++ [.ref r]))) :
    W5 P w C CU CP H' (newA A S.m z od r f) { S with m := S.m + 1, dz := upN S.dz S.m dz, lo := upN S.lo S.m false, G := upN S.G S.m G', al := S.al ++ [S.m] } :=
  let R := W.keep (J := [6, 9, 10]) (by simp; omega) k t
  have e : ∀ {j}, j < 17 + 4 * S.m → newA A S.m z od r f j = A j := fun h => newA_lt h
  have lt : ∀ {j : Nat}, j < S.m + 1 → j < S.m ∨ j = S.m := fun h => by omega
  { W with
    inj := fun i j hi hj ij => by
      have fz := W.fresh hz
      have fo := W.fresh hod
      have fr := W.fresh hr
      have ff := W.fresh hf
      rcases newA_cases hi with h | h | h | h | h <;> rcases newA_cases hj with g | g | g | g | g
      · rw [e h, e g] at ij; exact W.inj i j h g ij
      all_goals (first | (exact absurd rfl (by omega)) | skip)
      all_goals first
        | (subst h; subst g; rfl)
        | (exfalso; subst g; rw [e h] at ij; first | (rw [newA_0] at ij; exact fz _ h ij) | (rw [newA_1] at ij; exact fo _ h ij) | (rw [newA_2] at ij; exact fr _ h ij) | (rw [newA_3] at ij; exact ff _ h ij))
        | (exfalso; subst h; rw [e g] at ij; first | (rw [newA_0] at ij; exact fz _ g ij.symm) | (rw [newA_1] at ij; exact fo _ g ij.symm) | (rw [newA_2] at ij; exact fr _ g ij.symm) | (rw [newA_3] at ij; exact ff _ g ij.symm))
        | (exfalso; subst h; subst g; first
            | (rw [newA_0, newA_1] at ij; exact n1 ij) | (rw [newA_0, newA_2] at ij; exact n2 ij) | (rw [newA_0, newA_3] at ij; exact n3 ij)
            | (rw [newA_1, newA_0] at ij; exact n1 ij.symm) | (rw [newA_1, newA_2] at ij; exact n4 ij) | (rw [newA_1, newA_3] at ij; exact n5 ij)
            | (rw [newA_2, newA_0] at ij; exact n2 ij.symm) | (rw [newA_2, newA_1] at ij; exact n4 ij.symm) | (rw [newA_2, newA_3] at ij; exact n6 ij)
            | (rw [newA_3, newA_0] at ij; exact n3 ij.symm) | (rw [newA_3, newA_1] at ij; exact n5 ij.symm) | (rw [newA_3, newA_2] at ij; exact n6 ij.symm))
    st := by
      rw [e (by omega), e (by omega), e (by omega), e (by omega), e (by omega), e (by omega), e (by omega)]
      exact R.st (by simp) (by simp)
    bk := by
      rw [e (by omega), e (by omega), e (by omega), e (by omega)]
      exact R.bk (by simp) (by simp) (by simp) (by simp)
    th := by rw [e (by omega)]; exact R.th (by simp)
    e1 := by rw [e (by omega)]; exact R.e1 (by simp)
    e2 := by rw [e (by omega)]; exact R.e2 (by simp)
    e3 := by rw [e (by omega)]; exact R.e3 (by simp)
    e4 := by
      rw [e (by omega), e4, List.map_append]
      congr 2
      congr 1
      · refine List.map_congr_left fun j hj => ?_
        have := W.al1 j hj
        rw [e (by omega)]
      · show [V.ref z] = [V.ref _]
        rw [newA_0]
    lh := by rw [e (by omega)]; exact R.lh (by simp)
    lp := by
      show H' _ = some (.lst ((List.range (S.m + 1)).map fun i => V.ref (newA A S.m z od r f (17 + 4 * i))))
      rw [e (by omega), lp, ran_succ, newA_0]
      congr 3
      refine List.map_congr_left fun j hj => ?_
      have := List.mem_range.mp hj
      rw [e (by omega)]
    lo := by
      show H' _ = some (.lst ((List.range (S.m + 1)).map fun i => V.ref (newA A S.m z od r f (19 + 4 * i))))
      rw [e (by omega), lo, ran_succ, newA_2]
      congr 3
      refine List.map_congr_left fun j hj => ?_
      have := List.mem_range.mp hj
      rw [e (by omega)]
    lf := by rw [e (by omega)]; exact R.lf (by simp)
    dk := by rw [e (by omega), e (by omega)]; exact R.dk (by simp) (by simp)
    pz := fun j hj => by
      show pinO CP H' _ (upN S.dz S.m dz j) _ _ (upN S.lo S.m false j)
      rcases lt hj with h | rfl
      · rw [upN_ne (by omega), upN_ne (by omega), e (by omega), e (by omega), e (by omega)]; exact R.pz j h (by simp; omega)
      · rw [upN_same, upN_same, newA_0, newA_1, e (by omega)]; exact pz
    po := fun j hj => by
      show FAt H' _ (upN S.G S.m G' j)
      rcases lt hj with h | rfl
      · rw [upN_ne (by omega), e (by omega)]; exact R.po j h (by simp; omega)
      · rw [upN_same, newA_1]; exact po
    pr := fun j hj => by
      show H' _ = some (.lst [.ref _, .bl (!upN S.lo S.m false j)])
      rcases lt hj with h | rfl
      · rw [upN_ne (by omega), e (by omega), e (by omega)]; exact R.pr j h (by simp; omega)
      · rw [upN_same, newA_2, newA_3]; exact pr
    pf := fun j hj => by
      show FAt H' _ (upN S.G S.m G' j)
      rcases lt hj with h | rfl
      · rw [upN_ne (by omega), e (by omega)]; exact R.pf j h (by simp; omega)
      · rw [upN_same, newA_3]; exact pf
    al1 := fun j hj => by
      show j < S.m + 1
      rcases List.mem_append.mp hj with h | h
      · have := W.al1 j h; omega
      · have : j = S.m := by simpa using h
        omega
    al2 := fun j hj hlo => by
      have hlo : upN S.lo S.m false j = false := hlo
      show j ∈ S.al ++ [S.m]
      rcases lt hj with h | rfl
      · rw [upN_ne (by omega)] at hlo; exact List.mem_append_left _ (W.al2 j h hlo)
      · simp
    al3 := by
      show (S.al ++ [S.m]).length ≤ S.m + 1
      rw [List.length_append]
      have := W.al3
      simp; omega
    le := fun j hj hlo n => by
      have hlo : upN S.lo S.m false j = true := hlo
      show ¬ upN S.G S.m G' j n
      rcases lt hj with h | rfl
      · rw [upN_ne (by omega)] at hlo; rw [upN_ne (by omega)]; exact W.le j h hlo n
      · rw [upN_same] at hlo; cases hlo
    gb := fun j n hj hg => by
      have hg : upN S.G S.m G' j n := hg
      rcases lt hj with h | rfl
      · rw [upN_ne (by omega)] at hg; exact W.gb j n h hg
      · rw [upN_same] at hg; exact hb n hg
    ml := by show S.m + 1 ≤ 100; omega }
end
theorem rise_ext5 : ∀ {a b : List Nat}, a.Pairwise (· < ·) → b.Pairwise (· < ·) → (∀ n, n ∈ a ↔ n ∈ b) → a = b
  | [], [], _, _, _ => rfl
  | [], y :: b, _, _, h => by have := (h y).mpr (by simp); cases this
  | x :: a, [], _, _, h => by have := (h x).mp (by simp); cases this
  | x :: a, y :: b, ha, hb, h => by
    rw [List.pairwise_cons] at ha hb
    have e : x = y := by
      have h1 := (h x).mp (by simp)
      have h2 := (h y).mpr (by simp)
      rcases List.mem_cons.mp h1 with e | g1
      · exact e
      · rcases List.mem_cons.mp h2 with e | g2
        · exact e.symm
        · have := hb.1 x g1
          have := ha.1 y g2
          omega
    subst e
    rw [rise_ext5 ha.2 hb.2 fun n => ?_]
    constructor
    · intro hn
      rcases List.mem_cons.mp ((h n).mp (by simp [hn])) with e | g
      · have := ha.1 n hn; omega
      · exact g
    · intro hn
      rcases List.mem_cons.mp ((h n).mpr (by simp [hn])) with e | g
      · have := hb.1 n hn; omega
      · exact g
theorem few_rise {ns : List Nat} {N : Nat} (up : ns.Pairwise (· < ·)) (h : ∀ n ∈ ns, n < N) : ns.length ≤ N := by
  have := nodup_le (ns.map fun n : Nat => (n : Int)) ((List.range N).map fun n : Nat => (n : Int)) (by
    unfold List.Nodup
    rw [List.pairwise_map]
    exact up.imp fun {a b} h => by omega) fun x hx => by
      obtain ⟨n, hn, rfl⟩ := List.mem_map.mp hx
      exact List.mem_map.mpr ⟨n, List.mem_range.mpr (h n hn), rfl⟩
  rwa [List.length_map, List.length_map, List.length_range] at this
theorem sd_lst {H : Hp} {n : Nat} {p q : Addr} {xs : List V} (h1 : H p = some (.lst xs)) (h2 : H q = some (.lst xs)) (hs : ∀ x ∈ xs, Sc x) (hl : xs.length ≤ 100000) : SD (n + 2) H (.ref p) (.ref q) :=
  Or.inr ⟨p, q, _, _, rfl, rfl, .inr ⟨h1, h2⟩, rfl, hl, fun i a b ha hb => by
    rw [ha] at hb
    cases hb
    exact Or.inl ⟨rfl, hs a (List.mem_of_getElem? ha)⟩⟩
theorem sd_nats {H : Hp} {n : Nat} {p q : Addr} {ns : List Nat} (h1 : H p = some (.lst (ns.map nV))) (h2 : H q = some (.lst (ns.map nV))) (hl : ns.length ≤ 1000) : SD (n + 2) H (.ref p) (.ref q) :=
  sd_lst h1 h2 (fun x hx => by obtain ⟨m, _, rfl⟩ := List.mem_map.mp hx; trivial) (by rw [List.length_map]; omega)
theorem RfAt.sd2 {H : Hp} {t u : Addr} {r : Rf} (h : RfAt H t r) (h' : RfAt H u r) : SD 2 H (.ref t) (.ref u) := by
  have key : ∀ {xs : List V}, H t = some (.tup xs) → H u = some (.tup xs) → (∀ x ∈ xs, Sc x) → xs.length ≤ 100000 → SD 2 H (.ref t) (.ref u) := fun {xs} h1 h2 hs hl =>
    Or.inr ⟨t, u, _, _, rfl, rfl, .inl ⟨h1, h2⟩, rfl, hl, fun i a b ha hb => by
      rw [ha] at hb
      cases hb
      exact Or.inl ⟨rfl, hs a (List.mem_of_getElem? ha)⟩⟩
  cases r <;> exact key h h' (by simp [Sc]) (by simp)
def Nx (A : Nat → Addr) (S : PSt) (A' : Nat → Addr) (S' : PSt) : Prop := (∀ j, j < 17 → j ≠ 6 → A' j = A j) ∧ S'.cs = S.cs ∧ S'.m ≤ S.m + 1 ∧ S'.fs.length ≤ S.fs.length + 1
def Nx0 (A : Nat → Addr) (S : PSt) (A' : Nat → Addr) (S' : PSt) : Prop := (∀ j, j ≠ 6 → A' j = A j) ∧ ∃ al, S' = { S with al := al }
theorem Nx0.refl {A : Nat → Addr} {S : PSt} : Nx0 A S A S := ⟨fun _ _ => rfl, S.al, rfl⟩
theorem Nx0.trans {A A' A'' : Nat → Addr} {S S' S'' : PSt} (h : Nx0 A S A' S') (g : Nx0 A' S' A'' S'') : Nx0 A S A'' S'' := by
  obtain ⟨h1, al, rfl⟩ := h
  obtain ⟨g1, al', rfl⟩ := g
  exact ⟨fun j hj => (g1 j hj).trans (h1 j hj), al', rfl⟩
theorem Nx0.nx {A A' : Nat → Addr} {S S' : PSt} (h : Nx0 A S A' S') : Nx A S A' S' := by
  obtain ⟨h1, al, rfl⟩ := h
  exact ⟨fun j _ hj => h1 j hj, rfl, Nat.le_succ _, Nat.le_succ _⟩
def pinDs (A : Nat → Addr) (S : PSt) : List PinD := S.al.map fun i => ⟨A (17 + 4 * i), S.dz i, A (18 + 4 * i), S.lo i, S.G i⟩
def onDs (A : Nat → Addr) (S : PSt) : List OnD := (List.range S.m).map fun i => ⟨A (19 + 4 * i), A (20 + 4 * i), !S.lo i, S.G i⟩
/-- what is kept on: rising names -/
def RtP (S : PSt) (n : Nat) : Prop := (∃ q ∈ S.fs, q.2 = n) ∨ ∃ i, i < S.m ∧ S.G i n
section
variable {P : Program} {w : World} {K : PySem.W.Frag} {C CU CP : Addr} {H : Hp} {Q : VK} {A : Nat → Addr} {S : PSt}
theorem W5.rtP (W : W5 P w C CU CP H A S) (n : Nat) : rootsP [] S.fs (pinDs A S) n ↔ RtP S n := by
  unfold rootsP RtP pinDs
  constructor
  · rintro (⟨q, hq, _⟩ | h | ⟨q, hq, hb, hg⟩)
    · cases hq
    · exact .inl h
    · obtain ⟨i, hi, rfl⟩ := List.mem_map.mp hq
      exact .inr ⟨i, W.al1 i hi, hg⟩
  · rintro (h | ⟨i, hi, hg⟩)
    · exact .inr (.inl h)
    · refine .inr (.inr ⟨_, List.mem_map.mpr ⟨i, ?_, rfl⟩, ?_, hg⟩)
      · refine W.al2 i hi ?_
        cases h : S.lo i with
        | false => rfl
        | true => exact absurd hg (W.le i hi h n)
      · cases h : S.lo i with
        | false => rfl
        | true => exact absurd hg (W.le i hi h n)
theorem W5.onP (n : Nat) : ((∃ q ∈ S.fs, q.2 = n) ∨ ∃ q ∈ onDs A S, q.G n) ↔ RtP S n := by
  unfold RtP onDs
  constructor
  · rintro (h | ⟨q, hq, hg⟩)
    · exact .inl h
    · obtain ⟨i, hi, rfl⟩ := List.mem_map.mp hq
      exact .inr ⟨i, List.mem_range.mp hi, hg⟩
  · rintro (h | ⟨i, hi, hg⟩)
    · exact .inl h
    · exact .inr ⟨_, List.mem_map.mpr ⟨i, List.mem_range.mpr hi, rfl⟩, hg⟩
/-- the house's roots asked for -/
theorem w_roots5 (W : W5 P w C CU CP H A S) {E : XK} {a : Addr} (ea : A 1 = a) (h : ∀ (ns : List Nat) (l : Addr) (H' : Hp) (A' : Nat → Addr) (S' : PSt), W5 P w C CU CP H' A' S' → Nx0 A S A' S' → ns.Pairwise (· < ·) → (∀ n, n ∈ ns ↔ RtP S n) → H l = none → H' l = some (.lst (ns.map nV)) → (∀ i, i < 17 + 4 * S.m → A' i ≠ l) → Kp [A 1] H H' → KT H H' → Q (.ref l) H') : spRoots CU CP [.ref a] H Q E := by
  subst ea
  have few := W.bk.few
  refine ⟨A 1, S.dy, A 12, A 2, A 3, A 4, A 5, A 6, S.k, S.F, [], S.fs, pinDs A S, rfl, W.st, W.e1, W.e3, ?_, by simp, by have := W.fl; omega, by unfold pinDs; rw [List.length_map]; have := W.al3; have := W.ml; omega, by simp, fun q hq => by have := W.fb q hq; omega, fun q hq => ?_, fun ns l a4' H' hup hmem hl h4 hne st el e4 k t => ?_⟩
  · rw [W.e4]
    unfold pinDs
    rw [List.map_map]
    rfl
  · unfold pinDs at hq
    obtain ⟨i, hi, rfl⟩ := List.mem_map.mp hq
    have him := W.al1 i hi
    exact ⟨W.pz i him, W.po i him, fun n hn => by have := W.gb i n him hn; omega⟩
  · have W' := W.roots (al' := S.al.filter fun i => !S.lo i) h4 (by simpa using k) t st (by
      rw [e4]
      unfold pinDs
      rw [List.filter_map, List.map_map]
      rfl) (fun i hi => W.al1 i (List.mem_filter.mp hi).1) (fun i hi hlo => List.mem_filter.mpr ⟨W.al2 i hi hlo, by rw [hlo]; rfl⟩) (Nat.le_trans (List.length_filter_le _ _) W.al3)
    refine h ns l H' _ _ W' ⟨fun j hj => setA_ne hj, _, rfl⟩ hup (fun n => (hmem n).trans (W.rtP n)) hl el (fun i hi => ?_) k t
    unfold setA
    split
    · exact hne
    · exact W.fresh hl i hi
theorem W5.few (W : W5 P w C CU CP H A S) {ns : List Nat} (up : ns.Pairwise (· < ·)) (h : ∀ n, n ∈ ns ↔ RtP S n) : ns.length ≤ 1000 := by
  have := W.bk.few
  have := few_rise (N := S.cs.length) up fun n hn => by
    rcases (h n).mp hn with ⟨q, hq, rfl⟩ | ⟨i, hi, hg⟩
    · exact W.fb q hq
    · exact W.gb i n hi hg
  omega
theorem w_lroots5 (W : W5 P w C CU CP H A S) {E : XK} {a b : Addr} (ea : A 11 = a) (eb : A 10 = b) (h : ∀ (ns : List Nat) (l : Addr) (H' : Hp), ns.Pairwise (· < ·) → (∀ n, n ∈ ns ↔ RtP S n) → H l = none → H' l = some (.lst (ns.map nV)) → Same H H' → Q (.ref l) H') : spLRoots [.ref a, .ref b] H Q E := by
  subst ea eb
  have few := W.bk.few
  have fl := W.fl
  have ml := W.ml
  refine ⟨A 11, A 10, S.fs, onDs A S, rfl, W.lf, ?_, by omega, by unfold onDs; rw [List.length_map, List.length_range]; omega, W.fn, fun q hq => by have := W.fb q hq; omega, fun q hq => ?_, fun ns l H' hup hmem hl el k => h ns l H' hup (fun n => (hmem n).trans (W5.onP n)) hl el k⟩
  · rw [W.lo]
    unfold onDs
    rw [List.map_map]
    rfl
  · unfold onDs at hq
    obtain ⟨i, hi, rfl⟩ := List.mem_map.mp hq
    have him := List.mem_range.mp hi
    exact ⟨⟨W.pr i him, W.pf i him⟩, fun n hn => by have := W.gb i n him hn; omega⟩
theorem w_far5 (W : W5 P w C CU CP H A S) {E : XK} {a : Addr} (ea : A 1 = a) (h : ∀ (ts : List T3) (l : Addr) (H' : Hp), (ts.map (·.2)).Perm (S.fs.map fun q => (q.1, (q.2 : Int))) → ts.Pairwise (fun x y => ttLt x.2.1 y.2.1) → H l = none → H' l = some (.lst (ts.map fun t => V.ref t.1)) → (∀ t ∈ ts, H' t.1 = some (.tup [.str t.2.1.1, .str t.2.1.2, .int t.2.2])) → Same H H' → Q (.ref l) H') : spFar CU [.ref a] H Q E := by
  subst ea
  have := W.fl
  exact ⟨A 1, S.dy, A 12, A 2, A 3, A 4, A 5, A 6, S.k, S.F, S.fs, rfl, W.st, W.e3, W.fn, by omega, h⟩
/-- two sorted lists of the same far marks tell the same -/
theorem t3_same {fs : List (TTx × Nat)} {a b : List (TTx × Int)} (ha : a.Perm (fs.map fun q => (q.1, (q.2 : Int)))) (hb : b.Perm (fs.map fun q => (q.1, (q.2 : Int)))) (nd : (fs.map (·.1)).Nodup) (sa : a.Pairwise (fun x y => ttLt x.1 y.1)) (sb : b.Pairwise (fun x y => ttLt x.1 y.1)) : a = b := by
  have hk : a.map (·.1) = b.map (·.1) := by
    refine tt_uniq (by rw [List.pairwise_map]; exact sa) (by rw [List.pairwise_map]; exact sb) fun x => ?_
    rw [(ha.map (·.1)).mem_iff, (hb.map (·.1)).mem_iff]
  have val : ∀ {l : List (TTx × Int)}, l.Perm (fs.map fun q => (q.1, (q.2 : Int))) → ∀ q ∈ l, (fs.lookup q.1).map (fun n : Nat => (n : Int)) = some q.2 := fun hl q hq => by
    obtain ⟨p, hp, rfl⟩ := List.mem_map.mp (hl.mem_iff.mp hq)
    rw [lookup_nd nd hp]
    rfl
  have hl : a.length = b.length := by have := congrArg List.length hk; simpa using this
  apply List.ext_getElem hl
  intro i h1 h2
  have e1 : (a[i]).1 = (b[i]).1 := by
    have := congrArg (fun l : List TTx => l[i]?) hk
    simp only [List.getElem?_map, List.getElem?_eq_getElem h1, List.getElem?_eq_getElem h2, Option.map_some] at this
    exact Option.some.inj this
  have v1 := val ha _ (List.getElem_mem h1)
  have v2 := val hb _ (List.getElem_mem h2)
  rw [e1, v2] at v1
  exact Prod.ext e1 (Option.some.inj v1).symm
theorem sd_t3 {H : Hp} {p q : Addr} {as bs : List T3} (h1 : H p = some (.lst (as.map fun t => V.ref t.1))) (h2 : H q = some (.lst (bs.map fun t => V.ref t.1))) (ha : ∀ t ∈ as, H t.1 = some (.tup [.str t.2.1.1, .str t.2.1.2, .int t.2.2])) (hb : ∀ t ∈ bs, H t.1 = some (.tup [.str t.2.1.1, .str t.2.1.2, .int t.2.2])) (e : as.map (·.2) = bs.map (·.2)) (hl : as.length ≤ 1000) : SD 2 H (.ref p) (.ref q) := by
  have hlen : as.length = bs.length := by have := congrArg List.length e; simpa using this
  refine Or.inr ⟨p, q, _, _, rfl, rfl, .inr ⟨h1, h2⟩, by rw [List.length_map, List.length_map]; exact hlen, by rw [List.length_map]; omega, fun i x y hx hy => ?_⟩
  rw [List.getElem?_map] at hx hy
  obtain ⟨t, ht, rfl⟩ := Option.map_eq_some_iff.mp hx
  obtain ⟨u, hu, rfl⟩ := Option.map_eq_some_iff.mp hy
  have e2 : t.2 = u.2 := by
    have := congrArg (fun l : List (TTx × Int) => l[i]?) e
    simp only [List.getElem?_map, ht, hu, Option.map_some] at this
    exact Option.some.inj this
  have et := ha t (List.mem_of_getElem? ht)
  have eu := hb u (List.mem_of_getElem? hu)
  rw [← e2] at eu
  exact sd_of et eu (by simp [Sc]) (by simp)
end
local macro_rules | `(tactic| walk_at "s") => `(tactic| first
  | with_reducible refine w_dnewT ?_
  | with_reducible refine w_valsT ?_
  | with_reducible refine w_vals ?_
  | with_reducible refine w_itemsT ?_
  | with_reducible refine w_dpopT ?_
  | with_reducible refine w_dpop1 ?_
  | ((with_reducible refine' w_isDT ?h1 ?_); (case h1 => assumption))
  | ((with_reducible refine' w_valsT' ?h1 ?_); (case h1 => assumption))
  | ((with_reducible refine' w_vals' ?h1 ?_); (case h1 => assumption))
  | ((with_reducible refine' w_itemsT' ?h1 ?_); (case h1 => assumption))
  | ((with_reducible refine' w_keysT' ?h1 ?_); (case h1 => assumption))
  )
def spLRight5 (P : Program) (w : World) (C CU CP : Addr) : Sp := fun vs H Q _ => ∃ (n : Nat) (A : Nat → Addr) (S : PSt), vs = [.ref (A 0), .ref (A 1), .ref (A 9), .ref (A 10), .ref (A 11)] ∧ W5 P w C CU CP H A S ∧ Deck H (A 0) (A 16) n ∧ n + 1 < MOSTD ∧ ∀ H' A' S', W5 P w C CU CP H' A' S' → Nx0 A S A' S' → Deck H' (A 0) (A 16) (n + 1) → Q (.bl true) H'
section
variable {P : Program} {w : World} {K : PySem.W.Frag} {mg : Str → Option Value} {base : Heap} {C CH CS CU CP : Addr}
theorem ok_lright5 {f fM fD fS fI fF fR fN fL fLR : Addr} {fd fdM fdD fdS fdI fdF fdR fdN fdL fdLR : FuncData} (T : Txt K mg) (F : Fun K "_law_pins_right" "_law_pins_right" s_law_pins_right f fd) (D_law_mixed : Df K mg "_law_mixed" s_law_mixed ["_law_cell", "_law_turn"] fM fdM) (D_law_draw : Df K mg "_law_draw" s_law_draw ["_law_deck_here", "_law_many"] fD fdD) (D_law_same : Df K mg "_law_same" s_law_same ["_law_found", "_law_due"] fS fdS) (D_law_int : Df K mg "_law_int" s_law_int ["_law_thing"] fI fdI)
    (K_House : Kl K mg "House" CU ["book", "here", "turns", "stands", "lately", "others", "pinned"]) (K_Pin : Kl K mg "Pin" CP ["store", "on", "loose"]) (D_House_far : DfM K CU "far" "House.far" s_House_far ["self"] fF fdF) (D_House_roots : DfM K CU "roots" "House.roots" s_House_roots ["self"] fR fdR) (D_Pin_names : DfM K CP "names" "Pin.names" s_Pin_names ["self"] fN fdN) (D_Pin___len__ : DfM K CP "__len__" "Pin.__len__" s_Pin___len__ ["self"] fL fdL) (D_law_roots : Df K mg "_law_roots" s_law_roots ["_law_far", "_law_ons"] fLR fdLR) : FnOk P w K mg base CX0 5 f fd ["_law_deck_here", "_law_house_here", "_law_pins", "_law_ons", "_law_far"] (spLRight5 P w C CU CP) := by
  have G_law_draw : FnOk P w K mg base CX0 2 fD fdD ["_law_deck_here", "_law_many"] spDraw := ok_draw T D_law_draw.fn D_law_mixed
  have G_law_same : FnOk P w K mg base CX0 4 fS fdS ["_law_found", "_law_due"] (spSame 2) := ok_same T D_law_same D_law_int 2
  have G_House_far : FnOk P w K mg base CX0 1 fF fdF ["self"] (spFar CU) := ok_far T D_House_far.fn K_House
  have G_House_roots : FnOk P w K mg base CX0 2 fR fdR ["self"] (spRoots CU CP) := ok_roots T D_House_roots.fn K_House K_Pin D_Pin_names
  have G_Pin_names : FnOk P w K mg base CX0 1 fN fdN ["self"] (spPNames CP) := ok_pnames T D_Pin_names.fn K_Pin
  have G_Pin___len__ : FnOk P w K mg base CX0 1 fL fdL ["self"] (spPLen CP) := ok_plen T D_Pin___len__.fn K_Pin
  have G_law_roots : FnOk P w K mg base CX0 1 fLR fdLR ["_law_far", "_law_ons"] spLRoots := ok_lroots T D_law_roots.fn
  have cl := K_House.cl
  have clP := K_Pin.cl
  refine F.ok sc_law_pins_right (fun vs H Q E h => ?_) (fun cdv A outer s H vs Q E hr h => ?_)
  · obtain ⟨n, A, S, rfl, _⟩ := h
    rfl
  · obtain ⟨n, A, S, rfl, W, D0, hn, q⟩ := h
    have hu := hu_of hr
    refine ⟨_,
      (pss_cons
        (ps_set (i := 5) sc_law_pins_right.nd rfl (.inl rfl) (pe_call G_law_draw (hr.mono (by omega)) (by rfl) D_law_draw.g D_law_draw.fn.kp D_law_draw.b .nil pass0 (pa_cons (pv 0) (pa_cons pe_int pa_nil))))
      (pss_cons
        (ps_if (PW.pt (pw_and (pt_cmpR op_eq (pv 5) pe_int (nomark _)) (pw_and1 (pt_not (pt_val (pe_call G_law_same (hr.mono (by omega)) (by rfl) D_law_same.g D_law_same.fn.kp D_law_same.b .nil pass0 (pa_cons (pe_meth0 (pv 1) K_House.cl D_House_roots.m G_House_roots (hr.mono (by omega)) D_House_roots.b .nil pass0) (pa_cons (pe_call G_law_roots (hr.mono (by omega)) (by rfl) D_law_roots.g D_law_roots.fn.kp D_law_roots.b .nil pass0 (pa_cons (pv 4) (pa_cons (pv 3) pa_nil))) pa_nil))))))))
          (pss_one
            (ps_ret pe_bl))
          pss_nil)
      (pss_cons
        (ps_for PassesOwn.never rfl (pi_range1 (by rfl) T.n_range (pa_cons (pe_callB (r := rLen K) c_len (by rfl) T.n_len (by decide +kernel) (pa_cons (pv 3) pa_nil)) pa_nil)) (pg_name (i := 6) sc_law_pins_right.nd rfl (.inl rfl))
          (pss_cons
            (ps_set (i := 7) sc_law_pins_right.nd rfl (.inl rfl) (pe_callB (c_sortA rfl) (by rfl) T.n_sorted (by decide +kernel) (pa_cons (pe_ix (r := rIxL K) ix_list (pe_ix (r := rIxL K) ix_list (pv 3) (pv 6) (fun _ _ => rfl)) pe_int (fun _ _ => rfl)) pa_nil)))
          (pss_cons
            (ps_if (PW.pt (pw_or (pt_not (pt_val (pe_call G_law_same (hr.mono (by omega)) (by rfl) D_law_same.g D_law_same.fn.kp D_law_same.b .nil pass0 (pa_cons (pe_meth0 (pe_ix (r := rIxL K) ix_list (pv 2) (pv 6) (fun _ _ => rfl)) K_Pin.cl D_Pin_names.m G_Pin_names (hr.mono (by omega)) D_Pin_names.b .nil pass0) (pa_cons (pv 7) pa_nil))))) (pw_or1 (pt_not (pt_val (pe_call G_law_same (hr.mono (by omega)) (by rfl) D_law_same.g D_law_same.fn.kp D_law_same.b .nil pass0 (pa_cons (pe_callB (c_lenO D_Pin___len__.m G_Pin___len__ (hr.mono (by omega)) D_Pin___len__.b pass0) (by rfl) T.n_len (by decide +kernel) (pa_cons (pe_ix (r := rIxL K) ix_list (pv 2) (pv 6) (fun _ _ => rfl)) pa_nil)) (pa_cons (pe_callB (r := rLen K) c_len (by rfl) T.n_len (by decide +kernel) (pa_cons (pv 7) pa_nil)) pa_nil))))))))
              (pss_one
                (ps_ret pe_bl))
              pss_nil)
          (pss_one
            (ps_expr (pe_bm PySem.F.plainAttrs_list PySem.F.slot_list_append PySem.F.type_list_append mt_append (pe_meth0 (pe_ix (r := rIxL K) ix_list (pv 2) (pv 6) (fun _ _ => rfl)) K_Pin.cl D_Pin_names.m G_Pin_names (hr.mono (by omega)) D_Pin_names.b .nil pass0) (pa_cons pe_int pa_nil)))))))
      (pss_cons
        (ps_expr (pe_bm0 PySem.F.plainAttrs_list PySem.F.slot_list_clear PySem.F.type_list_clear mt_clear (pe_meth0 (pv 1) K_House.cl D_House_far.m G_House_far (hr.mono (by omega)) D_House_far.b .nil pass0)))
      (pss_cons
        (ps_expr (pe_bm PySem.F.plainAttrs_list PySem.F.slot_list_append PySem.F.type_list_append mt_append (pe_meth0 (pv 1) K_House.cl D_House_roots.m G_House_roots (hr.mono (by omega)) D_House_roots.b .nil pass0) (pa_cons pe_int pa_nil)))
      (pss_cons
        (ps_setLc (i := 8) (own := [("_law_key", 9)]) (g := (gName 9)) rfl sc_law_pins_right.nd rfl rfl (sw_true rfl rfl rfl (by decide +kernel)) (pi_list (pe_callB (r := rSortTT) (c_sortTT rfl hr.units) (by rfl) T.n_sorted (by decide +kernel) (pa_cons (pv 4) pa_nil))) (blkOk_by (own := [("_law_key", 9)]) (N := N_law_pins_right) (sc := defScope s_law_pins_right) (by decide +kernel)) (fun _ _ _ _ _ => (pg_name (i := 9) sc_law_pins_right.nd rfl (.inl rfl))) (fun _ _ _ _ _ => pts_nil) (fun _ _ _ _ _ => (pe_tup (pa_cons (pe_ix (r := rIxT K) ix_tup (pv 9) pe_int (fun _ _ => rfl)) (pa_cons (pe_ix (r := rIxT K) ix_tup (pv 9) pe_int (fun _ _ => rfl)) (pa_cons (pe_dget hu (pv 4) (pv 9) (fun _ _ => rfl)) pa_nil))))))
      (pss_one
        (ps_ret (pe_and (pe_call G_law_same (hr.mono (by omega)) (by rfl) D_law_same.g D_law_same.fn.kp D_law_same.b .nil pass0 (pa_cons (pe_meth0 (pv 1) K_House.cl D_House_far.m G_House_far (hr.mono (by omega)) D_House_far.b .nil pass0) (pa_cons (pv 8) pa_nil))) (pe_one (pe_call G_law_same (hr.mono (by omega)) (by rfl) D_law_same.g D_law_same.fn.kp D_law_same.b .nil pass0 (pa_cons (pe_meth0 (pv 1) K_House.cl D_House_roots.m G_House_roots (hr.mono (by omega)) D_House_roots.b .nil pass0) (pa_cons (pe_call G_law_roots (hr.mono (by omega)) (by rfl) D_law_roots.g D_law_roots.fn.kp D_law_roots.b .nil pass0 (pa_cons (pv 4) (pa_cons (pv 3) pa_nil))) pa_nil)))))))))))))
      , ?_⟩
    rw [show L2.start N_law_pins_right [V.ref (A 0), V.ref (A 1), V.ref (A 9), V.ref (A 10), V.ref (A 11)] = [some (.ref (A 0)), some (.ref (A 1)), some (.ref (A 9)), some (.ref (A 10)), some (.ref (A 11)), none, none, none, none, none] from rfl]
    walk_at "x"
    refine w_draw D0 (by omega) (by decide) (by decide) fun first H1 hfirst D1 o1 => ?_
    have W1 := W.kx (D0.kx D1 o1) ⟨_, D1⟩
    walk_at "g"
    refine w_seqJ (fun σ' H' => σ' = [some (.ref (A 0)), some (.ref (A 1)), some (.ref (A 9)), some (.ref (A 10)), some (.ref (A 11)), some (.int (first : Int)), none, none, none, none] ∧ ∃ A' S', W5 P w C CU CP H' A' S' ∧ Nx0 A S A' S' ∧ Deck H' (A 0) (A 16) (n + 1)) ?_ fun U hU => ?_
    rotate_left
    · walk_at "g"
      by_cases h0 : (first : Int) = 0
      · rw [decide_eq_true h0, if_pos rfl]
        have ob1 := W1.st.ob
        walk_at "g"
        refine w_roots5 W1 rfl fun ns l H2 A2 S2 W2 nx2 hup hmem hl el nl k2 t2 => ?_
        walk_at "g"
        refine w_lroots5 W2 (nx2.1 11 (by decide)) (nx2.1 10 (by decide)) fun ns' l' H3 hup' hmem' hl' el' k3 => ?_
        have ens : ns' = ns := rise_ext5 hup' hup fun x => by
          rw [hmem', hmem]
          obtain ⟨_, al, rfl⟩ := nx2
          exact Iff.rfl
        subst ens
        walk_at "g"
        refine ⟨_, _, rfl, sd_nats (k3 _ _ el) el' (W2.few hup' hmem'), fun H4 k4 => ?_⟩
        walk_at "g"
        have D2 : Deck H2 (A 0) (A 16) (n + 1) := D1.kp k2 (by simpa using fun e => absurd (W1.inj 0 1 (by omega) (by omega) e) (by decide)) (by simpa using fun e => absurd (W1.inj 16 1 (by omega) (by omega) e) (by decide))
        have k34 := Same.trans k3 k4
        exact hU _ _ ⟨rfl, A2, S2, W2.same k34, nx2, D2.kp (M := []) (Kp.of k34) (by simp) (by simp)⟩
      · rw [decide_eq_false h0, if_neg (by decide)]
        walk_at "g"
        exact hU _ _ ⟨rfl, A, S, W1, .refl, D1⟩
    rintro σ' H2 ⟨rfl, A2, S2, W2, nx2, D2⟩
    have elo2 := W2.lo
    rw [nx2.1 10 (by decide)] at elo2
    walk_at "g"
    rw [List.length_map, List.length_range]
    have m2 : S2.m = S.m := by obtain ⟨_, al, rfl⟩ := nx2; rfl
    have ml := W.ml
    try refine w_rng1' (by omega) (by omega) ?_
    refine lp_range (fun i σ' H' => (∃ y6 y7 : Option V, σ' = [some (.ref (A 0)), some (.ref (A 1)), some (.ref (A 9)), some (.ref (A 10)), some (.ref (A 11)), some (.int (first : Int)), y6, y7, none, none]) ∧ W5 P w C CU CP H' A2 S2 ∧ Deck H' (A 0) (A 16) (n + 1)) ⟨⟨_, _, rfl⟩, W2, D2⟩ ?_ ?_
    · rintro i σ' H3 hi ⟨⟨y6, y7, rfl⟩, W3, D3⟩
      have him : i < S2.m := by omega
      have elo3 := W3.lo
      rw [nx2.1 10 (by decide)] at elo3
      have elp3 := W3.lp
      rw [nx2.1 9 (by decide)] at elp3
      have er3 := W3.pr i him
      have ez3 := W3.pz i him
      unfold pinO at ez3
      have at1 : atI ((List.range S2.m).map fun i => V.ref (A2 (19 + 4 * i))) (0 + (i : Int)) = some (.ref (A2 (19 + 4 * i))) := by rw [Int.zero_add]; exact atI_nat (by rw [List.getElem?_map, List.getElem?_range him]; rfl)
      have at2 : atI ((List.range S2.m).map fun i => V.ref (A2 (17 + 4 * i))) (0 + (i : Int)) = some (.ref (A2 (17 + 4 * i))) := by rw [Int.zero_add]; exact atI_nat (by rw [List.getElem?_map, List.getElem?_range him]; rfl)
      have at0 : atI [V.ref (A2 (20 + 4 * i)), V.bl (!S2.lo i)] 0 = some (.ref (A2 (20 + 4 * i))) := atI_nat (j := 0) rfl
      walk_at "g"
      refine w_fsort (W3.pf i him) fun ns l H4 hup hmem hnl hl el k4 => ?_
      have W4 := W3.same k4
      have elp4 := k4 _ _ elp3
      have ez4 := k4 _ _ ez3
      refine w_seq ?_
      walk_at "g"
      refine ⟨A2 (17 + 4 * i), S2.dz i, A2 1, A2 (18 + 4 * i), S2.lo i, S2.G i, rfl, ez4, W4.po i him, fun ns' l' H5 hup' hmem' hnl' hl' el' k5 => ?_⟩
      have ens : ns' = ns := rise_ext5 hup' hup fun x => by rw [hmem', hmem]
      subst ens
      have W5' := W4.same k5
      have elp5 := k5 _ _ elp4
      have ez5 := k5 _ _ ez4
      have el5 := k5 _ _ el
      walk_at "g"
      refine ⟨_, _, rfl, sd_nats el' el5 hnl, fun H6 k6 => ?_⟩
      have W6 := W5'.same k6
      have elp6 := k6 _ _ elp5
      have ez6 := k6 _ _ ez5
      have el6 := k6 _ _ el5
      walk_at "g"
      refine w_lenO ez6 ?_
      refine ⟨A2 (17 + 4 * i), S2.dz i, A2 1, A2 (18 + 4 * i), S2.lo i, S2.G i, rfl, ez6, W6.po i him, fun ns'' nd'' hm'' => ⟨ns''.length, rfl, by
        have : ns''.length = ns'.length := nodup_len nd'' (rise_nodup hup) fun x => by rw [hm'', hmem]
        omega, ?_⟩⟩
      have el'' : ns''.length = ns'.length := nodup_len nd'' (rise_nodup hup) fun x => by rw [hm'', hmem]
      rw [el'']
      walk_at "g"
      rw [List.length_map]
      refine ⟨_, _, rfl, Or.inl ⟨rfl, trivial⟩, fun H7 k7 => ?_⟩
      have W7 := W6.same k7
      have elp7 := k7 _ _ elp6
      have ez7 := k7 _ _ ez6
      walk_at "g"
      refine ⟨A2 (17 + 4 * i), S2.dz i, A2 1, A2 (18 + 4 * i), S2.lo i, S2.G i, rfl, ez7, W7.po i him, fun ns3 l3 H8 hup3 hmem3 hnl3 hl3 el3 k8 => ?_⟩
      walk_at "g"
      refine w_app el3 (by rw [List.length_map]; exact small2000 (by omega)) fun H9 e9 o9 => ?_
      have s79 : Same H7 H9 := fun b u h => o9.get (ne_of_none h hl3) (k8 _ _ h)
      walk_at "g"
      exact ⟨⟨_, _, rfl⟩, W7.same s79, D3.kp (M := []) (Kp.of (Same.trans k4 (Same.trans k5 (Same.trans k6 (Same.trans k7 s79))))) (by simp) (by simp)⟩
    rintro σ' H3 ⟨⟨y6, y7, rfl⟩, W3, D3⟩
    have ob3 := W3.st.ob
    rw [nx2.1 1 (by decide)] at ob3
    walk_at "g"
    refine w_far5 W3 (nx2.1 1 (by decide)) fun ts l H4 hp hs hl el hts k4 => ?_
    refine ⟨.inl ⟨rfl, _, .of el⟩, ?_⟩
    refine ⟨l, _, rfl, rfl, el, ?_⟩
    have s35 : Same H3 (upd H4 l (.lst [])) := fun b u h => by rw [upd_ne (ne_of_none h hl)]; exact k4 _ _ h
    generalize upd H4 l (.lst []) = H5 at s35
    have W5' := W3.same s35
    have D5 := D3.kp (M := []) (Kp.of s35) (by simp) (by simp)
    have ob5 := s35 _ _ ob3
    dsimp only
    walk_at "g"
    refine w_roots5 W5' (nx2.1 1 (by decide)) fun ns l2 H6 A6 S6 W6 nx6 hup hmem hl2 el2 nl2 k6 t6 => ?_
    walk_at "g"
    refine w_app el2 (by rw [List.length_map]; have := W5'.few hup hmem; exact small2000 (by omega)) fun H7 e7 o7 => ?_
    have nx3 := nx2.trans nx6
    have W7 : W5 P w C CU CP H7 A6 S6 := by
      have m6 : S6.m = S2.m := by obtain ⟨_, al, rfl⟩ := nx6; rfl
      refine W6.kpM (o7.kp (M := [l2]) (by simp)) (KT.off o7 el2) fun i hi => ?_
      simpa using nl2 i (by omega)
    have n1A : A 1 ≠ l2 := by have := nl2 1 (by omega); rwa [nx3.1 1 (by decide)] at this
    have D7 : Deck H7 (A 0) (A 16) (n + 1) := by
      have h01 : A2 0 ≠ A2 1 := fun e => absurd (W3.inj 0 1 (by omega) (by omega) e) (by decide)
      have h161 : A2 16 ≠ A2 1 := fun e => absurd (W3.inj 16 1 (by omega) (by omega) e) (by decide)
      have h0l := nl2 0 (by omega)
      have h16l := nl2 16 (by omega)
      rw [nx2.1 0 (by decide), nx2.1 1 (by decide)] at h01
      rw [nx2.1 16 (by decide), nx2.1 1 (by decide)] at h161
      rw [nx3.1 0 (by decide)] at h0l
      rw [nx3.1 16 (by decide)] at h16l
      rw [nx2.1 1 (by decide)] at k6
      exact (D5.kp k6 (by simpa using h01) (by simpa using h161)).kp (M := [l2]) (o7.kp (by simp)) (by simpa using h0l) (by simpa using h16l)
    have elf7 := W7.lf
    rw [nx3.1 11 (by decide)] at elf7
    walk_at "g"
    refine w_sortTT (qs := S6.fs.map (·.1)) elf7 (by unfold farK; rw [List.map_map, List.map_map]; rfl) W7.fn (by have := W7.fl; rw [List.length_map]; omega) fun ts8 l8 H8 hp8 hs8 ht8 hl8 el8 k8 => ?_
    have hlen8 : ts8.length = S6.fs.length := by have h := hp8.length_eq; rw [List.length_map, List.length_map] at h; exact h
    have hfl6 := W7.fl
    have W8 := W7.same k8
    have elf8 := k8 _ _ elf7
    walk_at "g"
    refine lcp_gen (walk_list (K := K) (a := l8) (xs := ts8.map fun t => V.ref t.2)) [] (fun i y H' => ∃ (a : Addr) (q : TTx × Addr) (n : Nat), y = .ref a ∧ ts8[i]? = some q ∧ S6.fs.lookup q.1 = some n ∧ H' a = some (.tup [.str q.1.1, .str q.1.2, nV n])) (fun _ _ => True) (by rw [List.length_map]; omega) (fun i y H1 H2 t ⟨a, q, n, h1, h2, h3, h4⟩ => ⟨a, q, n, h1, h2, h3, t _ _ h4⟩) (fun _ _ _ _ _ _ => trivial) (fun i H' k _ => .of (k _ _ (by simp) el8)) trivial ?_ (by simp) ?_
    · rintro i x H9 H10 R hi k9 t9 _ ⟨rfl, hx⟩ hR
      rw [List.getElem?_map] at hx
      obtain ⟨qd, hqd, rfl⟩ := Option.map_eq_some_iff.mp hx
      have hmq := List.mem_of_getElem? hqd
      have et9 := k9 _ _ (by simp) (k8 _ _ (ht8 qd hmq))
      have elf9 := k9 _ _ (by simp) elf8
      obtain ⟨pf, hpf, epf⟩ : ∃ pf ∈ S6.fs, pf.1 = qd.1 := by
        have : qd.1 ∈ S6.fs.map (·.1) := hp8.mem_iff.mp (List.mem_map_of_mem hmq)
        obtain ⟨pf, h1, h2⟩ := List.mem_map.mp this
        exact ⟨pf, h1, h2⟩
      have hlk : S6.fs.lookup qd.1 = some pf.2 := by rw [← epf]; exact lookup_nd W7.fn hpf
      have hv : valV (farK S6.fs) (ttK qd.1) = some (nV pf.2) := by rw [farK_val, hlk]; rfl
      have at0 : atI [V.str qd.1.1, V.str qd.1.2] 0 = some (.str qd.1.1) := atI_nat (j := 0) rfl
      have at1 : atI [V.str qd.1.1, V.str qd.1.2] 1 = some (.str qd.1.2) := atI_nat (j := 1) rfl
      refine w_name ⟨rfl, ?_⟩
      walk_at "g"
      refine w_dgetT (k := ttK qd.1) elf9 et9 hv ?_
      walk_at "g"
      refine w_new fun a H11 ha e11 k11 => ?_
      exact hR _ _ ⟨a, qd, pf.2, rfl, hqd, hlk, e11⟩ (Kp.of k11) (KT.of k11) trivial
    · intro D H9 ys hyl hys hD k9 t9 _ eD
      have s89 := k9.same
      have W9 := W8.same s89
      rw [List.length_map] at hyl
      obtain ⟨bs, rfl, hb1, hb2⟩ : ∃ bs : List T3, ys = bs.map (fun b => V.ref b.1) ∧ (bs.map (·.2.1) = ts8.map (·.1) ∧ ∀ b ∈ bs, (S6.fs.lookup b.2.1).map (fun n : Nat => (n : Int)) = some b.2.2) ∧ ∀ b ∈ bs, H9 b.1 = some (.tup [.str b.2.1.1, .str b.2.1.2, .int b.2.2]) := by
        clear hp8 hs8 ht8 el8 eD
        have key : ∀ (ts : List (TTx × Addr)) (ys : List V), ys.length = ts.length → (∀ (i : Nat) (y : V), ys[i]? = some y → ∃ (a : Addr) (q : TTx × Addr) (n : Nat), y = .ref a ∧ ts[i]? = some q ∧ S6.fs.lookup q.1 = some n ∧ H9 a = some (.tup [.str q.1.1, .str q.1.2, nV n])) → ∃ bs : List T3, ys = bs.map (fun b => V.ref b.1) ∧ (bs.map (·.2.1) = ts.map (·.1) ∧ ∀ b ∈ bs, (S6.fs.lookup b.2.1).map (fun n : Nat => (n : Int)) = some b.2.2) ∧ ∀ b ∈ bs, H9 b.1 = some (.tup [.str b.2.1.1, .str b.2.1.2, .int b.2.2]) := by
          intro ts
          induction ts with
          | nil =>
            intro ys hl _
            have : ys = [] := List.length_eq_zero_iff.mp hl
            subst this
            exact ⟨[], rfl, ⟨rfl, by simp⟩, by simp⟩
          | cons t r ih =>
            intro ys hl h
            match ys, hl with
            | y :: ys, hl =>
              obtain ⟨bs, e1, ⟨e2, e3⟩, e4⟩ := ih ys (by simpa using hl) fun i y' hy => by
                obtain ⟨a, q, n, g1, g2, g3, g4⟩ := h (i + 1) y' (by simpa using hy)
                exact ⟨a, q, n, g1, by simpa using g2, g3, g4⟩
              obtain ⟨a, q, n, g1, g2, g3, g4⟩ := h 0 y rfl
              have g2 : t = q := by simpa using g2
              subst g2
              refine ⟨(a, t.1, (n : Int)) :: bs, by rw [g1, e1]; rfl, ⟨by rw [List.map_cons, List.map_cons, e2], fun b hb => ?_⟩, fun b hb => ?_⟩
              · rcases List.mem_cons.mp hb with rfl | hb
                · show (S6.fs.lookup t.1).map _ = _
                  rw [g3]; rfl
                · exact e3 b hb
              · rcases List.mem_cons.mp hb with rfl | hb
                · exact g4
                · exact e4 b hb
        exact key ts8 ys hyl hys
      have hpb : (bs.map (·.2)).Perm (S6.fs.map fun q => (q.1, (q.2 : Int))) := by
        have e1 : bs.map (·.2) = (ts8.map (·.1)).map fun q => (q, ((S6.fs.lookup q).map (fun n : Nat => (n : Int))).getD 0) := by
          rw [← hb1.1, List.map_map]
          refine List.map_congr_left fun b hb => ?_
          show b.2 = (b.2.1, ((S6.fs.lookup b.2.1).map (fun n : Nat => (n : Int))).getD 0)
          rw [hb1.2 b hb]
          rfl
        have e2 : (S6.fs.map fun q => (q.1, (q.2 : Int))) = (S6.fs.map (·.1)).map fun q => (q, ((S6.fs.lookup q).map (fun n : Nat => (n : Int))).getD 0) := by
          rw [List.map_map]
          refine List.map_congr_left fun q hq => ?_
          show (q.1, (q.2 : Int)) = (q.1, ((S6.fs.lookup q.1).map (fun n : Nat => (n : Int))).getD 0)
          rw [lookup_nd W7.fn hq]
          rfl
        rw [e1, e2]
        exact hp8.map _
      have hsb : (bs.map (·.2)).Pairwise (fun x y => ttLt x.1 y.1) := by
        have h1 : (bs.map (·.2.1)).Pairwise ttLt := by rw [hb1.1, List.pairwise_map]; exact hs8
        rw [List.pairwise_map] at h1 ⊢
        exact h1
      have ob9 := W9.st.ob
      rw [nx3.1 1 (by decide)] at ob9
      walk_at "g"
      refine w_far5 W9 (nx3.1 1 (by decide)) fun ts l3 H10 hp hs hl3 el3 hts k10 => ?_
      have W10 := W9.same k10
      have eD10 := k10 _ _ eD
      walk_at "g"
      have etb : ts.map (·.2) = bs.map (·.2) := t3_same hp hpb W7.fn (by rw [List.pairwise_map]; exact hs) hsb
      refine ⟨_, _, rfl, sd_t3 el3 eD10 hts (fun t ht => k10 _ _ (hb2 t ht)) etb (by have h := hp.length_eq; rw [List.length_map, List.length_map] at h; omega), fun H11 k11 => ?_⟩
      have W11 := W10.same k11
      have ob11 := W11.st.ob
      rw [nx3.1 1 (by decide)] at ob11
      walk_at "g"
      refine w_roots5 W11 (nx3.1 1 (by decide)) fun ns12 l12 H12 A12 S12 W12 nx12 hup12 hmem12 hl12 el12 nl12 k12 t12 => ?_
      have nx4 := nx3.trans nx12
      walk_at "g"
      refine w_lroots5 W12 (nx4.1 11 (by decide)) (nx4.1 10 (by decide)) fun ns' l' H13 hup' hmem' hl' el' k13 => ?_
      have ens : ns' = ns12 := rise_ext5 hup' hup12 fun x => by
        rw [hmem', hmem12]
        obtain ⟨_, al, rfl⟩ := nx12
        exact Iff.rfl
      subst ens
      walk_at "g"
      refine ⟨_, _, rfl, sd_nats (k13 _ _ el12) el' (W12.few hup' hmem'), fun H14 k14 => ?_⟩
      have k1214 := Same.trans k13 k14
      have h01 : A6 0 ≠ A6 1 := fun e => absurd (W11.inj 0 1 (by omega) (by omega) e) (by decide)
      have h161 : A6 16 ≠ A6 1 := fun e => absurd (W11.inj 16 1 (by omega) (by omega) e) (by decide)
      rw [nx3.1 0 (by decide), nx3.1 1 (by decide)] at h01
      rw [nx3.1 16 (by decide), nx3.1 1 (by decide)] at h161
      rw [nx3.1 1 (by decide)] at k12
      have s711 : Same H7 H11 := Same.trans k8 (Same.trans s89 (Same.trans k10 k11))
      have D11 := D7.kp (M := []) (Kp.of s711) (by simp) (by simp)
      have D12 := D11.kp k12 (by simpa using h01) (by simpa using h161)
      exact q H14 A12 S12 (W12.same k1214) nx4 (D12.kp (M := []) (Kp.of k1214) (by simp) (by simp))
end
local macro_rules | `(tactic| walk_at "s") => `(tactic| first
  | with_reducible refine w_dnewT ?_
  | with_reducible refine w_valsT ?_
  | with_reducible refine w_vals ?_
  | with_reducible refine w_itemsT ?_
  | with_reducible refine w_dpopT ?_
  | with_reducible refine w_dpop1 ?_
  | ((with_reducible refine' w_isDT ?h1 ?_); (case h1 => assumption))
  | ((with_reducible refine' w_valsT' ?h1 ?_); (case h1 => assumption))
  | ((with_reducible refine' w_vals' ?h1 ?_); (case h1 => assumption))
  | ((with_reducible refine' w_itemsT' ?h1 ?_); (case h1 => assumption))
  | ((with_reducible refine' w_keysT' ?h1 ?_); (case h1 => assumption))
  )
def spLPinDeed (P : Program) (w : World) (C CU CP : Addr) : Sp := fun vs H Q _ => ∃ (n : Nat) (A : Nat → Addr) (S : PSt), vs = [.ref (A 0), .ref (A 1), .ref (A 8), .ref (A 7), .ref (A 9), .ref (A 10)] ∧ W5 P w C CU CP H A S ∧ Deck H (A 0) (A 16) n ∧ n + 40 < MOSTD ∧ S.m < 100 ∧ 1 ≤ S.cs.length ∧ ∀ H' A' S', W5 P w C CU CP H' A' S' → Nx A S A' S' → Deck H' (A 0) (A 16) (n + 40) → Q (.bl true) H'
theorem ints_of {H : Hp} {ys : List V} (h : ∀ y ∈ ys, ∃ z : Int, y = .int z) : ∃ is : List Int, ys = is.map V.int := by
  induction ys with
  | nil => exact ⟨[], rfl⟩
  | cons y ys ih =>
    obtain ⟨is, e⟩ := ih fun z hz => h z (by simp [hz])
    obtain ⟨z, rfl⟩ := h y (by simp)
    exact ⟨z :: is, by rw [e]; rfl⟩
theorem ixN_nat5 {n j : Nat} (h : j < n) : ixN n (j : Int) = some j := by
  unfold ixN
  rw [if_pos (by omega), if_pos (by omega), Int.toNat_natCast]
theorem Rf.isOk_iff {r : Rf} : isOk r = true ↔ r = .ok := by cases r <;> simp [isOk]
section
variable {P : Program} {w : World} {K : PySem.W.Frag} {mg : Str → Option Value} {base : Heap} {C CH CS CU CP : Addr}
theorem ok_lpindeed {f fM fD fS fI fNm fND fH fPn fAd fLg : Addr} {fd fdM fdD fdS fdI fdNm fdND fdH fdPn fdAd fdLg : FuncData} (T : Txt K mg) (F : Fun K "_law_pin_deed" "_law_pin_deed" s_law_pin_deed f fd) (D_law_mixed : Df K mg "_law_mixed" s_law_mixed ["_law_cell", "_law_turn"] fM fdM) (D_law_draw : Df K mg "_law_draw" s_law_draw ["_law_deck_here", "_law_many"] fD fdD) (D_law_same : Df K mg "_law_same" s_law_same ["_law_found", "_law_due"] fS fdS) (D_law_int : Df K mg "_law_int" s_law_int ["_law_thing"] fI fdI)
    (K_Pin : Kl K mg "Pin" CP ["store", "on", "loose"]) (D_law_name : Df K mg "_law_name" s_law_name ["_law_deck_here", "_law_things"] fNm fdNm) (D_law_names_due : Df K mg "_law_names_due" s_law_names_due ["_law_things", "_law_here_here", "_law_names"] fND fdND) (D_law_here : Df K mg "_law_here" s_law_here ["_law_names"] fH fdH) (D_law_pinned : Df K mg "_law_pinned" s_law_pinned ["_law_house_here", "_law_pins", "_law_names"] fPn fdPn) (G_law_pinned : FnOk P w K mg base CX0 6 fPn fdPn ["_law_house_here", "_law_pins", "_law_names"] (spLPinned P w C CU CP)) (D_law_added : Df K mg "_law_added" s_law_added ["_law_one", "_law_name_here"] fAd fdAd) (G_law_added : FnOk P w K mg base CX0 6 fAd fdAd ["_law_one", "_law_name_here"] (spLAdded P w C CU CP)) (D_Pin_let_go : DfM K CP "let_go" "Pin.let_go" s_Pin_let_go ["self"] fLg fdLg) : FnOk P w K mg base CX0 7 f fd ["_law_deck_here", "_law_house_here", "_law_things", "_law_here_here", "_law_pins", "_law_ons"] (spLPinDeed P w C CU CP) := by
  have G_law_draw : FnOk P w K mg base CX0 2 fD fdD ["_law_deck_here", "_law_many"] spDraw := ok_draw T D_law_draw.fn D_law_mixed
  have G_law_same : FnOk P w K mg base CX0 4 fS fdS ["_law_found", "_law_due"] (spSame 2) := ok_same T D_law_same D_law_int 2
  have G_law_name : FnOk P w K mg base CX0 3 fNm fdNm ["_law_deck_here", "_law_things"] spLName := ok_lname T D_law_name.fn D_law_mixed D_law_draw
  have G_law_names_due : FnOk P w K mg base CX0 1 fND fdND ["_law_things", "_law_here_here", "_law_names"] spLNDue := ok_lndue T D_law_names_due.fn
  have G_law_here : FnOk P w K mg base CX0 1 fH fdH ["_law_names"] spLHere := ok_lhere T D_law_here.fn
  have G_Pin_let_go : FnOk P w K mg base CX0 1 fLg fdLg ["self"] (spLetGo CP) := ok_letgo T D_Pin_let_go.fn K_Pin
  have clP := K_Pin.cl
  refine F.ok sc_law_pin_deed (fun vs H Q E h => ?_) (fun cdv A outer s H vs Q E hr h => ?_)
  · obtain ⟨n, A, S, rfl, _⟩ := h
    rfl
  · obtain ⟨n, A, S, rfl, W, D0, hn, hm, hc1, q⟩ := h
    have hu := hu_of hr
    have few := W.bk.few
    have i80 : A 8 ≠ A 0 := fun e => absurd (W.inj 8 0 (by omega) (by omega) e) (by decide)
    refine ⟨_,
      (pss_cons
        (ps_set (i := 6) sc_law_pin_deed.nd rfl (.inl rfl) (pe_call G_law_draw (hr.mono (by omega)) (by rfl) D_law_draw.g D_law_draw.fn.kp D_law_draw.b .nil pass0 (pa_cons (pv 0) (pa_cons pe_int pa_nil))))
      (pss_cons
        (ps_if (PW.pt (pw_or (pt_cmpR op_eq (pv 6) pe_int (nomark _)) (pw_or1 (pt_cmpR op_eq (pe_callB (r := rLen K) c_len (by rfl) T.n_len (by decide +kernel) (pa_cons (pv 4) pa_nil)) pe_int (nomark _)))))
          (pss_cons
            (ps_setLc (i := 7) (own := [("_law_k", 11)]) (g := (gName 11)) rfl sc_law_pin_deed.nd rfl rfl (sw_true rfl rfl rfl (by decide +kernel)) (pi_range1 (by rfl) T.n_range (pa_cons (pe_call G_law_draw (hr.mono (by omega)) (by rfl) D_law_draw.g D_law_draw.fn.kp D_law_draw.b .nil pass0 (pa_cons (pv 0) (pa_cons pe_int pa_nil))) pa_nil)) (blkOk_by (own := [("_law_k", 11)]) (N := N_law_pin_deed) (sc := defScope s_law_pin_deed) (by decide +kernel)) (fun _ _ _ _ _ => (pg_name (i := 11) sc_law_pin_deed.nd rfl (.inl rfl))) (fun _ _ _ _ _ => pts_nil) (fun _ _ _ _ _ => (pe_call G_law_name (hr.mono (by omega)) (by rfl) D_law_name.g D_law_name.fn.kp D_law_name.b .nil pass0 (pa_cons (pv 0) (pa_cons (pv 2) pa_nil)))))
          (pss_cons
            (ps_set (i := 8) sc_law_pin_deed.nd rfl (.inl rfl) (pe_call G_law_names_due (hr.mono (by omega)) (by rfl) D_law_names_due.g D_law_names_due.fn.kp D_law_names_due.b .nil pass0 (pa_cons (pv 2) (pa_cons (pv 3) (pa_cons (pv 7) pa_nil)))))
          (pss_cons
            (ps_if (pt_cmpR (r := rEqD K) (op_eqD hr.units) (pv 8) (pe_tup pa_nil) (nomark _))
              (pss_one
                (ps_expr (pe_bm PySem.F.plainAttrs_list PySem.F.slot_list_append PySem.F.type_list_append mt_append (pv 5) (pa_cons (pe_lst (pa_cons (pe_call G_law_here (hr.mono (by omega)) (by rfl) D_law_here.g D_law_here.fn.kp D_law_here.b .nil pass0 (pa_cons (pv 7) pa_nil)) (pa_cons pe_bl pa_nil))) pa_nil))))
              pss_nil)
          (pss_one
            (ps_ret (pe_call G_law_same (hr.mono (by omega)) (by rfl) D_law_same.g D_law_same.fn.kp D_law_same.b .nil pass0 (pa_cons (pe_call G_law_pinned (hr.mono (by omega)) (by rfl) D_law_pinned.g D_law_pinned.fn.kp D_law_pinned.b .nil pass0 (pa_cons (pv 1) (pa_cons (pv 4) (pa_cons (pe_callTy (r := rTupOf K) c_tupOf (by rfl) T.n_tuple (by decide +kernel) (pa_cons (pv 7) pa_nil)) pa_nil)))) (pa_cons (pv 8) pa_nil))))))))
          pss_nil)
      (pss_cons
        (ps_set (i := 9) sc_law_pin_deed.nd rfl (.inl rfl) (pe_call G_law_draw (hr.mono (by omega)) (by rfl) D_law_draw.g D_law_draw.fn.kp D_law_draw.b .nil pass0 (pa_cons (pv 0) (pa_cons (pe_callB (r := rLen K) c_len (by rfl) T.n_len (by decide +kernel) (pa_cons (pv 4) pa_nil)) pa_nil))))
      (pss_cons
        (ps_if (pt_cmpR op_eq (pv 6) pe_int (nomark _))
          (pss_cons
            (ps_expr (pe_meth0 (pe_ix (r := rIxL K) ix_list (pv 4) (pv 9) (fun _ _ => rfl)) K_Pin.cl D_Pin_let_go.m G_Pin_let_go (hr.mono (by omega)) D_Pin_let_go.b .nil pass0))
          (pss_cons
            (ps_asg (pe_lst (pa_cons pe_dnewK (pa_cons pe_bl pa_nil))) (pg_sub (pv 5) (pv 9) set_list))
          (pss_one
            (ps_ret pe_bl))))
          pss_nil)
      (pss_cons
        (ps_set (i := 10) sc_law_pin_deed.nd rfl (.inl rfl) (pe_call G_law_name (hr.mono (by omega)) (by rfl) D_law_name.g D_law_name.fn.kp D_law_name.b .nil pass0 (pa_cons (pv 0) (pa_cons (pv 2) pa_nil))))
      (pss_cons
        (ps_set (i := 8) sc_law_pin_deed.nd rfl (.inl rfl) (pe_call G_law_names_due (hr.mono (by omega)) (by rfl) D_law_names_due.g D_law_names_due.fn.kp D_law_names_due.b .nil pass0 (pa_cons (pv 2) (pa_cons (pv 3) (pa_cons (pe_lst (pa_cons (pv 10) pa_nil)) pa_nil)))))
      (pss_cons
        (ps_if (pt_not (pt_val (pe_ix (r := rIxL K) ix_list (pe_ix (r := rIxL K) ix_list (pv 5) (pv 9) (fun _ _ => rfl)) pe_int (fun _ _ => rfl))))
          (pss_one
            (ps_set (i := 8) sc_law_pin_deed.nd rfl (.inl rfl) (pe_tup (pa_cons pe_str pa_nil))))
          pss_nil)
      (pss_cons
        (ps_if (pt_cmpR (r := rEqD K) (op_eqD hr.units) (pv 8) (pe_tup pa_nil) (nomark _))
          (pss_one
            (ps_dput hu (pe_ix (r := rIxL K) ix_list (pe_ix (r := rIxL K) ix_list (pv 5) (pv 9) (fun _ _ => rfl)) pe_int (fun _ _ => rfl)) (pv 10) pe_bl rfl))
          pss_nil)
      (pss_one
        (ps_ret (pe_call G_law_same (hr.mono (by omega)) (by rfl) D_law_same.g D_law_same.fn.kp D_law_same.b .nil pass0 (pa_cons (pe_call G_law_added (hr.mono (by omega)) (by rfl) D_law_added.g D_law_added.fn.kp D_law_added.b .nil pass0 (pa_cons (pe_ix (r := rIxL K) ix_list (pv 4) (pv 9) (fun _ _ => rfl)) (pa_cons (pv 10) pa_nil))) (pa_cons (pv 8) pa_nil)))))))))))))
      , ?_⟩
    rw [show L2.start N_law_pin_deed [V.ref (A 0), V.ref (A 1), V.ref (A 8), V.ref (A 7), V.ref (A 9), V.ref (A 10)] = [some (.ref (A 0)), some (.ref (A 1)), some (.ref (A 8)), some (.ref (A 7)), some (.ref (A 9)), some (.ref (A 10)), none, none, none, none, none, none] from rfl]
    walk_at "x"
    refine w_draw D0 (by omega) (by decide) (by decide) fun pick H1 hpick D1 o1 => ?_
    have W1 := W.kx (D0.kx D1 o1) ⟨_, D1⟩
    have elp1 := W1.lp
    refine w_name ?_
    refine w_seq ?_
    walk_at "g"
    rcases (show (pick : Int) = 0 ∨ (¬ (pick : Int) = 0 ∧ S.m = 0) ∨ (¬ (pick : Int) = 0 ∧ ¬ S.m = 0) from by omega) with h0 | ⟨h0, hm0⟩ | ⟨h0, hm0⟩
    rotate_left 2
    · rw [decide_eq_false h0, if_neg (by decide)]
      walk_at "g"
      refine w_no (by rw [List.length_map, List.length_range]; omega) ?_
      walk_at "g"
      refine w_draw D1 (by omega) (by rw [List.length_map, List.length_range]; omega) (by rw [List.length_map, List.length_range]; omega) fun j H2 hj D2 o2 => ?_
      rw [List.length_map, List.length_range] at hj
      have hjm : j < S.m := by omega
      have W2 := W1.kx (D1.kx D2 o2) ⟨_, D2⟩
      have elp2 := W2.lp
      have elo2 := W2.lo
      have ez2 := W2.pz j hjm
      unfold pinO at ez2
      have er2 := W2.pr j hjm
      have at1 : atI ((List.range S.m).map fun i => V.ref (A (17 + 4 * i))) (j : Int) = some (.ref (A (17 + 4 * j))) := atI_nat (by rw [List.getElem?_map, List.getElem?_range hjm]; rfl)
      have at2 : atI ((List.range S.m).map fun i => V.ref (A (19 + 4 * i))) (j : Int) = some (.ref (A (19 + 4 * j))) := atI_nat (by rw [List.getElem?_map, List.getElem?_range hjm]; rfl)
      refine w_name ?_
      refine w_seq ?_
      walk_at "g"
      by_cases h1 : (pick : Int) = 1
      · rw [decide_eq_true h1, if_pos rfl]
        walk_at "g"
        refine ⟨A (17 + 4 * j), S.dz j, A 1, A (18 + 4 * j), S.lo j, rfl, ez2, fun od H3 hod nod ez3 Fo3 k3 t3 => ?_⟩
        have elo3 := k3 _ _ (by simpa using fun e => absurd (W2.inj 10 (17 + 4 * j) (by omega) (by omega) e) (by omega)) elo2
        walk_at "g"
        refine w_new fun f H4 hf4 ef4 k4 => ?_
        walk_at "g"
        refine w_new fun r H5 hr5 er5 k5 => ?_
        have elo5 := k5 _ _ (k4 _ _ elo3)
        walk_at "g"
        refine w_setL (j := j) elo5 (ixN_nat5 (by rw [List.length_map, List.length_range]; exact hjm)) rfl fun H6 elo6 o6 => ?_
        walk_at "g"
        have hf2 : H2 f = none := by
          cases e : H2 f with
          | none => rfl
          | some o =>
            by_cases hz : f = A (17 + 4 * j)
            · rw [hz, ez3] at hf4; cases hf4
            · rw [k3 _ _ (by simpa using hz) e] at hf4; cases hf4
        have hr3 : H3 r = none := k4.free hr5
        have hr2 : H2 r = none := by
          cases e : H2 r with
          | none => rfl
          | some o =>
            by_cases hz : r = A (17 + 4 * j)
            · rw [hz, ez3] at hr3; cases hr3
            · rw [k3 _ _ (by simpa using hz) e] at hr3; cases hr3
        have nf10 : f ≠ A 10 := (W2.fresh hf2 10 (by omega)).symm
        have nr10 : r ≠ A 10 := (W2.fresh hr2 10 (by omega)).symm
        have nod10 : od ≠ A 10 := (W2.fresh hod 10 (by omega)).symm
        have nz10 : A (17 + 4 * j) ≠ A 10 := fun e => absurd (W2.inj _ _ (by omega) (by omega) e) (by omega)
        have nodf : od ≠ f := by obtain ⟨kv, hkv⟩ := Fo3.obj; exact ne_of_none hkv hf4
        have nodr : od ≠ r := by obtain ⟨kv, hkv⟩ := Fo3.obj; exact ne_of_none hkv hr3
        have nrf : r ≠ f := (ne_of_none ef4 hr5).symm
        have s35 := Same.trans k4 k5
        have W6 := W2.letgo (H' := H6) (i := j) hjm hod hr2 hf2 nodr nodf nrf (fun b u hb h => by
          simp only [List.map_cons, List.map_nil, List.mem_cons, List.not_mem_nil, or_false, not_or] at hb
          exact o6.get hb.2 (s35 _ _ (k3 _ _ (by simpa using hb.1) h))) (t3.trans ((KT.of s35).trans (KT.off o6 elo5))) (o6.get nz10 (s35 _ _ ez3)) ((Fo3.same s35).kp (o6.kp (M := [A 10]) (by simp)) (by simpa using nod10)) (o6.get nr10 er5) ⟨[], [], o6.get nf10 (k5 _ _ ef4), rfl, .nil, by simp, by simp⟩ elo6
        refine q H6 _ _ W6 ⟨fun i hi _ => by rw [setA_ne (by omega), setA_ne (by omega), setA_ne (by omega)], rfl, Nat.le_succ _, Nat.le_succ _⟩ ?_
        have D3 := D2.kp k3 (by simpa using fun e => absurd (W2.inj 0 (17 + 4 * j) (by omega) (by omega) e) (by omega)) (by simpa using fun e => absurd (W2.inj 16 (17 + 4 * j) (by omega) (by omega) e) (by omega))
        exact ((D3.kp (M := []) (Kp.of s35) (by simp) (by simp)).kp (M := [A 10]) (o6.kp (by simp)) (by simpa using fun e => absurd (W2.inj 0 10 (by omega) (by omega) e) (by decide)) (by simpa using fun e => absurd (W2.inj 16 10 (by omega) (by omega) e) (by decide))).mono (by omega)
      · rw [decide_eq_false h1, if_neg (by decide)]
        walk_at "g"
        refine ⟨A 0, A 16, A 8, _, S.cs, rfl, D2, W2.th, hc1, by omega, by omega, i80, fun z H3 D3 x3 => ?_⟩
        have W3 := W2.kx x3 ⟨_, D3⟩
        refine w_name ?_
        walk_at "g"
        refine w_new fun L H4 hL4 eL4 k4 => ?_
        have W4 := W3.same k4
        have D4 := D3.kp (M := []) (Kp.of k4) (by simp) (by simp)
        walk_at "g"
        refine ⟨A 8, A 7, L, S.cs, S.F, [z], rfl, W4.th, by omega, W4.lh, eL4, by simp, fun H5 t k5 ht5 => ?_⟩
        have W5' := W4.same k5
        have D5 := D4.kp (M := []) (Kp.of k5) (by simp) (by simp)
        have elp5 := W5'.lp
        have elo5 := W5'.lo
        have er5 := W5'.pr j hjm
        have ez5 := W5'.pz j hjm
        unfold pinO at ez5
        refine w_name ?_
        have atb : atI [V.ref (A (20 + 4 * j)), V.bl (!S.lo j)] 1 = some (.bl (!S.lo j)) := atI_nat (j := 1) rfl
        have at0 : atI [V.ref (A (20 + 4 * j)), V.bl (!S.lo j)] 0 = some (.ref (A (20 + 4 * j))) := atI_nat (j := 0) rfl
        refine w_seqJ (fun σ' H' => ∃ t', σ' = [some (.ref (A 0)), some (.ref (A 1)), some (.ref (A 8)), some (.ref (A 7)), some (.ref (A 9)), some (.ref (A 10)), some (.int (pick : Int)), none, some (.ref t'), some (.int (j : Int)), some (.int z), none] ∧ Same H5 H' ∧ RfAt H' t' (if S.lo j = true then .lg else dueN S.cs.length S.F [z])) ?_ fun U hU => ?_
        rotate_left
        · walk_at "g"
          cases hlo : S.lo j with
          | true =>
            rw [hlo] at hU
            rw [show (!!true) = true from rfl, if_pos rfl]
            walk_at "g"
            refine w_new fun u H6 hu6 eu6 k6 => ?_
            walk_at "g"
            exact hU _ _ ⟨u, rfl, k6, eu6⟩
          | false =>
            rw [hlo] at hU
            rw [show (!!false) = false from rfl, if_neg (by decide)]
            walk_at "g"
            exact hU _ _ ⟨t, rfl, .refl _, ht5⟩
        rintro σ' H6 ⟨t', rfl, k6, ht6⟩
        have W6 := W5'.same k6
        have D6 := D5.kp (M := []) (Kp.of k6) (by simp) (by simp)
        have elo6 := W6.lo
        have elp6 := W6.lp
        have er6 := W6.pr j hjm
        refine w_seq ?_
        walk_at "g"
        refine w_new fun u H7 hu7 eu7 k7 => ?_
        have W7 := W6.same k7
        have D7 := D6.kp (M := []) (Kp.of k7) (by simp) (by simp)
        have ht7 := ht6.kt (KT.of k7)
        walk_at "g"
        refine w_eqRf ht7 eu7 ?_
        by_cases hok : (if S.lo j = true then Rf.lg else dueN S.cs.length S.F [z]) = .ok
        · have hlo : S.lo j = false := by
            cases h : S.lo j with
            | false => rfl
            | true => rw [h, if_pos rfl] at hok; cases hok
          have hdu : dueN S.cs.length S.F [z] = .ok := by rw [hlo, if_neg (by decide)] at hok; exact hok
          obtain ⟨ns, ens, hns⟩ := dueN_ok hdu
          obtain ⟨x, rfl⟩ : ∃ x, ns = [x] := by
            match ns, ens with
            | [x], _ => exact ⟨x, rfl⟩
          have ez : z = (x : Int) := by simpa using ens
          subst ez
          have hx := (hns x (by simp)).1
          rw [hok]
          have elo7 := W7.lo
          have er7 := W7.pr j hjm
          refine ⟨true, rfl, ?_⟩
          rw [if_pos rfl]
          walk_at "g"
          refine w_fput (W7.pf j hjm) (by omega) fun H8 F8 o8 => ?_
          obtain ⟨fk, hfk⟩ := (W7.pf j hjm).obj
          have k8 : Kp ([20 + 4 * j].map A) H7 H8 := o8.kp (by simp)
          have t8 : KT H7 H8 := KT.offD o8 hfk
          have R := W7.keep (J := [20 + 4 * j]) (by simp; omega) k8 t8
          have elp8 := R.lp (by simp; omega)
          have ez8 := R.pz j hjm (by simp)
          have ez8' := ez8
          unfold pinO at ez8'
          walk_at "g"
          refine ⟨A (17 + 4 * j), S.dz j, A (18 + 4 * j), A 1, S.dy, A 12, S.dx, A 13, A 14, A 15, A 2, A 3, A 4, A 5, A 6, S.lo j, S.G j, S.cs, S.ds, S.k, S.F, (x : Int), rfl, ez8, R.po j hjm (by simp), R.st (by simp; omega) (by simp; omega), R.bk (by simp; omega) (by simp; omega) (by simp; omega) (by simp; omega), fun h => absurd hok h, fun _ n en H9 rr F9 k9 t9 hrr => ?_⟩
          have enx : n = x := by omega
          subst enx
          walk_at "g"
          have ht9 : RfAt H9 t' .ok := by rw [hok] at ht7; exact (ht7.kt t8).kt t9
          refine ⟨_, _, rfl, RfAt.sd2 hrr ht9, fun H10 k10 => ?_⟩
          have n820 : A (20 + 4 * j) ∉ [A (18 + 4 * j)] := by simpa using fun e => absurd (W7.inj _ _ (by omega) (by omega) e) (by omega)
          have W10 := W7.add (H' := H10) (i := j) (G' := fun m => S.G j m ∨ m = n) hjm (fun b u hb h => by
            simp only [List.map_cons, List.map_nil, List.mem_cons, List.not_mem_nil, or_false, not_or] at hb
            exact k10 _ _ (k9 _ _ (by simpa using hb.1) (k8 _ _ (by simpa using hb.2) h))) (t8.trans (t9.trans (KT.of k10))) (F9.same k10) ((F8.kp k9 n820).same k10) hlo (fun m hm => by
            rcases hm with h | h
            · exact W.gb j m hjm h
            · omega)
          refine q H10 _ _ W10 ⟨fun _ _ _ => rfl, rfl, Nat.le_succ _, Nat.le_succ _⟩ ?_
          have D8 := D7.kp k8 (W7.out (J := [20 + 4 * j]) (by simp; omega) (i := 0) (by omega) (by simp; omega)) (W7.out (J := [20 + 4 * j]) (by simp; omega) (i := 16) (by omega) (by simp; omega))
          exact ((D8.kp k9 (W7.out (J := [18 + 4 * j]) (by simp; omega) (i := 0) (by omega) (by simp; omega)) (W7.out (J := [18 + 4 * j]) (by simp; omega) (i := 16) (by omega) (by simp; omega))).kp (M := []) (Kp.of k10) (by simp) (by simp)).mono (by omega)
        · have hno : isOk (if S.lo j = true then Rf.lg else dueN S.cs.length S.F [z]) = false := by
            cases h : isOk (if S.lo j = true then Rf.lg else dueN S.cs.length S.F [z]) with
            | false => rfl
            | true => exact absurd (Rf.isOk_iff.mp h) hok
          rw [hno]
          have elp7 := W7.lp
          have ez7 := W7.pz j hjm
          walk_at "g"
          refine ⟨A (17 + 4 * j), S.dz j, A (18 + 4 * j), A 1, S.dy, A 12, S.dx, A 13, A 14, A 15, A 2, A 3, A 4, A 5, A 6, S.lo j, S.G j, S.cs, S.ds, S.k, S.F, z, rfl, ez7, W7.po j hjm, W7.st, W7.bk, fun _ H8 rr k8 hrr => ?_, fun h => absurd h hok⟩
          walk_at "g"
          refine ⟨_, _, rfl, RfAt.sd2 hrr (ht7.kt (KT.of k8)), fun H9 k9 => ?_⟩
          have k79 := Same.trans k8 k9
          exact q H9 A S (W7.same k79) ⟨fun _ _ _ => rfl, rfl, Nat.le_succ _, Nat.le_succ _⟩ ((D7.kp (M := []) (Kp.of k79) (by simp) (by simp)).mono (by omega))
    case' inl => rw [decide_eq_true h0, if_pos rfl]
    case' inr.inl =>
      rw [decide_eq_false h0, if_neg (by decide)]
      walk_at "g"
      refine w_yes (by rw [List.length_map, List.length_range, hm0]; rfl) ?_
    all_goals
      walk_at "g"
      refine w_draw D1 (by omega) (by decide) (by decide) fun many H2 hmany D2 o2 => ?_
      have W2 := W1.kx (D1.kx D2 o2) ⟨_, D2⟩
      walk_at "g"
      try refine w_rng1' (by omega) (by omega) ?_
      refine lcp_gen (walk_range (lo := 0) (n := ((many : Int)).toNat)) [A 0] (fun i y _ => ∃ z : Int, y = .int z) (fun i H' => Deck H' (A 0) (A 16) (n + 2 + 3 * i) ∧ KX (A 0) H2 H') (by omega) (fun _ _ _ _ _ h => h) (fun D hD i H1' o z => ⟨z.1.mut (D2.ne1 hD).1 (D2.ne1 hD).2, z.2.offN (fun x hx => upd_ne hx) hD⟩) (fun _ _ _ _ => trivial) ⟨D2, KX.refl⟩ ?_ (fun b hb => by
        have : b = A 0 := by simpa using hb
        subst this
        obtain ⟨⟨xs, e'⟩, _⟩ := D2.at
        exact ⟨_, e'⟩) ?_
      · rintro i y H3 H4 R hi k3 t3 ⟨D3, x3⟩ ⟨rfl, rfl⟩ hR
        have W3 := W2.kx x3 ⟨_, D3⟩
        refine w_name ⟨rfl, ?_⟩
        walk_at "g"
        refine ⟨A 0, A 16, A 8, _, S.cs, rfl, D3, W3.th, hc1, by omega, by omega, i80, fun z H4 D4 x4 => ?_⟩
        exact hR _ _ ⟨z, rfl⟩ x4.p x4.t ⟨D4, x3.trans x4⟩
      · intro L H3 ys hyl hyp hL k3 t3 ⟨D3, x3⟩ eL
        obtain ⟨is, rfl⟩ := ints_of (H := H3) fun y hy => by
          obtain ⟨i, hi, e⟩ := List.getElem_of_mem hy
          exact hyp i y (by rw [List.getElem?_eq_getElem hi, e])
        rw [List.length_map] at hyl
        have W3 := W2.kx x3 ⟨_, D3⟩
        have hil : is.length ≤ 1000 := by omega
        walk_at "g"
        refine ⟨A 8, A 7, L, S.cs, S.F, is, rfl, W3.th, by omega, W3.lh, eL, hil, fun H4 t k4 ht4 => ?_⟩
        have W4 := W3.same k4
        have eL4 := k4 _ _ eL
        have D4 := D3.kp (M := []) (Kp.of k4) (by simp) (by simp)
        refine w_name ?_
        walk_at "g"
        refine w_seq ?_
        walk_at "g"
        refine w_new fun u H5 hu5 eu5 k5 => ?_
        have ht5 := ht4.kt (KT.of k5)
        walk_at "g"
        refine w_eqRf ht5 eu5 ?_
        have W5' := W4.same k5
        have eL5 := k5 _ _ eL4
        have D5 := D4.kp (M := []) (Kp.of k5) (by simp) (by simp)
        have fr5 := W5'.there
        by_cases hok : dueN S.cs.length S.F is = .ok
        · obtain ⟨ns, ens, hns⟩ := dueN_ok hok
          rw [hok]
          have eLn : H5 L = some (.lst (ns.map nV)) := by rw [eL5, ens, ← nV_map]
          have elo5 := W5'.lo
          have e45 := W5'.e4
          have elp5 := W5'.lp
          refine ⟨true, rfl, ?_⟩
          rw [if_pos rfl]
          walk_at "g"
          refine ⟨L, ns, rfl, eLn, fun x hx => by have := (hns x hx).1; omega, fun H6 f hf6 k6 F6 => ?_⟩
          walk_at "g"
          refine w_new fun r H7 hr7 er7 k7 => ?_
          have s57 := Same.trans k6 k7
          have elo7 := s57 _ _ elo5
          walk_at "g"
          refine w_app elo7 (by rw [List.length_map, List.length_range]; exact small2000 (by omega)) fun H8 elo8 o8 => ?_
          have n10L : L ≠ A 10 := by
            have := W3.there 10 (by omega)
            intro e
            rw [e] at hL
            exact W2.there 10 (by omega) hL
          have eL8 : H8 L = some (.lst (is.map V.int)) := o8.get n10L (s57 _ _ eL5)
          walk_at "g"
          refine w_tupL (.of eL8) fun t2 H9 ht9 et9 k9 => ?_
          have nfr : f ≠ r := by
            obtain ⟨kv, hkv⟩ := F6.obj
            exact ne_of_none hkv hr7
          have nr10 : r ≠ A 10 := fun e => fr5 10 (by omega) (e ▸ (k6.free hr7))
          have nf10 : f ≠ A 10 := fun e => fr5 10 (by omega) (e ▸ hf6)
          have k59 : Kp ([10].map A) H5 H9 := fun b u hb h => k9 _ _ (o8.get (by simpa using hb) (s57 _ _ h))
          have t59 : KT H5 H9 := (KT.of s57).trans ((KT.off o8 elo7).trans (KT.of k9))
          have R := W5'.keep (J := [10]) (by simp; omega) k59 t59
          have er9 := k9 _ _ (o8.get nr10 er7)
          have F9 : FAt H9 f (fun n => n ∈ ns) := ((F6.same k7).kp (o8.kp (M := [A 10]) (by simp)) (by simpa using nf10)).same k9
          have ml := W.ml
          have al3 := W.al3
          walk_at "g"
          refine ⟨A 1, S.dy, A 12, S.dx, A 13, A 14, A 15, A 2, A 3, A 4, A 5, A 6, A 9, t2, S.cs, S.ds, S.k, S.F, is, _, _, rfl, R.st (by simp) (by simp), R.bk (by simp) (by simp) (by simp) (by simp), et9, hil, R.e4 (by simp), by rw [List.length_map]; omega, R.lp (by simp), by rw [List.length_map, List.length_range]; omega, fun e => absurd (W.inj 9 6 (by omega) (by omega) e) (by decide), fun h => absurd hok h, fun _ z dz od rr H10 hz hod hne ez Fo e4 elp k10 t10 hrr => ?_⟩
          have ht10 : RfAt H10 t .ok := by
            have h5 := ht5
            rw [hok] at h5
            exact (h5.kt t59).kt t10
          walk_at "g"
          refine ⟨_, _, rfl, RfAt.sd2 hrr ht10, fun H11 k11 => ?_⟩
          have free5 : ∀ {x : Addr}, H9 x = none → H5 x = none := fun {x} hx => by
            cases e : H5 x with
            | none => rfl
            | some o =>
              by_cases h10 : x = A 10
              · rw [h10, R.dk (by simp) (by simp) |>.elim fun _ _ => k9 _ _ elo8] at hx
                cases hx
              · rw [k59 _ _ (by simpa using h10) e] at hx
                cases hx
          have hz5 := free5 hz
          have hod5 := free5 hod
          have fF9 : ∃ o, H9 f = some o := by obtain ⟨kv, hkv⟩ := F9.obj; exact ⟨_, hkv⟩
          have nzr : z ≠ r := (ne_of_none er9 hz).symm
          have nzf : z ≠ f := by obtain ⟨o, e⟩ := fF9; exact (ne_of_none e hz).symm
          have nor : od ≠ r := (ne_of_none er9 hod).symm
          have nof : od ≠ f := by obtain ⟨o, e⟩ := fF9; exact (ne_of_none e hod).symm
          have n69 : ∀ {x : Addr}, H5 x = none → x ∉ [A 6, A 9] := fun {x} hx => by
            simp only [List.mem_cons, List.not_mem_nil, or_false, not_or]
            exact ⟨fun e => fr5 6 (by omega) (e ▸ hx), fun e => fr5 9 (by omega) (e ▸ hx)⟩
          have er11 := k11 _ _ (k10 _ _ (n69 (k6.free hr7)) er9)
          have F11 := (F9.kp k10 (n69 hf6)).same k11
          have n106 : A 10 ∉ [A 6, A 9] := by
            simp only [List.mem_cons, List.not_mem_nil, or_false, not_or]
            exact ⟨fun e => absurd (W.inj 10 6 (by omega) (by omega) e) (by decide), fun e => absurd (W.inj 10 9 (by omega) (by omega) e) (by decide)⟩
          have elo11 := k11 _ _ (k10 _ _ n106 (k9 _ _ elo8))
          have W11 := W5'.pin (H' := H11) (G' := fun n => (n : Int) ∈ is) hz5 hod5 (k6.free hr7) hf6 hne nzr nzf nor nof nfr.symm (fun b u hb h => by
            simp only [List.map_cons, List.map_nil, List.mem_cons, List.not_mem_nil, or_false, not_or] at hb
            exact k11 _ _ (k10 _ _ (by simp [hb.1, hb.2.1]) (k59 _ _ (by simpa using hb.2.2) h))) (t59.trans (t10.trans (KT.of k11))) (k11 _ _ ez) (Fo.same k11) er11 (F11.iff fun n => by rw [ens]; exact int_mem.symm) (fun n hn => by rw [ens] at hn; exact (hns n (int_mem.mp hn)).1) (by omega) (k11 _ _ e4) (k11 _ _ elp) elo11
          refine q H11 _ _ W11 ⟨fun j hj _ => newA_lt (by omega), rfl, Nat.le_refl _, Nat.le_succ _⟩ ?_
          have D9 := D5.kp k59 (W5'.out (J := [10]) (by simp; omega) (i := 0) (by omega) (by simp)) (W5'.out (J := [10]) (by simp; omega) (i := 16) (by omega) (by simp))
          have o0 := W5'.out (J := [6, 9]) (by simp; omega) (i := 0) (by omega) (by simp)
          have o16 := W5'.out (J := [6, 9]) (by simp; omega) (i := 16) (by omega) (by simp)
          exact ((D9.kp k10 (by simpa using o0) (by simpa using o16)).kp (M := []) (Kp.of k11) (by simp) (by simp)).mono (by omega)
        · have hno : isOk (dueN S.cs.length S.F is) = false := by
            cases h : isOk (dueN S.cs.length S.F is) with
            | false => rfl
            | true => exact absurd (Rf.isOk_iff.mp h) hok
          rw [hno]
          walk_at "g"
          refine w_tupL (.of eL5) fun t2 H6 ht6 et6 k6 => ?_
          have W6 := W5'.same k6
          have ml := W.ml
          have al3 := W.al3
          walk_at "g"
          refine ⟨A 1, S.dy, A 12, S.dx, A 13, A 14, A 15, A 2, A 3, A 4, A 5, A 6, A 9, t2, S.cs, S.ds, S.k, S.F, is, _, _, rfl, W6.st, W6.bk, et6, hil, W6.e4, by rw [List.length_map]; omega, W6.lp, by rw [List.length_map, List.length_range]; omega, fun e => absurd (W.inj 9 6 (by omega) (by omega) e) (by decide), fun _ H7 rr k7 hrr => ?_, fun h => absurd h hok⟩
          walk_at "g"
          have k67 := Same.trans k6 k7
          refine ⟨_, _, rfl, RfAt.sd2 hrr (ht5.kt (KT.of k67)), fun H8 k8 => ?_⟩
          have k58 := Same.trans k67 k8
          exact q H8 A S (W5'.same k58) ⟨fun _ _ _ => rfl, rfl, Nat.le_succ _, Nat.le_succ _⟩ ((D5.kp (M := []) (Kp.of k58) (by simp) (by simp)).mono (by omega))
end
local macro_rules | `(tactic| walk_at "s") => `(tactic| first
  | with_reducible refine w_dnewT ?_
  | with_reducible refine w_valsT ?_
  | with_reducible refine w_vals ?_
  | with_reducible refine w_itemsT ?_
  | with_reducible refine w_dpopT ?_
  | with_reducible refine w_dpop1 ?_
  | ((with_reducible refine' w_isDT ?h1 ?_); (case h1 => assumption))
  | ((with_reducible refine' w_valsT' ?h1 ?_); (case h1 => assumption))
  | ((with_reducible refine' w_vals' ?h1 ?_); (case h1 => assumption))
  | ((with_reducible refine' w_itemsT' ?h1 ?_); (case h1 => assumption))
  | ((with_reducible refine' w_keysT' ?h1 ?_); (case h1 => assumption))
  )
def spLFarDeed (P : Program) (w : World) (C CU CP : Addr) : Sp := fun vs H Q _ => ∃ (n : Nat) (A : Nat → Addr) (S : PSt), vs = [.ref (A 0), .ref (A 1), .ref (A 8), .ref (A 7), .ref (A 11)] ∧ W5 P w C CU CP H A S ∧ Deck H (A 0) (A 16) n ∧ n + 40 < MOSTD ∧ S.fs.length < 100 ∧ 1 ≤ S.cs.length ∧ ∀ H' A' S', W5 P w C CU CP H' A' S' → Nx A S A' S' → Deck H' (A 0) (A 16) (n + 40) → Q (.bl true) H'
theorem three {i : Nat} {xs : List V} (h : (i : Int) < 3) {P : Str → Prop} {a b c : Str} (e : xs = [.str a, .str b, .str c]) (ha : P a) (hb : P b) (hc : P c) : ∃ z, atI xs (i : Int) = some (.str z) ∧ P z := by
  subst e
  match i, h with
  | 0, _ => exact ⟨a, atI_nat (j := 0) rfl, ha⟩
  | 1, _ => exact ⟨b, atI_nat (j := 1) rfl, hb⟩
  | 2, _ => exact ⟨c, atI_nat (j := 2) rfl, hc⟩
  | i + 3, h => omega
section
variable {P : Program} {w : World} {K : PySem.W.Frag} {mg : Str → Option Value} {base : Heap} {C CH CS CU CP : Addr}
theorem ok_lfardeed {f fM fD fS fI fLb fNm fV fVD fFS : Addr} {fd fdM fdD fdS fdI fdLb fdNm fdV fdVD fdFS : FuncData} (T : Txt K mg) (F : Fun K "_law_far_deed" "_law_far_deed" s_law_far_deed f fd) (D_law_mixed : Df K mg "_law_mixed" s_law_mixed ["_law_cell", "_law_turn"] fM fdM) (D_law_draw : Df K mg "_law_draw" s_law_draw ["_law_deck_here", "_law_many"] fD fdD) (D_law_same : Df K mg "_law_same" s_law_same ["_law_found", "_law_due"] fS fdS) (D_law_int : Df K mg "_law_int" s_law_int ["_law_thing"] fI fdI)
    (D_law_label : Df K mg "_law_label" s_law_label ["_law_deck_here"] fLb fdLb) (D_law_name : Df K mg "_law_name" s_law_name ["_law_deck_here", "_law_things"] fNm fdNm) (D_law_is_version : Df K mg "_law_is_version" s_law_is_version ["_law_things", "_law_name_here"] fV fdV) (D_law_version_due : Df K mg "_law_version_due" s_law_version_due ["_law_things", "_law_here_here", "_law_version"] fVD fdVD) (D_law_far_set : Df K mg "_law_far_set" s_law_far_set ["_law_house_here", "_law_label_here", "_law_mark", "_law_version"] fFS fdFS) (G_law_far_set : FnOk P w K mg base CX0 7 fFS fdFS ["_law_house_here", "_law_label_here", "_law_mark", "_law_version"] (spLFarSet P w C CU)) : FnOk P w K mg base CX0 8 f fd ["_law_deck_here", "_law_house_here", "_law_things", "_law_here_here", "_law_far"] (spLFarDeed P w C CU CP) := by
  have G_law_draw : FnOk P w K mg base CX0 2 fD fdD ["_law_deck_here", "_law_many"] spDraw := ok_draw T D_law_draw.fn D_law_mixed
  have G_law_same : FnOk P w K mg base CX0 4 fS fdS ["_law_found", "_law_due"] (spSame 2) := ok_same T D_law_same D_law_int 2
  have G_law_label : FnOk P w K mg base CX0 3 fLb fdLb ["_law_deck_here"] spLabel := ok_label T D_law_label.fn D_law_mixed D_law_draw
  have G_law_name : FnOk P w K mg base CX0 3 fNm fdNm ["_law_deck_here", "_law_things"] spLName := ok_lname T D_law_name.fn D_law_mixed D_law_draw
  have G_law_version_due : FnOk P w K mg base CX0 2 fVD fdVD ["_law_things", "_law_here_here", "_law_version"] spLVDue := ok_lvdue T D_law_version_due.fn D_law_is_version
  refine F.ok sc_law_far_deed (fun vs H Q E h => ?_) (fun cdv A outer s H vs Q E hr h => ?_)
  · obtain ⟨n, A, S, rfl, _⟩ := h
    rfl
  · obtain ⟨n, A, S, rfl, W, D0, hn, hm, hc1, q⟩ := h
    have hu := hu_of hr
    have few := W.bk.few
    have i80 : A 8 ≠ A 0 := fun e => absurd (W.inj 8 0 (by omega) (by omega) e) (by decide)
    refine ⟨_,
      (pss_cons
        (ps_set (i := 5) sc_law_far_deed.nd rfl (.inl rfl) (pe_ix (r := rIxL K) ix_list (pe_lst (pa_cons pe_str (pa_cons pe_str (pa_cons (pe_call G_law_label (hr.mono (by omega)) (by rfl) D_law_label.g D_law_label.fn.kp D_law_label.b .nil pass0 (pa_cons (pv 0) pa_nil)) pa_nil)))) (pe_call G_law_draw (hr.mono (by omega)) (by rfl) D_law_draw.g D_law_draw.fn.kp D_law_draw.b .nil pass0 (pa_cons (pv 0) (pa_cons pe_int pa_nil))) (fun _ _ => rfl)))
      (pss_cons
        (ps_set (i := 6) sc_law_far_deed.nd rfl (.inl rfl) (pe_ix (r := rIxL K) ix_list (pe_lst (pa_cons pe_str (pa_cons pe_str (pa_cons (pe_call G_law_label (hr.mono (by omega)) (by rfl) D_law_label.g D_law_label.fn.kp D_law_label.b .nil pass0 (pa_cons (pv 0) pa_nil)) pa_nil)))) (pe_call G_law_draw (hr.mono (by omega)) (by rfl) D_law_draw.g D_law_draw.fn.kp D_law_draw.b .nil pass0 (pa_cons (pv 0) (pa_cons pe_int pa_nil))) (fun _ _ => rfl)))
      (pss_cons
        (ps_set (i := 7) sc_law_far_deed.nd rfl (.inl rfl) (pe_call G_law_name (hr.mono (by omega)) (by rfl) D_law_name.g D_law_name.fn.kp D_law_name.b .nil pass0 (pa_cons (pv 0) (pa_cons (pv 2) pa_nil))))
      (pss_cons
        (ps_if (pt_cmpR op_eq (pe_call G_law_draw (hr.mono (by omega)) (by rfl) D_law_draw.g D_law_draw.fn.kp D_law_draw.b .nil pass0 (pa_cons (pv 0) (pa_cons pe_int pa_nil))) pe_int (nomark _))
          (pss_one
            (ps_set (i := 7) sc_law_far_deed.nd rfl (.inl rfl) pe_non))
          pss_nil)
      (pss_cons
        (ps_set (i := 8) sc_law_far_deed.nd rfl (.inl rfl) (pe_call G_law_version_due (hr.mono (by omega)) (by rfl) D_law_version_due.g D_law_version_due.fn.kp D_law_version_due.b .nil pass0 (pa_cons (pv 2) (pa_cons (pv 3) (pa_cons (pv 7) pa_nil)))))
      (pss_cons
        (ps_if (PW.pt (pw_and (pt_cmpR (r := rEqD K) (op_eqD hr.units) (pv 8) (pe_tup pa_nil) (nomark _)) (pw_and1 (pt_cmpR o_notN (pv 7) pe_non (nomark _)))))
          (pss_one
            (ps_dput hu (pv 4) (pe_tup (pa_cons (pv 5) (pa_cons (pv 6) pa_nil))) (pv 7) rfl))
          (pss_one
            (ps_if (PW.pt (pw_and (pt_cmpR (r := rEqD K) (op_eqD hr.units) (pv 8) (pe_tup pa_nil) (nomark _)) (pw_and1 (pt_cmp (pc_din hu (pe_tup (pa_cons (pv 5) (pa_cons (pv 6) pa_nil))) (pv 4))))))
              (pss_one
                (ps_expr (pe_dpopT hu (pv 4) (pe_tup (pa_cons (pv 5) (pa_cons (pv 6) pa_nil))) ⟨rfl, rfl, rfl, rfl⟩)))
              pss_nil)))
      (pss_one
        (ps_ret (pe_call G_law_same (hr.mono (by omega)) (by rfl) D_law_same.g D_law_same.fn.kp D_law_same.b .nil pass0 (pa_cons (pe_call G_law_far_set (hr.mono (by omega)) (by rfl) D_law_far_set.g D_law_far_set.fn.kp D_law_far_set.b .nil pass0 (pa_cons (pv 1) (pa_cons (pv 5) (pa_cons (pv 6) (pa_cons (pv 7) pa_nil))))) (pa_cons (pv 8) pa_nil)))))))))))
      , ?_⟩
    rw [show L2.start N_law_far_deed [V.ref (A 0), V.ref (A 1), V.ref (A 8), V.ref (A 7), V.ref (A 11)] = [some (.ref (A 0)), some (.ref (A 1)), some (.ref (A 8)), some (.ref (A 7)), some (.ref (A 11)), none, none, none, none] from rfl]
    walk_at "x"
    refine ⟨A 0, A 16, n, rfl, D0, by omega, fun H1 z1 D1 k1 t1 hz1 => ?_⟩
    have W1 := W.kx (D0.kxK D1 k1) ⟨_, D1⟩
    walk_at "g"
    refine w_new fun L1 H2 hL1 eL1 k2 => ?_
    have D2 := D1.kp (M := []) (Kp.of k2) (by simp) (by simp)
    walk_at "g"
    refine w_draw D2 (by omega) (by decide) (by decide) fun r1 H3 hr1 D3 o3 => ?_
    have eL13 := o3.get (D1.ne1 hL1).1 eL1
    have W3 := (W1.same k2).kx (D2.kx D3 o3) ⟨_, D3⟩
    obtain ⟨l, atl, _⟩ := three (P := fun _ => True) hr1 rfl trivial trivial trivial
    walk_at "g"
    refine ⟨A 0, A 16, n + 13, rfl, D3.mono (by omega), by omega, fun H4 z4 D4 k4 t4 hz4 => ?_⟩
    have W4 := W3.kx (D3.kxK D4 k4) ⟨_, D4⟩
    walk_at "g"
    refine w_new fun L5 H5 hL5 eL5 k5 => ?_
    have D5 := D4.kp (M := []) (Kp.of k5) (by simp) (by simp)
    walk_at "g"
    refine w_draw D5 (by omega) (by decide) (by decide) fun r6 H6 hr6 D6 o6 => ?_
    have eL56 := o6.get (D4.ne1 hL5).1 eL5
    have W6 := (W4.same k5).kx (D5.kx D6 o6) ⟨_, D6⟩
    obtain ⟨m, atm, _⟩ := three (P := fun _ => True) hr6 rfl trivial trivial trivial
    walk_at "g"
    refine ⟨A 0, A 16, A 8, _, S.cs, rfl, D6, W6.th, hc1, by omega, by omega, i80, fun i H7 D7 x7 => ?_⟩
    have W7 := W6.kx x7 ⟨_, D7⟩
    refine w_name ?_
    refine w_seqJ (fun σ' H' => ∃ x, σ' = [some (.ref (A 0)), some (.ref (A 1)), some (.ref (A 8)), some (.ref (A 7)), some (.ref (A 11)), some (.str l), some (.str m), some x, none] ∧ (x = .non ∨ x = .int i) ∧ W5 P w C CU CP H' A S ∧ Deck H' (A 0) (A 16) (n + 40)) ?_ fun U hU => ?_
    rotate_left
    · walk_at "g"
      refine w_draw D7 (by omega) (by decide) (by decide) fun r8 H8 hr8 D8 o8 => ?_
      have W8 := W7.kx (D7.kx D8 o8) ⟨_, D8⟩
      walk_at "g"
      by_cases h8 : (r8 : Int) = 0
      · rw [decide_eq_true h8, if_pos rfl]
        walk_at "g"
        exact hU _ _ ⟨.non, rfl, .inl rfl, W8, D8.mono (by omega)⟩
      · rw [decide_eq_false h8, if_neg (by decide)]
        walk_at "g"
        exact hU _ _ ⟨.int i, rfl, .inr rfl, W8, D8.mono (by omega)⟩
    rintro σ' H8 ⟨x, rfl, hx, W8, D8⟩
    have fl := W8.fl
    walk_at "g"
    refine ⟨A 8, A 7, S.cs, S.F, x, rfl, W8.th, by omega, W8.lh, ?_⟩
    rcases hx with rfl | rfl
    · refine .inl ⟨rfl, fun H9 t k9 ht9 => ?_⟩
      have W9 := W8.same k9
      have D9 := D8.kp (M := []) (Kp.of k9) (by simp) (by simp)
      refine w_name ?_
      refine w_seqJ (fun σ' H' => σ' = [some (.ref (A 0)), some (.ref (A 1)), some (.ref (A 8)), some (.ref (A 7)), some (.ref (A 11)), some (.str l), some (.str m), some .non, some (.ref t)] ∧ Kp ([11].map A) H9 H' ∧ KT H9 H' ∧ H' (A 11) = some (.dT (farK (dropFs S.fs (l, m))))) ?_ fun U hU => ?_
      rotate_left
      · walk_at "g"
        refine w_new fun u H10 hu10 eu10 k10 => ?_
        walk_at "g"
        refine w_eqRf (ht9.kt (KT.of k10)) eu10 ?_
        walk_at "g"
        rw [show isOk Rf.ok = true from rfl, if_pos rfl]
        walk_at "g"
        refine w_nyes rfl ?_
        walk_at "g"
        refine w_new fun u2 H11 hu11 eu11 k11 => ?_
        have s911 := Same.trans k10 k11
        have elf11 := s911 _ _ W9.lf
        walk_at "g"
        refine w_eqRf (ht9.kt (KT.of s911)) eu11 ?_
        walk_at "g"
        rw [show isOk Rf.ok = true from rfl, if_pos rfl]
        walk_at "g"
        refine w_new fun t3 H12 ht3 et3 k12 => ?_
        have elf12 := k12 _ _ elf11
        have s912 := Same.trans s911 k12
        walk_at "g"
        refine w_dinT (k := ttK (l, m)) elf12 et3 ?_
        rw [farK_val]
        cases hlk : S.fs.lookup (l, m) with
        | none =>
          walk_at "g"
          exact hU _ _ ⟨rfl, (fun b u hb h => s912 _ _ h), KT.of s912, by rw [dropFs_none hlk]; exact elf12⟩
        | some v =>
          rw [show (Option.map nV (some v)).isSome = true from rfl]
          walk_at "g"
          refine w_new fun t4 H13 ht4 et4 k13 => ?_
          have elf13 := k13 _ _ elf12
          walk_at "g"
          have hv : valV (farK S.fs) (ttK (l, m)) = some (nV v) := by rw [farK_val, hlk]; rfl
          refine w_dpopT' (k := ttK (l, m)) elf13 et4 hv fun H14 elf14 o14 => ?_
          rw [farK_drop] at elf14
          have s913 := Same.trans s912 k13
          exact hU _ _ ⟨rfl, (fun b u hb h => o14.get (by simpa using hb) (s913 _ _ h)), (KT.of s913).trans (KT.offT o14 elf13), elf14⟩
      rintro σ' H10 ⟨rfl, k10, t10, elf10⟩
      have R := W9.keep (J := [11]) (by simp; omega) k10 t10
      walk_at "g"
      refine ⟨A 1, S.dy, A 12, S.dx, A 13, A 14, A 15, A 2, A 3, A 4, A 5, A 6, S.cs, S.ds, S.k, S.F, S.fs, l, m, .non, rfl, R.st (by simp) (by simp), R.bk (by simp) (by simp) (by simp) (by simp), R.e3 (by simp), by omega, .inl ⟨rfl, fun H11 rr e311 k11 t11 hrr => ?_⟩⟩
      walk_at "g"
      refine ⟨_, _, rfl, RfAt.sd2 hrr ((ht9.kt t10).kt t11), fun H12 k12 => ?_⟩
      have n115 : A 11 ∉ [A 5] := by simpa using fun e => absurd (W9.inj 11 5 (by omega) (by omega) e) (by decide)
      have W12 := W9.far (H' := H12) (fs' := dropFs S.fs (l, m)) (fun b u hb h => by
        simp only [List.map_cons, List.map_nil, List.mem_cons, List.not_mem_nil, or_false, not_or] at hb
        exact k12 _ _ (k11 _ _ (by simpa using hb.1) (k10 _ _ (by simpa using hb.2) h))) (t10.trans (t11.trans (KT.of k12))) (k12 _ _ e311) (k12 _ _ (k11 _ _ n115 elf10)) (fun p hp => W9.fb p (List.mem_filter.mp hp).1) (dropFs_nd W9.fn _) (Nat.le_trans (List.length_filter_le _ _) W9.fl)
      refine q H12 _ _ W12 ⟨fun _ _ _ => rfl, rfl, Nat.le_succ _, Nat.le_trans (List.length_filter_le _ _) (Nat.le_succ _)⟩ ?_
      have D10 := D9.kp k10 (W9.out (J := [11]) (by simp; omega) (i := 0) (by omega) (by simp)) (W9.out (J := [11]) (by simp; omega) (i := 16) (by omega) (by simp))
      have o0 := W9.out (J := [5]) (by simp; omega) (i := 0) (by omega) (by simp)
      have o16 := W9.out (J := [5]) (by simp; omega) (i := 16) (by omega) (by simp)
      exact (D10.kp k11 (by simpa using o0) (by simpa using o16)).kp (M := []) (Kp.of k12) (by simp) (by simp)
    · refine .inr ⟨i, rfl, fun H9 t k9 ht9 => ?_⟩
      have W9 := W8.same k9
      have D9 := D8.kp (M := []) (Kp.of k9) (by simp) (by simp)
      refine w_name ?_
      refine w_seq ?_
      walk_at "g"
      refine w_new fun u H10 hu10 eu10 k10 => ?_
      have W10 := W9.same k10
      have D10 := D9.kp (M := []) (Kp.of k10) (by simp) (by simp)
      have ht10 := ht9.kt (KT.of k10)
      walk_at "g"
      refine w_eqRf ht10 eu10 ?_
      walk_at "g"
      by_cases hok : dueV S.cs S.F i = .ok
      · obtain ⟨x, ex, iv, hF⟩ : ∃ x : Nat, i = x ∧ isV S.cs x ∧ S.F x := by
          unfold dueV at hok
          by_cases h : ∃ n : Nat, i = n ∧ isV S.cs n
          · rw [if_pos h] at hok
            obtain ⟨x, ex, iv⟩ := h
            subst ex
            rw [Int.toNat_natCast] at hok
            by_cases hF : S.F x
            · exact ⟨x, rfl, iv, hF⟩
            · rw [if_neg hF] at hok; cases hok
          · rw [if_neg h] at hok; cases hok
        subst ex
        rw [hok, show isOk Rf.ok = true from rfl, if_pos rfl]
        walk_at "g"
        refine w_nno (fun z => nomatch z) ?_
        walk_at "g"
        refine w_new fun t3 H11 ht3 et3 k11 => ?_
        have W11 := W10.same k11
        have elf11 := W11.lf
        walk_at "g"
        refine w_dputT (k := ttK (l, m)) elf11 et3 (by unfold farK; rw [List.length_map]; exact small2000 (by omega)) fun H12 elf12 o12 => ?_
        rw [farK_put] at elf12
        have k12 : Kp ([11].map A) H11 H12 := o12.kp (by simp)
        have t12 : KT H11 H12 := KT.offT o12 elf11
        have R := W11.keep (J := [11]) (by simp; omega) k12 t12
        walk_at "g"
        refine ⟨A 1, S.dy, A 12, S.dx, A 13, A 14, A 15, A 2, A 3, A 4, A 5, A 6, S.cs, S.ds, S.k, S.F, S.fs, l, m, .int (x : Int), rfl, R.st (by simp) (by simp), R.bk (by simp) (by simp) (by simp) (by simp), R.e3 (by simp), by omega, .inr ⟨(x : Int), rfl, fun h => absurd hok h, fun _ H13 rr e313 k13 t13 hrr => ?_⟩⟩
        rw [Int.toNat_natCast] at e313
        have ht13 : RfAt H13 t .ok := by
          rw [hok] at ht10
          exact ((ht10.kt (KT.of k11)).kt t12).kt t13
        walk_at "g"
        refine ⟨_, _, rfl, RfAt.sd2 hrr ht13, fun H14 k14 => ?_⟩
        have n115 : A 11 ∉ [A 5] := by simpa using fun e => absurd (W11.inj 11 5 (by omega) (by omega) e) (by decide)
        have pl := putFs_len S.fs (l, m) x
        have W14 := W11.far (H' := H14) (fs' := putFs S.fs (l, m) x) (fun b u hb h => by
          simp only [List.map_cons, List.map_nil, List.mem_cons, List.not_mem_nil, or_false, not_or] at hb
          exact k14 _ _ (k13 _ _ (by simpa using hb.1) (k12 _ _ (by simpa using hb.2) h))) (t12.trans (t13.trans (KT.of k14))) (k14 _ _ e313) (k14 _ _ (k13 _ _ n115 elf12)) (fun p hp => by
            rcases putFs_val hp with h | ⟨p', hp', h⟩
            · rw [h]; exact iv.lt
            · rw [← h]; exact W11.fb p' hp') (putFs_nd W11.fn _ _) (by omega)
        refine q H14 _ _ W14 ⟨fun _ _ _ => rfl, rfl, Nat.le_succ _, pl⟩ ?_
        have D11 := D10.kp (M := []) (Kp.of k11) (by simp) (by simp)
        have D12 := D11.kp k12 (W11.out (J := [11]) (by simp; omega) (i := 0) (by omega) (by simp)) (W11.out (J := [11]) (by simp; omega) (i := 16) (by omega) (by simp))
        have o0 := W11.out (J := [5]) (by simp; omega) (i := 0) (by omega) (by simp)
        have o16 := W11.out (J := [5]) (by simp; omega) (i := 16) (by omega) (by simp)
        exact (D12.kp k13 (by simpa using o0) (by simpa using o16)).kp (M := []) (Kp.of k14) (by simp) (by simp)
      · have hno : isOk (dueV S.cs S.F i) = false := by
          cases h : isOk (dueV S.cs S.F i) with
          | false => rfl
          | true => exact absurd (Rf.isOk_iff.mp h) hok
        rw [hno, if_neg (by decide)]
        walk_at "g"
        refine w_new fun u2 H11 hu11 eu11 k11 => ?_
        have W11 := W10.same k11
        have D11 := D10.kp (M := []) (Kp.of k11) (by simp) (by simp)
        have ht11 := ht10.kt (KT.of k11)
        walk_at "g"
        refine w_eqRf ht11 eu11 ?_
        walk_at "g"
        rw [hno]
        walk_at "g"
        refine ⟨A 1, S.dy, A 12, S.dx, A 13, A 14, A 15, A 2, A 3, A 4, A 5, A 6, S.cs, S.ds, S.k, S.F, S.fs, l, m, .int i, rfl, W11.st, W11.bk, W11.e3, by omega, .inr ⟨i, rfl, fun _ H12 rr k12 hrr => ?_, fun h => absurd h hok⟩⟩
        walk_at "g"
        refine ⟨_, _, rfl, RfAt.sd2 hrr (ht11.kt (KT.of k12)), fun H13 k13 => ?_⟩
        have s13 := Same.trans k12 k13
        exact q H13 A S (W11.same s13) ⟨fun _ _ _ => rfl, rfl, Nat.le_succ _, Nat.le_succ _⟩ (D11.kp (M := []) (Kp.of s13) (by simp) (by simp))
end
local macro_rules | `(tactic| walk_at "s") => `(tactic| first
  | with_reducible refine w_dnewT ?_
  | with_reducible refine w_valsT ?_
  | with_reducible refine w_vals ?_
  | with_reducible refine w_itemsT ?_
  | with_reducible refine w_dpopT ?_
  | with_reducible refine w_dpop1 ?_
  | ((with_reducible refine' w_isDT ?h1 ?_); (case h1 => assumption))
  | ((with_reducible refine' w_valsT' ?h1 ?_); (case h1 => assumption))
  | ((with_reducible refine' w_vals' ?h1 ?_); (case h1 => assumption))
  | ((with_reducible refine' w_itemsT' ?h1 ?_); (case h1 => assumption))
  | ((with_reducible refine' w_keysT' ?h1 ?_); (case h1 => assumption))
  )
def spLaw (K : PySem.W.Frag) : Sp := fun vs H Q _ => ∃ (a : Addr) (ns : List Int), vs = [.ref a] ∧ SqL K H a (ns.map V.int) ∧ ns.length ≤ 63 ∧ ∀ H', Q (.bl true) H'
def A0 (d s hd a1 a2 a3 a4 f th lp lo lf p lc ld lg c : Addr) : Nat → Addr
  | 0 => d
  | 1 => s
  | 2 => hd
  | 3 => a1
  | 4 => a2
  | 5 => a3
  | 6 => a4
  | 7 => f
  | 8 => th
  | 9 => lp
  | 10 => lo
  | 11 => lf
  | 12 => p
  | 13 => lc
  | 14 => ld
  | 15 => lg
  | 16 => c
  | _ => 0
theorem A0_inj {d s hd a1 a2 a3 a4 f th lp lo lf p lc ld lg c : Addr} (nd : [d, s, hd, a1, a2, a3, a4, f, th, lp, lo, lf, p, lc, ld, lg, c].Nodup) : ∀ i j, i < 17 → j < 17 → A0 d s hd a1 a2 a3 a4 f th lp lo lf p lc ld lg c i = A0 d s hd a1 a2 a3 a4 f th lp lo lf p lc ld lg c j → i = j := by
  have get : ∀ i, i < 17 → [d, s, hd, a1, a2, a3, a4, f, th, lp, lo, lf, p, lc, ld, lg, c][i]? = some (A0 d s hd a1 a2 a3 a4 f th lp lo lf p lc ld lg c i) := fun i hi => by
    match i, hi with
    | 0, _ => rfl
    | 1, _ => rfl
    | 2, _ => rfl
    | 3, _ => rfl
    | 4, _ => rfl
    | 5, _ => rfl
    | 6, _ => rfl
    | 7, _ => rfl
    | 8, _ => rfl
    | 9, _ => rfl
    | 10, _ => rfl
    | 11, _ => rfl
    | 12, _ => rfl
    | 13, _ => rfl
    | 14, _ => rfl
    | 15, _ => rfl
    | 16, _ => rfl
    | i + 17, hi => exact absurd hi (by omega)
  intro i j hi hj e
  have g1 := get i hi
  have g2 := get j hj
  rw [← e] at g2
  exact (List.getElem?_inj (show i < _ from by simpa using hi) nd).mp (g1.trans g2.symm)
section
variable {P : Program} {w : World} {K : PySem.W.Frag} {mg : Str → Option Value} {base : Heap}
theorem ok_law {f_NoName___init__ f_Lack___init__ f_is_int f_is_text f_is_label f_rise f_are_ints f_rising_ints f_is_pair f_are_rows f_Book___init__ f_Book_named f_Book_thing f_Book_kind f_is_name f_is_kind f_is_entry f_is_tree f_depth_of f_is_version f_is_content f_Store___init__ f_Store_put f_Store_held f_Store_holds f_House___init__ f_House_marks f_House_must_have f_House_far f_House_set_far f_House_pin f_House_roots f_must_hold f_Pin___init__ f_Pin___len__ f_Pin_add f_Pin_let_go f_Pin_names f_law_deck f_law_mixed f_law_draw f_law_label f_law_give f_law_some f_law_book f_law_house f_law_int f_law_same f_law_here f_law_is_version f_law_scene f_law_name f_law_pinned f_law_added f_law_far_set f_law_names_due f_law_version_due f_law_roots f_law_pins_right f_law_pin_deed f_law_far_deed f C_Book C_Store C_House C_Pin C_LetGo C_NoName C_Lack C_HouseError : Addr} {fd_NoName___init__ fd_Lack___init__ fd_is_int fd_is_text fd_is_label fd_rise fd_are_ints fd_rising_ints fd_is_pair fd_are_rows fd_Book___init__ fd_Book_named fd_Book_thing fd_Book_kind fd_is_name fd_is_kind fd_is_entry fd_is_tree fd_depth_of fd_is_version fd_is_content fd_Store___init__ fd_Store_put fd_Store_held fd_Store_holds fd_House___init__ fd_House_marks fd_House_must_have fd_House_far fd_House_set_far fd_House_pin fd_House_roots fd_must_hold fd_Pin___init__ fd_Pin___len__ fd_Pin_add fd_Pin_let_go fd_Pin_names fd_law_deck fd_law_mixed fd_law_draw fd_law_label fd_law_give fd_law_some fd_law_book fd_law_house fd_law_int fd_law_same fd_law_here fd_law_is_version fd_law_scene fd_law_name fd_law_pinned fd_law_added fd_law_far_set fd_law_names_due fd_law_version_due fd_law_roots fd_law_pins_right fd_law_pin_deed fd_law_far_deed fd : FuncData} (T : Txt K mg)
    (F_NoName___init__ : Fun K "__init__" "NoName.__init__" s_NoName___init__ f_NoName___init__ fd_NoName___init__)
    (F_Lack___init__ : Fun K "__init__" "Lack.__init__" s_Lack___init__ f_Lack___init__ fd_Lack___init__)
    (D_is_int : DfD K mg "is_int" s_is_int ["thing", "least"] [.int 0] f_is_int fd_is_int)
    (D_is_text : DfD K mg "is_text" s_is_text ["thing", "most"] [.int 40] f_is_text fd_is_text)
    (D_is_label : Df K mg "is_label" s_is_label ["thing"] f_is_label fd_is_label)
    (D_rise : Df K mg "rise" s_rise ["row"] f_rise fd_rise)
    (D_are_ints : Df K mg "are_ints" s_are_ints ["thing"] f_are_ints fd_are_ints)
    (D_rising_ints : Df K mg "rising_ints" s_rising_ints ["thing"] f_rising_ints fd_rising_ints)
    (D_is_pair : Df K mg "is_pair" s_is_pair ["thing"] f_is_pair fd_is_pair)
    (D_are_rows : Df K mg "are_rows" s_are_rows ["thing"] f_are_rows fd_are_rows)
    (D_Book___init__ : DfM K C_Book "__init__" "Book.__init__" s_Book___init__ ["self"] f_Book___init__ fd_Book___init__)
    (D_Book_named : DfM K C_Book "named" "Book.named" s_Book_named ["self", "content"] f_Book_named fd_Book_named)
    (D_Book_thing : DfM K C_Book "thing" "Book.thing" s_Book_thing ["self", "name"] f_Book_thing fd_Book_thing)
    (D_Book_kind : DfM K C_Book "kind" "Book.kind" s_Book_kind ["self", "name"] f_Book_kind fd_Book_kind)
    (D_is_name : Df K mg "is_name" s_is_name ["book", "thing"] f_is_name fd_is_name)
    (D_is_kind : Df K mg "is_kind" s_is_kind ["book", "thing", "kind"] f_is_kind fd_is_kind)
    (D_is_entry : Df K mg "is_entry" s_is_entry ["book", "thing"] f_is_entry fd_is_entry)
    (D_is_tree : Df K mg "is_tree" s_is_tree ["book", "entries"] f_is_tree fd_is_tree)
    (D_depth_of : Df K mg "depth_of" s_depth_of ["book", "content"] f_depth_of fd_depth_of)
    (D_is_version : Df K mg "is_version" s_is_version ["book", "content"] f_is_version fd_is_version)
    (D_is_content : Df K mg "is_content" s_is_content ["book", "thing"] f_is_content fd_is_content)
    (D_Store___init__ : DfM K C_Store "__init__" "Store.__init__" s_Store___init__ ["self", "book"] f_Store___init__ fd_Store___init__)
    (D_Store_put : DfM K C_Store "put" "Store.put" s_Store_put ["self", "name"] f_Store_put fd_Store_put)
    (D_Store_held : DfM K C_Store "held" "Store.held" s_Store_held ["self"] f_Store_held fd_Store_held)
    (D_Store_holds : DfM K C_Store "holds" "Store.holds" s_Store_holds ["self", "name"] f_Store_holds fd_Store_holds)
    (D_House___init__ : DfM K C_House "__init__" "House.__init__" s_House___init__ ["self", "book"] f_House___init__ fd_House___init__)
    (D_House_marks : DfM K C_House "marks" "House.marks" s_House_marks ["self"] f_House_marks fd_House_marks)
    (D_House_must_have : DfM K C_House "must_have" "House.must_have" s_House_must_have ["self", "version"] f_House_must_have fd_House_must_have)
    (D_House_far : DfM K C_House "far" "House.far" s_House_far ["self"] f_House_far fd_House_far)
    (D_House_set_far : DfM K C_House "set_far" "House.set_far" s_House_set_far ["self", "label", "mark", "version"] f_House_set_far fd_House_set_far)
    (D_House_pin : DfM K C_House "pin" "House.pin" s_House_pin ["self", "names"] f_House_pin fd_House_pin)
    (D_House_roots : DfM K C_House "roots" "House.roots" s_House_roots ["self"] f_House_roots fd_House_roots)
    (D_must_hold : Df K mg "must_hold" s_must_hold ["store", "names"] f_must_hold fd_must_hold)
    (D_Pin___init__ : DfM K C_Pin "__init__" "Pin.__init__" s_Pin___init__ ["self", "store", "names"] f_Pin___init__ fd_Pin___init__)
    (D_Pin___len__ : DfM K C_Pin "__len__" "Pin.__len__" s_Pin___len__ ["self"] f_Pin___len__ fd_Pin___len__)
    (D_Pin_add : DfM K C_Pin "add" "Pin.add" s_Pin_add ["self", "name"] f_Pin_add fd_Pin_add)
    (D_Pin_let_go : DfM K C_Pin "let_go" "Pin.let_go" s_Pin_let_go ["self"] f_Pin_let_go fd_Pin_let_go)
    (D_Pin_names : DfM K C_Pin "names" "Pin.names" s_Pin_names ["self"] f_Pin_names fd_Pin_names)
    (D_law_deck : Df K mg "_law_deck" s_law_deck ["_law_script"] f_law_deck fd_law_deck)
    (D_law_mixed : Df K mg "_law_mixed" s_law_mixed ["_law_cell", "_law_turn"] f_law_mixed fd_law_mixed)
    (D_law_draw : Df K mg "_law_draw" s_law_draw ["_law_deck_here", "_law_many"] f_law_draw fd_law_draw)
    (D_law_label : Df K mg "_law_label" s_law_label ["_law_deck_here"] f_law_label fd_law_label)
    (D_law_give : Df K mg "_law_give" s_law_give ["_law_things", "_law_content"] f_law_give fd_law_give)
    (D_law_some : Df K mg "_law_some" s_law_some ["_law_deck_here", "_law_names", "_law_count"] f_law_some fd_law_some)
    (D_law_book : Df K mg "_law_book" s_law_book ["_law_things"] f_law_book fd_law_book)
    (D_law_house : Df K mg "_law_house" s_law_house ["_law_book_here", "_law_held"] f_law_house fd_law_house)
    (D_law_int : Df K mg "_law_int" s_law_int ["_law_thing"] f_law_int fd_law_int)
    (D_law_same : Df K mg "_law_same" s_law_same ["_law_found", "_law_due"] f_law_same fd_law_same)
    (D_law_here : Df K mg "_law_here" s_law_here ["_law_names"] f_law_here fd_law_here)
    (D_law_is_version : Df K mg "_law_is_version" s_law_is_version ["_law_things", "_law_name_here"] f_law_is_version fd_law_is_version)
    (D_law_scene : Df K mg "_law_scene" s_law_scene ["_law_deck_here", "_law_most"] f_law_scene fd_law_scene)
    (D_law_name : Df K mg "_law_name" s_law_name ["_law_deck_here", "_law_things"] f_law_name fd_law_name)
    (D_law_pinned : Df K mg "_law_pinned" s_law_pinned ["_law_house_here", "_law_pins", "_law_names"] f_law_pinned fd_law_pinned)
    (D_law_added : Df K mg "_law_added" s_law_added ["_law_one", "_law_name_here"] f_law_added fd_law_added)
    (D_law_far_set : Df K mg "_law_far_set" s_law_far_set ["_law_house_here", "_law_label_here", "_law_mark", "_law_version"] f_law_far_set fd_law_far_set)
    (D_law_names_due : Df K mg "_law_names_due" s_law_names_due ["_law_things", "_law_here_here", "_law_names"] f_law_names_due fd_law_names_due)
    (D_law_version_due : Df K mg "_law_version_due" s_law_version_due ["_law_things", "_law_here_here", "_law_version"] f_law_version_due fd_law_version_due)
    (D_law_roots : Df K mg "_law_roots" s_law_roots ["_law_far", "_law_ons"] f_law_roots fd_law_roots)
    (D_law_pins_right : Df K mg "_law_pins_right" s_law_pins_right ["_law_deck_here", "_law_house_here", "_law_pins", "_law_ons", "_law_far"] f_law_pins_right fd_law_pins_right)
    (D_law_pin_deed : Df K mg "_law_pin_deed" s_law_pin_deed ["_law_deck_here", "_law_house_here", "_law_things", "_law_here_here", "_law_pins", "_law_ons"] f_law_pin_deed fd_law_pin_deed)
    (D_law_far_deed : Df K mg "_law_far_deed" s_law_far_deed ["_law_deck_here", "_law_house_here", "_law_things", "_law_here_here", "_law_far"] f_law_far_deed fd_law_far_deed)
    (D_law : Df K mg "law" s_law ["_law_script"] f fd)
    (K_Book : Kl K mg "Book" C_Book ["contents", "depths", "given"]) (M_Book : Mk K C_Book f_Book___init__)
    (K_Store : Kl K mg "Store" C_Store ["book", "here", "turns"]) (M_Store : Mk K C_Store f_Store___init__)
    (K_House : Kl K mg "House" C_House ["book", "here", "turns", "stands", "lately", "others", "pinned"]) (M_House : Mk K C_House f_House___init__)
    (K_Pin : Kl K mg "Pin" C_Pin ["store", "on", "loose"]) (M_Pin : Mk K C_Pin f_Pin___init__)
    (X_LetGo : Exn K mg "LetGo" C_LetGo)
    (X_NoName : ExnI K mg "NoName" C_NoName f_NoName___init__ fd_NoName___init__ ["self", "name"] ["name"])
    (X_Lack : ExnI K mg "Lack" C_Lack f_Lack___init__ fd_Lack___init__ ["self", "name"] ["name"])
    (g_HouseError : mg "HouseError" = some (.ref C_HouseError))
    (xm_NoName_NoName : PySem.W.exmOne K (.ref C_NoName) (.ref C_NoName) = some true)
    (xm_Lack_NoName : PySem.W.exmOne K (.ref C_Lack) (.ref C_NoName) = some false)
    (xm_Lack_Lack : PySem.W.exmOne K (.ref C_Lack) (.ref C_Lack) = some true)
    (xm_LetGo_NoName : PySem.W.exmOne K (.ref C_LetGo) (.ref C_NoName) = some false)
    (xm_LetGo_Lack : PySem.W.exmOne K (.ref C_LetGo) (.ref C_Lack) = some false)
    (xm_LetGo_HouseError : PySem.W.exmOne K (.ref C_LetGo) (.ref C_HouseError) = some true)
    (kq_LetGo_LetGo : PySem.W.kitOne K (.ref C_LetGo) (.ref C_LetGo) = some true)
    (kq_LetGo_ValueError : PySem.W.kitOne K (.ref C_LetGo) (.type "ValueError") = some true)
    (I_House_put : Meth K C_House "put" f_Store_put)
    (I_House_held : Meth K C_House "held" f_Store_held)
    (I_House_holds : Meth K C_House "holds" f_Store_holds)
    (R_Store : ClX.CRead K C_Store (.type "type"))
    (V_Store___init__ : ClX.CVal K C_Store (.type "type") "__init__" (.ref f_Store___init__) (.ref f_Store___init__))
    (EC_LetGo : ExcC K C_LetGo)
    : FnOk P w K mg base CX0 10 f fd ["_law_script"] (spLaw K) := by
  obtain ⟨ds_is_int, V_is_int, B_is_int⟩ := D_is_int.b
  obtain ⟨ds_is_text, V_is_text, B_is_text⟩ := D_is_text.b
  obtain ⟨tk_SIGNS, g_SIGNS⟩ := T.g_SIGNS
  obtain ⟨tk_LETTERS, g_LETTERS⟩ := T.g_LETTERS
  obtain ⟨tk_MOST, g_MOST⟩ := T.g_MOST
  obtain ⟨tk_DEEP, g_DEEP⟩ := T.g_DEEP
  have g_LetGo := X_LetGo.g
  have g_NoName := X_NoName.g
  have g_Lack := X_Lack.g
  have G_law_deck : FnOk P w K mg base CX0 1 f_law_deck fd_law_deck ["_law_script"] (spDeck K) := ok_deck T D_law_deck.fn
  have G_law_draw : FnOk P w K mg base CX0 2 f_law_draw fd_law_draw ["_law_deck_here", "_law_many"] spDraw := ok_draw T D_law_draw.fn D_law_mixed
  have G_law_same : FnOk P w K mg base CX0 4 f_law_same fd_law_same ["_law_found", "_law_due"] (spSame 2) := ok_same T D_law_same D_law_int 2
  have G_law_scene : FnOk P w K mg base CX0 4 f_law_scene fd_law_scene ["_law_deck_here", "_law_most"] spLScene := ok_lscene T D_law_scene.fn D_law_mixed D_law_draw D_law_some D_law_give
  have G_law_here : FnOk P w K mg base CX0 1 f_law_here fd_law_here ["_law_names"] spLHere := ok_lhere T D_law_here.fn
  have G_is_content : FnOk P w K mg base CX0 5 f_is_content fd_is_content ["book", "thing"] (spIsContent P w C_Book) := ok_iscontent T D_is_content.fn K_Book D_is_tree D_is_version D_depth_of D_are_rows D_is_entry D_rise D_is_pair D_is_label D_rising_ints D_are_ints D_is_kind D_is_name D_is_int D_is_text
  have G_Book_named : FnOk P w K mg base CX0 6 f_Book_named fd_Book_named ["self", "content"] (spNamed P w C_Book) := ok_named T D_Book_named.fn K_Book D_is_content D_depth_of G_is_content
  have G_law_book : FnOk P w K mg base CX0 7 f_law_book fd_law_book ["_law_things"] (spLBook P w C_Book) := ok_lbook T D_law_book.fn K_Book M_Book D_Book___init__ D_Book_named G_Book_named
  have G_law_house : FnOk P w K mg base CX0 5 f_law_house fd_law_house ["_law_book_here", "_law_held"] (spLHouse P w C_Book C_House) := ok_lhouse T D_law_house.fn K_Book K_Store K_House M_House D_Store___init__ D_House___init__ D_Store_put I_House_put D_is_name D_is_int R_Store V_Store___init__
  have G_House_put : FnOk P w K mg base CX0 3 f_Store_put fd_Store_put ["self", "name"] (spPut P w C_Book C_House) := ok_put T D_Store_put.fn K_Book (house_kf K_House) D_is_name D_is_int
  have G_House_held : FnOk P w K mg base CX0 1 f_Store_held fd_Store_held ["self"] (spHeld C_House) := ok_held T D_Store_held.fn (house_kf K_House)
  have G_House_marks : FnOk P w K mg base CX0 1 f_House_marks fd_House_marks ["self"] (spMarks C_House) := ok_marks T D_House_marks.fn K_House
  have G_is_kind : FnOk P w K mg base CX0 3 f_is_kind fd_is_kind ["book", "thing", "kind"] (spIsKind P w C_Book) := ok_iskind T D_is_kind.fn K_Book D_is_name D_is_int
  have G_House_pin : FnOk P w K mg base (L2.CX P w) 5 f_House_pin fd_House_pin ["self", "names"] (spPinE P w C_Book C_House C_Pin C_NoName C_Lack) := ok_pinE T D_House_pin.fn K_Book K_House K_Pin M_Pin D_Pin___init__ D_must_hold D_Store_holds I_House_holds D_is_name D_is_int F_NoName___init__ X_NoName F_Lack___init__ X_Lack
  have G_Pin_add : FnOk P w K mg base (L2.CX P w) 5 f_Pin_add fd_Pin_add ["self", "name"] (spAdd P w C_Book C_House C_Pin C_NoName C_Lack C_LetGo) := ok_add T D_Pin_add.fn K_Book K_House K_Pin D_must_hold D_Store_holds I_House_holds D_is_name D_is_int F_NoName___init__ X_NoName F_Lack___init__ X_Lack X_LetGo
  have G_House_must_have : FnOk P w K mg base (L2.CX P w) 5 f_House_must_have fd_House_must_have ["self", "version"] (spMustHave P w C_Book C_House C_NoName C_Lack) := ok_musthave T D_House_must_have.fn K_Book K_House D_is_kind D_Store_holds I_House_holds D_Book_thing D_is_name D_is_int G_is_kind F_NoName___init__ X_NoName F_Lack___init__ X_Lack
  have G_House_set_far : FnOk P w K mg base (L2.CX P w) 6 f_House_set_far fd_House_set_far ["self", "label", "mark", "version"] (spSetFar P w C_Book C_House C_NoName C_Lack) := ok_setfar T D_House_set_far.fn K_Book K_House D_House_must_have G_House_must_have
  have G_law_pinned : FnOk P w K mg base CX0 6 f_law_pinned fd_law_pinned ["_law_house_here", "_law_pins", "_law_names"] (spLPinned P w C_Book C_House C_Pin) := ok_lpinned T D_law_pinned.fn K_House D_House_pin G_House_pin X_NoName X_Lack xm_NoName_NoName xm_Lack_NoName xm_Lack_Lack
  have G_law_added : FnOk P w K mg base CX0 6 f_law_added fd_law_added ["_law_one", "_law_name_here"] (spLAdded P w C_Book C_House C_Pin) := ok_ladded T D_law_added.fn K_Pin D_Pin_add G_Pin_add X_NoName X_Lack X_LetGo EC_LetGo g_HouseError xm_NoName_NoName xm_Lack_NoName xm_Lack_Lack xm_LetGo_NoName xm_LetGo_Lack xm_LetGo_HouseError kq_LetGo_LetGo kq_LetGo_ValueError
  have G_law_far_set : FnOk P w K mg base CX0 7 f_law_far_set fd_law_far_set ["_law_house_here", "_law_label_here", "_law_mark", "_law_version"] (spLFarSet P w C_Book C_House) := ok_lfarset T D_law_far_set.fn K_House D_House_set_far G_House_set_far X_NoName X_Lack xm_NoName_NoName xm_Lack_NoName xm_Lack_Lack
  have G_law_pins_right : FnOk P w K mg base CX0 5 f_law_pins_right fd_law_pins_right ["_law_deck_here", "_law_house_here", "_law_pins", "_law_ons", "_law_far"] (spLRight5 P w C_Book C_House C_Pin) := ok_lright5 T D_law_pins_right.fn D_law_mixed D_law_draw D_law_same D_law_int K_House K_Pin D_House_far D_House_roots D_Pin_names D_Pin___len__ D_law_roots
  have G_law_pin_deed : FnOk P w K mg base CX0 7 f_law_pin_deed fd_law_pin_deed ["_law_deck_here", "_law_house_here", "_law_things", "_law_here_here", "_law_pins", "_law_ons"] (spLPinDeed P w C_Book C_House C_Pin) := ok_lpindeed T D_law_pin_deed.fn D_law_mixed D_law_draw D_law_same D_law_int K_Pin D_law_name D_law_names_due D_law_here D_law_pinned G_law_pinned D_law_added G_law_added D_Pin_let_go
  have G_law_far_deed : FnOk P w K mg base CX0 8 f_law_far_deed fd_law_far_deed ["_law_deck_here", "_law_house_here", "_law_things", "_law_here_here", "_law_far"] (spLFarDeed P w C_Book C_House C_Pin) := ok_lfardeed T D_law_far_deed.fn D_law_mixed D_law_draw D_law_same D_law_int D_law_label D_law_name D_law_is_version D_law_version_due D_law_far_set G_law_far_set
  have clH := K_House.cl
  refine D_law.fn.ok sc_law (fun vs H Q E h => ?_) (fun cdv A outer s H vs Q E hr h => ?_)
  · obtain ⟨a, ns, rfl, _⟩ := h
    rfl
  · obtain ⟨a0, ns0, rfl, hS0, hl0, q⟩ := h
    have hu := hu_of hr
    refine ⟨_,
      (pss_cons
        (ps_set (i := 1) sc_law.nd rfl (.inl rfl) (pe_call G_law_deck (hr.mono (by omega)) (by rfl) D_law_deck.g D_law_deck.fn.kp D_law_deck.b .nil pass0 (pa_cons (pv 0) pa_nil)))
      (pss_cons
        (ps_asg (pe_call G_law_scene (hr.mono (by omega)) (by rfl) D_law_scene.g D_law_scene.fn.kp D_law_scene.b .nil pass0 (pa_cons (pv 1) (pa_cons pe_int pa_nil))) (pg_tup rfl (pgs_cons (pg_name (i := 2) sc_law.nd rfl (.inl rfl)) (pgs_cons (pg_name (i := 3) sc_law.nd rfl (.inl rfl)) pgs_nil))))
      (pss_cons
        (ps_set (i := 4) sc_law.nd rfl (.inl rfl) (pe_call G_law_here (hr.mono (by omega)) (by rfl) D_law_here.g D_law_here.fn.kp D_law_here.b .nil pass0 (pa_cons (pv 3) pa_nil)))
      (pss_cons
        (ps_set (i := 5) sc_law.nd rfl (.inl rfl) (pe_call G_law_house (hr.mono (by omega)) (by rfl) D_law_house.g D_law_house.fn.kp D_law_house.b .nil pass0 (pa_cons (pe_call G_law_book (hr.mono (by omega)) (by rfl) D_law_book.g D_law_book.fn.kp D_law_book.b .nil pass0 (pa_cons (pv 2) pa_nil)) (pa_cons (pv 3) pa_nil))))
      (pss_cons
        (ps_set (i := 6) sc_law.nd rfl (.inl rfl) (pe_lst pa_nil))
      (pss_cons
        (ps_set (i := 7) sc_law.nd rfl (.inl rfl) (pe_lst pa_nil))
      (pss_cons
        (ps_set (i := 8) sc_law.nd rfl (.inl rfl) pe_dnewT)
      (pss_cons
        (ps_for PassesOwn.never rfl (pi_range1 (by rfl) T.n_range (pa_cons (pe_op op_add pe_int (pe_callB (c_min2 rfl) (by rfl) T.n_min (by decide +kernel) (pa_cons (pe_callB (r := rLen K) c_len (by rfl) T.n_len (by decide +kernel) (pa_cons (pv 0) pa_nil)) (pa_cons pe_int pa_nil)))) pa_nil)) (pg_name (i := 9) sc_law.nd rfl (.inl rfl))
          (pss_cons
            (ps_set (i := 10) sc_law.nd rfl (.inl rfl) (pe_call G_law_draw (hr.mono (by omega)) (by rfl) D_law_draw.g D_law_draw.fn.kp D_law_draw.b .nil pass0 (pa_cons (pv 1) (pa_cons pe_int pa_nil))))
          (pss_cons
            (ps_set (i := 11) sc_law.nd rfl (.inl rfl) pe_bl)
          (pss_cons
            (ps_if (pt_cmpR op_lt (pv 10) pe_int (nomark _))
              (pss_one
                (ps_set (i := 11) sc_law.nd rfl (.inl rfl) (pe_call G_law_pin_deed (hr.mono (by omega)) (by rfl) D_law_pin_deed.g D_law_pin_deed.fn.kp D_law_pin_deed.b .nil pass0 (pa_cons (pv 1) (pa_cons (pv 5) (pa_cons (pv 2) (pa_cons (pv 4) (pa_cons (pv 6) (pa_cons (pv 7) pa_nil)))))))))
              (pss_one
                (ps_if (pt_cmpR op_lt (pv 10) pe_int (nomark _))
                  (pss_one
                    (ps_set (i := 11) sc_law.nd rfl (.inl rfl) (pe_call G_law_far_deed (hr.mono (by omega)) (by rfl) D_law_far_deed.g D_law_far_deed.fn.kp D_law_far_deed.b .nil pass0 (pa_cons (pv 1) (pa_cons (pv 5) (pa_cons (pv 2) (pa_cons (pv 4) (pa_cons (pv 8) pa_nil))))))))
                  pss_nil)))
          (pss_cons
            (ps_if (pt_not (pt_val (pv 11)))
              (pss_one
                (ps_ret pe_bl))
              pss_nil)
          (pss_cons
            (ps_if (pt_cmpR op_eq (pv 10) pe_int (nomark _))
              (pss_cons
                (ps_set (i := 12) sc_law.nd rfl (.inl rfl) (pe_call G_law_draw (hr.mono (by omega)) (by rfl) D_law_draw.g D_law_draw.fn.kp D_law_draw.b .nil pass0 (pa_cons (pv 1) (pa_cons (pe_callB (r := rLen K) c_len (by rfl) T.n_len (by decide +kernel) (pa_cons (pv 2) pa_nil)) pa_nil))))
              (pss_cons
                (ps_if (pt_not (pt_val (pe_call G_law_same (hr.mono (by omega)) (by rfl) D_law_same.g D_law_same.fn.kp D_law_same.b .nil pass0 (pa_cons (pe_meth (pv 5) K_House.cl I_House_put G_House_put (hr.mono (by omega)) D_Store_put.b .nil pass0 (pa_cons (pv 12) pa_nil)) (pa_cons (pe_cmp (pc_dnotin hu (pv 12) (pv 4))) pa_nil)))))
                  (pss_one
                    (ps_ret pe_bl))
                  pss_nil)
              (pss_one
                (ps_dput hu (pv 4) (pv 12) pe_bl rfl))))
              pss_nil)
          (pss_one
            (ps_if (pt_not (pt_val (pe_call G_law_pins_right (hr.mono (by omega)) (by rfl) D_law_pins_right.g D_law_pins_right.fn.kp D_law_pins_right.b .nil pass0 (pa_cons (pv 1) (pa_cons (pv 5) (pa_cons (pv 6) (pa_cons (pv 7) (pa_cons (pv 8) pa_nil))))))))
              (pss_one
                (ps_ret pe_bl))
              pss_nil))))))))
      (pss_one
        (ps_ret (pe_and (pe_call G_law_same (hr.mono (by omega)) (by rfl) D_law_same.g D_law_same.fn.kp D_law_same.b .nil pass0 (pa_cons (pe_meth0 (pv 5) K_House.cl D_House_marks.m G_House_marks (hr.mono (by omega)) D_House_marks.b .nil pass0) (pa_cons (pe_lst pa_nil) pa_nil))) (pe_one (pe_call G_law_same (hr.mono (by omega)) (by rfl) D_law_same.g D_law_same.fn.kp D_law_same.b .nil pass0 (pa_cons (pe_meth0 (pv 5) K_House.cl I_House_held G_House_held (hr.mono (by omega)) D_Store_held.b .nil pass0) (pa_cons (pe_callB (c_sortA rfl) (by rfl) T.n_sorted (by decide +kernel) (pa_cons (pv 4) pa_nil)) pa_nil)))))))))))))))
      , ?_⟩
    rw [show L2.start N_law [V.ref a0] = [some (.ref a0), none, none, none, none, none, none, none, none, none, none, none, none] from rfl]
    walk_at "x"
    refine w_deck hS0 fun H1 d c k1 hd hc D1 => ?_
    have hq1 : SqL K H1 a0 (ns0.map V.int) := by
      rcases hS0 with (h | ⟨o, h⟩) | h
      · exact .inl (.inl (k1 _ _ h))
      · exact .inl (.inr ⟨o, k1 _ _ h⟩)
      · exact .inr h
    walk_at "g"
    refine ⟨d, c, _, 7, rfl, D1, by decide, by decide, by unfold MOSTD; decide, fun H2 t th hl cs hs D2 x2 hth hhl e2 T2 ehl V2 hc3 hc4 hup hin hver => ?_⟩
    have thd : th ≠ d := (D1.ne1 hth).1
    have hlD : hl ≠ d := (D1.ne1 hhl).1
    walk_at "g"
    refine ⟨hl, hs, rfl, ehl, fun n hn => by have := hin n hn; omega, fun H3 f hf k3 F3 => ?_⟩
    have D3 : Deck H3 d c _ := D2.kp (M := []) (Kp.of k3) (by simp) (by simp)
    have T3 := T2.same k3
    walk_at "g"
    refine ⟨th, cs, rfl, T3, V2.ok, V2.nd, by omega, fun H4 p dx lc ld lg ds hp hlc hld hlg B4 k4 => ?_⟩
    have D4 : Deck H4 d c _ := D3.kp (M := []) (Kp.of k4) (by simp) (by simp)
    have T4 := T3.same k4
    have F4 := F3.same k4
    have s24 := Same.trans k3 k4
    have ehl4 := s24 _ _ ehl
    have hsl : hs.length ≤ 400 := by
      have := few_rise hup hin
      omega
    walk_at "g"
    refine ⟨p, dx, lc, ld, lg, hl, cs, ds, hs, rfl, B4, ehl4, hin, hsl, fun s' dy hd' a1 a2 a3 a4 k0 H5 hs5 hhd5 h51 h52 h53 h54 S5 nh5 ns5 k5 => ?_⟩
    have D5 : Deck H5 d c _ := D4.kp (M := []) (Kp.of k5) (by simp) (by simp)
    have T5 := T4.same k5
    have F5 := F4.same k5
    have B5 := B4.same k5
    walk_at "g"
    refine w_new fun lp H6 hlp6 elp6 k6 => ?_
    walk_at "g"
    refine w_new fun lo H7 hlo7 elo7 k7 => ?_
    walk_at "g"
    refine w_new fun lf H8 hlf8 elf8 k8 => ?_
    have s58 := Same.trans k6 (Same.trans k7 k8)
    have s28 := Same.trans s24 (Same.trans k5 s58)
    have hq8 : SqL K H8 a0 (ns0.map V.int) := by
      have x18 : KX d H1 H8 := x2.trans (KX.of s28)
      rcases hS0 with (h | ⟨o, h⟩) | h
      · exact .inl (.inl (x18.p _ _ (by simpa using ne_of_none h hd) (k1 _ _ h)))
      · exact .inl (.inr ⟨o, x18.p _ _ (by simpa using ne_of_none h hd) (k1 _ _ h)⟩)
      · exact .inr h
    have nd : [d, s', hd', a1, a2, a3, a4, f, th, lp, lo, lf, p, lc, ld, lg, c].Nodup := by
      have m_d_2 : H2 d ≠ none := (fun e => by obtain ⟨⟨xs, e'⟩, _⟩ := D2.at; rw [e'] at e; cases e)
      have m_d_3 : H3 d ≠ none := fun e => m_d_2 (k3.free e)
      have m_d_4 : H4 d ≠ none := fun e => m_d_3 (k4.free e)
      have m_d_5 : H5 d ≠ none := fun e => m_d_4 (k5.free e)
      have m_d_6 : H6 d ≠ none := fun e => m_d_5 (k6.free e)
      have m_d_7 : H7 d ≠ none := fun e => m_d_6 (k7.free e)
      have m_s__5 : H5 s' ≠ none := (fun e => by rw [S5.st.ob] at e; cases e)
      have m_s__6 : H6 s' ≠ none := fun e => m_s__5 (k6.free e)
      have m_s__7 : H7 s' ≠ none := fun e => m_s__6 (k7.free e)
      have m_hd__5 : H5 hd' ≠ none := (fun e => by obtain ⟨kv, e'⟩ := S5.st.here.obj; rw [e'] at e; cases e)
      have m_hd__6 : H6 hd' ≠ none := fun e => m_hd__5 (k6.free e)
      have m_hd__7 : H7 hd' ≠ none := fun e => m_hd__6 (k7.free e)
      have m_a1_5 : H5 a1 ≠ none := (fun e => by rw [S5.h1] at e; cases e)
      have m_a1_6 : H6 a1 ≠ none := fun e => m_a1_5 (k6.free e)
      have m_a1_7 : H7 a1 ≠ none := fun e => m_a1_6 (k7.free e)
      have m_a2_5 : H5 a2 ≠ none := (fun e => by rw [S5.h2] at e; cases e)
      have m_a2_6 : H6 a2 ≠ none := fun e => m_a2_5 (k6.free e)
      have m_a2_7 : H7 a2 ≠ none := fun e => m_a2_6 (k7.free e)
      have m_a3_5 : H5 a3 ≠ none := (fun e => by rw [S5.h3] at e; cases e)
      have m_a3_6 : H6 a3 ≠ none := fun e => m_a3_5 (k6.free e)
      have m_a3_7 : H7 a3 ≠ none := fun e => m_a3_6 (k7.free e)
      have m_a4_5 : H5 a4 ≠ none := (fun e => by rw [S5.h4] at e; cases e)
      have m_a4_6 : H6 a4 ≠ none := fun e => m_a4_5 (k6.free e)
      have m_a4_7 : H7 a4 ≠ none := fun e => m_a4_6 (k7.free e)
      have m_f_3 : H3 f ≠ none := (fun e => by obtain ⟨kv, e'⟩ := F3.obj; rw [e'] at e; cases e)
      have m_f_4 : H4 f ≠ none := fun e => m_f_3 (k4.free e)
      have m_f_5 : H5 f ≠ none := fun e => m_f_4 (k5.free e)
      have m_f_6 : H6 f ≠ none := fun e => m_f_5 (k6.free e)
      have m_f_7 : H7 f ≠ none := fun e => m_f_6 (k7.free e)
      have m_th_2 : H2 th ≠ none := (fun e => by rw [T2.at'] at e; cases e)
      have m_th_3 : H3 th ≠ none := fun e => m_th_2 (k3.free e)
      have m_th_4 : H4 th ≠ none := fun e => m_th_3 (k4.free e)
      have m_th_5 : H5 th ≠ none := fun e => m_th_4 (k5.free e)
      have m_th_6 : H6 th ≠ none := fun e => m_th_5 (k6.free e)
      have m_th_7 : H7 th ≠ none := fun e => m_th_6 (k7.free e)
      have m_lp_6 : H6 lp ≠ none := (fun e => by rw [elp6] at e; cases e)
      have m_lp_7 : H7 lp ≠ none := fun e => m_lp_6 (k7.free e)
      have m_lo_7 : H7 lo ≠ none := (fun e => by rw [elo7] at e; cases e)
      have m_p_4 : H4 p ≠ none := (fun e => by rw [B4.ob] at e; cases e)
      have m_p_5 : H5 p ≠ none := fun e => m_p_4 (k5.free e)
      have m_p_6 : H6 p ≠ none := fun e => m_p_5 (k6.free e)
      have m_p_7 : H7 p ≠ none := fun e => m_p_6 (k7.free e)
      have m_lc_4 : H4 lc ≠ none := (fun e => by rw [B4.co] at e; cases e)
      have m_lc_5 : H5 lc ≠ none := fun e => m_lc_4 (k5.free e)
      have m_lc_6 : H6 lc ≠ none := fun e => m_lc_5 (k6.free e)
      have m_lc_7 : H7 lc ≠ none := fun e => m_lc_6 (k7.free e)
      have m_ld_4 : H4 ld ≠ none := (fun e => by rw [B4.de] at e; cases e)
      have m_ld_5 : H5 ld ≠ none := fun e => m_ld_4 (k5.free e)
      have m_ld_6 : H6 ld ≠ none := fun e => m_ld_5 (k6.free e)
      have m_ld_7 : H7 ld ≠ none := fun e => m_ld_6 (k7.free e)
      have m_lg_4 : H4 lg ≠ none := (fun e => by rw [B4.gi.at'] at e; cases e)
      have m_lg_5 : H5 lg ≠ none := fun e => m_lg_4 (k5.free e)
      have m_lg_6 : H6 lg ≠ none := fun e => m_lg_5 (k6.free e)
      have m_lg_7 : H7 lg ≠ none := fun e => m_lg_6 (k7.free e)
      have m_c_2 : H2 c ≠ none := (fun e => by obtain ⟨_, xs, e'⟩ := D2.at; rw [e'] at e; cases e)
      have m_c_3 : H3 c ≠ none := fun e => m_c_2 (k3.free e)
      have m_c_4 : H4 c ≠ none := fun e => m_c_3 (k4.free e)
      have m_c_5 : H5 c ≠ none := fun e => m_c_4 (k5.free e)
      have m_c_6 : H6 c ≠ none := fun e => m_c_5 (k6.free e)
      have m_c_7 : H7 c ≠ none := fun e => m_c_6 (k7.free e)
      simp only [List.nodup_cons, List.mem_cons, List.not_mem_nil, or_false, not_or, not_false_eq_true, List.nodup_nil, and_true]
      exact ⟨⟨(fun e => m_d_4 (by rw [e]; exact hs5)), (fun e => m_d_4 (by rw [e]; exact hhd5)), (fun e => m_d_4 (by rw [e]; exact h51)), (fun e => m_d_4 (by rw [e]; exact h52)), (fun e => m_d_4 (by rw [e]; exact h53)), (fun e => m_d_4 (by rw [e]; exact h54)), (fun e => m_d_2 (by rw [e]; exact hf)), (thd).symm, (fun e => m_d_5 (by rw [e]; exact hlp6)), (fun e => m_d_6 (by rw [e]; exact hlo7)), (fun e => m_d_7 (by rw [e]; exact hlf8)), (fun e => m_d_3 (by rw [e]; exact hp)), (fun e => m_d_3 (by rw [e]; exact hlc)), (fun e => m_d_3 (by rw [e]; exact hld)), (fun e => m_d_3 (by rw [e]; exact hlg)), D1.ne.symm⟩,
        ⟨S5.st.ne.symm, ns5.1, ns5.2.1, ns5.2.2.1, ns5.2.2.2.1, ((show f ≠ s' from (fun e => m_f_4 (by rw [e]; exact hs5)))).symm, ((show th ≠ s' from (fun e => m_th_4 (by rw [e]; exact hs5)))).symm, (fun e => m_s__5 (by rw [e]; exact hlp6)), (fun e => m_s__6 (by rw [e]; exact hlo7)), (fun e => m_s__7 (by rw [e]; exact hlf8)), ((show p ≠ s' from (fun e => m_p_4 (by rw [e]; exact hs5)))).symm, ((show lc ≠ s' from (fun e => m_lc_4 (by rw [e]; exact hs5)))).symm, ((show ld ≠ s' from (fun e => m_ld_4 (by rw [e]; exact hs5)))).symm, ((show lg ≠ s' from (fun e => m_lg_4 (by rw [e]; exact hs5)))).symm, ((show c ≠ s' from (fun e => m_c_4 (by rw [e]; exact hs5)))).symm⟩,
        ⟨nh5.1, nh5.2.1, nh5.2.2.1, nh5.2.2.2, ((show f ≠ hd' from (fun e => m_f_4 (by rw [e]; exact hhd5)))).symm, ((show th ≠ hd' from (fun e => m_th_4 (by rw [e]; exact hhd5)))).symm, (fun e => m_hd__5 (by rw [e]; exact hlp6)), (fun e => m_hd__6 (by rw [e]; exact hlo7)), (fun e => m_hd__7 (by rw [e]; exact hlf8)), ((show p ≠ hd' from (fun e => m_p_4 (by rw [e]; exact hhd5)))).symm, ((show lc ≠ hd' from (fun e => m_lc_4 (by rw [e]; exact hhd5)))).symm, ((show ld ≠ hd' from (fun e => m_ld_4 (by rw [e]; exact hhd5)))).symm, ((show lg ≠ hd' from (fun e => m_lg_4 (by rw [e]; exact hhd5)))).symm, ((show c ≠ hd' from (fun e => m_c_4 (by rw [e]; exact hhd5)))).symm⟩,
        ⟨(ne_of S5.h1 S5.h2 (fun z => nomatch z)), (ne_of S5.h1 S5.h3 (fun z => nomatch z)), (ne_of S5.h1 S5.h4 (fun z => nomatch z)), ((show f ≠ a1 from (fun e => m_f_4 (by rw [e]; exact h51)))).symm, ((show th ≠ a1 from (fun e => m_th_4 (by rw [e]; exact h51)))).symm, (fun e => m_a1_5 (by rw [e]; exact hlp6)), (fun e => m_a1_6 (by rw [e]; exact hlo7)), (fun e => m_a1_7 (by rw [e]; exact hlf8)), ((show p ≠ a1 from (fun e => m_p_4 (by rw [e]; exact h51)))).symm, ((show lc ≠ a1 from (fun e => m_lc_4 (by rw [e]; exact h51)))).symm, ((show ld ≠ a1 from (fun e => m_ld_4 (by rw [e]; exact h51)))).symm, ((show lg ≠ a1 from (fun e => m_lg_4 (by rw [e]; exact h51)))).symm, ((show c ≠ a1 from (fun e => m_c_4 (by rw [e]; exact h51)))).symm⟩,
        ⟨(ne_of S5.h2 S5.h3 (fun z => nomatch z)), ns5.2.2.2.2, ((show f ≠ a2 from (fun e => m_f_4 (by rw [e]; exact h52)))).symm, ((show th ≠ a2 from (fun e => m_th_4 (by rw [e]; exact h52)))).symm, (fun e => m_a2_5 (by rw [e]; exact hlp6)), (fun e => m_a2_6 (by rw [e]; exact hlo7)), (fun e => m_a2_7 (by rw [e]; exact hlf8)), ((show p ≠ a2 from (fun e => m_p_4 (by rw [e]; exact h52)))).symm, ((show lc ≠ a2 from (fun e => m_lc_4 (by rw [e]; exact h52)))).symm, ((show ld ≠ a2 from (fun e => m_ld_4 (by rw [e]; exact h52)))).symm, ((show lg ≠ a2 from (fun e => m_lg_4 (by rw [e]; exact h52)))).symm, ((show c ≠ a2 from (fun e => m_c_4 (by rw [e]; exact h52)))).symm⟩,
        ⟨(ne_of S5.h3 S5.h4 (fun z => nomatch z)), ((show f ≠ a3 from (fun e => m_f_4 (by rw [e]; exact h53)))).symm, ((show th ≠ a3 from (fun e => m_th_4 (by rw [e]; exact h53)))).symm, (fun e => m_a3_5 (by rw [e]; exact hlp6)), (fun e => m_a3_6 (by rw [e]; exact hlo7)), (fun e => m_a3_7 (by rw [e]; exact hlf8)), ((show p ≠ a3 from (fun e => m_p_4 (by rw [e]; exact h53)))).symm, ((show lc ≠ a3 from (fun e => m_lc_4 (by rw [e]; exact h53)))).symm, ((show ld ≠ a3 from (fun e => m_ld_4 (by rw [e]; exact h53)))).symm, ((show lg ≠ a3 from (fun e => m_lg_4 (by rw [e]; exact h53)))).symm, ((show c ≠ a3 from (fun e => m_c_4 (by rw [e]; exact h53)))).symm⟩,
        ⟨((show f ≠ a4 from (fun e => m_f_4 (by rw [e]; exact h54)))).symm, ((show th ≠ a4 from (fun e => m_th_4 (by rw [e]; exact h54)))).symm, (fun e => m_a4_5 (by rw [e]; exact hlp6)), (fun e => m_a4_6 (by rw [e]; exact hlo7)), (fun e => m_a4_7 (by rw [e]; exact hlf8)), ((show p ≠ a4 from (fun e => m_p_4 (by rw [e]; exact h54)))).symm, ((show lc ≠ a4 from (fun e => m_lc_4 (by rw [e]; exact h54)))).symm, ((show ld ≠ a4 from (fun e => m_ld_4 (by rw [e]; exact h54)))).symm, ((show lg ≠ a4 from (fun e => m_lg_4 (by rw [e]; exact h54)))).symm, ((show c ≠ a4 from (fun e => m_c_4 (by rw [e]; exact h54)))).symm⟩,
        ⟨((show th ≠ f from (fun e => m_th_2 (by rw [e]; exact hf)))).symm, (fun e => m_f_5 (by rw [e]; exact hlp6)), (fun e => m_f_6 (by rw [e]; exact hlo7)), (fun e => m_f_7 (by rw [e]; exact hlf8)), (fun e => m_f_3 (by rw [e]; exact hp)), (fun e => m_f_3 (by rw [e]; exact hlc)), (fun e => m_f_3 (by rw [e]; exact hld)), (fun e => m_f_3 (by rw [e]; exact hlg)), ((show c ≠ f from (fun e => m_c_2 (by rw [e]; exact hf)))).symm⟩,
        ⟨(fun e => m_th_5 (by rw [e]; exact hlp6)), (fun e => m_th_6 (by rw [e]; exact hlo7)), (fun e => m_th_7 (by rw [e]; exact hlf8)), (fun e => m_th_3 (by rw [e]; exact hp)), (fun e => m_th_3 (by rw [e]; exact hlc)), (fun e => m_th_3 (by rw [e]; exact hld)), (fun e => m_th_3 (by rw [e]; exact hlg)), ((show c ≠ th from ((D1.ne1 hth).2).symm)).symm⟩,
        ⟨(fun e => m_lp_6 (by rw [e]; exact hlo7)), (fun e => m_lp_7 (by rw [e]; exact hlf8)), ((show p ≠ lp from (fun e => m_p_5 (by rw [e]; exact hlp6)))).symm, ((show lc ≠ lp from (fun e => m_lc_5 (by rw [e]; exact hlp6)))).symm, ((show ld ≠ lp from (fun e => m_ld_5 (by rw [e]; exact hlp6)))).symm, ((show lg ≠ lp from (fun e => m_lg_5 (by rw [e]; exact hlp6)))).symm, ((show c ≠ lp from (fun e => m_c_5 (by rw [e]; exact hlp6)))).symm⟩,
        ⟨(fun e => m_lo_7 (by rw [e]; exact hlf8)), ((show p ≠ lo from (fun e => m_p_6 (by rw [e]; exact hlo7)))).symm, ((show lc ≠ lo from (fun e => m_lc_6 (by rw [e]; exact hlo7)))).symm, ((show ld ≠ lo from (fun e => m_ld_6 (by rw [e]; exact hlo7)))).symm, ((show lg ≠ lo from (fun e => m_lg_6 (by rw [e]; exact hlo7)))).symm, ((show c ≠ lo from (fun e => m_c_6 (by rw [e]; exact hlo7)))).symm⟩,
        ⟨((show p ≠ lf from (fun e => m_p_7 (by rw [e]; exact hlf8)))).symm, ((show lc ≠ lf from (fun e => m_lc_7 (by rw [e]; exact hlf8)))).symm, ((show ld ≠ lf from (fun e => m_ld_7 (by rw [e]; exact hlf8)))).symm, ((show lg ≠ lf from (fun e => m_lg_7 (by rw [e]; exact hlf8)))).symm, ((show c ≠ lf from (fun e => m_c_7 (by rw [e]; exact hlf8)))).symm⟩,
        ⟨(ne_of B4.ob B4.co (fun z => nomatch z)), (ne_of B4.ob B4.de (fun z => nomatch z)), (ne_of B4.ob B4.gi.at' (fun z => nomatch z)), ((show c ≠ p from (fun e => m_c_3 (by rw [e]; exact hp)))).symm⟩,
        ⟨B4.ne, (ne_of B4.co B4.gi.at' (fun z => nomatch z)), ((show c ≠ lc from (fun e => m_c_3 (by rw [e]; exact hlc)))).symm⟩,
        ⟨(ne_of B4.de B4.gi.at' (fun z => nomatch z)), ((show c ≠ ld from (fun e => m_c_3 (by rw [e]; exact hld)))).symm⟩,
        ((show c ≠ lg from (fun e => m_c_3 (by rw [e]; exact hlg)))).symm⟩
    have W8 : W5 P w C_Book C_House C_Pin H8 (A0 d s' hd' a1 a2 a3 a4 f th lp lo lf p lc ld lg c) ⟨dy, dx, fun _ => 0, 0, k0, fun n => n ∈ hs, [], fun _ => false, fun _ _ => False, [], cs, ds⟩ :=
      { inj := A0_inj nd
        st := S5.st.same s58
        dk := ⟨_, D5.kp (M := []) (Kp.of s58) (by simp) (by simp)⟩
        bk := B5.same s58
        th := T5.same s58
        e1 := s58 _ _ S5.h1
        e2 := ⟨_, s58 _ _ S5.h2⟩
        e3 := s58 _ _ S5.h3
        e4 := s58 _ _ S5.h4
        lh := F5.same s58
        lp := k8 _ _ (k7 _ _ elp6)
        lo := k8 _ _ elo7
        lf := elf8
        pz := fun i hi => absurd hi (Nat.not_lt_zero i)
        po := fun i hi => absurd hi (Nat.not_lt_zero i)
        pr := fun i hi => absurd hi (Nat.not_lt_zero i)
        pf := fun i hi => absurd hi (Nat.not_lt_zero i)
        al1 := fun i hi => by cases hi
        al2 := fun i hi => absurd hi (Nat.not_lt_zero i)
        al3 := Nat.le_refl _
        le := fun i hi => absurd hi (Nat.not_lt_zero i)
        gb := fun i n hi => absurd hi (Nat.not_lt_zero i)
        fb := fun q hq => by cases hq
        fn := List.nodup_nil
        fl := Nat.zero_le _
        ml := Nat.zero_le _
        Fb := fun n hn => hin n hn }
    have D8 := D5.kp (M := []) (Kp.of s58) (by simp) (by simp)
    generalize hA : A0 d s' hd' a1 a2 a3 a4 f th lp lo lf p lc ld lg c = A at W8
    have e0 : A 0 = d := by rw [← hA]; rfl
    have e1 : A 1 = s' := by rw [← hA]; rfl
    have e7 : A 7 = f := by rw [← hA]; rfl
    have e8 : A 8 = th := by rw [← hA]; rfl
    have e9 : A 9 = lp := by rw [← hA]; rfl
    have e10 : A 10 = lo := by rw [← hA]; rfl
    have e11 : A 11 = lf := by rw [← hA]; rfl
    have e16 : A 16 = c := by rw [← hA]; rfl
    subst e0 e1 e7 e8 e9 e10 e11 e16
    clear hA
    walk_at "g"
    refine lp_range (fun i σ H' => ∃ (y9 y10 y11 y12 : Option V) (A' : Nat → Addr) (S : PSt), σ = [some (.ref a0), some (.ref (A 0)), some (.ref (A 8)), some (.ref hl), some (.ref (A 7)), some (.ref (A 1)), some (.ref (A 9)), some (.ref (A 10)), some (.ref (A 11)), y9, y10, y11, y12] ∧ W5 P w C_Book C_House C_Pin H' A' S ∧ (∀ j, j < 17 → j ≠ 6 → A' j = A j) ∧ S.cs = cs ∧ S.m ≤ i ∧ S.fs.length ≤ i ∧ Deck H' (A 0) (A 16) (200 + 100 * i)) ⟨_, _, _, _, A, _, rfl, W8, fun _ _ _ => rfl, rfl, Nat.le_refl _, Nat.le_refl _, D8.mono (by omega)⟩ ?_ ?_
    · rintro i σ H9 hi ⟨y9, y10, y11, y12, A9, S9, rfl, W9, eA9, ecs9, hm9, hf9, D9⟩
      have hi42 : i < 42 := by
        revert hi
        split <;> (intro hi; omega)
      have g0 := eA9 0 (by decide) (by decide)
      have g1 := eA9 1 (by decide) (by decide)
      have g7 := eA9 7 (by decide) (by decide)
      have g8 := eA9 8 (by decide) (by decide)
      have g9 := eA9 9 (by decide) (by decide)
      have g10 := eA9 10 (by decide) (by decide)
      have g11 := eA9 11 (by decide) (by decide)
      have g16 := eA9 16 (by decide) (by decide)
      rw [← g0, ← g16] at D9
      rw [← g0, ← g1, ← g7, ← g8, ← g9, ← g10, ← g11, ← g16]
      have hc9 : S9.cs.length ≤ 9 ∧ 3 ≤ S9.cs.length := by rw [ecs9]; omega
      have cs400 := W9.bk.few
      walk_at "g"
      refine w_draw D9 (by unfold MOSTD; omega) (by decide) (by decide) fun deed Ha hdeed Da oa => ?_
      have Wa := W9.kx (D9.kx Da oa) ⟨_, Da⟩
      walk_at "g"
      refine w_seqJ (fun σ' H' => ∃ (A' : Nat → Addr) (S' : PSt), σ' = [some (.ref a0), some (.ref (A9 0)), some (.ref (A9 8)), some (.ref hl), some (.ref (A9 7)), some (.ref (A9 1)), some (.ref (A9 9)), some (.ref (A9 10)), some (.ref (A9 11)), some (.int (0 + (i : Int))), some (.int (deed : Int)), some (.bl true), y12] ∧ W5 P w C_Book C_House C_Pin H' A' S' ∧ Nx A9 S9 A' S' ∧ Deck H' (A9 0) (A9 16) (200 + 100 * i + 1 + 40)) ?_ fun U hU => ?_
      rotate_left
      · walk_at "g"
        by_cases h2 : (deed : Int) < 2
        · rw [decide_eq_true h2, if_pos rfl]
          walk_at "g"
          refine ⟨_, A9, S9, rfl, Wa, Da, by unfold MOSTD; omega, by omega, by omega, fun H' A' S' W' nx D' => ?_⟩
          walk_at "g"
          exact hU _ _ ⟨A', S', rfl, W', nx, D'⟩
        · rw [decide_eq_false h2, if_neg (by decide)]
          walk_at "g"
          by_cases h4 : (deed : Int) < 4
          · rw [decide_eq_true h4, if_pos rfl]
            walk_at "g"
            refine ⟨_, A9, S9, rfl, Wa, Da, by unfold MOSTD; omega, by omega, by omega, fun H' A' S' W' nx D' => ?_⟩
            walk_at "g"
            exact hU _ _ ⟨A', S', rfl, W', nx, D'⟩
          · rw [decide_eq_false h4, if_neg (by decide)]
            walk_at "g"
            exact hU _ _ ⟨A9, S9, rfl, Wa, ⟨fun _ _ _ => rfl, rfl, Nat.le_succ _, Nat.le_succ _⟩, Da.mono (by omega)⟩
      rintro σ' Hb ⟨Ab, Sb, rfl, Wb, nxb, Db⟩
      have b0 := nxb.1 0 (by decide) (by decide)
      have b1 := nxb.1 1 (by decide) (by decide)
      have b7 := nxb.1 7 (by decide) (by decide)
      have b8 := nxb.1 8 (by decide) (by decide)
      have b9 := nxb.1 9 (by decide) (by decide)
      have b10 := nxb.1 10 (by decide) (by decide)
      have b11 := nxb.1 11 (by decide) (by decide)
      have b16 := nxb.1 16 (by decide) (by decide)
      rw [← b0, ← b16] at Db
      rw [← b0, ← b1, ← b7, ← b8, ← b9, ← b10, ← b11, ← b16]
      refine w_seq ?_
      walk_at "g"
      refine w_seqJ (fun σ' H' => ∃ (y12 : Option V) (S' : PSt), σ' = [some (.ref a0), some (.ref (Ab 0)), some (.ref (Ab 8)), some (.ref hl), some (.ref (Ab 7)), some (.ref (Ab 1)), some (.ref (Ab 9)), some (.ref (Ab 10)), some (.ref (Ab 11)), some (.int (0 + (i : Int))), some (.int (deed : Int)), some (.bl true), y12] ∧ W5 P w C_Book C_House C_Pin H' Ab S' ∧ S'.cs = Sb.cs ∧ S'.m = Sb.m ∧ S'.fs = Sb.fs ∧ Deck H' (Ab 0) (Ab 16) (200 + 100 * i + 1 + 40 + 1)) ?_ fun U hU => ?_
      rotate_left
      · walk_at "g"
        by_cases h4 : (deed : Int) = 4
        · rw [decide_eq_true h4, if_pos rfl]
          have ethb := Wb.th.at'
          have hcb : Sb.cs.length ≤ 9 ∧ 3 ≤ Sb.cs.length := by rw [nxb.2.1]; exact hc9
          walk_at "g"
          refine w_draw Db (by unfold MOSTD; omega) (by rw [List.length_map]; omega) (by rw [List.length_map]; omega) fun x Hc hx Dc oc => ?_
          rw [List.length_map] at hx
          have hxl : x < Sb.cs.length := by omega
          have Wc := Wb.kx (Db.kx Dc oc) ⟨_, Dc⟩
          have obc := Wc.st.ob
          walk_at "g"
          refine w_seq ?_
          walk_at "g"
          refine ⟨Ab 1, Sb.dy, Ab 12, Sb.dx, Ab 13, Ab 14, Ab 15, Ab 2, Sb.cs, Sb.ds, hrs (Ab 3) (Ab 4) (Ab 5) (Ab 6), Sb.k, x, Sb.F, rfl, (show (4 : Nat) ≤ 900 by decide), Wc.st, Wc.bk, hxl, fun hF => ?_, fun hF H' S' k' t' => ?_⟩
          · walk_at "g"
            refine w_fnin Wc.lh (fun m em hm => ?_) (fun hno => absurd hF (hno x rfl))
            walk_at "g"
            refine ⟨_, _, rfl, Or.inl ⟨rfl, trivial⟩, fun Hd kd => ?_⟩
            have Wd := Wc.same kd
            walk_at "g"
            refine w_fput Wd.lh (by omega) fun He Fe oe => ?_
            obtain ⟨fk, hfk⟩ := Wd.lh.obj
            have ke : Kp ([1, 2, 7].map Ab) Hd He := fun b u hb h => oe.get (fun e => hb (by rw [e]; simp)) h
            have R := Wd.keep (J := [7]) (by simp; omega) (oe.kp (by simp)) (KT.offD oe hfk)
            have We := Wd.put (H' := He) (k' := Sb.k) (F' := fun m => Sb.F m ∨ m = x) ke (KT.offD oe hfk) ⟨(R.st (by simp) (by simp)).ob, (R.st (by simp) (by simp)).here.iff (fun m => ⟨.inl, fun h => h.elim id fun e => e ▸ hF⟩), Wd.st.ne⟩ Fe (fun m hm => hm.elim (Wd.Fb m) fun e => e ▸ hxl)
            have De := (Dc.kp (M := []) (Kp.of kd) (by simp) (by simp)).kp (M := [Ab 7]) (oe.kp (by simp)) (by simpa using fun e => absurd (Wb.inj 0 7 (by omega) (by omega) e) (by decide)) (by simpa using fun e => absurd (Wb.inj 16 7 (by omega) (by omega) e) (by decide))
            exact hU _ _ ⟨_, _, rfl, We, rfl, rfl, rfl, De⟩
          · have n712 : Ab 7 ∉ [Ab 1, Ab 2] := by
              simp only [List.mem_cons, List.not_mem_nil, or_false, not_or]
              exact ⟨fun e => absurd (Wb.inj 7 1 (by omega) (by omega) e) (by decide), fun e => absurd (Wb.inj 7 2 (by omega) (by omega) e) (by decide)⟩
            have lh' : FAt H' (Ab 7) Sb.F := Wc.lh.kp k' n712
            walk_at "g"
            refine w_fnin lh' (fun m em hm => absurd (show Sb.F x by rw [show x = m by omega]; exact hm) hF) (fun hno => ?_)
            walk_at "g"
            refine ⟨_, _, rfl, Or.inl ⟨rfl, trivial⟩, fun Hd kd => ?_⟩
            have lhd := lh'.same kd
            have std := S'.same kd
            walk_at "g"
            refine w_fput lhd (by omega) fun He Fe oe => ?_
            obtain ⟨fk, hfk⟩ := lhd.obj
            have ke : Kp ([1, 2, 7].map Ab) Hc He := fun b u hb h => by
              simp only [List.map_cons, List.map_nil, List.mem_cons, List.not_mem_nil, or_false, not_or] at hb
              exact oe.get hb.2.2 (kd _ _ (k' _ _ (by simp [hb.1, hb.2.1]) h))
            have te : KT Hc He := t'.trans ((KT.of kd).trans (KT.offD oe hfk))
            have n17 : Ab 1 ∉ [Ab 7] := by simpa using fun e => absurd (Wb.inj 1 7 (by omega) (by omega) e) (by decide)
            have n27 : Ab 2 ∉ [Ab 7] := by simpa using fun e => absurd (Wb.inj 2 7 (by omega) (by omega) e) (by decide)
            have We := Wc.put (H' := He) (k' := Sb.k + 1) (F' := fun m => Sb.F m ∨ m = x) ke te (std.kp (M := [Ab 7]) (oe.kp (by simp)) n17 n27) Fe (fun m hm => hm.elim (Wc.Fb m) fun e => e ▸ hxl)
            have o0 := Wc.out (J := [1, 2, 7]) (by simp; omega) (i := 0) (by omega) (by simp)
            have o16 := Wc.out (J := [1, 2, 7]) (by simp; omega) (i := 16) (by omega) (by simp)
            exact hU _ _ ⟨_, _, rfl, We, rfl, rfl, rfl, Dc.kp ke o0 o16⟩
        · rw [decide_eq_false h4, if_neg (by decide)]
          walk_at "g"
          exact hU _ _ ⟨_, Sb, rfl, Wb, rfl, rfl, rfl, Db.mono (by omega)⟩
      rintro σ' Hf ⟨y12', Sf, rfl, Wf, f1, f2, f3, Df⟩
      walk_at "g"
      refine ⟨_, Ab, Sf, rfl, Wf, Df, by unfold MOSTD; omega, fun Hg Ag Sg Wg nxg Dg => ?_⟩
      walk_at "g"
      obtain ⟨ng, al, rfl⟩ := nxg
      refine ⟨_, _, _, _, Ag, _, rfl, Wg, fun j hj hj6 => ?_, ?_, ?_, ?_, Dg.mono (by omega)⟩
      · rw [ng j hj6, nxb.1 j hj hj6, eA9 j hj hj6]
      · show Sf.cs = cs
        rw [f1, nxb.2.1, ecs9]
      · show Sf.m ≤ i + 1
        have := nxb.2.2.1
        omega
      · show Sf.fs.length ≤ i + 1
        rw [f3]
        have := nxb.2.2.2
        omega
    · rintro σ H9 ⟨y9, y10, y11, y12, A9, S9, rfl, W9, eA9, ecs9, hm9, hf9, D9⟩
      have ob9 := W9.st.ob
      rw [eA9 1 (by decide) (by decide)] at ob9
      walk_at "g"
      refine ⟨A9 1, S9.dy, A9 12, A9 2, A9 3, A9 4, A9 5, A9 6, S9.k, S9.F, [], by rw [eA9 1 (by decide) (by decide)]; rfl, W9.st, W9.e1, List.nodup_nil, fun H10 l ts k10 hl10 el10 hts hp hs10 => ?_⟩
      have ets : ts = [] := by
        have := hp.length_eq
        simp only [List.length_map, List.length_nil] at this
        exact List.length_eq_zero_iff.mp this
      subst ets
      walk_at "g"
      refine w_new fun l2 H11 hl11 el11 k11 => ?_
      have W11 := W9.same (Same.trans k10 k11)
      walk_at "g"
      refine ⟨_, _, rfl, sd_lst (k11 _ _ el10) el11 (by simp) (by simp), fun H12 k12 => ?_⟩
      have W12 := W11.same k12
      have ob12 := W12.st.ob
      rw [eA9 1 (by decide) (by decide)] at ob12
      walk_at "g"
      refine ⟨A9 1, S9.dy, A9 12, A9 2, _, S9.k, S9.F, by rw [eA9 1 (by decide) (by decide)]; rfl, W12.st, fun ns l3 H13 hup3 hmem3 hnl3 hl3 el3 k13 => ?_⟩
      have W13 := W12.same k13
      have lh13 := W13.lh
      rw [eA9 7 (by decide) (by decide)] at lh13
      walk_at "g"
      refine w_fsort lh13 fun ns' l4 H14 hup4 hmem4 hnl4 hl4 el4 k14 => ?_
      have ens : ns' = ns := rise_ext5 hup4 hup3 fun x => by rw [hmem4, hmem3]
      subst ens
      walk_at "g"
      refine ⟨_, _, rfl, sd_nats (k14 _ _ el3) el4 hnl4, fun H15 k15 => ?_⟩
      exact q _
end
theorem all_mk {l : PySem.W.OpenLaw} {w : World} {K : PySem.W.Frag} {h : Heap} {mg : Str → Option Value} {fa f_NoName___init__ f_Lack___init__ f_is_int f_is_text f_is_label f_rise f_are_ints f_rising_ints f_is_pair f_are_rows f_Book___init__ f_Book_named f_Book_thing f_Book_kind f_is_name f_is_kind f_is_entry f_is_tree f_depth_of f_is_version f_is_content f_Store___init__ f_Store_put f_Store_held f_Store_holds f_House___init__ f_House_marks f_House_must_have f_House_far f_House_set_far f_House_pin f_House_roots f_must_hold f_Pin___init__ f_Pin___len__ f_Pin_add f_Pin_let_go f_Pin_names f_law_deck f_law_mixed f_law_draw f_law_label f_law_give f_law_some f_law_book f_law_house f_law_int f_law_same f_law_here f_law_is_version f_law_scene f_law_name f_law_pinned f_law_added f_law_far_set f_law_names_due f_law_version_due f_law_roots f_law_pins_right f_law_pin_deed f_law_far_deed f_law C_Book C_Store C_House C_Pin : Addr} (X : K.In h) (G : h.Ns mainGlobals mg) (hfa : mg "law" = some (.ref fa))
    {od_NoName___init__ an_NoName___init__ : Option Addr} {sl_NoName___init__ : Array (Option Value)} {oc_NoName___init__ kV_NoName___init__ dc_NoName___init__ pm_NoName___init__ cd_NoName___init__ ct_NoName___init__ : Value}
    (l_NoName___init__ : K.lookup f_NoName___init__ = some ⟨oc_NoName___init__, od_NoName___init__, .func (PySem.W.fnOf "__init__" "NoName.__init__" (defArgs s_NoName___init__) (defBody s_NoName___init__) (defScope s_NoName___init__) .none kV_NoName___init__ dc_NoName___init__ pm_NoName___init__ an_NoName___init__ cd_NoName___init__ ct_NoName___init__), sl_NoName___init__⟩) (c_NoName___init__ : PySem.W.codeIn K cd_NoName___init__ "NoName.__init__" = true) (k_NoName___init__ : PySem.W.keepIn K (.ref f_NoName___init__) = true)
    {od_Lack___init__ an_Lack___init__ : Option Addr} {sl_Lack___init__ : Array (Option Value)} {oc_Lack___init__ kV_Lack___init__ dc_Lack___init__ pm_Lack___init__ cd_Lack___init__ ct_Lack___init__ : Value}
    (l_Lack___init__ : K.lookup f_Lack___init__ = some ⟨oc_Lack___init__, od_Lack___init__, .func (PySem.W.fnOf "__init__" "Lack.__init__" (defArgs s_Lack___init__) (defBody s_Lack___init__) (defScope s_Lack___init__) .none kV_Lack___init__ dc_Lack___init__ pm_Lack___init__ an_Lack___init__ cd_Lack___init__ ct_Lack___init__), sl_Lack___init__⟩) (c_Lack___init__ : PySem.W.codeIn K cd_Lack___init__ "Lack.__init__" = true) (k_Lack___init__ : PySem.W.keepIn K (.ref f_Lack___init__) = true)
    {od_is_int an_is_int : Option Addr} {sl_is_int : Array (Option Value)} {oc_is_int kV_is_int dc_is_int pm_is_int cd_is_int ct_is_int : Value}
    (a_is_int : PySem.W.nsIn K mainGlobals "is_int" = some (some (.ref f_is_int)))
    {dt_is_int : Addr} {do_is_int : Value} {dd_is_int : Option Addr} {dn_is_int : Nat} {ds_is_int : Array (Option Value)} {dk_is_int_least : Tok}
    (l_is_int : K.lookup f_is_int = some ⟨oc_is_int, od_is_int, .func (PySem.W.fnOf "is_int" "is_int" (defArgs s_is_int) (defBody s_is_int) (defScope s_is_int) (.ref dt_is_int) kV_is_int dc_is_int pm_is_int an_is_int cd_is_int ct_is_int), sl_is_int⟩) (c_is_int : PySem.W.codeIn K cd_is_int "is_int" = true) (k_is_int : PySem.W.keepIn K (.ref f_is_int) = true)
    (dl_is_int : K.lookup dt_is_int = some ⟨do_is_int, dd_is_int, .seq #[.int 0 dk_is_int_least] dn_is_int, ds_is_int⟩)
    {od_is_text an_is_text : Option Addr} {sl_is_text : Array (Option Value)} {oc_is_text kV_is_text dc_is_text pm_is_text cd_is_text ct_is_text : Value}
    (a_is_text : PySem.W.nsIn K mainGlobals "is_text" = some (some (.ref f_is_text)))
    {dt_is_text : Addr} {do_is_text : Value} {dd_is_text : Option Addr} {dn_is_text : Nat} {ds_is_text : Array (Option Value)} {dk_is_text_most : Tok}
    (l_is_text : K.lookup f_is_text = some ⟨oc_is_text, od_is_text, .func (PySem.W.fnOf "is_text" "is_text" (defArgs s_is_text) (defBody s_is_text) (defScope s_is_text) (.ref dt_is_text) kV_is_text dc_is_text pm_is_text an_is_text cd_is_text ct_is_text), sl_is_text⟩) (c_is_text : PySem.W.codeIn K cd_is_text "is_text" = true) (k_is_text : PySem.W.keepIn K (.ref f_is_text) = true)
    (dl_is_text : K.lookup dt_is_text = some ⟨do_is_text, dd_is_text, .seq #[.int 40 dk_is_text_most] dn_is_text, ds_is_text⟩)
    {od_is_label an_is_label : Option Addr} {sl_is_label : Array (Option Value)} {oc_is_label kV_is_label dc_is_label pm_is_label cd_is_label ct_is_label : Value}
    (a_is_label : PySem.W.nsIn K mainGlobals "is_label" = some (some (.ref f_is_label)))
    (l_is_label : K.lookup f_is_label = some ⟨oc_is_label, od_is_label, .func (PySem.W.fnOf "is_label" "is_label" (defArgs s_is_label) (defBody s_is_label) (defScope s_is_label) .none kV_is_label dc_is_label pm_is_label an_is_label cd_is_label ct_is_label), sl_is_label⟩) (c_is_label : PySem.W.codeIn K cd_is_label "is_label" = true) (k_is_label : PySem.W.keepIn K (.ref f_is_label) = true)
    {od_rise an_rise : Option Addr} {sl_rise : Array (Option Value)} {oc_rise kV_rise dc_rise pm_rise cd_rise ct_rise : Value}
    (a_rise : PySem.W.nsIn K mainGlobals "rise" = some (some (.ref f_rise)))
    (l_rise : K.lookup f_rise = some ⟨oc_rise, od_rise, .func (PySem.W.fnOf "rise" "rise" (defArgs s_rise) (defBody s_rise) (defScope s_rise) .none kV_rise dc_rise pm_rise an_rise cd_rise ct_rise), sl_rise⟩) (c_rise : PySem.W.codeIn K cd_rise "rise" = true) (k_rise : PySem.W.keepIn K (.ref f_rise) = true)
    {od_are_ints an_are_ints : Option Addr} {sl_are_ints : Array (Option Value)} {oc_are_ints kV_are_ints dc_are_ints pm_are_ints cd_are_ints ct_are_ints : Value}
    (a_are_ints : PySem.W.nsIn K mainGlobals "are_ints" = some (some (.ref f_are_ints)))
    (l_are_ints : K.lookup f_are_ints = some ⟨oc_are_ints, od_are_ints, .func (PySem.W.fnOf "are_ints" "are_ints" (defArgs s_are_ints) (defBody s_are_ints) (defScope s_are_ints) .none kV_are_ints dc_are_ints pm_are_ints an_are_ints cd_are_ints ct_are_ints), sl_are_ints⟩) (c_are_ints : PySem.W.codeIn K cd_are_ints "are_ints" = true) (k_are_ints : PySem.W.keepIn K (.ref f_are_ints) = true)
    {od_rising_ints an_rising_ints : Option Addr} {sl_rising_ints : Array (Option Value)} {oc_rising_ints kV_rising_ints dc_rising_ints pm_rising_ints cd_rising_ints ct_rising_ints : Value}
    (a_rising_ints : PySem.W.nsIn K mainGlobals "rising_ints" = some (some (.ref f_rising_ints)))
    (l_rising_ints : K.lookup f_rising_ints = some ⟨oc_rising_ints, od_rising_ints, .func (PySem.W.fnOf "rising_ints" "rising_ints" (defArgs s_rising_ints) (defBody s_rising_ints) (defScope s_rising_ints) .none kV_rising_ints dc_rising_ints pm_rising_ints an_rising_ints cd_rising_ints ct_rising_ints), sl_rising_ints⟩) (c_rising_ints : PySem.W.codeIn K cd_rising_ints "rising_ints" = true) (k_rising_ints : PySem.W.keepIn K (.ref f_rising_ints) = true)
    {od_is_pair an_is_pair : Option Addr} {sl_is_pair : Array (Option Value)} {oc_is_pair kV_is_pair dc_is_pair pm_is_pair cd_is_pair ct_is_pair : Value}
    (a_is_pair : PySem.W.nsIn K mainGlobals "is_pair" = some (some (.ref f_is_pair)))
    (l_is_pair : K.lookup f_is_pair = some ⟨oc_is_pair, od_is_pair, .func (PySem.W.fnOf "is_pair" "is_pair" (defArgs s_is_pair) (defBody s_is_pair) (defScope s_is_pair) .none kV_is_pair dc_is_pair pm_is_pair an_is_pair cd_is_pair ct_is_pair), sl_is_pair⟩) (c_is_pair : PySem.W.codeIn K cd_is_pair "is_pair" = true) (k_is_pair : PySem.W.keepIn K (.ref f_is_pair) = true)
    {od_are_rows an_are_rows : Option Addr} {sl_are_rows : Array (Option Value)} {oc_are_rows kV_are_rows dc_are_rows pm_are_rows cd_are_rows ct_are_rows : Value}
    (a_are_rows : PySem.W.nsIn K mainGlobals "are_rows" = some (some (.ref f_are_rows)))
    (l_are_rows : K.lookup f_are_rows = some ⟨oc_are_rows, od_are_rows, .func (PySem.W.fnOf "are_rows" "are_rows" (defArgs s_are_rows) (defBody s_are_rows) (defScope s_are_rows) .none kV_are_rows dc_are_rows pm_are_rows an_are_rows cd_are_rows ct_are_rows), sl_are_rows⟩) (c_are_rows : PySem.W.codeIn K cd_are_rows "are_rows" = true) (k_are_rows : PySem.W.keepIn K (.ref f_are_rows) = true)
    {od_Book___init__ an_Book___init__ : Option Addr} {sl_Book___init__ : Array (Option Value)} {oc_Book___init__ kV_Book___init__ dc_Book___init__ pm_Book___init__ cd_Book___init__ ct_Book___init__ : Value}
    (a_Book___init__ : PySem.W.findIn K (.ref C_Book) "__init__" = some (some (.ref f_Book___init__))) (i_Book___init__ : PySem.W.isFn K (.ref f_Book___init__) = true)
    (l_Book___init__ : K.lookup f_Book___init__ = some ⟨oc_Book___init__, od_Book___init__, .func (PySem.W.fnOf "__init__" "Book.__init__" (defArgs s_Book___init__) (defBody s_Book___init__) (defScope s_Book___init__) .none kV_Book___init__ dc_Book___init__ pm_Book___init__ an_Book___init__ cd_Book___init__ ct_Book___init__), sl_Book___init__⟩) (c_Book___init__ : PySem.W.codeIn K cd_Book___init__ "Book.__init__" = true) (k_Book___init__ : PySem.W.keepIn K (.ref f_Book___init__) = true)
    {od_Book_named an_Book_named : Option Addr} {sl_Book_named : Array (Option Value)} {oc_Book_named kV_Book_named dc_Book_named pm_Book_named cd_Book_named ct_Book_named : Value}
    (a_Book_named : PySem.W.findIn K (.ref C_Book) "named" = some (some (.ref f_Book_named))) (i_Book_named : PySem.W.isFn K (.ref f_Book_named) = true)
    (l_Book_named : K.lookup f_Book_named = some ⟨oc_Book_named, od_Book_named, .func (PySem.W.fnOf "named" "Book.named" (defArgs s_Book_named) (defBody s_Book_named) (defScope s_Book_named) .none kV_Book_named dc_Book_named pm_Book_named an_Book_named cd_Book_named ct_Book_named), sl_Book_named⟩) (c_Book_named : PySem.W.codeIn K cd_Book_named "Book.named" = true) (k_Book_named : PySem.W.keepIn K (.ref f_Book_named) = true)
    {od_Book_thing an_Book_thing : Option Addr} {sl_Book_thing : Array (Option Value)} {oc_Book_thing kV_Book_thing dc_Book_thing pm_Book_thing cd_Book_thing ct_Book_thing : Value}
    (a_Book_thing : PySem.W.findIn K (.ref C_Book) "thing" = some (some (.ref f_Book_thing))) (i_Book_thing : PySem.W.isFn K (.ref f_Book_thing) = true)
    (l_Book_thing : K.lookup f_Book_thing = some ⟨oc_Book_thing, od_Book_thing, .func (PySem.W.fnOf "thing" "Book.thing" (defArgs s_Book_thing) (defBody s_Book_thing) (defScope s_Book_thing) .none kV_Book_thing dc_Book_thing pm_Book_thing an_Book_thing cd_Book_thing ct_Book_thing), sl_Book_thing⟩) (c_Book_thing : PySem.W.codeIn K cd_Book_thing "Book.thing" = true) (k_Book_thing : PySem.W.keepIn K (.ref f_Book_thing) = true)
    {od_Book_kind an_Book_kind : Option Addr} {sl_Book_kind : Array (Option Value)} {oc_Book_kind kV_Book_kind dc_Book_kind pm_Book_kind cd_Book_kind ct_Book_kind : Value}
    (a_Book_kind : PySem.W.findIn K (.ref C_Book) "kind" = some (some (.ref f_Book_kind))) (i_Book_kind : PySem.W.isFn K (.ref f_Book_kind) = true)
    (l_Book_kind : K.lookup f_Book_kind = some ⟨oc_Book_kind, od_Book_kind, .func (PySem.W.fnOf "kind" "Book.kind" (defArgs s_Book_kind) (defBody s_Book_kind) (defScope s_Book_kind) .none kV_Book_kind dc_Book_kind pm_Book_kind an_Book_kind cd_Book_kind ct_Book_kind), sl_Book_kind⟩) (c_Book_kind : PySem.W.codeIn K cd_Book_kind "Book.kind" = true) (k_Book_kind : PySem.W.keepIn K (.ref f_Book_kind) = true)
    {od_is_name an_is_name : Option Addr} {sl_is_name : Array (Option Value)} {oc_is_name kV_is_name dc_is_name pm_is_name cd_is_name ct_is_name : Value}
    (a_is_name : PySem.W.nsIn K mainGlobals "is_name" = some (some (.ref f_is_name)))
    (l_is_name : K.lookup f_is_name = some ⟨oc_is_name, od_is_name, .func (PySem.W.fnOf "is_name" "is_name" (defArgs s_is_name) (defBody s_is_name) (defScope s_is_name) .none kV_is_name dc_is_name pm_is_name an_is_name cd_is_name ct_is_name), sl_is_name⟩) (c_is_name : PySem.W.codeIn K cd_is_name "is_name" = true) (k_is_name : PySem.W.keepIn K (.ref f_is_name) = true)
    {od_is_kind an_is_kind : Option Addr} {sl_is_kind : Array (Option Value)} {oc_is_kind kV_is_kind dc_is_kind pm_is_kind cd_is_kind ct_is_kind : Value}
    (a_is_kind : PySem.W.nsIn K mainGlobals "is_kind" = some (some (.ref f_is_kind)))
    (l_is_kind : K.lookup f_is_kind = some ⟨oc_is_kind, od_is_kind, .func (PySem.W.fnOf "is_kind" "is_kind" (defArgs s_is_kind) (defBody s_is_kind) (defScope s_is_kind) .none kV_is_kind dc_is_kind pm_is_kind an_is_kind cd_is_kind ct_is_kind), sl_is_kind⟩) (c_is_kind : PySem.W.codeIn K cd_is_kind "is_kind" = true) (k_is_kind : PySem.W.keepIn K (.ref f_is_kind) = true)
    {od_is_entry an_is_entry : Option Addr} {sl_is_entry : Array (Option Value)} {oc_is_entry kV_is_entry dc_is_entry pm_is_entry cd_is_entry ct_is_entry : Value}
    (a_is_entry : PySem.W.nsIn K mainGlobals "is_entry" = some (some (.ref f_is_entry)))
    (l_is_entry : K.lookup f_is_entry = some ⟨oc_is_entry, od_is_entry, .func (PySem.W.fnOf "is_entry" "is_entry" (defArgs s_is_entry) (defBody s_is_entry) (defScope s_is_entry) .none kV_is_entry dc_is_entry pm_is_entry an_is_entry cd_is_entry ct_is_entry), sl_is_entry⟩) (c_is_entry : PySem.W.codeIn K cd_is_entry "is_entry" = true) (k_is_entry : PySem.W.keepIn K (.ref f_is_entry) = true)
    {od_is_tree an_is_tree : Option Addr} {sl_is_tree : Array (Option Value)} {oc_is_tree kV_is_tree dc_is_tree pm_is_tree cd_is_tree ct_is_tree : Value}
    (a_is_tree : PySem.W.nsIn K mainGlobals "is_tree" = some (some (.ref f_is_tree)))
    (l_is_tree : K.lookup f_is_tree = some ⟨oc_is_tree, od_is_tree, .func (PySem.W.fnOf "is_tree" "is_tree" (defArgs s_is_tree) (defBody s_is_tree) (defScope s_is_tree) .none kV_is_tree dc_is_tree pm_is_tree an_is_tree cd_is_tree ct_is_tree), sl_is_tree⟩) (c_is_tree : PySem.W.codeIn K cd_is_tree "is_tree" = true) (k_is_tree : PySem.W.keepIn K (.ref f_is_tree) = true)
    {od_depth_of an_depth_of : Option Addr} {sl_depth_of : Array (Option Value)} {oc_depth_of kV_depth_of dc_depth_of pm_depth_of cd_depth_of ct_depth_of : Value}
    (a_depth_of : PySem.W.nsIn K mainGlobals "depth_of" = some (some (.ref f_depth_of)))
    (l_depth_of : K.lookup f_depth_of = some ⟨oc_depth_of, od_depth_of, .func (PySem.W.fnOf "depth_of" "depth_of" (defArgs s_depth_of) (defBody s_depth_of) (defScope s_depth_of) .none kV_depth_of dc_depth_of pm_depth_of an_depth_of cd_depth_of ct_depth_of), sl_depth_of⟩) (c_depth_of : PySem.W.codeIn K cd_depth_of "depth_of" = true) (k_depth_of : PySem.W.keepIn K (.ref f_depth_of) = true)
    {od_is_version an_is_version : Option Addr} {sl_is_version : Array (Option Value)} {oc_is_version kV_is_version dc_is_version pm_is_version cd_is_version ct_is_version : Value}
    (a_is_version : PySem.W.nsIn K mainGlobals "is_version" = some (some (.ref f_is_version)))
    (l_is_version : K.lookup f_is_version = some ⟨oc_is_version, od_is_version, .func (PySem.W.fnOf "is_version" "is_version" (defArgs s_is_version) (defBody s_is_version) (defScope s_is_version) .none kV_is_version dc_is_version pm_is_version an_is_version cd_is_version ct_is_version), sl_is_version⟩) (c_is_version : PySem.W.codeIn K cd_is_version "is_version" = true) (k_is_version : PySem.W.keepIn K (.ref f_is_version) = true)
    {od_is_content an_is_content : Option Addr} {sl_is_content : Array (Option Value)} {oc_is_content kV_is_content dc_is_content pm_is_content cd_is_content ct_is_content : Value}
    (a_is_content : PySem.W.nsIn K mainGlobals "is_content" = some (some (.ref f_is_content)))
    (l_is_content : K.lookup f_is_content = some ⟨oc_is_content, od_is_content, .func (PySem.W.fnOf "is_content" "is_content" (defArgs s_is_content) (defBody s_is_content) (defScope s_is_content) .none kV_is_content dc_is_content pm_is_content an_is_content cd_is_content ct_is_content), sl_is_content⟩) (c_is_content : PySem.W.codeIn K cd_is_content "is_content" = true) (k_is_content : PySem.W.keepIn K (.ref f_is_content) = true)
    {od_Store___init__ an_Store___init__ : Option Addr} {sl_Store___init__ : Array (Option Value)} {oc_Store___init__ kV_Store___init__ dc_Store___init__ pm_Store___init__ cd_Store___init__ ct_Store___init__ : Value}
    (a_Store___init__ : PySem.W.findIn K (.ref C_Store) "__init__" = some (some (.ref f_Store___init__))) (i_Store___init__ : PySem.W.isFn K (.ref f_Store___init__) = true)
    (l_Store___init__ : K.lookup f_Store___init__ = some ⟨oc_Store___init__, od_Store___init__, .func (PySem.W.fnOf "__init__" "Store.__init__" (defArgs s_Store___init__) (defBody s_Store___init__) (defScope s_Store___init__) .none kV_Store___init__ dc_Store___init__ pm_Store___init__ an_Store___init__ cd_Store___init__ ct_Store___init__), sl_Store___init__⟩) (c_Store___init__ : PySem.W.codeIn K cd_Store___init__ "Store.__init__" = true) (k_Store___init__ : PySem.W.keepIn K (.ref f_Store___init__) = true)
    {od_Store_put an_Store_put : Option Addr} {sl_Store_put : Array (Option Value)} {oc_Store_put kV_Store_put dc_Store_put pm_Store_put cd_Store_put ct_Store_put : Value}
    (a_Store_put : PySem.W.findIn K (.ref C_Store) "put" = some (some (.ref f_Store_put))) (i_Store_put : PySem.W.isFn K (.ref f_Store_put) = true)
    (l_Store_put : K.lookup f_Store_put = some ⟨oc_Store_put, od_Store_put, .func (PySem.W.fnOf "put" "Store.put" (defArgs s_Store_put) (defBody s_Store_put) (defScope s_Store_put) .none kV_Store_put dc_Store_put pm_Store_put an_Store_put cd_Store_put ct_Store_put), sl_Store_put⟩) (c_Store_put : PySem.W.codeIn K cd_Store_put "Store.put" = true) (k_Store_put : PySem.W.keepIn K (.ref f_Store_put) = true)
    {od_Store_held an_Store_held : Option Addr} {sl_Store_held : Array (Option Value)} {oc_Store_held kV_Store_held dc_Store_held pm_Store_held cd_Store_held ct_Store_held : Value}
    (a_Store_held : PySem.W.findIn K (.ref C_Store) "held" = some (some (.ref f_Store_held))) (i_Store_held : PySem.W.isFn K (.ref f_Store_held) = true)
    (l_Store_held : K.lookup f_Store_held = some ⟨oc_Store_held, od_Store_held, .func (PySem.W.fnOf "held" "Store.held" (defArgs s_Store_held) (defBody s_Store_held) (defScope s_Store_held) .none kV_Store_held dc_Store_held pm_Store_held an_Store_held cd_Store_held ct_Store_held), sl_Store_held⟩) (c_Store_held : PySem.W.codeIn K cd_Store_held "Store.held" = true) (k_Store_held : PySem.W.keepIn K (.ref f_Store_held) = true)
    {od_Store_holds an_Store_holds : Option Addr} {sl_Store_holds : Array (Option Value)} {oc_Store_holds kV_Store_holds dc_Store_holds pm_Store_holds cd_Store_holds ct_Store_holds : Value}
    (a_Store_holds : PySem.W.findIn K (.ref C_Store) "holds" = some (some (.ref f_Store_holds))) (i_Store_holds : PySem.W.isFn K (.ref f_Store_holds) = true)
    (l_Store_holds : K.lookup f_Store_holds = some ⟨oc_Store_holds, od_Store_holds, .func (PySem.W.fnOf "holds" "Store.holds" (defArgs s_Store_holds) (defBody s_Store_holds) (defScope s_Store_holds) .none kV_Store_holds dc_Store_holds pm_Store_holds an_Store_holds cd_Store_holds ct_Store_holds), sl_Store_holds⟩) (c_Store_holds : PySem.W.codeIn K cd_Store_holds "Store.holds" = true) (k_Store_holds : PySem.W.keepIn K (.ref f_Store_holds) = true)
    {od_House___init__ an_House___init__ : Option Addr} {sl_House___init__ : Array (Option Value)} {oc_House___init__ kV_House___init__ dc_House___init__ pm_House___init__ cd_House___init__ ct_House___init__ : Value}
    (a_House___init__ : PySem.W.findIn K (.ref C_House) "__init__" = some (some (.ref f_House___init__))) (i_House___init__ : PySem.W.isFn K (.ref f_House___init__) = true)
    (l_House___init__ : K.lookup f_House___init__ = some ⟨oc_House___init__, od_House___init__, .func (PySem.W.fnOf "__init__" "House.__init__" (defArgs s_House___init__) (defBody s_House___init__) (defScope s_House___init__) .none kV_House___init__ dc_House___init__ pm_House___init__ an_House___init__ cd_House___init__ ct_House___init__), sl_House___init__⟩) (c_House___init__ : PySem.W.codeIn K cd_House___init__ "House.__init__" = true) (k_House___init__ : PySem.W.keepIn K (.ref f_House___init__) = true)
    {od_House_marks an_House_marks : Option Addr} {sl_House_marks : Array (Option Value)} {oc_House_marks kV_House_marks dc_House_marks pm_House_marks cd_House_marks ct_House_marks : Value}
    (a_House_marks : PySem.W.findIn K (.ref C_House) "marks" = some (some (.ref f_House_marks))) (i_House_marks : PySem.W.isFn K (.ref f_House_marks) = true)
    (l_House_marks : K.lookup f_House_marks = some ⟨oc_House_marks, od_House_marks, .func (PySem.W.fnOf "marks" "House.marks" (defArgs s_House_marks) (defBody s_House_marks) (defScope s_House_marks) .none kV_House_marks dc_House_marks pm_House_marks an_House_marks cd_House_marks ct_House_marks), sl_House_marks⟩) (c_House_marks : PySem.W.codeIn K cd_House_marks "House.marks" = true) (k_House_marks : PySem.W.keepIn K (.ref f_House_marks) = true)
    {od_House_must_have an_House_must_have : Option Addr} {sl_House_must_have : Array (Option Value)} {oc_House_must_have kV_House_must_have dc_House_must_have pm_House_must_have cd_House_must_have ct_House_must_have : Value}
    (a_House_must_have : PySem.W.findIn K (.ref C_House) "must_have" = some (some (.ref f_House_must_have))) (i_House_must_have : PySem.W.isFn K (.ref f_House_must_have) = true)
    (l_House_must_have : K.lookup f_House_must_have = some ⟨oc_House_must_have, od_House_must_have, .func (PySem.W.fnOf "must_have" "House.must_have" (defArgs s_House_must_have) (defBody s_House_must_have) (defScope s_House_must_have) .none kV_House_must_have dc_House_must_have pm_House_must_have an_House_must_have cd_House_must_have ct_House_must_have), sl_House_must_have⟩) (c_House_must_have : PySem.W.codeIn K cd_House_must_have "House.must_have" = true) (k_House_must_have : PySem.W.keepIn K (.ref f_House_must_have) = true)
    {od_House_far an_House_far : Option Addr} {sl_House_far : Array (Option Value)} {oc_House_far kV_House_far dc_House_far pm_House_far cd_House_far ct_House_far : Value}
    (a_House_far : PySem.W.findIn K (.ref C_House) "far" = some (some (.ref f_House_far))) (i_House_far : PySem.W.isFn K (.ref f_House_far) = true)
    (l_House_far : K.lookup f_House_far = some ⟨oc_House_far, od_House_far, .func (PySem.W.fnOf "far" "House.far" (defArgs s_House_far) (defBody s_House_far) (defScope s_House_far) .none kV_House_far dc_House_far pm_House_far an_House_far cd_House_far ct_House_far), sl_House_far⟩) (c_House_far : PySem.W.codeIn K cd_House_far "House.far" = true) (k_House_far : PySem.W.keepIn K (.ref f_House_far) = true)
    {od_House_set_far an_House_set_far : Option Addr} {sl_House_set_far : Array (Option Value)} {oc_House_set_far kV_House_set_far dc_House_set_far pm_House_set_far cd_House_set_far ct_House_set_far : Value}
    (a_House_set_far : PySem.W.findIn K (.ref C_House) "set_far" = some (some (.ref f_House_set_far))) (i_House_set_far : PySem.W.isFn K (.ref f_House_set_far) = true)
    (l_House_set_far : K.lookup f_House_set_far = some ⟨oc_House_set_far, od_House_set_far, .func (PySem.W.fnOf "set_far" "House.set_far" (defArgs s_House_set_far) (defBody s_House_set_far) (defScope s_House_set_far) .none kV_House_set_far dc_House_set_far pm_House_set_far an_House_set_far cd_House_set_far ct_House_set_far), sl_House_set_far⟩) (c_House_set_far : PySem.W.codeIn K cd_House_set_far "House.set_far" = true) (k_House_set_far : PySem.W.keepIn K (.ref f_House_set_far) = true)
    {od_House_pin an_House_pin : Option Addr} {sl_House_pin : Array (Option Value)} {oc_House_pin kV_House_pin dc_House_pin pm_House_pin cd_House_pin ct_House_pin : Value}
    (a_House_pin : PySem.W.findIn K (.ref C_House) "pin" = some (some (.ref f_House_pin))) (i_House_pin : PySem.W.isFn K (.ref f_House_pin) = true)
    (l_House_pin : K.lookup f_House_pin = some ⟨oc_House_pin, od_House_pin, .func (PySem.W.fnOf "pin" "House.pin" (defArgs s_House_pin) (defBody s_House_pin) (defScope s_House_pin) .none kV_House_pin dc_House_pin pm_House_pin an_House_pin cd_House_pin ct_House_pin), sl_House_pin⟩) (c_House_pin : PySem.W.codeIn K cd_House_pin "House.pin" = true) (k_House_pin : PySem.W.keepIn K (.ref f_House_pin) = true)
    {od_House_roots an_House_roots : Option Addr} {sl_House_roots : Array (Option Value)} {oc_House_roots kV_House_roots dc_House_roots pm_House_roots cd_House_roots ct_House_roots : Value}
    (a_House_roots : PySem.W.findIn K (.ref C_House) "roots" = some (some (.ref f_House_roots))) (i_House_roots : PySem.W.isFn K (.ref f_House_roots) = true)
    (l_House_roots : K.lookup f_House_roots = some ⟨oc_House_roots, od_House_roots, .func (PySem.W.fnOf "roots" "House.roots" (defArgs s_House_roots) (defBody s_House_roots) (defScope s_House_roots) .none kV_House_roots dc_House_roots pm_House_roots an_House_roots cd_House_roots ct_House_roots), sl_House_roots⟩) (c_House_roots : PySem.W.codeIn K cd_House_roots "House.roots" = true) (k_House_roots : PySem.W.keepIn K (.ref f_House_roots) = true)
    {od_must_hold an_must_hold : Option Addr} {sl_must_hold : Array (Option Value)} {oc_must_hold kV_must_hold dc_must_hold pm_must_hold cd_must_hold ct_must_hold : Value}
    (a_must_hold : PySem.W.nsIn K mainGlobals "must_hold" = some (some (.ref f_must_hold)))
    (l_must_hold : K.lookup f_must_hold = some ⟨oc_must_hold, od_must_hold, .func (PySem.W.fnOf "must_hold" "must_hold" (defArgs s_must_hold) (defBody s_must_hold) (defScope s_must_hold) .none kV_must_hold dc_must_hold pm_must_hold an_must_hold cd_must_hold ct_must_hold), sl_must_hold⟩) (c_must_hold : PySem.W.codeIn K cd_must_hold "must_hold" = true) (k_must_hold : PySem.W.keepIn K (.ref f_must_hold) = true)
    {od_Pin___init__ an_Pin___init__ : Option Addr} {sl_Pin___init__ : Array (Option Value)} {oc_Pin___init__ kV_Pin___init__ dc_Pin___init__ pm_Pin___init__ cd_Pin___init__ ct_Pin___init__ : Value}
    (a_Pin___init__ : PySem.W.findIn K (.ref C_Pin) "__init__" = some (some (.ref f_Pin___init__))) (i_Pin___init__ : PySem.W.isFn K (.ref f_Pin___init__) = true)
    (l_Pin___init__ : K.lookup f_Pin___init__ = some ⟨oc_Pin___init__, od_Pin___init__, .func (PySem.W.fnOf "__init__" "Pin.__init__" (defArgs s_Pin___init__) (defBody s_Pin___init__) (defScope s_Pin___init__) .none kV_Pin___init__ dc_Pin___init__ pm_Pin___init__ an_Pin___init__ cd_Pin___init__ ct_Pin___init__), sl_Pin___init__⟩) (c_Pin___init__ : PySem.W.codeIn K cd_Pin___init__ "Pin.__init__" = true) (k_Pin___init__ : PySem.W.keepIn K (.ref f_Pin___init__) = true)
    {od_Pin___len__ an_Pin___len__ : Option Addr} {sl_Pin___len__ : Array (Option Value)} {oc_Pin___len__ kV_Pin___len__ dc_Pin___len__ pm_Pin___len__ cd_Pin___len__ ct_Pin___len__ : Value}
    (a_Pin___len__ : PySem.W.findIn K (.ref C_Pin) "__len__" = some (some (.ref f_Pin___len__))) (i_Pin___len__ : PySem.W.isFn K (.ref f_Pin___len__) = true)
    (l_Pin___len__ : K.lookup f_Pin___len__ = some ⟨oc_Pin___len__, od_Pin___len__, .func (PySem.W.fnOf "__len__" "Pin.__len__" (defArgs s_Pin___len__) (defBody s_Pin___len__) (defScope s_Pin___len__) .none kV_Pin___len__ dc_Pin___len__ pm_Pin___len__ an_Pin___len__ cd_Pin___len__ ct_Pin___len__), sl_Pin___len__⟩) (c_Pin___len__ : PySem.W.codeIn K cd_Pin___len__ "Pin.__len__" = true) (k_Pin___len__ : PySem.W.keepIn K (.ref f_Pin___len__) = true)
    {od_Pin_add an_Pin_add : Option Addr} {sl_Pin_add : Array (Option Value)} {oc_Pin_add kV_Pin_add dc_Pin_add pm_Pin_add cd_Pin_add ct_Pin_add : Value}
    (a_Pin_add : PySem.W.findIn K (.ref C_Pin) "add" = some (some (.ref f_Pin_add))) (i_Pin_add : PySem.W.isFn K (.ref f_Pin_add) = true)
    (l_Pin_add : K.lookup f_Pin_add = some ⟨oc_Pin_add, od_Pin_add, .func (PySem.W.fnOf "add" "Pin.add" (defArgs s_Pin_add) (defBody s_Pin_add) (defScope s_Pin_add) .none kV_Pin_add dc_Pin_add pm_Pin_add an_Pin_add cd_Pin_add ct_Pin_add), sl_Pin_add⟩) (c_Pin_add : PySem.W.codeIn K cd_Pin_add "Pin.add" = true) (k_Pin_add : PySem.W.keepIn K (.ref f_Pin_add) = true)
    {od_Pin_let_go an_Pin_let_go : Option Addr} {sl_Pin_let_go : Array (Option Value)} {oc_Pin_let_go kV_Pin_let_go dc_Pin_let_go pm_Pin_let_go cd_Pin_let_go ct_Pin_let_go : Value}
    (a_Pin_let_go : PySem.W.findIn K (.ref C_Pin) "let_go" = some (some (.ref f_Pin_let_go))) (i_Pin_let_go : PySem.W.isFn K (.ref f_Pin_let_go) = true)
    (l_Pin_let_go : K.lookup f_Pin_let_go = some ⟨oc_Pin_let_go, od_Pin_let_go, .func (PySem.W.fnOf "let_go" "Pin.let_go" (defArgs s_Pin_let_go) (defBody s_Pin_let_go) (defScope s_Pin_let_go) .none kV_Pin_let_go dc_Pin_let_go pm_Pin_let_go an_Pin_let_go cd_Pin_let_go ct_Pin_let_go), sl_Pin_let_go⟩) (c_Pin_let_go : PySem.W.codeIn K cd_Pin_let_go "Pin.let_go" = true) (k_Pin_let_go : PySem.W.keepIn K (.ref f_Pin_let_go) = true)
    {od_Pin_names an_Pin_names : Option Addr} {sl_Pin_names : Array (Option Value)} {oc_Pin_names kV_Pin_names dc_Pin_names pm_Pin_names cd_Pin_names ct_Pin_names : Value}
    (a_Pin_names : PySem.W.findIn K (.ref C_Pin) "names" = some (some (.ref f_Pin_names))) (i_Pin_names : PySem.W.isFn K (.ref f_Pin_names) = true)
    (l_Pin_names : K.lookup f_Pin_names = some ⟨oc_Pin_names, od_Pin_names, .func (PySem.W.fnOf "names" "Pin.names" (defArgs s_Pin_names) (defBody s_Pin_names) (defScope s_Pin_names) .none kV_Pin_names dc_Pin_names pm_Pin_names an_Pin_names cd_Pin_names ct_Pin_names), sl_Pin_names⟩) (c_Pin_names : PySem.W.codeIn K cd_Pin_names "Pin.names" = true) (k_Pin_names : PySem.W.keepIn K (.ref f_Pin_names) = true)
    {od_law_deck an_law_deck : Option Addr} {sl_law_deck : Array (Option Value)} {oc_law_deck kV_law_deck dc_law_deck pm_law_deck cd_law_deck ct_law_deck : Value}
    (a_law_deck : PySem.W.nsIn K mainGlobals "_law_deck" = some (some (.ref f_law_deck)))
    (l_law_deck : K.lookup f_law_deck = some ⟨oc_law_deck, od_law_deck, .func (PySem.W.fnOf "_law_deck" "_law_deck" (defArgs s_law_deck) (defBody s_law_deck) (defScope s_law_deck) .none kV_law_deck dc_law_deck pm_law_deck an_law_deck cd_law_deck ct_law_deck), sl_law_deck⟩) (c_law_deck : PySem.W.codeIn K cd_law_deck "_law_deck" = true) (k_law_deck : PySem.W.keepIn K (.ref f_law_deck) = true)
    {od_law_mixed an_law_mixed : Option Addr} {sl_law_mixed : Array (Option Value)} {oc_law_mixed kV_law_mixed dc_law_mixed pm_law_mixed cd_law_mixed ct_law_mixed : Value}
    (a_law_mixed : PySem.W.nsIn K mainGlobals "_law_mixed" = some (some (.ref f_law_mixed)))
    (l_law_mixed : K.lookup f_law_mixed = some ⟨oc_law_mixed, od_law_mixed, .func (PySem.W.fnOf "_law_mixed" "_law_mixed" (defArgs s_law_mixed) (defBody s_law_mixed) (defScope s_law_mixed) .none kV_law_mixed dc_law_mixed pm_law_mixed an_law_mixed cd_law_mixed ct_law_mixed), sl_law_mixed⟩) (c_law_mixed : PySem.W.codeIn K cd_law_mixed "_law_mixed" = true) (k_law_mixed : PySem.W.keepIn K (.ref f_law_mixed) = true)
    {od_law_draw an_law_draw : Option Addr} {sl_law_draw : Array (Option Value)} {oc_law_draw kV_law_draw dc_law_draw pm_law_draw cd_law_draw ct_law_draw : Value}
    (a_law_draw : PySem.W.nsIn K mainGlobals "_law_draw" = some (some (.ref f_law_draw)))
    (l_law_draw : K.lookup f_law_draw = some ⟨oc_law_draw, od_law_draw, .func (PySem.W.fnOf "_law_draw" "_law_draw" (defArgs s_law_draw) (defBody s_law_draw) (defScope s_law_draw) .none kV_law_draw dc_law_draw pm_law_draw an_law_draw cd_law_draw ct_law_draw), sl_law_draw⟩) (c_law_draw : PySem.W.codeIn K cd_law_draw "_law_draw" = true) (k_law_draw : PySem.W.keepIn K (.ref f_law_draw) = true)
    {od_law_label an_law_label : Option Addr} {sl_law_label : Array (Option Value)} {oc_law_label kV_law_label dc_law_label pm_law_label cd_law_label ct_law_label : Value}
    (a_law_label : PySem.W.nsIn K mainGlobals "_law_label" = some (some (.ref f_law_label)))
    (l_law_label : K.lookup f_law_label = some ⟨oc_law_label, od_law_label, .func (PySem.W.fnOf "_law_label" "_law_label" (defArgs s_law_label) (defBody s_law_label) (defScope s_law_label) .none kV_law_label dc_law_label pm_law_label an_law_label cd_law_label ct_law_label), sl_law_label⟩) (c_law_label : PySem.W.codeIn K cd_law_label "_law_label" = true) (k_law_label : PySem.W.keepIn K (.ref f_law_label) = true)
    {od_law_give an_law_give : Option Addr} {sl_law_give : Array (Option Value)} {oc_law_give kV_law_give dc_law_give pm_law_give cd_law_give ct_law_give : Value}
    (a_law_give : PySem.W.nsIn K mainGlobals "_law_give" = some (some (.ref f_law_give)))
    (l_law_give : K.lookup f_law_give = some ⟨oc_law_give, od_law_give, .func (PySem.W.fnOf "_law_give" "_law_give" (defArgs s_law_give) (defBody s_law_give) (defScope s_law_give) .none kV_law_give dc_law_give pm_law_give an_law_give cd_law_give ct_law_give), sl_law_give⟩) (c_law_give : PySem.W.codeIn K cd_law_give "_law_give" = true) (k_law_give : PySem.W.keepIn K (.ref f_law_give) = true)
    {od_law_some an_law_some : Option Addr} {sl_law_some : Array (Option Value)} {oc_law_some kV_law_some dc_law_some pm_law_some cd_law_some ct_law_some : Value}
    (a_law_some : PySem.W.nsIn K mainGlobals "_law_some" = some (some (.ref f_law_some)))
    (l_law_some : K.lookup f_law_some = some ⟨oc_law_some, od_law_some, .func (PySem.W.fnOf "_law_some" "_law_some" (defArgs s_law_some) (defBody s_law_some) (defScope s_law_some) .none kV_law_some dc_law_some pm_law_some an_law_some cd_law_some ct_law_some), sl_law_some⟩) (c_law_some : PySem.W.codeIn K cd_law_some "_law_some" = true) (k_law_some : PySem.W.keepIn K (.ref f_law_some) = true)
    {od_law_book an_law_book : Option Addr} {sl_law_book : Array (Option Value)} {oc_law_book kV_law_book dc_law_book pm_law_book cd_law_book ct_law_book : Value}
    (a_law_book : PySem.W.nsIn K mainGlobals "_law_book" = some (some (.ref f_law_book)))
    (l_law_book : K.lookup f_law_book = some ⟨oc_law_book, od_law_book, .func (PySem.W.fnOf "_law_book" "_law_book" (defArgs s_law_book) (defBody s_law_book) (defScope s_law_book) .none kV_law_book dc_law_book pm_law_book an_law_book cd_law_book ct_law_book), sl_law_book⟩) (c_law_book : PySem.W.codeIn K cd_law_book "_law_book" = true) (k_law_book : PySem.W.keepIn K (.ref f_law_book) = true)
    {od_law_house an_law_house : Option Addr} {sl_law_house : Array (Option Value)} {oc_law_house kV_law_house dc_law_house pm_law_house cd_law_house ct_law_house : Value}
    (a_law_house : PySem.W.nsIn K mainGlobals "_law_house" = some (some (.ref f_law_house)))
    (l_law_house : K.lookup f_law_house = some ⟨oc_law_house, od_law_house, .func (PySem.W.fnOf "_law_house" "_law_house" (defArgs s_law_house) (defBody s_law_house) (defScope s_law_house) .none kV_law_house dc_law_house pm_law_house an_law_house cd_law_house ct_law_house), sl_law_house⟩) (c_law_house : PySem.W.codeIn K cd_law_house "_law_house" = true) (k_law_house : PySem.W.keepIn K (.ref f_law_house) = true)
    {od_law_int an_law_int : Option Addr} {sl_law_int : Array (Option Value)} {oc_law_int kV_law_int dc_law_int pm_law_int cd_law_int ct_law_int : Value}
    (a_law_int : PySem.W.nsIn K mainGlobals "_law_int" = some (some (.ref f_law_int)))
    (l_law_int : K.lookup f_law_int = some ⟨oc_law_int, od_law_int, .func (PySem.W.fnOf "_law_int" "_law_int" (defArgs s_law_int) (defBody s_law_int) (defScope s_law_int) .none kV_law_int dc_law_int pm_law_int an_law_int cd_law_int ct_law_int), sl_law_int⟩) (c_law_int : PySem.W.codeIn K cd_law_int "_law_int" = true) (k_law_int : PySem.W.keepIn K (.ref f_law_int) = true)
    {od_law_same an_law_same : Option Addr} {sl_law_same : Array (Option Value)} {oc_law_same kV_law_same dc_law_same pm_law_same cd_law_same ct_law_same : Value}
    (a_law_same : PySem.W.nsIn K mainGlobals "_law_same" = some (some (.ref f_law_same)))
    (l_law_same : K.lookup f_law_same = some ⟨oc_law_same, od_law_same, .func (PySem.W.fnOf "_law_same" "_law_same" (defArgs s_law_same) (defBody s_law_same) (defScope s_law_same) .none kV_law_same dc_law_same pm_law_same an_law_same cd_law_same ct_law_same), sl_law_same⟩) (c_law_same : PySem.W.codeIn K cd_law_same "_law_same" = true) (k_law_same : PySem.W.keepIn K (.ref f_law_same) = true)
    {od_law_here an_law_here : Option Addr} {sl_law_here : Array (Option Value)} {oc_law_here kV_law_here dc_law_here pm_law_here cd_law_here ct_law_here : Value}
    (a_law_here : PySem.W.nsIn K mainGlobals "_law_here" = some (some (.ref f_law_here)))
    (l_law_here : K.lookup f_law_here = some ⟨oc_law_here, od_law_here, .func (PySem.W.fnOf "_law_here" "_law_here" (defArgs s_law_here) (defBody s_law_here) (defScope s_law_here) .none kV_law_here dc_law_here pm_law_here an_law_here cd_law_here ct_law_here), sl_law_here⟩) (c_law_here : PySem.W.codeIn K cd_law_here "_law_here" = true) (k_law_here : PySem.W.keepIn K (.ref f_law_here) = true)
    {od_law_is_version an_law_is_version : Option Addr} {sl_law_is_version : Array (Option Value)} {oc_law_is_version kV_law_is_version dc_law_is_version pm_law_is_version cd_law_is_version ct_law_is_version : Value}
    (a_law_is_version : PySem.W.nsIn K mainGlobals "_law_is_version" = some (some (.ref f_law_is_version)))
    (l_law_is_version : K.lookup f_law_is_version = some ⟨oc_law_is_version, od_law_is_version, .func (PySem.W.fnOf "_law_is_version" "_law_is_version" (defArgs s_law_is_version) (defBody s_law_is_version) (defScope s_law_is_version) .none kV_law_is_version dc_law_is_version pm_law_is_version an_law_is_version cd_law_is_version ct_law_is_version), sl_law_is_version⟩) (c_law_is_version : PySem.W.codeIn K cd_law_is_version "_law_is_version" = true) (k_law_is_version : PySem.W.keepIn K (.ref f_law_is_version) = true)
    {od_law_scene an_law_scene : Option Addr} {sl_law_scene : Array (Option Value)} {oc_law_scene kV_law_scene dc_law_scene pm_law_scene cd_law_scene ct_law_scene : Value}
    (a_law_scene : PySem.W.nsIn K mainGlobals "_law_scene" = some (some (.ref f_law_scene)))
    (l_law_scene : K.lookup f_law_scene = some ⟨oc_law_scene, od_law_scene, .func (PySem.W.fnOf "_law_scene" "_law_scene" (defArgs s_law_scene) (defBody s_law_scene) (defScope s_law_scene) .none kV_law_scene dc_law_scene pm_law_scene an_law_scene cd_law_scene ct_law_scene), sl_law_scene⟩) (c_law_scene : PySem.W.codeIn K cd_law_scene "_law_scene" = true) (k_law_scene : PySem.W.keepIn K (.ref f_law_scene) = true)
    {od_law_name an_law_name : Option Addr} {sl_law_name : Array (Option Value)} {oc_law_name kV_law_name dc_law_name pm_law_name cd_law_name ct_law_name : Value}
    (a_law_name : PySem.W.nsIn K mainGlobals "_law_name" = some (some (.ref f_law_name)))
    (l_law_name : K.lookup f_law_name = some ⟨oc_law_name, od_law_name, .func (PySem.W.fnOf "_law_name" "_law_name" (defArgs s_law_name) (defBody s_law_name) (defScope s_law_name) .none kV_law_name dc_law_name pm_law_name an_law_name cd_law_name ct_law_name), sl_law_name⟩) (c_law_name : PySem.W.codeIn K cd_law_name "_law_name" = true) (k_law_name : PySem.W.keepIn K (.ref f_law_name) = true)
    {od_law_pinned an_law_pinned : Option Addr} {sl_law_pinned : Array (Option Value)} {oc_law_pinned kV_law_pinned dc_law_pinned pm_law_pinned cd_law_pinned ct_law_pinned : Value}
    (a_law_pinned : PySem.W.nsIn K mainGlobals "_law_pinned" = some (some (.ref f_law_pinned)))
    (l_law_pinned : K.lookup f_law_pinned = some ⟨oc_law_pinned, od_law_pinned, .func (PySem.W.fnOf "_law_pinned" "_law_pinned" (defArgs s_law_pinned) (defBody s_law_pinned) (defScope s_law_pinned) .none kV_law_pinned dc_law_pinned pm_law_pinned an_law_pinned cd_law_pinned ct_law_pinned), sl_law_pinned⟩) (c_law_pinned : PySem.W.codeIn K cd_law_pinned "_law_pinned" = true) (k_law_pinned : PySem.W.keepIn K (.ref f_law_pinned) = true)
    {od_law_added an_law_added : Option Addr} {sl_law_added : Array (Option Value)} {oc_law_added kV_law_added dc_law_added pm_law_added cd_law_added ct_law_added : Value}
    (a_law_added : PySem.W.nsIn K mainGlobals "_law_added" = some (some (.ref f_law_added)))
    (l_law_added : K.lookup f_law_added = some ⟨oc_law_added, od_law_added, .func (PySem.W.fnOf "_law_added" "_law_added" (defArgs s_law_added) (defBody s_law_added) (defScope s_law_added) .none kV_law_added dc_law_added pm_law_added an_law_added cd_law_added ct_law_added), sl_law_added⟩) (c_law_added : PySem.W.codeIn K cd_law_added "_law_added" = true) (k_law_added : PySem.W.keepIn K (.ref f_law_added) = true)
    {od_law_far_set an_law_far_set : Option Addr} {sl_law_far_set : Array (Option Value)} {oc_law_far_set kV_law_far_set dc_law_far_set pm_law_far_set cd_law_far_set ct_law_far_set : Value}
    (a_law_far_set : PySem.W.nsIn K mainGlobals "_law_far_set" = some (some (.ref f_law_far_set)))
    (l_law_far_set : K.lookup f_law_far_set = some ⟨oc_law_far_set, od_law_far_set, .func (PySem.W.fnOf "_law_far_set" "_law_far_set" (defArgs s_law_far_set) (defBody s_law_far_set) (defScope s_law_far_set) .none kV_law_far_set dc_law_far_set pm_law_far_set an_law_far_set cd_law_far_set ct_law_far_set), sl_law_far_set⟩) (c_law_far_set : PySem.W.codeIn K cd_law_far_set "_law_far_set" = true) (k_law_far_set : PySem.W.keepIn K (.ref f_law_far_set) = true)
    {od_law_names_due an_law_names_due : Option Addr} {sl_law_names_due : Array (Option Value)} {oc_law_names_due kV_law_names_due dc_law_names_due pm_law_names_due cd_law_names_due ct_law_names_due : Value}
    (a_law_names_due : PySem.W.nsIn K mainGlobals "_law_names_due" = some (some (.ref f_law_names_due)))
    (l_law_names_due : K.lookup f_law_names_due = some ⟨oc_law_names_due, od_law_names_due, .func (PySem.W.fnOf "_law_names_due" "_law_names_due" (defArgs s_law_names_due) (defBody s_law_names_due) (defScope s_law_names_due) .none kV_law_names_due dc_law_names_due pm_law_names_due an_law_names_due cd_law_names_due ct_law_names_due), sl_law_names_due⟩) (c_law_names_due : PySem.W.codeIn K cd_law_names_due "_law_names_due" = true) (k_law_names_due : PySem.W.keepIn K (.ref f_law_names_due) = true)
    {od_law_version_due an_law_version_due : Option Addr} {sl_law_version_due : Array (Option Value)} {oc_law_version_due kV_law_version_due dc_law_version_due pm_law_version_due cd_law_version_due ct_law_version_due : Value}
    (a_law_version_due : PySem.W.nsIn K mainGlobals "_law_version_due" = some (some (.ref f_law_version_due)))
    (l_law_version_due : K.lookup f_law_version_due = some ⟨oc_law_version_due, od_law_version_due, .func (PySem.W.fnOf "_law_version_due" "_law_version_due" (defArgs s_law_version_due) (defBody s_law_version_due) (defScope s_law_version_due) .none kV_law_version_due dc_law_version_due pm_law_version_due an_law_version_due cd_law_version_due ct_law_version_due), sl_law_version_due⟩) (c_law_version_due : PySem.W.codeIn K cd_law_version_due "_law_version_due" = true) (k_law_version_due : PySem.W.keepIn K (.ref f_law_version_due) = true)
    {od_law_roots an_law_roots : Option Addr} {sl_law_roots : Array (Option Value)} {oc_law_roots kV_law_roots dc_law_roots pm_law_roots cd_law_roots ct_law_roots : Value}
    (a_law_roots : PySem.W.nsIn K mainGlobals "_law_roots" = some (some (.ref f_law_roots)))
    (l_law_roots : K.lookup f_law_roots = some ⟨oc_law_roots, od_law_roots, .func (PySem.W.fnOf "_law_roots" "_law_roots" (defArgs s_law_roots) (defBody s_law_roots) (defScope s_law_roots) .none kV_law_roots dc_law_roots pm_law_roots an_law_roots cd_law_roots ct_law_roots), sl_law_roots⟩) (c_law_roots : PySem.W.codeIn K cd_law_roots "_law_roots" = true) (k_law_roots : PySem.W.keepIn K (.ref f_law_roots) = true)
    {od_law_pins_right an_law_pins_right : Option Addr} {sl_law_pins_right : Array (Option Value)} {oc_law_pins_right kV_law_pins_right dc_law_pins_right pm_law_pins_right cd_law_pins_right ct_law_pins_right : Value}
    (a_law_pins_right : PySem.W.nsIn K mainGlobals "_law_pins_right" = some (some (.ref f_law_pins_right)))
    (l_law_pins_right : K.lookup f_law_pins_right = some ⟨oc_law_pins_right, od_law_pins_right, .func (PySem.W.fnOf "_law_pins_right" "_law_pins_right" (defArgs s_law_pins_right) (defBody s_law_pins_right) (defScope s_law_pins_right) .none kV_law_pins_right dc_law_pins_right pm_law_pins_right an_law_pins_right cd_law_pins_right ct_law_pins_right), sl_law_pins_right⟩) (c_law_pins_right : PySem.W.codeIn K cd_law_pins_right "_law_pins_right" = true) (k_law_pins_right : PySem.W.keepIn K (.ref f_law_pins_right) = true)
    {od_law_pin_deed an_law_pin_deed : Option Addr} {sl_law_pin_deed : Array (Option Value)} {oc_law_pin_deed kV_law_pin_deed dc_law_pin_deed pm_law_pin_deed cd_law_pin_deed ct_law_pin_deed : Value}
    (a_law_pin_deed : PySem.W.nsIn K mainGlobals "_law_pin_deed" = some (some (.ref f_law_pin_deed)))
    (l_law_pin_deed : K.lookup f_law_pin_deed = some ⟨oc_law_pin_deed, od_law_pin_deed, .func (PySem.W.fnOf "_law_pin_deed" "_law_pin_deed" (defArgs s_law_pin_deed) (defBody s_law_pin_deed) (defScope s_law_pin_deed) .none kV_law_pin_deed dc_law_pin_deed pm_law_pin_deed an_law_pin_deed cd_law_pin_deed ct_law_pin_deed), sl_law_pin_deed⟩) (c_law_pin_deed : PySem.W.codeIn K cd_law_pin_deed "_law_pin_deed" = true) (k_law_pin_deed : PySem.W.keepIn K (.ref f_law_pin_deed) = true)
    {od_law_far_deed an_law_far_deed : Option Addr} {sl_law_far_deed : Array (Option Value)} {oc_law_far_deed kV_law_far_deed dc_law_far_deed pm_law_far_deed cd_law_far_deed ct_law_far_deed : Value}
    (a_law_far_deed : PySem.W.nsIn K mainGlobals "_law_far_deed" = some (some (.ref f_law_far_deed)))
    (l_law_far_deed : K.lookup f_law_far_deed = some ⟨oc_law_far_deed, od_law_far_deed, .func (PySem.W.fnOf "_law_far_deed" "_law_far_deed" (defArgs s_law_far_deed) (defBody s_law_far_deed) (defScope s_law_far_deed) .none kV_law_far_deed dc_law_far_deed pm_law_far_deed an_law_far_deed cd_law_far_deed ct_law_far_deed), sl_law_far_deed⟩) (c_law_far_deed : PySem.W.codeIn K cd_law_far_deed "_law_far_deed" = true) (k_law_far_deed : PySem.W.keepIn K (.ref f_law_far_deed) = true)
    {od_law an_law : Option Addr} {sl_law : Array (Option Value)} {oc_law kV_law dc_law pm_law cd_law ct_law : Value}
    (a_law : PySem.W.nsIn K mainGlobals "law" = some (some (.ref f_law)))
    (l_law : K.lookup f_law = some ⟨oc_law, od_law, .func (PySem.W.fnOf "law" "law" (defArgs s_law) (defBody s_law) (defScope s_law) .none kV_law dc_law pm_law an_law cd_law ct_law), sl_law⟩) (c_law : PySem.W.codeIn K cd_law "law" = true) (k_law : PySem.W.keepIn K (.ref f_law) = true)
    (kga_Book : PySem.W.nsIn K mainGlobals "Book" = some (some (.ref C_Book))) (kpg_Book : PySem.W.plainGet K C_Book Str.empty = true) (khd_Book : PySem.W.hasDictIn K C_Book = true) (kpo_Book : PySem.W.plainOver K C_Book = true) (ksa_Book : PySem.W.findIn K (.ref C_Book) "__setattr__" = some (some (.builtin "object.__setattr__"))) (kmk_Book : PySem.W.makesIn K C_Book = true) (kkc_Book : PySem.W.keepIn K (.ref C_Book) = true)
    (kna_Book_contents : PySem.W.findIn K (.ref C_Book) "contents" = some none)
    (kna_Book_depths : PySem.W.findIn K (.ref C_Book) "depths" = some none)
    (kna_Book_given : PySem.W.findIn K (.ref C_Book) "given" = some none)
    (kga_Store : PySem.W.nsIn K mainGlobals "Store" = some (some (.ref C_Store))) (kpg_Store : PySem.W.plainGet K C_Store Str.empty = true) (khd_Store : PySem.W.hasDictIn K C_Store = true) (kpo_Store : PySem.W.plainOver K C_Store = true) (ksa_Store : PySem.W.findIn K (.ref C_Store) "__setattr__" = some (some (.builtin "object.__setattr__"))) (kmk_Store : PySem.W.makesIn K C_Store = true) (kkc_Store : PySem.W.keepIn K (.ref C_Store) = true)
    (kna_Store_book : PySem.W.findIn K (.ref C_Store) "book" = some none)
    (kna_Store_here : PySem.W.findIn K (.ref C_Store) "here" = some none)
    (kna_Store_turns : PySem.W.findIn K (.ref C_Store) "turns" = some none)
    (kga_House : PySem.W.nsIn K mainGlobals "House" = some (some (.ref C_House))) (kpg_House : PySem.W.plainGet K C_House Str.empty = true) (khd_House : PySem.W.hasDictIn K C_House = true) (kpo_House : PySem.W.plainOver K C_House = true) (ksa_House : PySem.W.findIn K (.ref C_House) "__setattr__" = some (some (.builtin "object.__setattr__"))) (kmk_House : PySem.W.makesIn K C_House = true) (kkc_House : PySem.W.keepIn K (.ref C_House) = true)
    (kna_House_book : PySem.W.findIn K (.ref C_House) "book" = some none)
    (kna_House_here : PySem.W.findIn K (.ref C_House) "here" = some none)
    (kna_House_turns : PySem.W.findIn K (.ref C_House) "turns" = some none)
    (kna_House_stands : PySem.W.findIn K (.ref C_House) "stands" = some none)
    (kna_House_lately : PySem.W.findIn K (.ref C_House) "lately" = some none)
    (kna_House_others : PySem.W.findIn K (.ref C_House) "others" = some none)
    (kna_House_pinned : PySem.W.findIn K (.ref C_House) "pinned" = some none)
    (kga_Pin : PySem.W.nsIn K mainGlobals "Pin" = some (some (.ref C_Pin))) (kpg_Pin : PySem.W.plainGet K C_Pin Str.empty = true) (khd_Pin : PySem.W.hasDictIn K C_Pin = true) (kpo_Pin : PySem.W.plainOver K C_Pin = true) (ksa_Pin : PySem.W.findIn K (.ref C_Pin) "__setattr__" = some (some (.builtin "object.__setattr__"))) (kmk_Pin : PySem.W.makesIn K C_Pin = true) (kkc_Pin : PySem.W.keepIn K (.ref C_Pin) = true)
    (kna_Pin_store : PySem.W.findIn K (.ref C_Pin) "store" = some none)
    (kna_Pin_on : PySem.W.findIn K (.ref C_Pin) "on" = some none)
    (kna_Pin_loose : PySem.W.findIn K (.ref C_Pin) "loose" = some none)
    (z_len : PySem.W.nsIn K mainGlobals "len" = some none)
    (z_list : PySem.W.nsIn K mainGlobals "list" = some none)
    (z_isinstance : PySem.W.nsIn K mainGlobals "isinstance" = some none)
    (z_int : PySem.W.nsIn K mainGlobals "int" = some none)
    (z_bool : PySem.W.nsIn K mainGlobals "bool" = some none)
    (z_str : PySem.W.nsIn K mainGlobals "str" = some none)
    (z_tuple : PySem.W.nsIn K mainGlobals "tuple" = some none)
    (z_dict : PySem.W.nsIn K mainGlobals "dict" = some none)
    (z_range : PySem.W.nsIn K mainGlobals "range" = some none)
    (z_all : PySem.W.nsIn K mainGlobals "all" = some none)
    (z_min : PySem.W.nsIn K mainGlobals "min" = some none)
    (z_max : PySem.W.nsIn K mainGlobals "max" = some none)
    (z_set : PySem.W.nsIn K mainGlobals "set" = some none)
    (z_sorted : PySem.W.nsIn K mainGlobals "sorted" = some none)
    (z_ValueError : PySem.W.nsIn K mainGlobals "ValueError" = some none)
    {t_SIGNS : Tok} (y_SIGNS : PySem.W.nsIn K mainGlobals "SIGNS" = some (some (.str " !\"#$&'()*+,-./0123456789:;<=>?@ABCDEFGHIJKLMNOPQRSTUVWXYZ[\\]^_`abcdefghijklmnopqrstuvwxyz{|}~" t_SIGNS)))
    {t_LETTERS : Tok} (y_LETTERS : PySem.W.nsIn K mainGlobals "LETTERS" = some (some (.str "abcdefghijklmnopqrstuvwxyz" t_LETTERS)))
    {t_MOST : Tok} (y_MOST : PySem.W.nsIn K mainGlobals "MOST" = some (some (.int 400 t_MOST)))
    {t_DEEP : Tok} (y_DEEP : PySem.W.nsIn K mainGlobals "DEEP" = some (some (.int 8 t_DEEP)))
    {C_LetGo : Addr} (xa_LetGo : PySem.W.nsIn K mainGlobals "LetGo" = some (some (.ref C_LetGo))) (xx_LetGo : PySem.W.excIn K C_LetGo [.type "ValueError", .type "Exception", .type "BaseException", .type "object"] "ValueError.__new__" = true) (xk_LetGo : PySem.W.keepIn K (.ref C_LetGo) = true) (xb_LetGo : PySem.W.subIn K (.ref C_LetGo) (.type "BaseException") = some true) (xt_LetGo : PySem.W.typeIn K (.ref C_LetGo) = some (.type "type")) (xi_LetGo : PySem.W.isClsIn K C_LetGo = true) (xs_LetGo : PySem.W.subIn K (.ref C_LetGo) (.ref C_LetGo) = some true)
    {C_HouseError : Addr} (ga_HouseError : PySem.W.nsIn K mainGlobals "HouseError" = some (some (.ref C_HouseError))) (hb_HouseError : PySem.W.subIn K (.ref C_HouseError) (.type "BaseException") = some true) (hi_HouseError : PySem.W.isClsIn K C_HouseError = true) (ht_HouseError : PySem.W.typeIn K (.ref C_HouseError) = some (.type "type"))
    {C_NoName : Addr} {nm_NoName q_NoName : Str} {N_NoName : Addr} {bs_NoName : List Value} {sn_NoName : List Str} {sub_NoName : List Value} {ab_NoName : Bool} {col_NoName : Option Bool} {dd_NoName : Option Addr} {m0_NoName m1_NoName m2_NoName m3_NoName m5_NoName : Option Value}
    (ga_NoName : PySem.W.nsIn K mainGlobals "NoName" = some (some (.ref C_NoName))) (xl_NoName : K.lookup C_NoName = some (excClassObj nm_NoName q_NoName C_NoName N_NoName bs_NoName [.ref C_HouseError, .type "ValueError", .type "Exception", .type "BaseException", .type "object"] true sn_NoName sub_NoName ab_NoName col_NoName dd_NoName m0_NoName m1_NoName m2_NoName m3_NoName m5_NoName "ValueError.__new__"))
    (hb_NoName : PySem.W.subIn K (.ref C_NoName) (.type "BaseException") = some true) (hi_NoName : PySem.W.isClsIn K C_NoName = true) (ht_NoName : PySem.W.typeIn K (.ref C_NoName) = some (.type "type")) (xk_NoName : PySem.W.keepIn K (.ref C_NoName) = true) (sa_NoName : PySem.W.findIn K (.ref C_NoName) "__setattr__" = some (some (.builtin "object.__setattr__")))
    (xg_NoName : PySem.W.findIn K (.ref C_NoName) "__getattribute__" = some (some (.builtin "BaseException.__getattribute__"))) (xh_NoName : PySem.W.findIn K (.ref C_NoName) "__getattr__" = some none) (xd_NoName : PySem.W.hasDictIn K C_NoName = true)
    (xo_NoName : PySem.W.findIn K (.ref C_NoName) "__class__" = some (some (.builtin "object.__class__"))) (xp_NoName : PySem.W.specialIn K (.builtin "object.__class__") "__get__" = some (some (.builtin "getset_descriptor.__get__"))) (xq_NoName : PySem.W.takesIn K (.builtin "object.__class__") = some true) (xr_NoName : PySem.W.mroIn K C_NoName (.type "object") = some true)
    (xi_NoName : PySem.W.findIn K (.ref C_NoName) "__init__" = some (some (.ref f_NoName___init__))) (xj_NoName : PySem.W.typeIn K (.ref f_NoName___init__) = some (.type "function"))
    (nf_NoName_name : PySem.W.findIn K (.ref C_NoName) "name" = some none)
    {C_Lack : Addr} {nm_Lack q_Lack : Str} {N_Lack : Addr} {bs_Lack : List Value} {sn_Lack : List Str} {sub_Lack : List Value} {ab_Lack : Bool} {col_Lack : Option Bool} {dd_Lack : Option Addr} {m0_Lack m1_Lack m2_Lack m3_Lack m5_Lack : Option Value}
    (ga_Lack : PySem.W.nsIn K mainGlobals "Lack" = some (some (.ref C_Lack))) (xl_Lack : K.lookup C_Lack = some (excClassObj nm_Lack q_Lack C_Lack N_Lack bs_Lack [.ref C_HouseError, .type "ValueError", .type "Exception", .type "BaseException", .type "object"] true sn_Lack sub_Lack ab_Lack col_Lack dd_Lack m0_Lack m1_Lack m2_Lack m3_Lack m5_Lack "ValueError.__new__"))
    (hb_Lack : PySem.W.subIn K (.ref C_Lack) (.type "BaseException") = some true) (hi_Lack : PySem.W.isClsIn K C_Lack = true) (ht_Lack : PySem.W.typeIn K (.ref C_Lack) = some (.type "type")) (xk_Lack : PySem.W.keepIn K (.ref C_Lack) = true) (sa_Lack : PySem.W.findIn K (.ref C_Lack) "__setattr__" = some (some (.builtin "object.__setattr__")))
    (xg_Lack : PySem.W.findIn K (.ref C_Lack) "__getattribute__" = some (some (.builtin "BaseException.__getattribute__"))) (xh_Lack : PySem.W.findIn K (.ref C_Lack) "__getattr__" = some none) (xd_Lack : PySem.W.hasDictIn K C_Lack = true)
    (xo_Lack : PySem.W.findIn K (.ref C_Lack) "__class__" = some (some (.builtin "object.__class__"))) (xp_Lack : PySem.W.specialIn K (.builtin "object.__class__") "__get__" = some (some (.builtin "getset_descriptor.__get__"))) (xq_Lack : PySem.W.takesIn K (.builtin "object.__class__") = some true) (xr_Lack : PySem.W.mroIn K C_Lack (.type "object") = some true)
    (xi_Lack : PySem.W.findIn K (.ref C_Lack) "__init__" = some (some (.ref f_Lack___init__))) (xj_Lack : PySem.W.typeIn K (.ref f_Lack___init__) = some (.type "function"))
    (nf_Lack_name : PySem.W.findIn K (.ref C_Lack) "name" = some none)
    (es_NoName_NoName : PySem.W.subIn K (.ref C_NoName) (.ref C_NoName) = some true)
    (es_Lack_NoName : PySem.W.subIn K (.ref C_Lack) (.ref C_NoName) = some false)
    (es_Lack_Lack : PySem.W.subIn K (.ref C_Lack) (.ref C_Lack) = some true)
    (es_LetGo_NoName : PySem.W.subIn K (.ref C_LetGo) (.ref C_NoName) = some false)
    (es_LetGo_Lack : PySem.W.subIn K (.ref C_LetGo) (.ref C_Lack) = some false)
    (es_LetGo_HouseError : PySem.W.subIn K (.ref C_LetGo) (.ref C_HouseError) = some true)
    (kq_LetGo_LetGo : PySem.W.kitOne K (.ref C_LetGo) (.ref C_LetGo) = some true)
    (kq_LetGo_ValueError : PySem.W.kitOne K (.ref C_LetGo) (.type "ValueError") = some true)
     (ia_House_put : PySem.W.findIn K (.ref C_House) "put" = some (some (.ref f_Store_put)))
     (ia_House_held : PySem.W.findIn K (.ref C_House) "held" = some (some (.ref f_Store_held)))
     (ia_House_holds : PySem.W.findIn K (.ref C_House) "holds" = some (some (.ref f_Store_holds)))
     (cr1_Store : PySem.W.readsIn K C_Store (.type "type") = true)
     (cr2_Store : PySem.W.specialIn K (.ref C_Store) "__getattribute__" = some (some (.builtin "type.__getattribute__")))
     (cv_Store___init__ : PySem.W.findCls K (.ref C_Store) (.type "type") "__init__" = some (.val (.ref f_Store___init__)))
     (e_hg_LetGo : PySem.W.findIn K (.ref C_LetGo) "__getattribute__" = some (some (.builtin "BaseException.__getattribute__")))
     (e_hk_LetGo : PySem.W.findIn K (.ref C_LetGo) "__getattr__" = some none)
     (e_hd_LetGo : PySem.W.hasDictIn K C_LetGo = true)
     (e_ha_LetGo : PySem.W.findIn K (.ref C_LetGo) "__class__" = some (some (.builtin "object.__class__")))
     (e_hn_LetGo : PySem.W.specialIn K (.builtin "object.__class__") "__get__" = some (some (.builtin "getset_descriptor.__get__")))
     (e_ht_LetGo : PySem.W.takesIn K (.builtin "object.__class__") = some true)
     (e_hm_LetGo : PySem.W.mroIn K C_LetGo (.type "object") = some true)
    : ∃ fd : FuncData, (∀ (s : Shared) (v : Value), BindsTo s fd ⟨[v], []⟩ [("_law_script", v)]) ∧ ∀ base : Heap, K.In base → base.Ns mainGlobals mg → FnOk l.prog w K mg base CX0 10 fa fd ["_law_script"] (spLaw K) := by
  have e := hfa.symm.trans (PySem.W.mg_of X G a_law)
  cases e
  have F_NoName___init__ := fun_mk (st := s_NoName___init__) l_NoName___init__ c_NoName___init__ k_NoName___init__
  have F_Lack___init__ := fun_mk (st := s_Lack___init__) l_Lack___init__ c_Lack___init__ k_Lack___init__
  have F_is_int : FunD K "is_int" "is_int" (defArgs s_is_int) (defBody s_is_int) (defScope s_is_int) [V.int 0] [] f_is_int _ := ⟨⟨_, _, _, _, _, _, _, _, _, _, rfl, l_is_int, c_is_int, .inr ⟨by simp, _, _, [.int 0 dk_is_int_least], _, rfl, dl_is_int, rfl, .cons ⟨_, rfl⟩ (.nil)⟩, .inl rfl⟩, k_is_int⟩
  have D_is_int : DfD K mg "is_int" s_is_int ["thing", "least"] [V.int 0] _ _ := ⟨F_is_int, PySem.W.mg_of X G a_is_int, k_is_int, F_is_int.binds1 (ps := ["thing", "least"]) 1 0 (by simp) rfl fun _ _ _ _ _ _ _ us its hu hi => match us, its, hu, hi with | [_], [_], _, _ => ⟨_, rfl, rfl⟩⟩
  have F_is_text : FunD K "is_text" "is_text" (defArgs s_is_text) (defBody s_is_text) (defScope s_is_text) [V.int 40] [] f_is_text _ := ⟨⟨_, _, _, _, _, _, _, _, _, _, rfl, l_is_text, c_is_text, .inr ⟨by simp, _, _, [.int 40 dk_is_text_most], _, rfl, dl_is_text, rfl, .cons ⟨_, rfl⟩ (.nil)⟩, .inl rfl⟩, k_is_text⟩
  have D_is_text : DfD K mg "is_text" s_is_text ["thing", "most"] [V.int 40] _ _ := ⟨F_is_text, PySem.W.mg_of X G a_is_text, k_is_text, F_is_text.binds1 (ps := ["thing", "most"]) 1 0 (by simp) rfl fun _ _ _ _ _ _ _ us its hu hi => match us, its, hu, hi with | [_], [_], _, _ => ⟨_, rfl, rfl⟩⟩
  have F_is_label := fun_mk (st := s_is_label) l_is_label c_is_label k_is_label
  have D_is_label : Df K mg "is_label" s_is_label ["thing"] _ _ := ⟨F_is_label, F_is_label.binds (ps := ["thing"]) fun _ _ _ _ _ _ us hl => match us, hl with | [_], _ => rfl, PySem.W.mg_of X G a_is_label⟩
  have F_rise := fun_mk (st := s_rise) l_rise c_rise k_rise
  have D_rise : Df K mg "rise" s_rise ["row"] _ _ := ⟨F_rise, F_rise.binds (ps := ["row"]) fun _ _ _ _ _ _ us hl => match us, hl with | [_], _ => rfl, PySem.W.mg_of X G a_rise⟩
  have F_are_ints := fun_mk (st := s_are_ints) l_are_ints c_are_ints k_are_ints
  have D_are_ints : Df K mg "are_ints" s_are_ints ["thing"] _ _ := ⟨F_are_ints, F_are_ints.binds (ps := ["thing"]) fun _ _ _ _ _ _ us hl => match us, hl with | [_], _ => rfl, PySem.W.mg_of X G a_are_ints⟩
  have F_rising_ints := fun_mk (st := s_rising_ints) l_rising_ints c_rising_ints k_rising_ints
  have D_rising_ints : Df K mg "rising_ints" s_rising_ints ["thing"] _ _ := ⟨F_rising_ints, F_rising_ints.binds (ps := ["thing"]) fun _ _ _ _ _ _ us hl => match us, hl with | [_], _ => rfl, PySem.W.mg_of X G a_rising_ints⟩
  have F_is_pair := fun_mk (st := s_is_pair) l_is_pair c_is_pair k_is_pair
  have D_is_pair : Df K mg "is_pair" s_is_pair ["thing"] _ _ := ⟨F_is_pair, F_is_pair.binds (ps := ["thing"]) fun _ _ _ _ _ _ us hl => match us, hl with | [_], _ => rfl, PySem.W.mg_of X G a_is_pair⟩
  have F_are_rows := fun_mk (st := s_are_rows) l_are_rows c_are_rows k_are_rows
  have D_are_rows : Df K mg "are_rows" s_are_rows ["thing"] _ _ := ⟨F_are_rows, F_are_rows.binds (ps := ["thing"]) fun _ _ _ _ _ _ us hl => match us, hl with | [_], _ => rfl, PySem.W.mg_of X G a_are_rows⟩
  have F_Book___init__ := fun_mk (st := s_Book___init__) l_Book___init__ c_Book___init__ k_Book___init__
  have D_Book___init__ : DfM K C_Book "__init__" "Book.__init__" s_Book___init__ ["self"] _ _ := ⟨F_Book___init__, F_Book___init__.binds (ps := ["self"]) fun _ _ _ _ _ _ us hl => match us, hl with | [_], _ => rfl, ⟨a_Book___init__, i_Book___init__, k_Book___init__⟩⟩
  have F_Book_named := fun_mk (st := s_Book_named) l_Book_named c_Book_named k_Book_named
  have D_Book_named : DfM K C_Book "named" "Book.named" s_Book_named ["self", "content"] _ _ := ⟨F_Book_named, F_Book_named.binds (ps := ["self", "content"]) fun _ _ _ _ _ _ us hl => match us, hl with | [_, _], _ => rfl, ⟨a_Book_named, i_Book_named, k_Book_named⟩⟩
  have F_Book_thing := fun_mk (st := s_Book_thing) l_Book_thing c_Book_thing k_Book_thing
  have D_Book_thing : DfM K C_Book "thing" "Book.thing" s_Book_thing ["self", "name"] _ _ := ⟨F_Book_thing, F_Book_thing.binds (ps := ["self", "name"]) fun _ _ _ _ _ _ us hl => match us, hl with | [_, _], _ => rfl, ⟨a_Book_thing, i_Book_thing, k_Book_thing⟩⟩
  have F_Book_kind := fun_mk (st := s_Book_kind) l_Book_kind c_Book_kind k_Book_kind
  have D_Book_kind : DfM K C_Book "kind" "Book.kind" s_Book_kind ["self", "name"] _ _ := ⟨F_Book_kind, F_Book_kind.binds (ps := ["self", "name"]) fun _ _ _ _ _ _ us hl => match us, hl with | [_, _], _ => rfl, ⟨a_Book_kind, i_Book_kind, k_Book_kind⟩⟩
  have F_is_name := fun_mk (st := s_is_name) l_is_name c_is_name k_is_name
  have D_is_name : Df K mg "is_name" s_is_name ["book", "thing"] _ _ := ⟨F_is_name, F_is_name.binds (ps := ["book", "thing"]) fun _ _ _ _ _ _ us hl => match us, hl with | [_, _], _ => rfl, PySem.W.mg_of X G a_is_name⟩
  have F_is_kind := fun_mk (st := s_is_kind) l_is_kind c_is_kind k_is_kind
  have D_is_kind : Df K mg "is_kind" s_is_kind ["book", "thing", "kind"] _ _ := ⟨F_is_kind, F_is_kind.binds (ps := ["book", "thing", "kind"]) fun _ _ _ _ _ _ us hl => match us, hl with | [_, _, _], _ => rfl, PySem.W.mg_of X G a_is_kind⟩
  have F_is_entry := fun_mk (st := s_is_entry) l_is_entry c_is_entry k_is_entry
  have D_is_entry : Df K mg "is_entry" s_is_entry ["book", "thing"] _ _ := ⟨F_is_entry, F_is_entry.binds (ps := ["book", "thing"]) fun _ _ _ _ _ _ us hl => match us, hl with | [_, _], _ => rfl, PySem.W.mg_of X G a_is_entry⟩
  have F_is_tree := fun_mk (st := s_is_tree) l_is_tree c_is_tree k_is_tree
  have D_is_tree : Df K mg "is_tree" s_is_tree ["book", "entries"] _ _ := ⟨F_is_tree, F_is_tree.binds (ps := ["book", "entries"]) fun _ _ _ _ _ _ us hl => match us, hl with | [_, _], _ => rfl, PySem.W.mg_of X G a_is_tree⟩
  have F_depth_of := fun_mk (st := s_depth_of) l_depth_of c_depth_of k_depth_of
  have D_depth_of : Df K mg "depth_of" s_depth_of ["book", "content"] _ _ := ⟨F_depth_of, F_depth_of.binds (ps := ["book", "content"]) fun _ _ _ _ _ _ us hl => match us, hl with | [_, _], _ => rfl, PySem.W.mg_of X G a_depth_of⟩
  have F_is_version := fun_mk (st := s_is_version) l_is_version c_is_version k_is_version
  have D_is_version : Df K mg "is_version" s_is_version ["book", "content"] _ _ := ⟨F_is_version, F_is_version.binds (ps := ["book", "content"]) fun _ _ _ _ _ _ us hl => match us, hl with | [_, _], _ => rfl, PySem.W.mg_of X G a_is_version⟩
  have F_is_content := fun_mk (st := s_is_content) l_is_content c_is_content k_is_content
  have D_is_content : Df K mg "is_content" s_is_content ["book", "thing"] _ _ := ⟨F_is_content, F_is_content.binds (ps := ["book", "thing"]) fun _ _ _ _ _ _ us hl => match us, hl with | [_, _], _ => rfl, PySem.W.mg_of X G a_is_content⟩
  have F_Store___init__ := fun_mk (st := s_Store___init__) l_Store___init__ c_Store___init__ k_Store___init__
  have D_Store___init__ : DfM K C_Store "__init__" "Store.__init__" s_Store___init__ ["self", "book"] _ _ := ⟨F_Store___init__, F_Store___init__.binds (ps := ["self", "book"]) fun _ _ _ _ _ _ us hl => match us, hl with | [_, _], _ => rfl, ⟨a_Store___init__, i_Store___init__, k_Store___init__⟩⟩
  have F_Store_put := fun_mk (st := s_Store_put) l_Store_put c_Store_put k_Store_put
  have D_Store_put : DfM K C_Store "put" "Store.put" s_Store_put ["self", "name"] _ _ := ⟨F_Store_put, F_Store_put.binds (ps := ["self", "name"]) fun _ _ _ _ _ _ us hl => match us, hl with | [_, _], _ => rfl, ⟨a_Store_put, i_Store_put, k_Store_put⟩⟩
  have F_Store_held := fun_mk (st := s_Store_held) l_Store_held c_Store_held k_Store_held
  have D_Store_held : DfM K C_Store "held" "Store.held" s_Store_held ["self"] _ _ := ⟨F_Store_held, F_Store_held.binds (ps := ["self"]) fun _ _ _ _ _ _ us hl => match us, hl with | [_], _ => rfl, ⟨a_Store_held, i_Store_held, k_Store_held⟩⟩
  have F_Store_holds := fun_mk (st := s_Store_holds) l_Store_holds c_Store_holds k_Store_holds
  have D_Store_holds : DfM K C_Store "holds" "Store.holds" s_Store_holds ["self", "name"] _ _ := ⟨F_Store_holds, F_Store_holds.binds (ps := ["self", "name"]) fun _ _ _ _ _ _ us hl => match us, hl with | [_, _], _ => rfl, ⟨a_Store_holds, i_Store_holds, k_Store_holds⟩⟩
  have F_House___init__ := fun_mk (st := s_House___init__) l_House___init__ c_House___init__ k_House___init__
  have D_House___init__ : DfM K C_House "__init__" "House.__init__" s_House___init__ ["self", "book"] _ _ := ⟨F_House___init__, F_House___init__.binds (ps := ["self", "book"]) fun _ _ _ _ _ _ us hl => match us, hl with | [_, _], _ => rfl, ⟨a_House___init__, i_House___init__, k_House___init__⟩⟩
  have F_House_marks := fun_mk (st := s_House_marks) l_House_marks c_House_marks k_House_marks
  have D_House_marks : DfM K C_House "marks" "House.marks" s_House_marks ["self"] _ _ := ⟨F_House_marks, F_House_marks.binds (ps := ["self"]) fun _ _ _ _ _ _ us hl => match us, hl with | [_], _ => rfl, ⟨a_House_marks, i_House_marks, k_House_marks⟩⟩
  have F_House_must_have := fun_mk (st := s_House_must_have) l_House_must_have c_House_must_have k_House_must_have
  have D_House_must_have : DfM K C_House "must_have" "House.must_have" s_House_must_have ["self", "version"] _ _ := ⟨F_House_must_have, F_House_must_have.binds (ps := ["self", "version"]) fun _ _ _ _ _ _ us hl => match us, hl with | [_, _], _ => rfl, ⟨a_House_must_have, i_House_must_have, k_House_must_have⟩⟩
  have F_House_far := fun_mk (st := s_House_far) l_House_far c_House_far k_House_far
  have D_House_far : DfM K C_House "far" "House.far" s_House_far ["self"] _ _ := ⟨F_House_far, F_House_far.binds (ps := ["self"]) fun _ _ _ _ _ _ us hl => match us, hl with | [_], _ => rfl, ⟨a_House_far, i_House_far, k_House_far⟩⟩
  have F_House_set_far := fun_mk (st := s_House_set_far) l_House_set_far c_House_set_far k_House_set_far
  have D_House_set_far : DfM K C_House "set_far" "House.set_far" s_House_set_far ["self", "label", "mark", "version"] _ _ := ⟨F_House_set_far, F_House_set_far.binds (ps := ["self", "label", "mark", "version"]) fun _ _ _ _ _ _ us hl => match us, hl with | [_, _, _, _], _ => rfl, ⟨a_House_set_far, i_House_set_far, k_House_set_far⟩⟩
  have F_House_pin := fun_mk (st := s_House_pin) l_House_pin c_House_pin k_House_pin
  have D_House_pin : DfM K C_House "pin" "House.pin" s_House_pin ["self", "names"] _ _ := ⟨F_House_pin, F_House_pin.binds (ps := ["self", "names"]) fun _ _ _ _ _ _ us hl => match us, hl with | [_, _], _ => rfl, ⟨a_House_pin, i_House_pin, k_House_pin⟩⟩
  have F_House_roots := fun_mk (st := s_House_roots) l_House_roots c_House_roots k_House_roots
  have D_House_roots : DfM K C_House "roots" "House.roots" s_House_roots ["self"] _ _ := ⟨F_House_roots, F_House_roots.binds (ps := ["self"]) fun _ _ _ _ _ _ us hl => match us, hl with | [_], _ => rfl, ⟨a_House_roots, i_House_roots, k_House_roots⟩⟩
  have F_must_hold := fun_mk (st := s_must_hold) l_must_hold c_must_hold k_must_hold
  have D_must_hold : Df K mg "must_hold" s_must_hold ["store", "names"] _ _ := ⟨F_must_hold, F_must_hold.binds (ps := ["store", "names"]) fun _ _ _ _ _ _ us hl => match us, hl with | [_, _], _ => rfl, PySem.W.mg_of X G a_must_hold⟩
  have F_Pin___init__ := fun_mk (st := s_Pin___init__) l_Pin___init__ c_Pin___init__ k_Pin___init__
  have D_Pin___init__ : DfM K C_Pin "__init__" "Pin.__init__" s_Pin___init__ ["self", "store", "names"] _ _ := ⟨F_Pin___init__, F_Pin___init__.binds (ps := ["self", "store", "names"]) fun _ _ _ _ _ _ us hl => match us, hl with | [_, _, _], _ => rfl, ⟨a_Pin___init__, i_Pin___init__, k_Pin___init__⟩⟩
  have F_Pin___len__ := fun_mk (st := s_Pin___len__) l_Pin___len__ c_Pin___len__ k_Pin___len__
  have D_Pin___len__ : DfM K C_Pin "__len__" "Pin.__len__" s_Pin___len__ ["self"] _ _ := ⟨F_Pin___len__, F_Pin___len__.binds (ps := ["self"]) fun _ _ _ _ _ _ us hl => match us, hl with | [_], _ => rfl, ⟨a_Pin___len__, i_Pin___len__, k_Pin___len__⟩⟩
  have F_Pin_add := fun_mk (st := s_Pin_add) l_Pin_add c_Pin_add k_Pin_add
  have D_Pin_add : DfM K C_Pin "add" "Pin.add" s_Pin_add ["self", "name"] _ _ := ⟨F_Pin_add, F_Pin_add.binds (ps := ["self", "name"]) fun _ _ _ _ _ _ us hl => match us, hl with | [_, _], _ => rfl, ⟨a_Pin_add, i_Pin_add, k_Pin_add⟩⟩
  have F_Pin_let_go := fun_mk (st := s_Pin_let_go) l_Pin_let_go c_Pin_let_go k_Pin_let_go
  have D_Pin_let_go : DfM K C_Pin "let_go" "Pin.let_go" s_Pin_let_go ["self"] _ _ := ⟨F_Pin_let_go, F_Pin_let_go.binds (ps := ["self"]) fun _ _ _ _ _ _ us hl => match us, hl with | [_], _ => rfl, ⟨a_Pin_let_go, i_Pin_let_go, k_Pin_let_go⟩⟩
  have F_Pin_names := fun_mk (st := s_Pin_names) l_Pin_names c_Pin_names k_Pin_names
  have D_Pin_names : DfM K C_Pin "names" "Pin.names" s_Pin_names ["self"] _ _ := ⟨F_Pin_names, F_Pin_names.binds (ps := ["self"]) fun _ _ _ _ _ _ us hl => match us, hl with | [_], _ => rfl, ⟨a_Pin_names, i_Pin_names, k_Pin_names⟩⟩
  have F_law_deck := fun_mk (st := s_law_deck) l_law_deck c_law_deck k_law_deck
  have D_law_deck : Df K mg "_law_deck" s_law_deck ["_law_script"] _ _ := ⟨F_law_deck, F_law_deck.binds (ps := ["_law_script"]) fun _ _ _ _ _ _ us hl => match us, hl with | [_], _ => rfl, PySem.W.mg_of X G a_law_deck⟩
  have F_law_mixed := fun_mk (st := s_law_mixed) l_law_mixed c_law_mixed k_law_mixed
  have D_law_mixed : Df K mg "_law_mixed" s_law_mixed ["_law_cell", "_law_turn"] _ _ := ⟨F_law_mixed, F_law_mixed.binds (ps := ["_law_cell", "_law_turn"]) fun _ _ _ _ _ _ us hl => match us, hl with | [_, _], _ => rfl, PySem.W.mg_of X G a_law_mixed⟩
  have F_law_draw := fun_mk (st := s_law_draw) l_law_draw c_law_draw k_law_draw
  have D_law_draw : Df K mg "_law_draw" s_law_draw ["_law_deck_here", "_law_many"] _ _ := ⟨F_law_draw, F_law_draw.binds (ps := ["_law_deck_here", "_law_many"]) fun _ _ _ _ _ _ us hl => match us, hl with | [_, _], _ => rfl, PySem.W.mg_of X G a_law_draw⟩
  have F_law_label := fun_mk (st := s_law_label) l_law_label c_law_label k_law_label
  have D_law_label : Df K mg "_law_label" s_law_label ["_law_deck_here"] _ _ := ⟨F_law_label, F_law_label.binds (ps := ["_law_deck_here"]) fun _ _ _ _ _ _ us hl => match us, hl with | [_], _ => rfl, PySem.W.mg_of X G a_law_label⟩
  have F_law_give := fun_mk (st := s_law_give) l_law_give c_law_give k_law_give
  have D_law_give : Df K mg "_law_give" s_law_give ["_law_things", "_law_content"] _ _ := ⟨F_law_give, F_law_give.binds (ps := ["_law_things", "_law_content"]) fun _ _ _ _ _ _ us hl => match us, hl with | [_, _], _ => rfl, PySem.W.mg_of X G a_law_give⟩
  have F_law_some := fun_mk (st := s_law_some) l_law_some c_law_some k_law_some
  have D_law_some : Df K mg "_law_some" s_law_some ["_law_deck_here", "_law_names", "_law_count"] _ _ := ⟨F_law_some, F_law_some.binds (ps := ["_law_deck_here", "_law_names", "_law_count"]) fun _ _ _ _ _ _ us hl => match us, hl with | [_, _, _], _ => rfl, PySem.W.mg_of X G a_law_some⟩
  have F_law_book := fun_mk (st := s_law_book) l_law_book c_law_book k_law_book
  have D_law_book : Df K mg "_law_book" s_law_book ["_law_things"] _ _ := ⟨F_law_book, F_law_book.binds (ps := ["_law_things"]) fun _ _ _ _ _ _ us hl => match us, hl with | [_], _ => rfl, PySem.W.mg_of X G a_law_book⟩
  have F_law_house := fun_mk (st := s_law_house) l_law_house c_law_house k_law_house
  have D_law_house : Df K mg "_law_house" s_law_house ["_law_book_here", "_law_held"] _ _ := ⟨F_law_house, F_law_house.binds (ps := ["_law_book_here", "_law_held"]) fun _ _ _ _ _ _ us hl => match us, hl with | [_, _], _ => rfl, PySem.W.mg_of X G a_law_house⟩
  have F_law_int := fun_mk (st := s_law_int) l_law_int c_law_int k_law_int
  have D_law_int : Df K mg "_law_int" s_law_int ["_law_thing"] _ _ := ⟨F_law_int, F_law_int.binds (ps := ["_law_thing"]) fun _ _ _ _ _ _ us hl => match us, hl with | [_], _ => rfl, PySem.W.mg_of X G a_law_int⟩
  have F_law_same := fun_mk (st := s_law_same) l_law_same c_law_same k_law_same
  have D_law_same : Df K mg "_law_same" s_law_same ["_law_found", "_law_due"] _ _ := ⟨F_law_same, F_law_same.binds (ps := ["_law_found", "_law_due"]) fun _ _ _ _ _ _ us hl => match us, hl with | [_, _], _ => rfl, PySem.W.mg_of X G a_law_same⟩
  have F_law_here := fun_mk (st := s_law_here) l_law_here c_law_here k_law_here
  have D_law_here : Df K mg "_law_here" s_law_here ["_law_names"] _ _ := ⟨F_law_here, F_law_here.binds (ps := ["_law_names"]) fun _ _ _ _ _ _ us hl => match us, hl with | [_], _ => rfl, PySem.W.mg_of X G a_law_here⟩
  have F_law_is_version := fun_mk (st := s_law_is_version) l_law_is_version c_law_is_version k_law_is_version
  have D_law_is_version : Df K mg "_law_is_version" s_law_is_version ["_law_things", "_law_name_here"] _ _ := ⟨F_law_is_version, F_law_is_version.binds (ps := ["_law_things", "_law_name_here"]) fun _ _ _ _ _ _ us hl => match us, hl with | [_, _], _ => rfl, PySem.W.mg_of X G a_law_is_version⟩
  have F_law_scene := fun_mk (st := s_law_scene) l_law_scene c_law_scene k_law_scene
  have D_law_scene : Df K mg "_law_scene" s_law_scene ["_law_deck_here", "_law_most"] _ _ := ⟨F_law_scene, F_law_scene.binds (ps := ["_law_deck_here", "_law_most"]) fun _ _ _ _ _ _ us hl => match us, hl with | [_, _], _ => rfl, PySem.W.mg_of X G a_law_scene⟩
  have F_law_name := fun_mk (st := s_law_name) l_law_name c_law_name k_law_name
  have D_law_name : Df K mg "_law_name" s_law_name ["_law_deck_here", "_law_things"] _ _ := ⟨F_law_name, F_law_name.binds (ps := ["_law_deck_here", "_law_things"]) fun _ _ _ _ _ _ us hl => match us, hl with | [_, _], _ => rfl, PySem.W.mg_of X G a_law_name⟩
  have F_law_pinned := fun_mk (st := s_law_pinned) l_law_pinned c_law_pinned k_law_pinned
  have D_law_pinned : Df K mg "_law_pinned" s_law_pinned ["_law_house_here", "_law_pins", "_law_names"] _ _ := ⟨F_law_pinned, F_law_pinned.binds (ps := ["_law_house_here", "_law_pins", "_law_names"]) fun _ _ _ _ _ _ us hl => match us, hl with | [_, _, _], _ => rfl, PySem.W.mg_of X G a_law_pinned⟩
  have F_law_added := fun_mk (st := s_law_added) l_law_added c_law_added k_law_added
  have D_law_added : Df K mg "_law_added" s_law_added ["_law_one", "_law_name_here"] _ _ := ⟨F_law_added, F_law_added.binds (ps := ["_law_one", "_law_name_here"]) fun _ _ _ _ _ _ us hl => match us, hl with | [_, _], _ => rfl, PySem.W.mg_of X G a_law_added⟩
  have F_law_far_set := fun_mk (st := s_law_far_set) l_law_far_set c_law_far_set k_law_far_set
  have D_law_far_set : Df K mg "_law_far_set" s_law_far_set ["_law_house_here", "_law_label_here", "_law_mark", "_law_version"] _ _ := ⟨F_law_far_set, F_law_far_set.binds (ps := ["_law_house_here", "_law_label_here", "_law_mark", "_law_version"]) fun _ _ _ _ _ _ us hl => match us, hl with | [_, _, _, _], _ => rfl, PySem.W.mg_of X G a_law_far_set⟩
  have F_law_names_due := fun_mk (st := s_law_names_due) l_law_names_due c_law_names_due k_law_names_due
  have D_law_names_due : Df K mg "_law_names_due" s_law_names_due ["_law_things", "_law_here_here", "_law_names"] _ _ := ⟨F_law_names_due, F_law_names_due.binds (ps := ["_law_things", "_law_here_here", "_law_names"]) fun _ _ _ _ _ _ us hl => match us, hl with | [_, _, _], _ => rfl, PySem.W.mg_of X G a_law_names_due⟩
  have F_law_version_due := fun_mk (st := s_law_version_due) l_law_version_due c_law_version_due k_law_version_due
  have D_law_version_due : Df K mg "_law_version_due" s_law_version_due ["_law_things", "_law_here_here", "_law_version"] _ _ := ⟨F_law_version_due, F_law_version_due.binds (ps := ["_law_things", "_law_here_here", "_law_version"]) fun _ _ _ _ _ _ us hl => match us, hl with | [_, _, _], _ => rfl, PySem.W.mg_of X G a_law_version_due⟩
  have F_law_roots := fun_mk (st := s_law_roots) l_law_roots c_law_roots k_law_roots
  have D_law_roots : Df K mg "_law_roots" s_law_roots ["_law_far", "_law_ons"] _ _ := ⟨F_law_roots, F_law_roots.binds (ps := ["_law_far", "_law_ons"]) fun _ _ _ _ _ _ us hl => match us, hl with | [_, _], _ => rfl, PySem.W.mg_of X G a_law_roots⟩
  have F_law_pins_right := fun_mk (st := s_law_pins_right) l_law_pins_right c_law_pins_right k_law_pins_right
  have D_law_pins_right : Df K mg "_law_pins_right" s_law_pins_right ["_law_deck_here", "_law_house_here", "_law_pins", "_law_ons", "_law_far"] _ _ := ⟨F_law_pins_right, F_law_pins_right.binds (ps := ["_law_deck_here", "_law_house_here", "_law_pins", "_law_ons", "_law_far"]) fun _ _ _ _ _ _ us hl => match us, hl with | [_, _, _, _, _], _ => rfl, PySem.W.mg_of X G a_law_pins_right⟩
  have F_law_pin_deed := fun_mk (st := s_law_pin_deed) l_law_pin_deed c_law_pin_deed k_law_pin_deed
  have D_law_pin_deed : Df K mg "_law_pin_deed" s_law_pin_deed ["_law_deck_here", "_law_house_here", "_law_things", "_law_here_here", "_law_pins", "_law_ons"] _ _ := ⟨F_law_pin_deed, F_law_pin_deed.binds (ps := ["_law_deck_here", "_law_house_here", "_law_things", "_law_here_here", "_law_pins", "_law_ons"]) fun _ _ _ _ _ _ us hl => match us, hl with | [_, _, _, _, _, _], _ => rfl, PySem.W.mg_of X G a_law_pin_deed⟩
  have F_law_far_deed := fun_mk (st := s_law_far_deed) l_law_far_deed c_law_far_deed k_law_far_deed
  have D_law_far_deed : Df K mg "_law_far_deed" s_law_far_deed ["_law_deck_here", "_law_house_here", "_law_things", "_law_here_here", "_law_far"] _ _ := ⟨F_law_far_deed, F_law_far_deed.binds (ps := ["_law_deck_here", "_law_house_here", "_law_things", "_law_here_here", "_law_far"]) fun _ _ _ _ _ _ us hl => match us, hl with | [_, _, _, _, _], _ => rfl, PySem.W.mg_of X G a_law_far_deed⟩
  have F_law := fun_mk (st := s_law) l_law c_law k_law
  have D_law : Df K mg "law" s_law ["_law_script"] _ _ := ⟨F_law, F_law.binds (ps := ["_law_script"]) fun _ _ _ _ _ _ us hl => match us, hl with | [_], _ => rfl, PySem.W.mg_of X G a_law⟩
  have X_NoName : ExnI K mg "NoName" C_NoName f_NoName___init__ _ ["self", "name"] ["name"] := ⟨PySem.W.mg_of X G ga_NoName, ⟨⟨_, _, _, _, _, _, _, _, _, _, _, _, _, _, _, xl_NoName, (show PySem.HandSPX.refsVE [.type "ValueError", .type "Exception", .type "BaseException", .type "object"] = true by decide +kernel)⟩, sa_NoName, hb_NoName, ht_NoName, xk_NoName⟩, xi_NoName, xj_NoName, F_NoName___init__.binds (ps := ["self", "name"]) fun _ _ _ _ _ _ us hl => match us, hl with | [_, _], _ => rfl, ⟨xg_NoName, xh_NoName, hb_NoName, xd_NoName⟩, ⟨xg_NoName, xh_NoName, hb_NoName, xd_NoName, xo_NoName, xp_NoName, xq_NoName, xr_NoName⟩, fun y hy => by
    rcases (by simpa using hy : y = "name") with rfl
    · exact nf_NoName_name⟩
  have X_Lack : ExnI K mg "Lack" C_Lack f_Lack___init__ _ ["self", "name"] ["name"] := ⟨PySem.W.mg_of X G ga_Lack, ⟨⟨_, _, _, _, _, _, _, _, _, _, _, _, _, _, _, xl_Lack, (show PySem.HandSPX.refsVE [.type "ValueError", .type "Exception", .type "BaseException", .type "object"] = true by decide +kernel)⟩, sa_Lack, hb_Lack, ht_Lack, xk_Lack⟩, xi_Lack, xj_Lack, F_Lack___init__.binds (ps := ["self", "name"]) fun _ _ _ _ _ _ us hl => match us, hl with | [_, _], _ => rfl, ⟨xg_Lack, xh_Lack, hb_Lack, xd_Lack⟩, ⟨xg_Lack, xh_Lack, hb_Lack, xd_Lack, xo_Lack, xp_Lack, xq_Lack, xr_Lack⟩, fun y hy => by
    rcases (by simpa using hy : y = "name") with rfl
    · exact nf_Lack_name⟩
  have K_Book : Kl K mg "Book" C_Book ["contents", "depths", "given"] := ⟨PySem.W.mg_of X G kga_Book, ⟨kpg_Book, khd_Book, kpo_Book, ksa_Book⟩, fun y hy => by
    rcases (by simpa using hy : y = "contents" ∨ y = "depths" ∨ y = "given") with rfl | rfl | rfl
    · exact kna_Book_contents
    · exact kna_Book_depths
    · exact kna_Book_given⟩
  have M_Book : Mk K C_Book f_Book___init__ := ⟨kmk_Book, a_Book___init__, i_Book___init__, kkc_Book⟩
  have K_Store : Kl K mg "Store" C_Store ["book", "here", "turns"] := ⟨PySem.W.mg_of X G kga_Store, ⟨kpg_Store, khd_Store, kpo_Store, ksa_Store⟩, fun y hy => by
    rcases (by simpa using hy : y = "book" ∨ y = "here" ∨ y = "turns") with rfl | rfl | rfl
    · exact kna_Store_book
    · exact kna_Store_here
    · exact kna_Store_turns⟩
  have M_Store : Mk K C_Store f_Store___init__ := ⟨kmk_Store, a_Store___init__, i_Store___init__, kkc_Store⟩
  have K_House : Kl K mg "House" C_House ["book", "here", "turns", "stands", "lately", "others", "pinned"] := ⟨PySem.W.mg_of X G kga_House, ⟨kpg_House, khd_House, kpo_House, ksa_House⟩, fun y hy => by
    rcases (by simpa using hy : y = "book" ∨ y = "here" ∨ y = "turns" ∨ y = "stands" ∨ y = "lately" ∨ y = "others" ∨ y = "pinned") with rfl | rfl | rfl | rfl | rfl | rfl | rfl
    · exact kna_House_book
    · exact kna_House_here
    · exact kna_House_turns
    · exact kna_House_stands
    · exact kna_House_lately
    · exact kna_House_others
    · exact kna_House_pinned⟩
  have M_House : Mk K C_House f_House___init__ := ⟨kmk_House, a_House___init__, i_House___init__, kkc_House⟩
  have K_Pin : Kl K mg "Pin" C_Pin ["store", "on", "loose"] := ⟨PySem.W.mg_of X G kga_Pin, ⟨kpg_Pin, khd_Pin, kpo_Pin, ksa_Pin⟩, fun y hy => by
    rcases (by simpa using hy : y = "store" ∨ y = "on" ∨ y = "loose") with rfl | rfl | rfl
    · exact kna_Pin_store
    · exact kna_Pin_on
    · exact kna_Pin_loose⟩
  have M_Pin : Mk K C_Pin f_Pin___init__ := ⟨kmk_Pin, a_Pin___init__, i_Pin___init__, kkc_Pin⟩
  have T : Txt K mg := ⟨PySem.W.mg_none_of X G z_len, PySem.W.mg_none_of X G z_list, PySem.W.mg_none_of X G z_isinstance, PySem.W.mg_none_of X G z_int, PySem.W.mg_none_of X G z_bool, PySem.W.mg_none_of X G z_str, PySem.W.mg_none_of X G z_tuple, PySem.W.mg_none_of X G z_dict, PySem.W.mg_none_of X G z_range, PySem.W.mg_none_of X G z_all, PySem.W.mg_none_of X G z_min, PySem.W.mg_none_of X G z_max, PySem.W.mg_none_of X G z_set, PySem.W.mg_none_of X G z_sorted, PySem.W.mg_none_of X G z_ValueError, ⟨_, PySem.W.mg_of X G y_SIGNS⟩, ⟨_, PySem.W.mg_of X G y_LETTERS⟩, ⟨_, PySem.W.mg_of X G y_MOST⟩, ⟨_, PySem.W.mg_of X G y_DEEP⟩⟩
  have X_LetGo : Exn K mg "LetGo" C_LetGo := ⟨PySem.W.mg_of X G xa_LetGo, xx_LetGo, xk_LetGo, xb_LetGo, xt_LetGo, exm_is xb_LetGo xi_LetGo xt_LetGo xs_LetGo⟩
  exact ⟨PySem.W.fnOf "law" "law" (defArgs s_law) (defBody s_law) (defScope s_law) .none kV_law dc_law pm_law an_law cd_law ct_law, fun s v => .of_eq rfl, fun base _ _ => ok_law T F_NoName___init__ F_Lack___init__ D_is_int D_is_text D_is_label D_rise D_are_ints D_rising_ints D_is_pair D_are_rows D_Book___init__ D_Book_named D_Book_thing D_Book_kind D_is_name D_is_kind D_is_entry D_is_tree D_depth_of D_is_version D_is_content D_Store___init__ D_Store_put D_Store_held D_Store_holds D_House___init__ D_House_marks D_House_must_have D_House_far D_House_set_far D_House_pin D_House_roots D_must_hold D_Pin___init__ D_Pin___len__ D_Pin_add D_Pin_let_go D_Pin_names D_law_deck D_law_mixed D_law_draw D_law_label D_law_give D_law_some D_law_book D_law_house D_law_int D_law_same D_law_here D_law_is_version D_law_scene D_law_name D_law_pinned D_law_added D_law_far_set D_law_names_due D_law_version_due D_law_roots D_law_pins_right D_law_pin_deed D_law_far_deed D_law K_Book M_Book K_Store M_Store K_House M_House K_Pin M_Pin X_LetGo X_NoName X_Lack (PySem.W.mg_of X G ga_HouseError) (exm_is hb_NoName hi_NoName ht_NoName es_NoName_NoName) (exm_is hb_NoName hi_NoName ht_NoName es_Lack_NoName) (exm_is hb_Lack hi_Lack ht_Lack es_Lack_Lack) (exm_is hb_NoName hi_NoName ht_NoName es_LetGo_NoName) (exm_is hb_Lack hi_Lack ht_Lack es_LetGo_Lack) (exm_is hb_HouseError hi_HouseError ht_HouseError es_LetGo_HouseError) kq_LetGo_LetGo kq_LetGo_ValueError ⟨ia_House_put, i_Store_put, k_Store_put⟩ ⟨ia_House_held, i_Store_held, k_Store_held⟩ ⟨ia_House_holds, i_Store_holds, k_Store_holds⟩ ⟨cr1_Store, cr2_Store⟩ ⟨cv_Store___init__, rfl⟩ ⟨e_hg_LetGo, e_hk_LetGo, xb_LetGo, e_hd_LetGo, e_ha_LetGo, e_hn_LetGo, e_ht_LetGo, e_hm_LetGo⟩⟩
end FW
open PySem PySem.W PyProof.Rows
set_option maxRecDepth 100000 in
set_option maxHeartbeats 0 in
theorem PySem.Challenge.cw_fewasks_k55_pins_and_far_marks_holds : PySem.Challenge.rw_fewasks_k55_pins_and_far_marks.Holds := by
  w_on; o_law; k_head; (case hw => w_witness2)
  k_fill
  refine L2.walk_of (l := PySem.Challenge.rw_fewasks_k55_pins_and_far_marks) (n := 63) (k := 10) (x := "_law_script") (CX := fun _ => L2.CX0) (sp := fun w => FW.spLaw _) rfl (by decide) rfl ⟨rfl, by decide, by decide⟩ (fun w h Y => PySem.W.kIn_of Y) ?F (fun _ _ a ns hl _ hS => ⟨a, ns, rfl, hS, hl, fun _ => rfl⟩) (fun _ _ _ _ _ h => h)
  case F =>
    intro w mg fa h KX G hmg
    refine' FW.all_mk KX G hmg ?l_NoName___init__ ?c_NoName___init__ ?k_NoName___init__ ?l_Lack___init__ ?c_Lack___init__ ?k_Lack___init__ ?a_is_int ?l_is_int ?c_is_int ?k_is_int ?dl_is_int ?a_is_text ?l_is_text ?c_is_text ?k_is_text ?dl_is_text ?a_is_label ?l_is_label ?c_is_label ?k_is_label ?a_rise ?l_rise ?c_rise ?k_rise ?a_are_ints ?l_are_ints ?c_are_ints ?k_are_ints ?a_rising_ints ?l_rising_ints ?c_rising_ints ?k_rising_ints ?a_is_pair ?l_is_pair ?c_is_pair ?k_is_pair ?a_are_rows ?l_are_rows ?c_are_rows ?k_are_rows ?a_Book___init__ ?i_Book___init__ ?l_Book___init__ ?c_Book___init__ ?k_Book___init__ ?a_Book_named ?i_Book_named ?l_Book_named ?c_Book_named ?k_Book_named ?a_Book_thing ?i_Book_thing ?l_Book_thing ?c_Book_thing ?k_Book_thing ?a_Book_kind ?i_Book_kind ?l_Book_kind ?c_Book_kind ?k_Book_kind ?a_is_name ?l_is_name ?c_is_name ?k_is_name ?a_is_kind ?l_is_kind ?c_is_kind ?k_is_kind ?a_is_entry ?l_is_entry ?c_is_entry ?k_is_entry ?a_is_tree ?l_is_tree ?c_is_tree ?k_is_tree ?a_depth_of ?l_depth_of ?c_depth_of ?k_depth_of ?a_is_version ?l_is_version ?c_is_version ?k_is_version ?a_is_content ?l_is_content ?c_is_content ?k_is_content ?a_Store___init__ ?i_Store___init__ ?l_Store___init__ ?c_Store___init__ ?k_Store___init__ ?a_Store_put ?i_Store_put ?l_Store_put ?c_Store_put ?k_Store_put ?a_Store_held ?i_Store_held ?l_Store_held ?c_Store_held ?k_Store_held ?a_Store_holds ?i_Store_holds ?l_Store_holds ?c_Store_holds ?k_Store_holds ?a_House___init__ ?i_House___init__ ?l_House___init__ ?c_House___init__ ?k_House___init__ ?a_House_marks ?i_House_marks ?l_House_marks ?c_House_marks ?k_House_marks ?a_House_must_have ?i_House_must_have ?l_House_must_have ?c_House_must_have ?k_House_must_have ?a_House_far ?i_House_far ?l_House_far ?c_House_far ?k_House_far ?a_House_set_far ?i_House_set_far ?l_House_set_far ?c_House_set_far ?k_House_set_far ?a_House_pin ?i_House_pin ?l_House_pin ?c_House_pin ?k_House_pin ?a_House_roots ?i_House_roots ?l_House_roots ?c_House_roots ?k_House_roots ?a_must_hold ?l_must_hold ?c_must_hold ?k_must_hold ?a_Pin___init__ ?i_Pin___init__ ?l_Pin___init__ ?c_Pin___init__ ?k_Pin___init__ ?a_Pin___len__ ?i_Pin___len__ ?l_Pin___len__ ?c_Pin___len__ ?k_Pin___len__ ?a_Pin_add ?i_Pin_add ?l_Pin_add ?c_Pin_add ?k_Pin_add ?a_Pin_let_go ?i_Pin_let_go ?l_Pin_let_go ?c_Pin_let_go ?k_Pin_let_go ?a_Pin_names ?i_Pin_names ?l_Pin_names ?c_Pin_names ?k_Pin_names ?a_law_deck ?l_law_deck ?c_law_deck ?k_law_deck ?a_law_mixed ?l_law_mixed ?c_law_mixed ?k_law_mixed ?a_law_draw ?l_law_draw ?c_law_draw ?k_law_draw ?a_law_label ?l_law_label ?c_law_label ?k_law_label ?a_law_give ?l_law_give ?c_law_give ?k_law_give ?a_law_some ?l_law_some ?c_law_some ?k_law_some ?a_law_book ?l_law_book ?c_law_book ?k_law_book ?a_law_house ?l_law_house ?c_law_house ?k_law_house ?a_law_int ?l_law_int ?c_law_int ?k_law_int ?a_law_same ?l_law_same ?c_law_same ?k_law_same ?a_law_here ?l_law_here ?c_law_here ?k_law_here ?a_law_is_version ?l_law_is_version ?c_law_is_version ?k_law_is_version ?a_law_scene ?l_law_scene ?c_law_scene ?k_law_scene ?a_law_name ?l_law_name ?c_law_name ?k_law_name ?a_law_pinned ?l_law_pinned ?c_law_pinned ?k_law_pinned ?a_law_added ?l_law_added ?c_law_added ?k_law_added ?a_law_far_set ?l_law_far_set ?c_law_far_set ?k_law_far_set ?a_law_names_due ?l_law_names_due ?c_law_names_due ?k_law_names_due ?a_law_version_due ?l_law_version_due ?c_law_version_due ?k_law_version_due ?a_law_roots ?l_law_roots ?c_law_roots ?k_law_roots ?a_law_pins_right ?l_law_pins_right ?c_law_pins_right ?k_law_pins_right ?a_law_pin_deed ?l_law_pin_deed ?c_law_pin_deed ?k_law_pin_deed ?a_law_far_deed ?l_law_far_deed ?c_law_far_deed ?k_law_far_deed ?a_law ?l_law ?c_law ?k_law ?kga_Book ?kpg_Book ?khd_Book ?kpo_Book ?ksa_Book ?kmk_Book ?kkc_Book ?kna_Book_contents ?kna_Book_depths ?kna_Book_given ?kga_Store ?kpg_Store ?khd_Store ?kpo_Store ?ksa_Store ?kmk_Store ?kkc_Store ?kna_Store_book ?kna_Store_here ?kna_Store_turns ?kga_House ?kpg_House ?khd_House ?kpo_House ?ksa_House ?kmk_House ?kkc_House ?kna_House_book ?kna_House_here ?kna_House_turns ?kna_House_stands ?kna_House_lately ?kna_House_others ?kna_House_pinned ?kga_Pin ?kpg_Pin ?khd_Pin ?kpo_Pin ?ksa_Pin ?kmk_Pin ?kkc_Pin ?kna_Pin_store ?kna_Pin_on ?kna_Pin_loose ?z_len ?z_list ?z_isinstance ?z_int ?z_bool ?z_str ?z_tuple ?z_dict ?z_range ?z_all ?z_min ?z_max ?z_set ?z_sorted ?z_ValueError ?y_SIGNS ?y_LETTERS ?y_MOST ?y_DEEP ?xa_LetGo ?xx_LetGo ?xk_LetGo ?xb_LetGo ?xt_LetGo ?xi_LetGo ?xs_LetGo ?ga_HouseError ?hb_HouseError ?hi_HouseError ?ht_HouseError ?ga_NoName ?xl_NoName ?hb_NoName ?hi_NoName ?ht_NoName ?xk_NoName ?sa_NoName ?xg_NoName ?xh_NoName ?xd_NoName ?xo_NoName ?xp_NoName ?xq_NoName ?xr_NoName ?xi_NoName ?xj_NoName ?nf_NoName_name ?ga_Lack ?xl_Lack ?hb_Lack ?hi_Lack ?ht_Lack ?xk_Lack ?sa_Lack ?xg_Lack ?xh_Lack ?xd_Lack ?xo_Lack ?xp_Lack ?xq_Lack ?xr_Lack ?xi_Lack ?xj_Lack ?nf_Lack_name ?es_NoName_NoName ?es_Lack_NoName ?es_Lack_Lack ?es_LetGo_NoName ?es_LetGo_Lack ?es_LetGo_HouseError ?kq_LetGo_LetGo ?kq_LetGo_ValueError ?ia_House_put ?ia_House_held ?ia_House_holds ?cr1_Store ?cr2_Store ?cv_Store___init__ ?e_hg_LetGo ?e_hk_LetGo ?e_hd_LetGo ?e_ha_LetGo ?e_hn_LetGo ?e_ht_LetGo ?e_hm_LetGo
    (case ga_NoName => k_is); (case xi_NoName => k_is); (case ga_Lack => k_is); (case xi_Lack => k_is); (case kga_Book => k_is); (case kga_Store => k_is); (case kga_House => k_is); (case kga_Pin => k_is); (case a_Book___init__ => k_is); (case a_Book_named => k_is); (case a_Book_thing => k_is); (case a_Book_kind => k_is); (case a_Store___init__ => k_is); (case a_Store_put => k_is); (case a_Store_held => k_is); (case a_Store_holds => k_is); (case a_House___init__ => k_is); (case a_House_marks => k_is); (case a_House_must_have => k_is); (case a_House_far => k_is); (case a_House_set_far => k_is); (case a_House_pin => k_is); (case a_House_roots => k_is); (case a_Pin___init__ => k_is); (case a_Pin___len__ => k_is); (case a_Pin_add => k_is); (case a_Pin_let_go => k_is); (case a_Pin_names => k_is); (case l_NoName___init__ => k_is); (case c_NoName___init__ => k_is); (case k_NoName___init__ => k_is); (case l_Lack___init__ => k_is); (case c_Lack___init__ => k_is); (case k_Lack___init__ => k_is); (case a_is_int => k_is); (case l_is_int => k_is); (case c_is_int => k_is); (case k_is_int => k_is); (case dl_is_int => k_is); (case a_is_text => k_is); (case l_is_text => k_is); (case c_is_text => k_is); (case k_is_text => k_is); (case dl_is_text => k_is); (case a_is_label => k_is); (case l_is_label => k_is); (case c_is_label => k_is); (case k_is_label => k_is); (case a_rise => k_is); (case l_rise => k_is); (case c_rise => k_is); (case k_rise => k_is); (case a_are_ints => k_is); (case l_are_ints => k_is); (case c_are_ints => k_is); (case k_are_ints => k_is); (case a_rising_ints => k_is); (case l_rising_ints => k_is); (case c_rising_ints => k_is); (case k_rising_ints => k_is); (case a_is_pair => k_is); (case l_is_pair => k_is); (case c_is_pair => k_is); (case k_is_pair => k_is); (case a_are_rows => k_is); (case l_are_rows => k_is); (case c_are_rows => k_is); (case k_are_rows => k_is); (case i_Book___init__ => k_is); (case l_Book___init__ => k_is); (case c_Book___init__ => k_is); (case k_Book___init__ => k_is); (case i_Book_named => k_is); (case l_Book_named => k_is); (case c_Book_named => k_is); (case k_Book_named => k_is); (case i_Book_thing => k_is); (case l_Book_thing => k_is); (case c_Book_thing => k_is); (case k_Book_thing => k_is); (case i_Book_kind => k_is); (case l_Book_kind => k_is); (case c_Book_kind => k_is); (case k_Book_kind => k_is); (case a_is_name => k_is); (case l_is_name => k_is); (case c_is_name => k_is); (case k_is_name => k_is); (case a_is_kind => k_is); (case l_is_kind => k_is); (case c_is_kind => k_is); (case k_is_kind => k_is); (case a_is_entry => k_is); (case l_is_entry => k_is); (case c_is_entry => k_is); (case k_is_entry => k_is); (case a_is_tree => k_is); (case l_is_tree => k_is); (case c_is_tree => k_is); (case k_is_tree => k_is); (case a_depth_of => k_is); (case l_depth_of => k_is); (case c_depth_of => k_is); (case k_depth_of => k_is); (case a_is_version => k_is); (case l_is_version => k_is); (case c_is_version => k_is); (case k_is_version => k_is); (case a_is_content => k_is); (case l_is_content => k_is); (case c_is_content => k_is); (case k_is_content => k_is); (case i_Store___init__ => k_is); (case l_Store___init__ => k_is); (case c_Store___init__ => k_is); (case k_Store___init__ => k_is); (case i_Store_put => k_is); (case l_Store_put => k_is); (case c_Store_put => k_is); (case k_Store_put => k_is); (case i_Store_held => k_is); (case l_Store_held => k_is); (case c_Store_held => k_is); (case k_Store_held => k_is); (case i_Store_holds => k_is); (case l_Store_holds => k_is); (case c_Store_holds => k_is); (case k_Store_holds => k_is); (case i_House___init__ => k_is); (case l_House___init__ => k_is); (case c_House___init__ => k_is); (case k_House___init__ => k_is); (case i_House_marks => k_is); (case l_House_marks => k_is); (case c_House_marks => k_is); (case k_House_marks => k_is); (case i_House_must_have => k_is); (case l_House_must_have => k_is); (case c_House_must_have => k_is); (case k_House_must_have => k_is); (case i_House_far => k_is); (case l_House_far => k_is); (case c_House_far => k_is); (case k_House_far => k_is); (case i_House_set_far => k_is); (case l_House_set_far => k_is); (case c_House_set_far => k_is); (case k_House_set_far => k_is); (case i_House_pin => k_is); (case l_House_pin => k_is); (case c_House_pin => k_is); (case k_House_pin => k_is); (case i_House_roots => k_is); (case l_House_roots => k_is); (case c_House_roots => k_is); (case k_House_roots => k_is); (case a_must_hold => k_is); (case l_must_hold => k_is); (case c_must_hold => k_is); (case k_must_hold => k_is); (case i_Pin___init__ => k_is); (case l_Pin___init__ => k_is); (case c_Pin___init__ => k_is); (case k_Pin___init__ => k_is); (case i_Pin___len__ => k_is); (case l_Pin___len__ => k_is); (case c_Pin___len__ => k_is); (case k_Pin___len__ => k_is); (case i_Pin_add => k_is); (case l_Pin_add => k_is); (case c_Pin_add => k_is); (case k_Pin_add => k_is); (case i_Pin_let_go => k_is); (case l_Pin_let_go => k_is); (case c_Pin_let_go => k_is); (case k_Pin_let_go => k_is); (case i_Pin_names => k_is); (case l_Pin_names => k_is); (case c_Pin_names => k_is); (case k_Pin_names => k_is); (case a_law_deck => k_is); (case l_law_deck => k_is); (case c_law_deck => k_is); (case k_law_deck => k_is); (case a_law_mixed => k_is); (case l_law_mixed => k_is); (case c_law_mixed => k_is); (case k_law_mixed => k_is); (case a_law_draw => k_is); (case l_law_draw => k_is); (case c_law_draw => k_is); (case k_law_draw => k_is); (case a_law_label => k_is); (case l_law_label => k_is); (case c_law_label => k_is); (case k_law_label => k_is); (case a_law_give => k_is); (case l_law_give => k_is); (case c_law_give => k_is); (case k_law_give => k_is); (case a_law_some => k_is); (case l_law_some => k_is); (case c_law_some => k_is); (case k_law_some => k_is); (case a_law_book => k_is); (case l_law_book => k_is); (case c_law_book => k_is); (case k_law_book => k_is); (case a_law_house => k_is); (case l_law_house => k_is); (case c_law_house => k_is); (case k_law_house => k_is); (case a_law_int => k_is); (case l_law_int => k_is); (case c_law_int => k_is); (case k_law_int => k_is); (case a_law_same => k_is); (case l_law_same => k_is); (case c_law_same => k_is); (case k_law_same => k_is); (case a_law_here => k_is); (case l_law_here => k_is); (case c_law_here => k_is); (case k_law_here => k_is); (case a_law_is_version => k_is); (case l_law_is_version => k_is); (case c_law_is_version => k_is); (case k_law_is_version => k_is); (case a_law_scene => k_is); (case l_law_scene => k_is); (case c_law_scene => k_is); (case k_law_scene => k_is); (case a_law_name => k_is); (case l_law_name => k_is); (case c_law_name => k_is); (case k_law_name => k_is); (case a_law_pinned => k_is); (case l_law_pinned => k_is); (case c_law_pinned => k_is); (case k_law_pinned => k_is); (case a_law_added => k_is); (case l_law_added => k_is); (case c_law_added => k_is); (case k_law_added => k_is); (case a_law_far_set => k_is); (case l_law_far_set => k_is); (case c_law_far_set => k_is); (case k_law_far_set => k_is); (case a_law_names_due => k_is); (case l_law_names_due => k_is); (case c_law_names_due => k_is); (case k_law_names_due => k_is); (case a_law_version_due => k_is); (case l_law_version_due => k_is); (case c_law_version_due => k_is); (case k_law_version_due => k_is); (case a_law_roots => k_is); (case l_law_roots => k_is); (case c_law_roots => k_is); (case k_law_roots => k_is); (case a_law_pins_right => k_is); (case l_law_pins_right => k_is); (case c_law_pins_right => k_is); (case k_law_pins_right => k_is); (case a_law_pin_deed => k_is); (case l_law_pin_deed => k_is); (case c_law_pin_deed => k_is); (case k_law_pin_deed => k_is); (case a_law_far_deed => k_is); (case l_law_far_deed => k_is); (case c_law_far_deed => k_is); (case k_law_far_deed => k_is); (case a_law => k_is); (case l_law => k_is); (case c_law => k_is); (case k_law => k_is); (case kpg_Book => k_is); (case khd_Book => k_is); (case kpo_Book => k_is); (case ksa_Book => k_is); (case kmk_Book => k_is); (case kkc_Book => k_is); (case kna_Book_contents => k_is); (case kna_Book_depths => k_is); (case kna_Book_given => k_is); (case kpg_Store => k_is); (case khd_Store => k_is); (case kpo_Store => k_is); (case ksa_Store => k_is); (case kmk_Store => k_is); (case kkc_Store => k_is); (case kna_Store_book => k_is); (case kna_Store_here => k_is); (case kna_Store_turns => k_is); (case kpg_House => k_is); (case khd_House => k_is); (case kpo_House => k_is); (case ksa_House => k_is); (case kmk_House => k_is); (case kkc_House => k_is); (case kna_House_book => k_is); (case kna_House_here => k_is); (case kna_House_turns => k_is); (case kna_House_stands => k_is); (case kna_House_lately => k_is); (case kna_House_others => k_is); (case kna_House_pinned => k_is); (case kpg_Pin => k_is); (case khd_Pin => k_is); (case kpo_Pin => k_is); (case ksa_Pin => k_is); (case kmk_Pin => k_is); (case kkc_Pin => k_is); (case kna_Pin_store => k_is); (case kna_Pin_on => k_is); (case kna_Pin_loose => k_is); (case z_len => k_is); (case z_list => k_is); (case z_isinstance => k_is); (case z_int => k_is); (case z_bool => k_is); (case z_str => k_is); (case z_tuple => k_is); (case z_dict => k_is); (case z_range => k_is); (case z_all => k_is); (case z_min => k_is); (case z_max => k_is); (case z_set => k_is); (case z_sorted => k_is); (case z_ValueError => k_is); (case y_SIGNS => k_is); (case y_LETTERS => k_is); (case y_MOST => k_is); (case y_DEEP => k_is); (case xa_LetGo => k_is); (case xx_LetGo => k_exc); (case xk_LetGo => k_is); (case xb_LetGo => k_is); (case xt_LetGo => k_is); (case xi_LetGo => k_is); (case xs_LetGo => k_is); (case ga_HouseError => k_is); (case hb_HouseError => k_is); (case hi_HouseError => k_is); (case ht_HouseError => k_is); (case xl_NoName => k_is); (case hb_NoName => k_is); (case hi_NoName => k_is); (case ht_NoName => k_is); (case xk_NoName => k_is); (case sa_NoName => k_is); (case xg_NoName => k_is); (case xh_NoName => k_is); (case xd_NoName => k_is); (case xo_NoName => k_is); (case xp_NoName => k_is); (case xq_NoName => k_is); (case xr_NoName => k_is); (case xj_NoName => k_is); (case nf_NoName_name => k_is); (case xl_Lack => k_is); (case hb_Lack => k_is); (case hi_Lack => k_is); (case ht_Lack => k_is); (case xk_Lack => k_is); (case sa_Lack => k_is); (case xg_Lack => k_is); (case xh_Lack => k_is); (case xd_Lack => k_is); (case xo_Lack => k_is); (case xp_Lack => k_is); (case xq_Lack => k_is); (case xr_Lack => k_is); (case xj_Lack => k_is); (case nf_Lack_name => k_is); (case es_NoName_NoName => k_is); (case es_Lack_NoName => k_is); (case es_Lack_Lack => k_is); (case es_LetGo_NoName => k_is); (case es_LetGo_Lack => k_is); (case es_LetGo_HouseError => k_is); (case kq_LetGo_LetGo => kit_is); (case kq_LetGo_ValueError => kit_is); (case ia_House_put => k_is); (case ia_House_held => k_is); (case ia_House_holds => k_is); (case cr1_Store => k_is); (case cr2_Store => k_is); (case cv_Store___init__ => k_is); (case e_hg_LetGo => k_is); (case e_hk_LetGo => k_is); (case e_hd_LetGo => k_is); (case e_ha_LetGo => k_is); (case e_hn_LetGo => k_is); (case e_ht_LetGo => k_is); (case e_hm_LetGo => k_is)

