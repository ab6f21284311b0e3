import PyProof.Rows.All
import Wide.All
import OpenK.AllK
import Wide.FinOn
import HandS.ForMost
import HandS.Wide
import HandS.WideBits
import HandS.Conv
import HandS.IsInst
import HandS.Walk
import HandS.TupLe
import HandS.TupAny
import HandS.DictComp
import HandS.SetKeys
import HandS.ForExc
import HandS.ExcIs
import HandS.ExcInit
import HandS.ExcField
import HandS.Defaults
import HandS.CallSlots
import HandS.MakeKwOnly
import KE.DatumOrd
import PyProof.Claim2Refuses
import KE.GoesEnum
import HandS.WordsDict
import HandS.SortInts
import HandS.Zip
import PyProof.CollectIter
import PyProof.WalksMore
import HandS.TryMany
import KE.KTryMore
import HandS.TryOnly
import HandS.TupMul
import KE.KxIndex
import KE.KeyNested
import HandS.SetFor
import HandS.Strs
import HandS.SortKw
import HandS.Deep
import HandS.DictTup
import HandS.ListItems
import KE.SortData
import HandS.ClsMeth
import HandS.More
import KE.KCallOwn
import HandS.ExcOwn
import KE.KUnpackStar
import KE.KDictWalk
import HandS.FStrTup
import KE.KIntText
import KE.IntTextLaws
import PySem.Challenge.RW_fewasks_k76_texts_read
set_option Elab.async false
set_option linter.all false
set_option maxRecDepth 100000
/-! My own small words over the layer: steps of readings as lemmas, heaps that keep. -/
namespace FW
open PySem L2
/-! ### heaps -/
/-- all that stood stands, but at the addresses M -/
def Kp (M : List Addr) (H H' : Hp) : Prop := ∀ b o, b ∉ M → H b = some o → H' b = some o
theorem Kp.refl {M : List Addr} {H : Hp} : Kp M H H := fun _ _ _ h => h
theorem Kp.trans {M : List Addr} {H H1 H2 : Hp} (a : Kp M H H1) (b : Kp M H1 H2) : Kp M H H2 := fun c o n h => b c o n (a c o n h)
theorem Kp.mono {M N : List Addr} {H H1 : Hp} (a : Kp M H H1) (s : ∀ x ∈ M, x ∈ N) : Kp N H H1 := fun c o n h => a c o (fun z => n (s c z)) h
theorem Kp.same {H H1 : Hp} (a : Kp [] H H1) : Same H H1 := fun c o h => a c o (by simp) h
theorem Kp.of {M : List Addr} {H H1 : Hp} (a : Same H H1) : Kp M H H1 := fun c o _ h => a c o h
theorem Kp.new {M : List Addr} {H : Hp} {p : Addr} {o : HO} (h : H p = none) : Kp M H (upd H p o) := fun b u _ e => by rw [upd_ne (ne_of_none e h)]; exact e
theorem Kp.mut {M : List Addr} {H : Hp} {p : Addr} {o : HO} (h : p ∈ M) : Kp M H (upd H p o) := fun b u n e => by
  rw [upd_ne (show b ≠ p from fun z => n (by rw [z]; exact h))]; exact e
/-- a new object that was mutated or laid since: it stood not at the start -/
theorem Kp.mutN {M : List Addr} {H H1 : Hp} {p : Addr} {o : HO} (k : Kp M H H1) (h : H p = none) : Kp M H (upd H1 p o) := fun b u n e => by
  rw [upd_ne (ne_of_none e h)]; exact k b u n e
theorem Same.new {H : Hp} {p : Addr} {o : HO} (h : H p = none) : Same H (upd H p o) := fun b u e => by rw [upd_ne (ne_of_none e h)]; exact e
theorem upd_get {H : Hp} {a b : Addr} {o u : HO} (h : b ≠ a) (e : H b = some u) : upd H a o b = some u := by rw [upd_ne h]; exact e
/-- all but p is as it was -/
def Off (p : Addr) (H H' : Hp) : Prop := ∀ b, b ≠ p → H' b = H b
theorem Off.get {p b : Addr} {H H' : Hp} {o : HO} (k : Off p H H') (n : b ≠ p) (e : H b = some o) : H' b = some o := (k b n).trans e
theorem Off.kp {p : Addr} {M : List Addr} {H H' : Hp} (k : Off p H H') (m : p ∈ M) : Kp M H H' := fun b o n e => (k b (fun z => n (by rw [z]; exact m))).trans e
theorem Off.trans {p : Addr} {H H1 H2 : Hp} (a : Off p H H1) (b : Off p H1 H2) : Off p H H2 := fun x n => (b x n).trans (a x n)
theorem Off.keep {p : Addr} {M : List Addr} {H H1 H2 : Hp} (a : Kp M H H1) (b : Off p H1 H2) (n : H p = none) : Kp M H H2 := fun x o m e => (b x (ne_of_none e n)).trans (a x o m e)
/-- a list's change keeps the tuples -/
theorem Off.tup {p b : Addr} {H H' : Hp} {xs ys : List V} (k : Off p H H') (hp : H p = some (.lst xs)) (e : H b = some (.tup ys)) : H' b = some (.tup ys) := k.get (ne_of e hp (fun z => nomatch z)) e
/-- what keeps the tuples -/
structure KT (H H' : Hp) : Prop where
  p : ∀ b xs, H b = some (.tup xs) → H' b = some (.tup xs)
  f : ∀ b o xs, H b = some (.frz o (.tup xs)) → H' b = some (.frz o (.tup xs))
instance {H H' : Hp} : CoeFun (KT H H') (fun _ => ∀ b xs, H b = some (.tup xs) → H' b = some (.tup xs)) := ⟨KT.p⟩
theorem KT.refl {H : Hp} : KT H H := ⟨fun _ _ e => e, fun _ _ _ e => e⟩
theorem KT.of {H H' : Hp} (k : Same H H') : KT H H' := ⟨fun b xs e => k _ _ e, fun b o xs e => k _ _ e⟩
theorem KT.off {p : Addr} {H H' : Hp} {xs : List V} (k : Off p H H') (e : H p = some (.lst xs)) : KT H H' := ⟨fun b ys e2 => k.tup e e2, fun b o ys e2 => k.get (ne_of e2 e (fun z => nomatch z)) e2⟩
theorem KT.trans {H H1 H2 : Hp} (a : KT H H1) (b : KT H1 H2) : KT H H2 := ⟨fun c xs e => b.p c xs (a.p c xs e), fun c o xs e => b.f c o xs (a.f c o xs e)⟩
theorem KT.kp {M : List Addr} {H H' : Hp} (k : Kp M H H') (h : ∀ b ∈ M, ∃ xs, H b = some (.lst xs)) : KT H H' := ⟨fun b ys e => k b _ (fun z => by
  obtain ⟨xs, e2⟩ := h b z
  rw [e] at e2; cases e2) e, fun b o ys e => k b _ (fun z => by
  obtain ⟨xs, e2⟩ := h b z
  rw [e] at e2; cases e2) e⟩
theorem KT.upd {H H1 : Hp} {D : Addr} {o : HO} (k : KT H H1) (h : H D = none) : KT H (upd H1 D o) := ⟨fun b xs e => by rw [upd_ne (ne_of_none e h)]; exact k.p b xs e, fun b u xs e => by rw [upd_ne (ne_of_none e h)]; exact k.f b u xs e⟩
theorem KT.updL {H : Hp} {D : Addr} {o : HO} {ys : List V} (h : H D = some (.lst ys)) : KT H (L2.upd H D o) := ⟨fun b xs e => upd_get (ne_of e h (fun z => nomatch z)) e, fun b u xs e => upd_get (ne_of e h (fun z => nomatch z)) e⟩
/-- a tuple whose object has no dict -/
def TupD (H : Hp) (r : Addr) (xs : List V) : Prop := ∃ o : Obj, H r = some (.frz o (.tup xs)) ∧ o.dict = none
theorem TupD.kt {H H' : Hp} {r : Addr} {xs : List V} (h : TupD H r xs) (k : KT H H') : TupD H' r xs := by
  obtain ⟨o, e, d⟩ := h
  exact ⟨o, k.f _ _ _ e, d⟩
theorem TupD.tx {K : PySem.W.Frag} {H : Hp} {r : Addr} {xs : List V} (h : TupD H r xs) : TyX K H (.ref r) (.type "tuple") := by
  obtain ⟨o, e, d⟩ := h
  exact .fTuple e
theorem TupD.sq {K : PySem.W.Frag} {H : Hp} {r : Addr} {xs : List V} (h : TupD H r xs) : SqT K H r xs := by
  obtain ⟨o, e, d⟩ := h
  exact .inl (.inr ⟨o, e⟩)
/-! ### rules by names -/
/-- a new object o -/
def Nw (o : HO) (H : Hp) (Q : VK) : Prop := ∀ p, H p = none → Q (.ref p) (upd H p o)
def rLen (K : PySem.W.Frag) : List V → Hp → VK → Prop := fun xs H Q => ∃ p ys, xs = [.ref p] ∧ (SqL K H p ys ∨ SqT K H p ys) ∧ Q (.int ys.length) H
def rMin2 : List V → Hp → VK → Prop := fun xs H Q => ∃ i j, xs = [.int i, .int j] ∧ Q (.int (if j < i then j else i)) H
def rMax2 : List V → Hp → VK → Prop := fun xs H Q => ∃ i j, xs = [.int i, .int j] ∧ Q (.int (if j > i then j else i)) H
def rListOf (K : PySem.W.Frag) : List V → Hp → VK → Prop := fun xs H Q => ∃ p ys, xs = [.ref p] ∧ (SqL K H p ys ∨ SqT K H p ys) ∧ ∀ l, H l = none → Q (.ref l) (upd H l (.lst ys))
def rTupOf (K : PySem.W.Frag) : List V → Hp → VK → Prop := fun xs H Q => ∃ p ys, xs = [.ref p] ∧ ((SqL K H p ys ∧ ∀ l, H l = none → Q (.ref l) (upd H l (.tup ys))) ∨ (SqT K H p ys ∧ Q (.ref p) H))
def rRg2 (x y : V) (H : Hp) (R : Int → Int → Hp → Prop) : Prop := ∃ i j, x = .int i ∧ y = .int j ∧ R i j H
def rBits (x : V) (H : Hp) (Q : VK) : Prop := ∃ i, x = .int i ∧ Q (.int (Builtin.Int.intBits i : Nat)) H
def rRng1 (vs : List V) (H : Hp) (R : It → Hp → Prop) : Prop := ∃ j : Int, vs = [.int j] ∧ -(2 ^ 62) ≤ j ∧ j < 2 ^ 62 ∧ R (Itr 0 j.toNat) H
def rRng2 (vs : List V) (H : Hp) (R : It → Hp → Prop) : Prop := ∃ i j : Int, vs = [.int i, .int j] ∧ (-(2 ^ 62) ≤ i ∧ i < 2 ^ 62 ∧ -(2 ^ 62) ≤ j ∧ j < 2 ^ 62) ∧ R (Itr i (j - i).toNat) H
def rItL (K : PySem.W.Frag) (x : V) (H : Hp) (R : It → Hp → Prop) : Prop := ∃ a, x = .ref a ∧ (∃ xs, SqL K H a xs) ∧ R (Itl K a) H
def rItT (K : PySem.W.Frag) (x : V) (H : Hp) (R : It → Hp → Prop) : Prop := ∃ a, x = .ref a ∧ (∃ xs, SqT K H a xs) ∧ R (Itt K a) H
def rDIn (x y : V) (H : Hp) (Q : VK) : Prop := ∃ a o, x = .ref a ∧ DGet H a y o ∧ Q (.bl o.isSome) H
def rDNotIn (x y : V) (H : Hp) (Q : VK) : Prop := ∃ a o, x = .ref a ∧ DGet H a y o ∧ Q (.bl (!o.isSome)) H
def rDGet (x y : V) (H : Hp) (Q : VK) : Prop := ∃ a v, x = .ref a ∧ DGet H a y (some v) ∧ Q v H
def rDGet2 (a : Addr) (y z : V) (H : Hp) (Q : VK) : Prop := ∃ o, DGet H a y o ∧ Q (o.getD z) H
def rDPut (x y v : V) (H : Hp) (R : Hp → Prop) : Prop := ∃ a H4, x = .ref a ∧ DPut H a y v H4 ∧ R H4
def rDSetd (a : Addr) (y z : V) (H : Hp) (Q : VK) : Prop := ∃ (kvs : List (Key × V)) (k : Key), H a = some (.dK kvs) ∧ y = kV k ∧ kvs.length < sizeLine ∧ (∀ v, valV kvs k = some v → Q v H) ∧ (valV kvs k = none → Q z (upd H a (.dK (putK kvs k z))))
def rIsD (x : V) (H : Hp) (R : Addr → Hp → Prop) : Prop := ∃ a, x = .ref a ∧ IsD H a ∧ R a H
def rIsBl : R2 := fun x y H Q => ∃ a b, x = .bl a ∧ y = .bl b ∧ Q (.bl (decide (a = b))) H
def rIsNon : R2 := fun x y H Q => y = .non ∧ Q (.bl (decide (x = .non))) H
def rNotNon : R2 := fun x y H Q => y = .non ∧ Q (.bl (!decide (x = .non))) H
def rTru (K : PySem.W.Frag) (x : V) (H : Hp) (R : Bool → Hp → Prop) : Prop := ∃ k, TruV K x H k ∧ R k H
def tTru (K : PySem.W.Frag) (ta : TE) : TT := fun σ H R => ta σ H fun x H' => ∃ k, TruV K x H' k ∧ R k H'
def rSortD (xs : List V) (H : Hp) (Q : VK) : Prop := ∃ (a : Addr) (kvs : List (Key × V)) (ks : List Int), xs = [.ref a] ∧ Rd H a (.dK kvs) ∧ kvs.map (·.1) = ks.map Sum.inl ∧ ks.length < 64 ∧
    ∀ (ys : List Int) (p : Addr), ys.Perm ks → ys.Pairwise (· ≤ ·) → H p = none → Q (.ref p) (upd H p (.lst (ys.map V.int)))
section
variable {X : Cx}
theorem o_notN : OpR X (compareOp .IsNot) rNotNon := op_notN
theorem c_len : CallR X (.builtin "len") (rLen X.K) := call_len_seq
theorem c_max2 (hc : X.calm = true) : CallR X (.builtin "max") rMax2 := call_max2 hc
theorem c_listOf : CallR X (.type "list") (rListOf X.K) := call_list_of
theorem c_tupOf : CallR X (.type "tuple") (rTupOf X.K) := call_tuple_of
end
theorem kb_int_int : kitB "int" "int" = some true := by decide +kernel
theorem kb_int_bool : kitB "int" "bool" = some false := by decide +kernel
theorem kb_int_str : kitB "int" "str" = some false := by decide +kernel
theorem kb_int_tuple : kitB "int" "tuple" = some false := by decide +kernel
theorem kb_int_list : kitB "int" "list" = some false := by decide +kernel
theorem kb_int_dict : kitB "int" "dict" = some false := by decide +kernel
theorem kb_bool_int : kitB "bool" "int" = some true := by decide +kernel
theorem kb_bool_bool : kitB "bool" "bool" = some true := by decide +kernel
theorem kb_bool_str : kitB "bool" "str" = some false := by decide +kernel
theorem kb_bool_tuple : kitB "bool" "tuple" = some false := by decide +kernel
theorem kb_bool_list : kitB "bool" "list" = some false := by decide +kernel
theorem kb_bool_dict : kitB "bool" "dict" = some false := by decide +kernel
theorem kb_str_int : kitB "str" "int" = some false := by decide +kernel
theorem kb_str_bool : kitB "str" "bool" = some false := by decide +kernel
theorem kb_str_str : kitB "str" "str" = some true := by decide +kernel
theorem kb_str_tuple : kitB "str" "tuple" = some false := by decide +kernel
theorem kb_str_list : kitB "str" "list" = some false := by decide +kernel
theorem kb_str_dict : kitB "str" "dict" = some false := by decide +kernel
theorem kb_tuple_int : kitB "tuple" "int" = some false := by decide +kernel
theorem kb_tuple_bool : kitB "tuple" "bool" = some false := by decide +kernel
theorem kb_tuple_str : kitB "tuple" "str" = some false := by decide +kernel
theorem kb_tuple_tuple : kitB "tuple" "tuple" = some true := by decide +kernel
theorem kb_tuple_list : kitB "tuple" "list" = some false := by decide +kernel
theorem kb_tuple_dict : kitB "tuple" "dict" = some false := by decide +kernel
theorem kb_list_int : kitB "list" "int" = some false := by decide +kernel
theorem kb_list_bool : kitB "list" "bool" = some false := by decide +kernel
theorem kb_list_str : kitB "list" "str" = some false := by decide +kernel
theorem kb_list_tuple : kitB "list" "tuple" = some false := by decide +kernel
theorem kb_list_list : kitB "list" "list" = some true := by decide +kernel
theorem kb_list_dict : kitB "list" "dict" = some false := by decide +kernel
theorem kb_dict_int : kitB "dict" "int" = some false := by decide +kernel
theorem kb_dict_bool : kitB "dict" "bool" = some false := by decide +kernel
theorem kb_dict_str : kitB "dict" "str" = some false := by decide +kernel
theorem kb_dict_tuple : kitB "dict" "tuple" = some false := by decide +kernel
theorem kb_dict_list : kitB "dict" "list" = some false := by decide +kernel
theorem kb_dict_dict : kitB "dict" "dict" = some true := by decide +kernel
theorem kb_NoneType_int : kitB "NoneType" "int" = some false := by decide +kernel
theorem kb_NoneType_bool : kitB "NoneType" "bool" = some false := by decide +kernel
theorem kb_NoneType_str : kitB "NoneType" "str" = some false := by decide +kernel
theorem kb_NoneType_tuple : kitB "NoneType" "tuple" = some false := by decide +kernel
theorem kb_NoneType_list : kitB "NoneType" "list" = some false := by decide +kernel
theorem kb_NoneType_dict : kitB "NoneType" "dict" = some false := by decide +kernel
/-! ### steps -/
section
variable {K : PySem.W.Frag} {σ : St} {H : Hp} {Q : VK} {nx bk ct : St → Hp → Prop} {rt : VK} {v : V}
theorem w_seq {t u : TS} (h : t ⟨u ⟨nx, rt, bk, ct⟩, rt, bk, ct⟩ σ H) : tSeq t u ⟨nx, rt, bk, ct⟩ σ H := h
theorem w_seqA {te : TE} {g : TG} {u : TS} (h : te σ H fun x H1 => g x σ H1 (u ⟨nx, rt, bk, ct⟩)) : tSeq (tAsg te g) u ⟨nx, rt, bk, ct⟩ σ H := h
theorem w_seqD {te : TE} {u : TS} (h : te σ H fun _ H1 => u ⟨nx, rt, bk, ct⟩ σ H1) : tSeq (tDrop te) u ⟨nx, rt, bk, ct⟩ σ H := h
theorem w_seqF {wi : TI} {g : TG} {tb u : TS} (h : tFor wi g tb ⟨u ⟨nx, rt, bk, ct⟩, rt, bk, ct⟩ σ H) : tSeq (tFor wi g tb) u ⟨nx, rt, bk, ct⟩ σ H := h
theorem w_seqW {c : TT} {tb u : TS} (h : tWhile c tb ⟨u ⟨nx, rt, bk, ct⟩, rt, bk, ct⟩ σ H) : tSeq (tWhile c tb) u ⟨nx, rt, bk, ct⟩ σ H := h
theorem w_seqG {i : Nat} {te : TE} {ti : TIp} {u : TS} (h : tAug i te ti ⟨u ⟨nx, rt, bk, ct⟩, rt, bk, ct⟩ σ H) : tSeq (tAug i te ti) u ⟨nx, rt, bk, ct⟩ σ H := h
/-- a statement whose ways meet: what follows is taken as U, of which R is enough -/
theorem w_seqJ {t u : TS} (R : St → Hp → Prop) (h2 : ∀ σ' H', R σ' H' → u ⟨nx, rt, bk, ct⟩ σ' H') (h1 : ∀ U : St → Hp → Prop, (∀ σ' H', R σ' H' → U σ' H') → t ⟨U, rt, bk, ct⟩ σ H) : tSeq t u ⟨nx, rt, bk, ct⟩ σ H := h1 _ h2
theorem w_var {i : Nat} (e : σ[i]? = some (some v)) (h : Q v H) : tVar i σ H Q := ⟨v, e, h⟩
theorem w_c (h : Q v H) : tC v σ H Q := h
theorem w_asg {te : TE} {g : TG} (h : te σ H fun x H1 => g x σ H1 nx) : tAsg te g ⟨nx, rt, bk, ct⟩ σ H := h
theorem w_name {i : Nat} {R : St → Hp → Prop} (h : R (σ.set i (some v)) H) : gName i v σ H R := h
theorem w_op {r : R2} {ta tb : TE} (h : ta σ H fun x H1 => tb σ H1 fun y H2 => r x y H2 Q) : tOp r ta tb σ H Q := h
theorem w_un {r : V → Hp → VK → Prop} {ta : TE} (h : ta σ H fun x H1 => r x H1 Q) : tUn r ta σ H Q := h
theorem w_neg {i : Int} (h : Q (.int (-i)) H) : rU (fun i => .int (-i)) (.int i) H Q := ⟨i, rfl, h⟩
theorem w_i {C : Int → Int → Prop} {g : Int → Int → V} {i j : Int} (c : C i j) (h : Q (g i j) H) : rI C g (.int i) (.int j) H Q := ⟨i, j, rfl, rfl, c, h⟩
theorem w_i0 {g : Int → Int → V} {i j : Int} (h : Q (g i j) H) : rI0 g (.int i) (.int j) H Q := ⟨i, j, rfl, rfl, h⟩
theorem w_eqI {i j : Int} (h : Q (.bl (decide (i = j))) H) : rEq (.int i) (.int j) H Q := ⟨rfl, by
  have e : decide (V.int i = V.int j) = decide (i = j) := by
    by_cases q : i = j
    · subst q; rw [decide_eq_true rfl, decide_eq_true rfl]
    · rw [decide_eq_false q, decide_eq_false (fun z => q (V.int.inj z))]
  rw [e]; exact h⟩
theorem w_neI {i j : Int} (h : Q (.bl (!decide (i = j))) H) : rNe (.int i) (.int j) H Q := ⟨rfl, by
  have e : decide (V.int i = V.int j) = decide (i = j) := by
    by_cases q : i = j
    · subst q; rw [decide_eq_true rfl, decide_eq_true rfl]
    · rw [decide_eq_false q, decide_eq_false (fun z => q (V.int.inj z))]
  rw [e]; exact h⟩
theorem w_ixL {p : Addr} {xs : List V} {i : Int} (h1 : SqL K H p xs) (h2 : atI xs i = some v) (h : Q v H) : rIxL K (.ref p) (.int i) H Q := ⟨p, xs, i, v, rfl, rfl, h1, h2, h⟩
theorem w_ixT {p : Addr} {xs : List V} {i : Int} (h1 : SqT K H p xs) (h2 : atI xs i = some v) (h : Q v H) : rIxT K (.ref p) (.int i) H Q := ⟨p, xs, i, v, rfl, rfl, h1, h2, h⟩
theorem w_ixSL {p : Addr} {xs : List V} {i : Int} (h1 : SqL K H p xs) (h2 : atI xs i = some v) (h : Q v H) : rIx K (.ref p) (.int i) H Q := .inl ⟨p, xs, i, v, rfl, rfl, h1, h2, h⟩
theorem w_ixST {p : Addr} {xs : List V} {i : Int} (h1 : SqT K H p xs) (h2 : atI xs i = some v) (h : Q v H) : rIx K (.ref p) (.int i) H Q := .inr (.inl ⟨p, xs, i, v, rfl, rfl, h1, h2, h⟩)
theorem w_neB {x y : Bool} (h : Q (.bl (!decide (x = y))) H) : rNe (.bl x) (.bl y) H Q := ⟨rfl, by
  have e : decide (V.bl x = V.bl y) = decide (x = y) := by
    by_cases q : x = y
    · subst q; rw [decide_eq_true rfl, decide_eq_true rfl]
    · rw [decide_eq_false q, decide_eq_false (fun z => q (V.bl.inj z))]
  rw [e]; exact h⟩
theorem w_eqN (h : Q (.bl true) H) : rEq .non .non H Q := ⟨rfl, h⟩
theorem w_sub {to ti : TE} {t : TSet} {R : St → Hp → Prop} (h : to σ H fun o H1 => ti σ H1 fun i H2 => t o i v H2 fun H3 => R σ H3) : gSub to ti t v σ H R := h
theorem w_setL {p : Addr} {xs ys : List V} {k : Int} {j : Nat} {R : Hp → Prop} (h1 : H p = some (.lst xs)) (h2 : ixN xs.length k = some j) (e : xs.set j v = ys) (h : ∀ H1, H1 p = some (.lst ys) → Off p H H1 → R H1) : rSetL (.ref p) (.int k) v H R :=
  ⟨p, xs, k, j, rfl, rfl, h1, h2, by rw [e]; exact h _ upd_same fun x hx => upd_ne hx⟩
theorem w_if {c : TT} {t u : TS} (h : c σ H fun b H1 => if b = true then t ⟨nx, rt, bk, ct⟩ σ H1 else u ⟨nx, rt, bk, ct⟩ σ H1) : tIfS c t u ⟨nx, rt, bk, ct⟩ σ H := h
theorem w_test {t : TE} {R : Bool → Hp → Prop} (h : t σ H fun x H' => ∃ k, x = .bl k ∧ R k H') : tTest t σ H R := h
theorem w_tb {t : TE} {R : Bool → Hp → Prop} (h : t σ H fun x H' => ∃ k, x = .bl k ∧ R k H') : tB t σ H R := h
theorem w_bl {b : Bool} {R : Bool → Prop} (h : R b) : ∃ k, V.bl b = .bl k ∧ R k := ⟨b, rfl, h⟩
theorem w_and {t u : TT} {R : Bool → Hp → Prop} (h : t σ H fun c H1 => if c = true then u σ H1 R else R false H1) : tAnd t u σ H R := h
theorem w_or {t u : TT} {R : Bool → Hp → Prop} (h : t σ H fun c H1 => if c = true then R true H1 else u σ H1 R) : tOr t u σ H R := h
theorem w_not {t : TT} {R : Bool → Hp → Prop} (h : t σ H fun c H1 => R (!c) H1) : tNot t σ H R := h
theorem w_andV {ta tb : TE} (h : ta σ H fun x H1 => ∃ c, x = .bl c ∧ if c = true then tb σ H1 Q else Q (.bl false) H1) : tAndV ta tb σ H Q := h
theorem w_orV {ta tb : TE} (h : ta σ H fun x H1 => ∃ c, x = .bl c ∧ if c = true then Q (.bl true) H1 else tb σ H1 Q) : tOrV ta tb σ H Q := h
theorem w_notV {ta : TE} (h : ta σ H fun x H1 => ∃ c, x = .bl c ∧ Q (.bl (!c)) H1) : tNotV ta σ H Q := h
theorem w_ite {p : Prop} {inst : Decidable p} {A B : Prop} (h1 : p → A) (h2 : ¬ p → B) : if decide p = true then A else B := by
  by_cases h : p
  · rw [if_pos (decide_eq_true h)]; exact h1 h
  · rw [if_neg (fun z => h (of_decide_eq_true z))]; exact h2 h
theorem w_yes {p : Prop} {inst : Decidable p} {A B : Prop} (h : p) (a : A) : if decide p = true then A else B := by rw [if_pos (decide_eq_true h)]; exact a
theorem w_no {p : Prop} {inst : Decidable p} {A B : Prop} (h : ¬ p) (b : B) : if decide p = true then A else B := by rw [if_neg (fun z => h (of_decide_eq_true z))]; exact b
theorem w_nyes {p : Prop} {inst : Decidable p} {A B : Prop} (h : p) (b : B) : if (!decide p) = true then A else B := by rw [decide_eq_true h]; exact b
theorem w_nno {p : Prop} {inst : Decidable p} {A B : Prop} (h : ¬ p) (a : A) : if (!decide p) = true then A else B := by rw [decide_eq_false h]; exact a
theorem w_nT {A B : Prop} (h : B) : if (!true) = true then A else B := h
theorem w_nF {A B : Prop} (h : A) : if (!false) = true then A else B := h
theorem w_ret {te : TE} (h : te σ H rt) : tRet te ⟨nx, rt, bk, ct⟩ σ H := h
theorem w_drop {te : TE} (h : te σ H fun _ H1 => nx σ H1) : tDrop te ⟨nx, rt, bk, ct⟩ σ H := h
theorem w_next (h : nx σ H) : tNext ⟨nx, rt, bk, ct⟩ σ H := h
theorem w_cb {r : List V → Hp → VK → Prop} {t : TA} (h : t σ H fun vs H1 => r vs H1 Q) : tCB r t σ H Q := h
theorem w_nil {R : List V → Hp → Prop} (h : R [] H) : tNil σ H R := h
theorem w_cons {ta : TE} {tr : TA} {R : List V → Hp → Prop} (h : ta σ H fun x H1 => tr σ H1 fun xs H2 => R (x :: xs) H2) : tCons ta tr σ H R := h
theorem w_call {sp : Sp} {E : XK} {t : TA} (h : t σ H fun vs H1 => sp (vs ++ []) H1 Q E) : tCall sp [] E t σ H Q := h
theorem w_lst {t : TA} (h : t σ H fun xs H1 => xs.length ≤ sizeLine ∧ Nw (.lst xs) H1 Q) : tLst t σ H Q := h
theorem w_tup {t : TA} (h : t σ H fun xs H1 => xs.length ≤ sizeLine ∧ Nw (.tup xs) H1 Q) : tTup t σ H Q := h
theorem w_new {o : HO} (h : ∀ p H2, H p = none → H2 p = some o → Same H H2 → Q (.ref p) H2) : Nw o H Q := fun p hp => h p _ hp upd_same (Same.new hp)
theorem w_sz {n : Nat} {o : HO} (h1 : n ≤ sizeLine) (h : Nw o H Q) : n ≤ sizeLine ∧ Nw o H Q := ⟨h1, h⟩
theorem w_app {p : Addr} {xs : List V} (h1 : H p = some (.lst xs)) (h2 : xs.length < sizeLine) (h : ∀ H1, H1 p = some (.lst (xs ++ [v])) → Off p H H1 → Q .non H1) : rAppend (.ref p) [v] H Q :=
  ⟨p, xs, v, rfl, rfl, h1, h2, h _ upd_same fun x hx => upd_ne hx⟩
theorem w_bm {r : V → List V → Hp → VK → Prop} {to : TE} {t : TA} (h : to σ H fun x H1 => tyV K "list" x H1 ∧ t σ H1 fun xs H2 => r x xs H2 Q) : tBM K "list" r to t σ H Q := h
theorem w_tyL {p : Addr} {xs : List V} {A : Prop} (h1 : H p = some (.lst xs)) (h : A) : tyV K "list" (.ref p) H ∧ A := ⟨.inl ⟨rfl, _, .inl (.inl h1)⟩, h⟩
theorem w_lenL {p : Addr} {ys : List V} (h1 : SqL K H p ys) (h : Q (.int ys.length) H) : rLen K [V.ref p] H Q := ⟨p, ys, rfl, .inl h1, h⟩
theorem w_lenT {p : Addr} {ys : List V} (h1 : SqT K H p ys) (h : Q (.int ys.length) H) : rLen K [V.ref p] H Q := ⟨p, ys, rfl, .inr h1, h⟩
theorem w_min2 {i j : Int} (h : Q (.int (if j < i then j else i)) H) : rMin2 [V.int i, V.int j] H Q := ⟨i, j, rfl, h⟩
theorem w_max2 {i j : Int} (h : Q (.int (if j > i then j else i)) H) : rMax2 [V.int i, V.int j] H Q := ⟨i, j, rfl, h⟩
theorem w_listL {p : Addr} {ys : List V} (h1 : SqL K H p ys) (h : ∀ l H2, H l = none → H2 l = some (.lst ys) → Same H H2 → Q (.ref l) H2) : rListOf K [V.ref p] H Q := ⟨p, ys, rfl, .inl h1, w_new h⟩
theorem w_tupL {p : Addr} {ys : List V} (h1 : SqL K H p ys) (h : ∀ l H2, H l = none → H2 l = some (.tup ys) → Same H H2 → Q (.ref l) H2) : rTupOf K [V.ref p] H Q := ⟨p, ys, rfl, .inl ⟨h1, w_new h⟩⟩
theorem w_sum {p : Addr} {ns : List Int} (h1 : SqL K H p (ns.map V.int)) (h : Q (.int ns.sum) H) : rSum K [V.ref p] H Q := ⟨p, ns, rfl, h1, h⟩
theorem w_tupRg {te : St → Hp → (Int → Int → Hp → Prop) → Prop} (h : te σ H fun a b H1 => RgOk a b ∧ Nw (.tup (rgV a b)) H1 Q) : tTupRg te σ H Q := h
theorem w_rg2 {ta tb : TE} {R : Int → Int → Hp → Prop} (h : ta σ H fun x H1 => tb σ H1 fun y H2 => rRg2 x y H2 R) : tRg2 ta tb σ H R := h
theorem w_rg2' {i j : Int} {R : Int → Int → Hp → Prop} (h : R i j H) : rRg2 (.int i) (.int j) H R := ⟨i, j, rfl, rfl, h⟩
theorem w_bits {to : TE} (h : to σ H fun x H1 => rBits x H1 Q) : tBits to σ H Q := h
theorem w_bits' {i : Int} (h : Q (.int (Builtin.Int.intBits i : Nat)) H) : rBits (.int i) H Q := ⟨i, rfl, h⟩
theorem w_isi {x : V} {a n : String} {b : Bool} (ty : TyX K H x (.type a)) (hk : kitB a n = some b) (h : Q (.bl b) H) : rIsi K [x, .ty n] H Q := ⟨x, .ty n, _, _, b, rfl, .ty n, ty, kit_ty hk, h⟩
theorem w_eqS {x y : Str} (h : Q (.bl (decide (x = y))) H) : rEq (.str x) (.str y) H Q := ⟨rfl, by
  have e : decide (V.str x = V.str y) = decide (x = y) := by
    by_cases q : x = y
    · subst q; rw [decide_eq_true rfl, decide_eq_true rfl]
    · rw [decide_eq_false q, decide_eq_false (fun z => q (V.str.inj z))]
  rw [e]; exact h⟩
theorem w_eqB {x y : Bool} (h : Q (.bl (decide (x = y))) H) : rEq (.bl x) (.bl y) H Q := ⟨rfl, by
  have e : decide (V.bl x = V.bl y) = decide (x = y) := by
    by_cases q : x = y
    · subst q; rw [decide_eq_true rfl, decide_eq_true rfl]
    · rw [decide_eq_false q, decide_eq_false (fun z => q (V.bl.inj z))]
  rw [e]; exact h⟩
/-! targets, dicts -/
theorem w_gtup {a : Addr} {xs : List V} {n : Nat} {t : TGs} {R : St → Hp → Prop} (h1 : SqT K H a xs) (h2 : xs.length = n) (h : t xs σ H R) : gTup K n t (.ref a) σ H R := ⟨a, xs, rfl, h1, h2, h⟩
theorem w_gcons {t : TG} {u : TGs} {r : List V} {R : St → Hp → Prop} (h : t v σ H fun σ' H' => u r σ' H' R) : gCons t u (v :: r) σ H R := ⟨v, r, rfl, h⟩
theorem w_gnil {R : St → Hp → Prop} (h : R σ H) : gNil [] σ H R := ⟨rfl, h⟩
theorem w_din {ty td : TE} (h : ty σ H fun y H1 => td σ H1 fun x H2 => rDIn x y H2 Q) : tDIn ty td σ H Q := h
theorem w_dnotin {ty td : TE} (h : ty σ H fun y H1 => td σ H1 fun x H2 => rDNotIn x y H2 Q) : tDNotIn ty td σ H Q := h
theorem w_dget {ty td : TE} (h : td σ H fun x H1 => ty σ H1 fun y H2 => rDGet x y H2 Q) : tDGet td ty σ H Q := h
theorem w_dinI {a : Addr} {kvs : List (Key × V)} {n : Int} (e : H a = some (.dK kvs)) (h : Q (.bl (valV kvs (Sum.inl n)).isSome) H) : rDIn (.ref a) (.int n) H Q := ⟨a, _, rfl, DGet.k (k := Sum.inl n) e, h⟩
theorem w_dnotinI {a : Addr} {kvs : List (Key × V)} {n : Int} (e : H a = some (.dK kvs)) (h : Q (.bl (!(valV kvs (Sum.inl n)).isSome)) H) : rDNotIn (.ref a) (.int n) H Q := ⟨a, _, rfl, DGet.k (k := Sum.inl n) e, h⟩
theorem w_dgetI {a : Addr} {kvs : List (Key × V)} {n : Int} (e : H a = some (.dK kvs)) (e2 : valV kvs (Sum.inl n) = some v) (h : Q v H) : rDGet (.ref a) (.int n) H Q := ⟨a, v, rfl, e2 ▸ DGet.k (k := Sum.inl n) e, h⟩
theorem w_dnewK (h : Nw (.dK []) H Q) : tDNewK σ H Q := h
theorem w_dput {td ty tv : TE} (h : tv σ H fun v H1 => td σ H1 fun x H2 => ty σ H2 fun y H3 => rDPut x y v H3 fun H4 => nx σ H4) : sDPut td ty tv ⟨nx, rt, bk, ct⟩ σ H := h
theorem w_seqP {td ty tv : TE} {u : TS} (h : tv σ H fun v H1 => td σ H1 fun x H2 => ty σ H2 fun y H3 => rDPut x y v H3 fun H4 => u ⟨nx, rt, bk, ct⟩ σ H4) : tSeq (sDPut td ty tv) u ⟨nx, rt, bk, ct⟩ σ H := h
theorem w_dget2 {td ty tx : TE} (h : td σ H fun x H1 => rIsD x H1 fun a H1 => ty σ H1 fun y H2 => tx σ H2 fun z H3 => rDGet2 a y z H3 Q) : tDGet2 td ty tx σ H Q := h
theorem w_isD {a : Addr} {kvs : List (Key × V)} {R : Addr → Hp → Prop} (e : H a = some (.dK kvs)) (h : R a H) : rIsD (.ref a) H R := ⟨a, rfl, .inl ⟨kvs, .inl e⟩, h⟩
theorem w_dget2I {a : Addr} {kvs : List (Key × V)} {n : Int} {z : V} (e : H a = some (.dK kvs)) (h : Q ((valV kvs (Sum.inl n)).getD z) H) : rDGet2 a (.int n) z H Q := ⟨_, DGet.k (k := Sum.inl n) e, h⟩
theorem w_dsetd {td ty tx : TE} (h : td σ H fun x H1 => rIsD x H1 fun a H1 => ty σ H1 fun y H2 => tx σ H2 fun z H3 => rDSetd a y z H3 Q) : tDSetd td ty tx σ H Q := h
theorem w_leT2 {p q : Addr} {a b c d : Int} (h1 : SqT K H p [.int a, .int b]) (h2 : SqT K H q [.int c, .int d]) (h : Q (.bl (decide (a < c ∨ a = c ∧ b ≤ d))) H) : rLeT K (.ref p) (.ref q) H Q := by
  refine ⟨p, q, [a, b], [c, d], rfl, rfl, h1, h2, ?_⟩
  have e : Ob.lexAt (fun j => decide (([a, b] : List Int).getD j 0 = ([c, d] : List Int).getD j 0)) (fun j => decide (([a, b] : List Int).getD j 0 ≤ ([c, d] : List Int).getD j 0)) (decide (([a, b] : List Int).length ≤ ([c, d] : List Int).length)) 0 (min ([a, b] : List Int).length ([c, d] : List Int).length) = decide (a < c ∨ a = c ∧ b ≤ d) := by
    show (if decide (a = c) = true then (if decide (b = d) = true then true else decide (b ≤ d)) else decide (a ≤ c)) = _
    by_cases h1 : a = c
    · rw [if_pos (decide_eq_true h1)]
      by_cases h2 : b = d
      · rw [if_pos (decide_eq_true h2)]
        exact (decide_eq_true (by omega)).symm
      · rw [if_neg (fun z => h2 (of_decide_eq_true z))]
        rw [Bool.eq_iff_iff]; simp; omega
    · rw [if_neg (fun z => h1 (of_decide_eq_true z))]
      rw [Bool.eq_iff_iff]; simp; omega
  rw [e]
  exact h
theorem inV_ints (n : Int) (vs : List Int) : inV (.int n) (vs.map V.int) = decide (n ∈ vs) := by
  unfold inV
  rw [Bool.eq_iff_iff, List.any_eq_true]
  constructor
  · rintro ⟨y, hy, e⟩
    obtain ⟨z, hz, rfl⟩ := List.mem_map.mp hy
    have e' : z = n := by simpa [eqV] using e
    subst e'
    exact decide_eq_true hz
  · intro h
    exact ⟨.int n, List.mem_map_of_mem (of_decide_eq_true h), by simp [eqV]⟩
theorem flat_ints (vs : List Int) : (vs.map V.int).all flatV = true := by
  rw [List.all_eq_true]
  intro y hy
  obtain ⟨z, _, rfl⟩ := List.mem_map.mp hy
  rfl
theorem w_inT {p : Addr} {vs : List Int} {n : Int} (h1 : SqT K H p (vs.map V.int)) (h : Q (.bl (decide (n ∈ vs))) H) : rIn K false (.int n) (.ref p) H Q := ⟨p, _, rfl, .inr h1, rfl, flat_ints vs, by rw [inV_ints]; exact h⟩
theorem w_ninT {p : Addr} {vs : List Int} {n : Int} (h1 : SqT K H p (vs.map V.int)) (h : Q (.bl (!decide (n ∈ vs))) H) : rIn K true (.int n) (.ref p) H Q := ⟨p, _, rfl, .inr h1, rfl, flat_ints vs, by rw [inV_ints]; exact h⟩
theorem w_inL {p : Addr} {vs : List Int} {n : Int} (h1 : SqL K H p (vs.map V.int)) (h : Q (.bl (decide (n ∈ vs))) H) : rIn K false (.int n) (.ref p) H Q := ⟨p, _, rfl, .inl h1, rfl, flat_ints vs, by rw [inV_ints]; exact h⟩
theorem w_ninL {p : Addr} {vs : List Int} {n : Int} (h1 : SqL K H p (vs.map V.int)) (h : Q (.bl (!decide (n ∈ vs))) H) : rIn K true (.int n) (.ref p) H Q := ⟨p, _, rfl, .inl h1, rfl, flat_ints vs, by rw [inV_ints]; exact h⟩
def rDisp (p : Addr) (ps : List (V × V)) (H2 : Hp) (Q : VK) : Prop := H2 p = some (.dK []) ∧ ∃ kvs : List (Key × V), ps = kvs.map (fun kv => (kV kv.1, kv.2)) ∧ kvs.length ≤ 15 ∧ Q (.ref p) (upd H2 p (.dK (mergeK [] kvs)))
theorem w_pair {tk tv : TE} {r : List (TE × TE)} {R : List (V × V) → Hp → Prop} (h : tk σ H fun x H1 => tv σ H1 fun y H2 => tPairs r σ H2 fun ps H3 => R ((x, y) :: ps) H3) : tPairs ((tk, tv) :: r) σ H R := h
theorem w_pnil {R : List (V × V) → Hp → Prop} (h : R [] H) : tPairs [] σ H R := h
theorem w_callS {sp : Sp} {E : St → XK} {t : TA} (h : t σ H fun vs H1 => sp vs H1 Q (E σ)) : tCallS sp E t σ H Q := h
theorem w_isB {x y : Bool} (h : Q (.bl (decide (x = y))) H) : rIsBl (.bl x) (.bl y) H Q := ⟨x, y, rfl, rfl, h⟩
theorem w_isN (h : Q (.bl (decide (v = .non))) H) : rIsNon v .non H Q := ⟨rfl, h⟩
theorem w_notN (h : Q (.bl (!decide (v = .non))) H) : rNotNon v .non H Q := ⟨rfl, h⟩
theorem w_chain {r r' : R2} {ta tb tc : TE} (h : ta σ H fun x H1 => tb σ H1 fun y H2 => r x y H2 fun z H3 => ∃ k, z = .bl k ∧ (if k = true then tc σ H3 fun w' H4 => r' y w' H4 Q else Q (.bl false) H3)) : tChain r r' ta tb tc σ H Q := h
theorem w_trL {p : Addr} {xs : List V} {R : Bool → Hp → Prop} (h1 : SqL K H p xs) (h : R (!xs.isEmpty) H) : rTru K (.ref p) H R := ⟨_, .inl ⟨xs, h1, rfl⟩, h⟩
theorem w_trT {p : Addr} {xs : List V} {R : Bool → Hp → Prop} (h1 : SqT K H p xs) (h : R (!xs.isEmpty) H) : rTru K (.ref p) H R := ⟨_, .inr (.inl ⟨xs, h1, rfl⟩), h⟩
theorem w_tru {ta : TE} {R : Bool → Hp → Prop} (h : ta σ H fun x H1 => rTru K x H1 R) : tTru K ta σ H R := h
/-! loops -/
def Lp (J : It) (g : TG) (tb : TS) (D : Ends) (σ : St) (H1 : Hp) : Prop := ∃ W : Nat → Nat → St → Hp → Prop, (∃ m, W 0 m σ H1) ∧ ∀ i m σ H, W i m σ H →
  (J.stop i H ∧ D.nx σ H) ∨ (J.go i H ∧ ∃ N : St → Hp → Prop, (∀ σ' H', N σ' H' → ∃ m', m' < m ∧ W (i + 1) m' σ' H') ∧ ∀ x H', J.yld i H x H' → g x σ H' fun σ2 H2 => tb { D with nx := N, ct := N, bk := D.nx } σ2 H2)
theorem w_for {wi : TI} {g : TG} {tb : TS} (h : wi σ H fun J H1 => Lp J g tb ⟨nx, rt, bk, ct⟩ σ H1) : tFor wi g tb ⟨nx, rt, bk, ct⟩ σ H := h
theorem lp_list {a : Addr} {xs : List V} {g : TG} {tb : TS} (Pv : Nat → St → Hp → Prop) (h0 : Pv 0 σ H) (hl : ∀ i σ H, i ≤ xs.length → Pv i σ H → SqL K H a xs)
    (hs : ∀ i x σ H, xs[i]? = some x → Pv i σ H → g x σ H fun σ2 H2 => tb ⟨Pv (i + 1), rt, nx, Pv (i + 1)⟩ σ2 H2) (hd : ∀ σ H, Pv xs.length σ H → nx σ H) : Lp (Itl K a) g tb ⟨nx, rt, bk, ct⟩ σ H :=
  for_list (D := ⟨nx, rt, bk, ct⟩) Pv h0 hl hs hd
theorem lp_tup {a : Addr} {xs : List V} {g : TG} {tb : TS} (Pv : Nat → St → Hp → Prop) (h0 : Pv 0 σ H) (hl : ∀ i σ H, i ≤ xs.length → Pv i σ H → SqT K H a xs)
    (hs : ∀ i x σ H, xs[i]? = some x → Pv i σ H → g x σ H fun σ2 H2 => tb ⟨Pv (i + 1), rt, nx, Pv (i + 1)⟩ σ2 H2) (hd : ∀ σ H, Pv xs.length σ H → nx σ H) : Lp (Itt K a) g tb ⟨nx, rt, bk, ct⟩ σ H :=
  for_tup (D := ⟨nx, rt, bk, ct⟩) Pv h0 hl hs hd
theorem lp_range {lo : Int} {n : Nat} {g : TG} {tb : TS} (Pv : Nat → St → Hp → Prop) (h0 : Pv 0 σ H)
    (hs : ∀ i σ H, i < n → Pv i σ H → g (.int (lo + i)) σ H fun σ2 H2 => tb ⟨Pv (i + 1), rt, nx, Pv (i + 1)⟩ σ2 H2) (hd : ∀ σ H, Pv n σ H → nx σ H) : Lp (Itr lo n) g tb ⟨nx, rt, bk, ct⟩ σ H :=
  for_range (D := ⟨nx, rt, bk, ct⟩) Pv h0 hs hd
theorem w_rng1 {t : TA} {R : It → Hp → Prop} (h : t σ H fun vs H1 => rRng1 vs H1 R) : iRng1 t σ H R := h
theorem w_rng1' {j : Int} {R : It → Hp → Prop} (h1 : -(2 ^ 62) ≤ j) (h2 : j < 2 ^ 62) (h : R (Itr 0 j.toNat) H) : rRng1 [.int j] H R := ⟨j, rfl, h1, h2, h⟩
theorem w_rng2 {t : TA} {R : It → Hp → Prop} (h : t σ H fun vs H1 => rRng2 vs H1 R) : iRng2 t σ H R := h
theorem w_rng2' {i j : Int} {R : It → Hp → Prop} (h1 : -(2 ^ 62) ≤ i ∧ i < 2 ^ 62 ∧ -(2 ^ 62) ≤ j ∧ j < 2 ^ 62) (h : R (Itr i (j - i).toNat) H) : rRng2 [.int i, .int j] H R := ⟨i, j, rfl, h1, h⟩
theorem w_itL {tl : TE} {R : It → Hp → Prop} (h : tl σ H fun x H1 => rItL K x H1 R) : iList K tl σ H R := h
theorem w_itL' {a : Addr} {xs : List V} {R : It → Hp → Prop} (h1 : SqL K H a xs) (h : R (Itl K a) H) : rItL K (.ref a) H R := ⟨a, rfl, ⟨xs, h1⟩, h⟩
theorem w_itT {tl : TE} {R : It → Hp → Prop} (h : tl σ H fun x H1 => rItT K x H1 R) : iTup K tl σ H R := h
theorem w_itT' {a : Addr} {xs : List V} {R : It → Hp → Prop} (h1 : SqT K H a xs) (h : R (Itt K a) H) : rItT K (.ref a) H R := ⟨a, rfl, ⟨xs, h1⟩, h⟩
/-- one turn of a while: W (by a falling number) is reached again -/
def WhT (W : Nat → St → Hp → Prop) (m : Nat) (tb : TS) (rt : VK) (nx : St → Hp → Prop) (σ : St) (H : Hp) : Prop := ∃ N : St → Hp → Prop, (∀ σ' H', N σ' H' → ∃ m', m' < m ∧ W m' σ' H') ∧ tb ⟨N, rt, nx, N⟩ σ H
theorem w_turn {W : Nat → St → Hp → Prop} {m : Nat} {tb : TS} (h : tb ⟨fun σ' H' => ∃ m', m' < m ∧ W m' σ' H', rt, nx, fun σ' H' => ∃ m', m' < m ∧ W m' σ' H'⟩ σ H) : WhT W m tb rt nx σ H := ⟨_, fun _ _ z => z, h⟩
theorem w_whileN {c : TT} {tb : TS} (W : Nat → St → Hp → Prop) (m0 : Nat) (h0 : W m0 σ H) (hs : ∀ m σ H, W m σ H → c σ H fun b H1 => if b = true then WhT W m tb rt nx σ H1 else nx σ H1) : tWhile c tb ⟨nx, rt, bk, ct⟩ σ H := ⟨W, ⟨m0, h0⟩, hs⟩
/-! comprehensions -/
def LcP (J : It) (g : TG) (tt : TT) (te : TE) (vs : List Nat) (Q : VK) (σ : St) (H1 : Hp) : Prop := ∀ D, H1 D = none → ∃ W : Nat → Nat → Hp → Prop, (∃ m, W 0 m (upd H1 D (.lst []))) ∧ ∀ i m H, W i m H →
  (J.stop i H ∧ Q (.ref D) H) ∨ (J.go i H ∧ ∃ Nx : Hp → Prop, (∀ H', Nx H' → ∃ m', m' < m ∧ W (i + 1) m' H') ∧ ∀ x H', J.yld i H x H' → g x (wipe σ vs) H' fun σ2 H2 => wipe σ2 vs = wipe σ vs ∧ tt σ2 H2 fun b H3 =>
    if b = true then te σ2 H3 fun y H4 => ∃ acc, H4 D = some (.lst acc) ∧ acc.length < sizeLine ∧ Nx (upd H4 D (.lst (acc ++ [y]))) else Nx H3)
theorem w_lc {wi : TI} {g : TG} {tt : TT} {te : TE} {vs : List Nat} (h : wi σ H fun J H1 => LcP J g tt te vs Q σ H1) : tLc wi g tt te vs σ H Q := h
/-- each turn adds one: the k-th is ys[k]; what stood but M stands -/
theorem lcp_map {J : It} {n : Nat} {G : Hp → Prop} {Y : Nat → Hp → V → Hp → Prop} (w : Walk J n G Y) {g : TG} {te : TE} {vs : List Nat} (M : List Addr) (ys : List V) (hn : ys.length = n) (hz : n ≤ 1000000) (hG : ∀ H', Kp M H H' → G H')
    (hs : ∀ i x H1 H2 (R : V → Hp → Prop), i < n → Kp M H H1 → Y i H1 x H2 → (∀ y H4, ys[i]? = some y → Kp M H1 H4 → R y H4) → g x (wipe σ vs) H2 fun σ2 H3 => wipe σ2 vs = wipe σ vs ∧ te σ2 H3 R)
    (hM : ∀ b ∈ M, ∃ o, H b = some o)
    (hd : ∀ D H', H D = none → Kp M H H' → H' D = some (.lst ys) → Q (.ref D) H') : LcP J g tYes te vs Q σ H := by
  intro D hD
  have hDM : D ∉ M := fun z => by obtain ⟨o, e⟩ := hM D z; rw [hD] at e; cases e
  refine lc_it w (fun i H' => Kp M H H' ∧ H' D = some (.lst (ys.take i))) ⟨Kp.new hD, upd_same⟩ (fun i H' _ z => hG H' z.1) ?_ ?_
  · rintro i x H1 H2 hi ⟨k1, e1⟩ y
    refine (hs i x H1 H2 _ hi k1 y ?_)
    intro z H4 hz' k4
    refine ⟨ys.take i, k4 _ _ hDM e1, ?_, ?_, ?_⟩
    · rw [List.length_take]; exact Nat.lt_of_le_of_lt (Nat.min_le_left _ _) (Nat.lt_of_lt_of_le (Nat.lt_of_lt_of_le hi hz) (by decide))
    · exact (k1.trans k4).mutN hD
    · rw [upd_same, List.take_add_one, hz']; rfl
  · rintro H' ⟨k, e⟩
    rw [List.take_of_length_le (by omega)] at e
    exact hd D H' hD k e
/-- each turn adds one of which P holds (P leans on tuples alone); S: what else holds turn by turn -/
theorem lcp_gen {J : It} {n : Nat} {G : Hp → Prop} {Y : Nat → Hp → V → Hp → Prop} (w : Walk J n G Y) {g : TG} {te : TE} {vs : List Nat} (M : List Addr) (P : Nat → V → Hp → Prop) (S : Nat → Hp → Prop) (hz : n ≤ 1000000)
    (mono : ∀ i y H1 H2, KT H1 H2 → P i y H1 → P i y H2) (SD : ∀ D, H D = none → ∀ i H1 o, S i H1 → S i (upd H1 D o)) (hG : ∀ i H', Kp M H H' → S i H' → G H') (S0 : S 0 H)
    (hs : ∀ i x H1 H2 (R : V → Hp → Prop), i < n → Kp M H H1 → KT H H1 → S i H1 → Y i H1 x H2 → (∀ y H4, P i y H4 → Kp M H1 H4 → KT H1 H4 → S (i + 1) H4 → R y H4) → g x (wipe σ vs) H2 fun σ2 H3 => wipe σ2 vs = wipe σ vs ∧ te σ2 H3 R)
    (hM : ∀ b ∈ M, ∃ o, H b = some o)
    (hd : ∀ D H' ys, ys.length = n → (∀ i y, ys[i]? = some y → P i y H') → H D = none → Kp M H H' → KT H H' → S n H' → H' D = some (.lst ys) → Q (.ref D) H') : LcP J g tYes te vs Q σ H := by
  intro D hD
  have hDM : D ∉ M := fun z => by obtain ⟨o, e⟩ := hM D z; rw [hD] at e; cases e
  refine lc_it w (fun i H' => Kp M H H' ∧ KT H H' ∧ S i H' ∧ ∃ ys, ys.length = i ∧ H' D = some (.lst ys) ∧ ∀ k y, ys[k]? = some y → P k y H') ⟨Kp.new hD, KT.refl.upd hD, SD D hD _ _ _ S0, [], rfl, upd_same, by simp⟩ (fun i H' _ z => hG i H' z.1 z.2.2.1) ?_ ?_
  · rintro i x H1 H2 hi ⟨k1, t1, s1, ys, hl, e1, hp⟩ y
    refine hs i x H1 H2 _ hi k1 t1 s1 y ?_
    intro z H4 pz k4 t4 s4
    have e4 := k4 _ _ hDM e1
    refine ⟨ys, e4, ?_, (k1.trans k4).mutN hD, (t1.trans t4).upd hD, SD D hD _ _ _ s4, ys ++ [z], by rw [List.length_append, hl]; rfl, upd_same, ?_⟩
    · rw [hl]; exact Nat.lt_of_lt_of_le (Nat.lt_of_lt_of_le hi hz) (by decide)
    · intro k y' hy'
      by_cases hk : k < ys.length
      · rw [List.getElem?_append_left hk] at hy'
        exact mono _ _ _ _ (KT.updL e4) (mono _ _ _ _ t4 (hp k y' hy'))
      · rw [List.getElem?_append_right (by omega)] at hy'
        by_cases hk2 : k = ys.length
        · subst hk2
          have e : z = y' := by simpa using hy'
          subst e
          rw [hl]
          exact mono _ _ _ _ (KT.updL e4) pz
        · rw [List.getElem?_eq_none (by simp; omega)] at hy'
          cases hy'
  · rintro H' ⟨k, t, sn, ys, hl, e, hp⟩
    exact hd D H' ys hl hp hD k t sn e
end
/-! ### errors -/
/-- what the top has written of an own error class without __init__ -/
structure Exn (K : PySem.W.Frag) (mg : Str → Option Value) (x : Str) (C : Addr) : Prop where
  g : mg x = some (.ref C)
  x : PySem.W.excIn K C [.type "ValueError", .type "Exception", .type "BaseException", .type "object"] "ValueError.__new__" = true
  k : PySem.W.keepIn K (.ref C) = true
  b : PySem.W.subIn K (.ref C) (.type "BaseException") = some true
  t : PySem.W.typeIn K (.ref C) = some (.type "type")
  e : PySem.W.exmOne K (.ref C) (.ref C) = some true
theorem exm_is {K : PySem.W.Frag} {t : Value} {C : Addr} {r : Bool} (hb : PySem.W.subIn K (.ref C) (.type "BaseException") = some true) (hi : PySem.W.isClsIn K C = true) (ht : PySem.W.typeIn K (.ref C) = some (.type "type")) (hs : PySem.W.subIn K t (.ref C) = some r) : PySem.W.exmOne K t (.ref C) = some r := by
  have hi' : (PySem.W.clsIn K C).isSome = true := hi
  unfold PySem.W.exmOne
  rw [hb, if_pos (by rfl)]
  show (if ((PySem.W.clsIn K C).isSome && PySem.W.typeIn K (Value.ref C) == some (Value.type "type")) = true then PySem.W.subIn K t (Value.ref C) else none) = some r
  rw [hi', ht]
  exact hs
def tTryO (K : PySem.W.Frag) (c : Value) (tb : WX → TS) (ts : Addr → Value → Option Addr → TS) : TS := fun D σ H => tb (wOnly K c ts (fun _ _ _ _ => False) D) D σ H
section
variable {X : Cx} {x : Str} {c : Value} {body suite : List Stmt} {b₀ : Stmt} {np pos pos' : Pos} {tb : WX → TS} {ts : Addr → Value → Option Addr → TS}
theorem p_try (hs : X.stack = X.env :: X.outer) (hf : X.env.frame = some X.env.locals) (hc : Names X x c)
    (hb : ∀ (W : WX) (pn : List (Addr × Obj)) (xe : Value → Shared → Prop), Takes (X.tr pn xe) W → PassesOwn (model X.prog X.w) X.A X.env xe → PSs (X.tr pn xe) body (tb W))
    (hsu : ∀ (a : Addr) (oe : Obj) (cls : Value) (d : Option Addr) (pn : List (Addr × Obj)), Zc cls d oe → (∃ vs, oe.data = .fields vs) → PSs (X.suite a ((a, oe) :: pn)) (b₀ :: suite) (ts a cls d)) :
    PS X (.Try body [.ExceptHandler (some (.Name x np)) none (b₀ :: suite) pos'] [] [] pos) (tTryO X.K c tb ts) := ps_try_only hs hf hc takes0 hb hsu
end
section
variable {K : PySem.W.Frag} {σ : St} {H : Hp} {nx bk ct : St → Hp → Prop} {rt : VK}
theorem w_try {c : Value} {tb : WX → TS} {ts : Addr → Value → Option Addr → TS} (h : tb (wOnly K c ts (fun _ _ _ _ => False) ⟨nx, rt, bk, ct⟩) ⟨nx, rt, bk, ct⟩ σ H) : tTryO K c tb ts ⟨nx, rt, bk, ct⟩ σ H := h
end
/-! ### dict comprehensions -/
section
open PySem.Spec PyProof.Rows
variable {X : Cx}
end
section
variable {K : PySem.W.Frag} {σ : St} {H : Hp} {Q : VK}
def DcP (J : It) (g : TG) (tt : TT) (tk tv : TE) (vs : List Nat) (Q : VK) (σ : St) (H1 : Hp) : Prop := ∀ D, H1 D = none → ∃ W : Nat → Nat → Hp → Prop, (∃ m, W 0 m (upd H1 D (.dK []))) ∧ ∀ i m H, W i m H →
  (J.stop i H ∧ Q (.ref D) H) ∨ (J.go i H ∧ ∃ Nx : Hp → Prop, (∀ H', Nx H' → ∃ m', m' < m ∧ W (i + 1) m' H') ∧ ∀ x H', J.yld i H x H' → g x (wipe σ vs) H' fun σ2 H2 => wipe σ2 vs = wipe σ vs ∧ tt σ2 H2 fun b H3 =>
    if b = true then tk σ2 H3 fun y H4 => tv σ2 H4 fun z H5 => ∃ kvs k, y = kV k ∧ H5 D = some (.dK kvs) ∧ kvs.length < sizeLine ∧ Nx (upd H5 D (.dK (putK kvs k z))) else Nx H3)
theorem w_dc {wi : TI} {g : TG} {tt : TT} {tk tv : TE} {vs : List Nat} (h : wi σ H fun J H1 => DcP J g tt tk tv vs Q σ H1) : tDc wi g tt tk tv vs σ H Q := h
end
/-! ### ints -/
theorem cmul_l {i j : Int} (h1 : -(2 ^ 64) < i) (h2 : i < 2 ^ 64) : CMul i j := .inl ⟨h1, h2⟩
theorem cmul_r {i j : Int} (h1 : -(2 ^ 64) < j) (h2 : j < 2 ^ 64) : CMul i j := .inr ⟨h1, h2⟩
theorem cdivw {i j : Int} (h1 : 0 < j) (h2 : j < 2 ^ 64) : CDivW i j := wide_div (b := 64) h1 (by omega) (by decide) (by decide)
theorem at_lt {α : Type} {xs : List α} {i : Int} (h0 : 0 ≤ i) (h1 : i < xs.length) : ∃ v, xs[i.toNat]? = some v ∧ atI xs i = some v := by
  have hl : i.toNat < xs.length := by omega
  refine ⟨xs[i.toNat], List.getElem?_eq_getElem hl, ?_⟩
  have e := atI_nat (xs := xs) (j := i.toNat) (List.getElem?_eq_getElem hl)
  rw [Int.toNat_of_nonneg h0] at e
  exact e
/-! ### the deck -/
def MOSTD : Nat := 1099511627776
structure Deck (H : Hp) (d c : Addr) (n : Nat) : Prop where
  ex : ∃ (cs : List Int) (a : Nat) (b : Int) (t : Nat), H d = some (.lst [.ref c, .int a, .int b, .int t]) ∧ H c = some (.lst (cs.map V.int)) ∧ t ≤ n
  ne : c ≠ d
theorem Deck.kp {M : List Addr} {H H' : Hp} {d c : Addr} {n : Nat} (k : Kp M H H') (h1 : d ∉ M) (h2 : c ∉ M) (D : Deck H d c n) : Deck H' d c n := by
  obtain ⟨⟨cs, a, b, t, e1, e2, e3⟩, ne⟩ := D
  exact ⟨⟨cs, a, b, t, k _ _ h1 e1, k _ _ h2 e2, e3⟩, ne⟩
theorem Deck.new {H : Hp} {d c : Addr} {n : Nat} {p : Addr} {o : HO} (h : H p = none) (D : Deck H d c n) : Deck (upd H p o) d c n := D.kp (M := []) (Kp.new h) (by simp) (by simp)
theorem Deck.mut {H : Hp} {d c : Addr} {n : Nat} {p : Addr} {o : HO} (h1 : p ≠ d) (h2 : p ≠ c) (D : Deck H d c n) : Deck (upd H p o) d c n :=
  D.kp (M := [p]) (Kp.mut (by simp)) (by simpa using Ne.symm h1) (by simpa using Ne.symm h2)
theorem Deck.mono {H : Hp} {d c : Addr} {n m : Nat} (D : Deck H d c n) (h : n ≤ m) : Deck H d c m := by
  obtain ⟨⟨cs, a, b, t, e1, e2, e3⟩, ne⟩ := D
  exact ⟨⟨cs, a, b, t, e1, e2, Nat.le_trans e3 h⟩, ne⟩
theorem Deck.at {H : Hp} {d c : Addr} {n : Nat} (D : Deck H d c n) : (∃ xs, H d = some (.lst xs)) ∧ ∃ xs, H c = some (.lst xs) := by
  obtain ⟨⟨cs, a, b, t, e1, e2, e3⟩, ne⟩ := D
  exact ⟨⟨_, e1⟩, ⟨_, e2⟩⟩
theorem Deck.ne1 {H : Hp} {d c p : Addr} {n : Nat} (D : Deck H d c n) (h : H p = none) : p ≠ d ∧ p ≠ c := by
  obtain ⟨⟨xs, e1⟩, ys, e2⟩ := D.at
  exact ⟨(ne_of_none e1 h).symm, (ne_of_none e2 h).symm⟩
end FW

set_option Elab.async false
set_option linter.all false
set_option maxRecDepth 100000
set_option maxHeartbeats 4000000
/-! {key: value for a in as if .. for b in bs if ..}: a dict by two clauses, as a rule of the layer (my own: the layer has it for lists). -/
namespace FW
open PySem PySem.Spec PyProof.Rows L2
section
variable {kx vx ta ia tb ib : Expr} {fa fb : List Expr} {sc : Scope} {ps : Pos}
abbrev two (kx vx ta ia : Expr) (fa : List Expr) (tb ib : Expr) (fb : List Expr) (sc : Scope) (ps : Pos) : Expr := .DictComp kx vx [⟨ta, ia, fa, 0⟩, ⟨tb, ib, fb, 0⟩] sc ps
/-- the tests of a clause, one behind the other -/
abbrev testsOf2 (fs : List Expr) (env : Env) : Sem Bool := forIn fs true fun c r => if r = true then do let ok ← isTrue c env (eval c env); pure (ForInStep.yield ok) else pure (ForInStep.yield r)
variable {pg : Program} {wd : World} {A : Around} {R : Result → Shared → Prop} {st : Shared} {it : Value} {D : Addr} {env : Env}
end
section
variable {X : Cx} {kx vx ta ia tb ib : Expr} {fa fb : List Expr} {sc : Scope} {ps qs : Pos} {own : List (Str × Nat)} {us : List Nat} {wa wb : TI} {ga gb : TG} {ra rb : TT} {tk tv : TE}
/-- the inner walk of one turn: from it Nx is reached -/
def Inner2 (J : It) (gb : TG) (rb : TT) (tk tv : TE) (us : List Nat) (D : Addr) (σ : L2.St) (H : Hp) (Nx : Hp → Prop) : Prop := ∃ W : Nat → Nat → Hp → Prop, (∃ m, W 0 m H) ∧ ∀ j k H1, W j k H1 →
  (J.stop j H1 ∧ Nx H1) ∨ (J.go j H1 ∧ ∃ Ny : Hp → Prop, (∀ H2, Ny H2 → ∃ k', k' < k ∧ W (j + 1) k' H2) ∧ ∀ x H2, J.yld j H1 x H2 → gb x (wipe σ us) H2 fun σ3 H3 => wipe σ3 us = wipe σ us ∧ rb σ3 H3 fun b H4 =>
    if b = true then tk σ3 H4 fun y H5 => tv σ3 H5 fun z H6 => ∃ kvs key, y = kV key ∧ H6 D = some (.dK kvs) ∧ kvs.length < sizeLine ∧ Ny (upd H6 D (.dK (putK kvs key z))) else Ny H4)
/-- the whole -/
def tDc2 (wa : TI) (ga : TG) (ra : TT) (wb : TI) (gb : TG) (rb : TT) (tk tv : TE) (os us : List Nat) : TE := fun σ H Q => wa σ H fun J H1 => ∀ D, H1 D = none → ∃ W : Nat → Nat → Hp → Prop, (∃ m, W 0 m (upd H1 D (.dK []))) ∧ ∀ i m H2, W i m H2 →
  (J.stop i H2 ∧ Q (.ref D) H2) ∨ (J.go i H2 ∧ ∃ Nx : Hp → Prop, (∀ H3, Nx H3 → ∃ m', m' < m ∧ W (i + 1) m' H3) ∧ ∀ x H3, J.yld i H2 x H3 → ga x (wipe σ os) H3 fun σ2 H4 => wipe σ2 os = wipe σ os ∧ ra σ2 H4 fun b H5 =>
    if b = true then wb σ2 H5 fun J1 H6 => Inner2 J1 gb rb tk tv us D σ2 H6 Nx else Nx H5)
theorem pi_tupK {K : PySem.W.Frag} {l tg : Expr} {tl : TE} (hK : X.K = K) (hl : PE X l tl) : PI X tg l (iTup K tl) := hK ▸ pi_tup hl
end
/-! ### its steps -/
section
variable {K : PySem.W.Frag} {σ : L2.St} {H : Hp} {Q : VK}
def Dc2P (J : It) (ga : TG) (ra : TT) (wb : TI) (gb : TG) (rb : TT) (tk tv : TE) (os us : List Nat) (Q : VK) (σ : L2.St) (H1 : Hp) : Prop := ∀ D, H1 D = none → ∃ W : Nat → Nat → Hp → Prop, (∃ m, W 0 m (upd H1 D (.dK []))) ∧ ∀ i m H2, W i m H2 →
  (J.stop i H2 ∧ Q (.ref D) H2) ∨ (J.go i H2 ∧ ∃ Nx : Hp → Prop, (∀ H3, Nx H3 → ∃ m', m' < m ∧ W (i + 1) m' H3) ∧ ∀ x H3, J.yld i H2 x H3 → ga x (wipe σ os) H3 fun σ2 H4 => wipe σ2 os = wipe σ os ∧ ra σ2 H4 fun b H5 =>
    if b = true then wb σ2 H5 fun J1 H6 => Inner2 J1 gb rb tk tv us D σ2 H6 Nx else Nx H5)
theorem w_dc2 {wa wb : TI} {ga gb : TG} {ra rb : TT} {tk tv : TE} {os us : List Nat} (h : wa σ H fun J H1 => Dc2P J ga ra wb gb rb tk tv os us Q σ H1) : tDc2 wa ga ra wb gb rb tk tv os us σ H Q := h
/-! ### a dict that is walked; any, sorted, insert -/
def rInsert : V → List V → Hp → VK → Prop := fun x vs H Q => ∃ (l : Addr) (xs : List V) (i : Int) (y : V), x = .ref l ∧ vs = [.int i, y] ∧ H l = some (.lst xs) ∧ xs.length < sizeLine ∧ 0 ≤ i ∧ i < 2 ^ 63 ∧ Q .non (upd H l (.lst (xs.take i.toNat ++ [y] ++ xs.drop i.toNat)))
theorem w_any {p : Addr} {bs : List Bool} (h1 : SqL K H p (bs.map V.bl)) (h : Q (.bl (bs.any id)) H) : rAny K [.ref p] H Q := ⟨p, bs, rfl, h1, h⟩
section
variable {nx bk ct : L2.St → Hp → Prop} {rt : VK}
def rKeys (x : V) (H1 : Hp) (R : It → Hp → Prop) : Prop := ∃ d o, x = .ref d ∧ ((∃ kvs, H1 d = some (.frz o (.dK kvs)) ∧ R (Itk d o kvs) H1) ∨ ∃ kvs, H1 d = some (.frz o (.dT kvs)) ∧ R (Itkt d o kvs) H1)
theorem w_keys {td : TE} {R : It → Hp → Prop} (h : td σ H fun x H1 => rKeys x H1 R) : iKeys td σ H R := h
theorem w_keys' {d : Addr} {o : Obj} {kvs : List (Key × V)} {R : It → Hp → Prop} (e : H d = some (.frz o (.dK kvs))) (h : R (Itk d o kvs) H) : rKeys (.ref d) H R := ⟨d, o, rfl, .inl ⟨kvs, e, h⟩⟩
end
theorem w_tyes {R : Bool → Hp → Prop} (h : R true H) : tYes σ H R := h
theorem w_dinF {a : Addr} {o : Obj} {kvs : List (Key × V)} {n : Int} (e : H a = some (.frz o (.dK kvs))) (h : Q (.bl (valV kvs (Sum.inl n)).isSome) H) : rDIn (.ref a) (.int n) H Q := ⟨a, _, rfl, .inl ⟨kvs, Sum.inl n, .inr ⟨o, e⟩, rfl, rfl⟩, h⟩
theorem w_dgetF {a : Addr} {o : Obj} {kvs : List (Key × V)} {n : Int} {v : V} (e : H a = some (.frz o (.dK kvs))) (e2 : valV kvs (Sum.inl n) = some v) (h : Q v H) : rDGet (.ref a) (.int n) H Q := ⟨a, v, rfl, .inl ⟨kvs, Sum.inl n, .inr ⟨o, e⟩, rfl, e2.symm⟩, h⟩
/-! ### get, reversed, slices, pop -/
def rDGet1 (a : Addr) (y : V) (H : Hp) (Q : VK) : Prop := ∃ o, DGet H a y o ∧ Q (o.getD .non) H
theorem w_dget1 {td ty : TE} (h : td σ H fun x H1 => rIsD x H1 fun a H1 => ty σ H1 fun y H2 => rDGet1 a y H2 Q) : tDGet1 td ty σ H Q := h
theorem w_dget1I {a : Addr} {kvs : List (Key × V)} {n : Int} (e : H a = some (.dK kvs)) (h : Q ((valV kvs (Sum.inl n)).getD .non) H) : rDGet1 a (.int n) H Q := ⟨_, DGet.k (k := Sum.inl n) e, h⟩
def rRev (K : PySem.W.Frag) (vs : List V) (H : Hp) (R : It → Hp → Prop) : Prop := ∃ (a : Addr) (xs : List V), vs = [.ref a] ∧ SqL K H a xs ∧ R (Itv K a xs.length) H
theorem w_rev {ta : TA} {R : It → Hp → Prop} (h : ta σ H fun vs H1 => rRev K vs H1 R) : iRev K ta σ H R := h
theorem w_rev' {a : Addr} {xs : List V} {R : It → Hp → Prop} (h1 : SqL K H a xs) (h : R (Itv K a xs.length) H) : rRev K [.ref a] H R := ⟨a, xs, rfl, h1, h⟩
def rPart (x : V) (H : Hp) (R : Option Int → Hp → Prop) : Prop := ∃ i, x = .int i ∧ R (some i) H
theorem w_slice {r : V → Option Int → Option Int → Hp → VK → Prop} {te : TE} {tl th : TO} (h : te σ H fun x H1 => tl σ H1 fun l H2 => th σ H2 fun u H3 => r x l u H3 Q) : L2.tSl r te tl th σ H Q := h
theorem w_noPart {R : Option Int → Hp → Prop} (h : R none H) : tNoPart σ H R := h
theorem w_part {te : TE} {R : Option Int → Hp → Prop} (h : te σ H fun x H1 => rPart x H1 R) : tPart te σ H R := h
theorem w_part' {i : Int} {R : Option Int → Hp → Prop} (h : R (some i) H) : rPart (.int i) H R := ⟨i, rfl, h⟩
theorem w_slL {a : Addr} {xs : List V} {lo hi : Option Int} (h1 : SqL K H a xs) (h : ∀ p H1, H p = none → H1 p = some (.lst (cutV xs lo hi)) → Same H H1 → Q (.ref p) H1) : rSlL K (.ref a) lo hi H Q := ⟨a, xs, rfl, h1, w_new h⟩
theorem w_bm0 {r : V → List V → Hp → VK → Prop} {to : TE} (h : to σ H fun x H1 => tyV K "list" x H1 ∧ r x [] H1 Q) : tBM0 K "list" r to σ H Q := h
theorem w_retN {nx bk ct : L2.St → Hp → Prop} {rt : VK} (h : rt .non H) : tRetN ⟨nx, rt, bk, ct⟩ σ H := h
end
end FW

set_option Elab.async false
set_option linter.all false
set_option maxRecDepth 100000
set_option maxHeartbeats 4000000
/-! Data of any kind: what isinstance says of them, and tuples of them to a depth. -/
namespace FW
open PySem PySem.Spec PyProof.Rows L2
inductive Ty (H : Hp) : V → String → Prop where
  | non : Ty H .non "NoneType"
  | bl (b : Bool) : Ty H (.bl b) "bool"
  | int (i : Int) : Ty H (.int i) "int"
  | str (z : Str) : Ty H (.str z) "str"
  | lst {a : Addr} {xs : List V} (e : H a = some (.lst xs)) : Ty H (.ref a) "list"
  | tup {a : Addr} {xs : List V} (e : H a = some (.tup xs)) : Ty H (.ref a) "tuple"
  | dK {a : Addr} {kvs : List (Key × V)} (e : H a = some (.dK kvs)) : Ty H (.ref a) "dict"
section
variable {K : PySem.W.Frag} {σ : L2.St} {H : Hp} {Q : VK} {x : V} {a : String}
theorem Ty.tx (t : Ty H x a) : TyX K H x (.type a) := by
  cases t with
  | non => exact .base .non
  | bl b => exact .base (.bl b)
  | int i => exact .base (.int i)
  | str z => exact .base (.str z)
  | lst e => exact .base (.lst e)
  | tup e => exact .base (.tup e)
  | dK e => exact .base (.dK e)
end
/-- data: a tuple of data, or another thing -/
inductive Dat (B : Nat) (H : Hp) : V → Prop where
  | leaf {x : V} {a : String} (t : Ty H x a) (h : a ≠ "tuple") : Dat B H x
  | tup {p : Addr} {xs : List V} (e : H p = some (.tup xs)) (l : xs.length ≤ B) (h : ∀ y ∈ xs, Dat B H y) : Dat B H (.ref p)
theorem Dat.int {B : Nat} {H : Hp} {i : Int} : Dat B H (.int i) := .leaf (.int i) (by decide)
theorem Dat.ty {B : Nat} {H : Hp} {x : V} (h : Dat B H x) : ∃ a, Ty H x a := by
  cases h with
  | leaf t _ => exact ⟨_, t⟩
  | tup e _ _ => exact ⟨_, .tup e⟩
/-- what keeps tuples, and of lists and dicts their kind -/
structure KD (H H' : Hp) : Prop where
  t : KT H H'
  l : ∀ b xs, H b = some (.lst xs) → ∃ ys, H' b = some (.lst ys)
  d : ∀ b kvs, H b = some (.dK kvs) → ∃ kws, H' b = some (.dK kws)
theorem KD.of {H H' : Hp} (k : Same H H') : KD H H' := ⟨KT.of k, fun b xs e => ⟨xs, k _ _ e⟩, fun b kvs e => ⟨kvs, k _ _ e⟩⟩
theorem KD.refl {H : Hp} : KD H H := ⟨KT.refl, fun b xs e => ⟨xs, e⟩, fun b kvs e => ⟨kvs, e⟩⟩
theorem KD.trans {H H1 H2 : Hp} (a : KD H H1) (b : KD H1 H2) : KD H H2 := ⟨a.t.trans b.t, fun c xs e => by
  obtain ⟨ys, e⟩ := a.l c xs e
  exact b.l c ys e, fun c xs e => by
  obtain ⟨ys, e⟩ := a.d c xs e
  exact b.d c ys e⟩
theorem KD.off {p : Addr} {H H' : Hp} {xs ys : List V} (k : Off p H H') (e : H p = some (.lst xs)) (e' : H' p = some (.lst ys)) : KD H H' := ⟨KT.off k e, fun b zs h => by
  by_cases q : b = p
  · subst q; exact ⟨ys, e'⟩
  · exact ⟨zs, k.get q h⟩, fun b kvs h => ⟨kvs, k.get (ne_of h e (fun z => nomatch z)) h⟩⟩
theorem Ty.kd {H H' : Hp} {x : V} {a : String} (t : Ty H x a) (k : KD H H') : Ty H' x a := by
  cases t with
  | non => exact .non
  | bl b => exact .bl b
  | int i => exact .int i
  | str z => exact .str z
  | lst e => obtain ⟨ys, e⟩ := k.l _ _ e; exact .lst e
  | tup e => exact .tup (k.t _ _ e)
  | dK e => obtain ⟨ys, e⟩ := k.d _ _ e; exact .dK e
theorem Dat.kd {B : Nat} {H H' : Hp} {x : V} (h : Dat B H x) (k : KD H H') : Dat B H' x := by
  induction h with
  | leaf t h => exact .leaf (t.kd k) h
  | tup e l _ ih => exact .tup (k.t _ _ e) l fun y hy => ih y hy
theorem Dat.mono {B C : Nat} (hB : B ≤ C) {H : Hp} {x : V} (h : Dat B H x) : Dat C H x := by
  induction h with
  | leaf t h => exact .leaf t h
  | tup e l _ ih => exact .tup e (Nat.le_trans l hB) fun y hy => ih y hy
theorem Dat.cases {B : Nat} {H : Hp} {x : V} (h : Dat B H x) : (∃ a, Ty H x a ∧ a ≠ "tuple") ∨ ∃ (p : Addr) (xs : List V), x = .ref p ∧ H p = some (.tup xs) ∧ xs.length ≤ B ∧ ∀ y ∈ xs, Dat B H y := by
  cases h with
  | leaf t h => exact .inl ⟨_, t, h⟩
  | tup e l h => exact .inr ⟨_, _, rfl, e, l, h⟩
theorem Deck.kd {H H' : Hp} {d c : Addr} {n m : Nat} (D : Deck H d c n) (D' : Deck H' d c m) (o : Off d H H') : KD H H' := by
  obtain ⟨⟨xs, e⟩, _⟩ := D.at
  obtain ⟨⟨ys, e'⟩, _⟩ := D'.at
  exact KD.off o e e'
section
variable {K : PySem.W.Frag} {H : Hp} {Q : VK}
theorem w_slA {a : Addr} {xs : List V} {lo hi : Option Int} (h1 : SqT K H a xs) (h2 : cutV xs lo hi = xs → Q (.ref a) H) (h : ∀ p H1, H p = none → H1 p = some (.tup (cutV xs lo hi)) → Same H H1 → Q (.ref p) H1) : rSlA K (.ref a) lo hi H Q := by
  refine ⟨a, xs, rfl, h1, fun ⟨z1, z2⟩ => h2 ?_, fun _ => w_new h⟩
  unfold cutV
  rw [z1, z2, List.drop_zero, Nat.sub_zero, List.take_length]
theorem w_cat {l b : Addr} {xs zs : List V} (h1 : H l = some (.lst xs)) (h2 : H b = some (.lst zs)) (hz : xs.length + zs.length ≤ sizeLine) (h : ∀ p H1, H p = none → H1 p = some (.lst (xs ++ zs)) → Same H H1 → Q (.ref p) H1) : rCat (.ref l) (.ref b) H Q := ⟨l, b, xs, zs, rfl, rfl, h1, h2, hz, w_new h⟩
/-- t[lo:hi]: where it stands, it is the cut -/
theorem w_slAt {a : Addr} {xs : List V} {lo hi : Option Int} (h1 : H a = some (.tup xs)) (h : ∀ p H1, H1 p = some (.tup (cutV xs lo hi)) → Same H H1 → Q (.ref p) H1) : rSlA K (.ref a) lo hi H Q :=
  w_slA (.of h1) (fun e => h a H (by rw [e]; exact h1) (fun _ _ z => z)) (fun p H1 _ e k => h p H1 e k)
end
/-! ### except X as e -/
def tTryA (K : PySem.W.Frag) (c : Value) (i : Nat) (tb : WX → TS) (ts : Addr → Value → Option Addr → TS) : TS := fun D σ H => tb (wAs K c i ts (fun _ _ _ _ => False) D) D σ H
def tGuard (P : Prop) (t : TS) : TS := fun D σ H => P ∧ t D σ H
section
variable {X : Cx} {x n : Str} {c : Value} {i : Nat} {body suite : List Stmt} {b₀ : Stmt} {np pos pos' : Pos} {tb : WX → TS} {ts : Addr → Value → Option Addr → TS}
end
section
variable {K : PySem.W.Frag} {σ : L2.St} {H : Hp} {Q : VK} {nx bk ct : L2.St → Hp → Prop} {rt : VK}
end
end FW

set_option Elab.async false
set_option linter.all false
set_option maxRecDepth 100000
set_option maxHeartbeats 4000000
/-! own errors with fields: made, caught, looked at; min of pairs; defaults by keyword -/
namespace FW
section
open PySem PySem.W PySem.Calls PyProof.Rows
variable {prog : Program} {w : World} {A : Around} {E : Value → Shared → Prop} {s : Shared} {K : Frag} {x D : Addr} {ox : Obj} {od : Option Obj}
end
open PySem PySem.Spec PyProof.Rows L2
/-- isinstance(e, c), e the error that the suite holds, with its fields at d -/
def rIsF (K : PySem.W.Frag) (D a : Addr) (d : Option Addr) : List V → Hp → VK → Prop := fun xs H Q => ∃ (c : V) (cv : Value) (b : Bool) (dd : Addr) (fs : List (Str × V)), xs = [.ref a, c] ∧ d = some dd ∧ H dd = some (.xd fs) ∧ (∀ u, RelV c u → u = cv) ∧ PySem.W.kitOne K (.ref D) cv = some b ∧ Q (.bl b) H
/-- an own error with __init__ -/
structure ExnI (K : PySem.W.Frag) (mg : Str → Option Value) (x : Str) (C fI : Addr) (fd : FuncData) (ps : List Str) (fs : List Str) : Prop where
  g : mg x = some (.ref C)
  T : OexC K C
  i : PySem.W.findIn K (.ref C) "__init__" = some (some (.ref fI))
  t : PySem.W.typeIn K (.ref fI) = some (.type "function")
  b : Binds K fd ps []
  f : XfC K C
  ec : ExcC K C
  nf : ∀ y ∈ fs, PySem.W.findIn K (.ref C) y = some none
/-- a def with keyword-only defaults -/
structure DfK (K : PySem.W.Frag) (mg : Str → Option Value) (x : Str) (st : Stmt) (ps : List Str) (kws : List (Str × V)) (dvs : List V) (f : Addr) (fd : FuncData) : Prop where
  fn : FunD K x x (defArgs st) (defBody st) (defScope st) [] kws f fd
  g : mg x = some (.ref f)
  kp : PySem.W.keepIn K (.ref f) = true
  b : ∃ ds, Vals dvs ds ∧ Binds K fd ps ds
  kb : ∃ g, KBn K fd ps (ps.length - kws.length) (kws.map (·.1)) g (fun vs zs => vs ++ zs)
/-- raise C(..) of two fields -/
def tRaiseO (C : Addr) (W : WX) (sp : Sp) (ta : TA) : TS := fun _ σ H => tMkO C sp [] ta σ H fun cls d H' => W cls d σ H'
section
variable {K : PySem.W.Frag} {σ : L2.St} {H : Hp} {Q : VK} {nx bk ct : L2.St → Hp → Prop} {rt : VK}
theorem w_callN {n m : Nat} {sp : Sp} {gV : List V → List V → List V} {E : XK} {t tk : TA} (h : t σ H fun vs H1 => tk σ H1 fun zs H2 => vs.length = n ∧ zs.length = m ∧ sp (gV vs zs) H2 Q E) : tCallN n m sp gV E t tk σ H Q := h
end
/-- what __init__ of two fields leaves -/
def spInit2 (K : PySem.W.Frag) (C : Addr) (f g : Str) : Sp := fun vs H Q _ => ∃ (a : Addr) (x y : V), vs = [.ref a, x, y] ∧ H a = some (exo a C none) ∧ ∀ dx, H dx = none → dx ≠ a → Q .non (upd (upd (upd H dx (exd dx [(f, x)])) a (exo a C (some dx))) dx (exd dx [(g, y), (f, x)]))
def spInit1 (K : PySem.W.Frag) (C : Addr) (f : Str) : Sp := fun vs H Q _ => ∃ (a : Addr) (x : V), vs = [.ref a, x] ∧ H a = some (exo a C none) ∧ ∀ dx, H dx = none → dx ≠ a → Q .non (upd (upd H dx (exd dx [(f, x)])) a (exo a C (some dx)))
/-! ### min of a list of pairs -/
def LtP (p q : Int × Int) : Prop := p.1 < q.1 ∨ p.1 = q.1 ∧ p.2 < q.2
def rMinP (K : PySem.W.Frag) : List V → Hp → VK → Prop := fun vs H Q => ∃ (a : Addr) (ps : List (Addr × Int × Int)), vs = [V.ref a] ∧ SqL K H a (ps.map fun q => .ref q.1) ∧ (∀ q ∈ ps, H q.1 = some (.tup [.int q.2.1, .int q.2.2])) ∧ ps ≠ [] ∧ ∀ q ∈ ps, (∀ r ∈ ps, ¬ LtP r.2 q.2) → Q (.ref q.1) H
section
variable {X : Cx} {pins : List (Addr × Obj)} {σ : L2.St} {H : Hp} {s : Shared}
end
end FW

set_option Elab.async false
set_option linter.all false
set_option maxRecDepth 100000
set_option maxHeartbeats 4000000
/-! for i, x in enumerate(t), t a tuple -/
namespace FW
open PySem PySem.Spec PyProof.Rows L2
def ItU (K : PySem.W.Frag) (a : Addr) : It :=
  ⟨fun i H => ∃ (xs : List V) (x : V), SqT K H a xs ∧ xs[i]? = some x,
   fun i H v H' => ∃ T x, v = .ref T ∧ H T = none ∧ H' = upd H T (.tup [.int (i : Nat), x]) ∧ ∀ xs, SqT K H a xs → xs[i]? = some x,
   fun i H => ∃ xs : List V, SqT K H a xs ∧ xs.length = i⟩
section
variable {P : Program} {w : World} {K : PySem.W.Frag} {elts : List Expr} {kk : Nat} {tpos : Pos}
end
section
variable {prog : Program} {w : World} {A : Around} {E : Value → Shared → Prop} {s : Shared}
end
def rEnumT (K : PySem.W.Frag) (vs : List V) (H : Hp) (R : It → Hp → Prop) : Prop := ∃ a xs, vs = [.ref a] ∧ SqT K H a xs ∧ R (ItU K a) H
def iEnumT (K : PySem.W.Frag) (ta : TA) : TI := fun σ H R => ta σ H fun vs H1 => rEnumT K vs H1 R
def rLenD (vs : List V) (H : Hp) (Q : VK) : Prop := ∃ a kvs, vs = [V.ref a] ∧ H a = some (.dK kvs) ∧ Q (.int kvs.length) H
section
variable {K : PySem.W.Frag} {σ : L2.St} {H : Hp} {a : Addr} {xs : List V}
theorem w_enum {ta : TA} {R : It → Hp → Prop} (h : ta σ H fun vs H1 => rEnumT K vs H1 R) : iEnumT K ta σ H R := h
theorem w_enum' {R : It → Hp → Prop} (h1 : SqT K H a xs) (h : R (ItU K a) H) : rEnumT K [.ref a] H R := ⟨a, xs, rfl, h1, h⟩
end
/-! ### what keeps all but the deck -/
structure KX (dk : Addr) (H H' : Hp) : Prop extends KD H H' where
  p : Kp [dk] H H'
theorem KX.of {d : Addr} {H H' : Hp} (k : Same H H') : KX d H H' := ⟨KD.of k, Kp.of k⟩
theorem KX.refl {d : Addr} {H : Hp} : KX d H H := ⟨KD.refl, Kp.refl⟩
theorem KX.trans {d : Addr} {H H1 H2 : Hp} (a : KX d H H1) (b : KX d H1 H2) : KX d H H2 := ⟨a.toKD.trans b.toKD, a.p.trans b.p⟩
theorem Deck.kx {H H' : Hp} {d c : Addr} {n m : Nat} (D : Deck H d c n) (D' : Deck H' d c m) (o : Off d H H') : KX d H H' := ⟨D.kd D' o, o.kp (by simp)⟩
instance {d : Addr} {H H' : Hp} : CoeOut (KX d H H') (KD H H') := ⟨KX.toKD⟩
end FW

set_option Elab.async false
set_option linter.all false
set_option maxRecDepth 100000
set_option maxHeartbeats 4000000
/-! sorted(d) of a dict of ints, of any length -/
namespace FW
open PySem PySem.Spec PyProof.Rows L2
def rSortA (xs : List V) (H : Hp) (Q : VK) : Prop := ∃ (a : Addr) (kvs : List (Key × V)) (ks : List Int), xs = [.ref a] ∧ Rd H a (.dK kvs) ∧ kvs.map (·.1) = ks.map Sum.inl ∧ ks.length ≤ 100000 ∧
    ∀ (ys : List Int) (p : Addr), ys.Perm ks → ys.Pairwise (· ≤ ·) → H p = none → Q (.ref p) (upd H p (.lst (ys.map V.int)))
end FW

set_option Elab.async false
set_option linter.all false
set_option maxRecDepth 100000
set_option maxHeartbeats 4000000
/-! t[k::w] of a tuple; extend by a tuple; pairs in a list -/
namespace HT
open PySem PySem.Spec PyProof.Rows
section
variable {prog : Program} {w : World} {A : Around} {E : Value → Shared → Prop} {s : Shared}
def places (n k w : Nat) : Nat := (n - k - 1) / w + 1
def stepL {α : Type} (xs : List α) (k c : Nat) : List α := (List.range (places xs.length k c)).filterMap fun j => xs[k + j * c]?
end
end HT
namespace FW
open PySem PySem.Spec PyProof.Rows L2
/-- t[k::w] -/
def rStep (K : PySem.W.Frag) (x y z : V) (H : Hp) (Q : VK) : Prop := ∃ (a : Addr) (xs : List V) (k c : Nat), x = .ref a ∧ y = .int k ∧ z = .int c ∧ SqT K H a xs ∧ k < xs.length ∧ 0 < c ∧ (k = 0 → c = 1 → Q (.ref a) H) ∧ (¬ (k = 0 ∧ c = 1) → Nw (.tup (HT.stepL xs k c)) H Q)
def tStep (K : PySem.W.Frag) (te tl ts : TE) : TE := fun σ H Q => te σ H fun x H1 => tl σ H1 fun y H2 => ts σ H2 fun z H3 => rStep K x y z H3 Q
section
variable {X : Cx}
theorem ext_meets (l : Addr) (items : Array Value) (n : Nat) (b : Addr) (items2 : Array Value) (n2 : Nat) (dd : Option Addr) (sl : Array (Option Value)) (hs0 : ¬(!items.isEmpty && Builtin.List.listTooLong (items.size + items2.size)) = true) (hs1 : items.size ≤ sizeLine) (hs2 : items.size + items2.size ≤ sizeLine + 1) :
    Meets (Builtin.«list.extend» ⟨[.ref l, .ref b], []⟩) (fun _ R s => s.heap.get? l = some { cls := .type "list", dict := none, data := .seq items n, slots := #[] } ∧ s.heap.get? b = some { cls := .type "tuple", dict := dd, data := .seq items2 n2, slots := sl } ∧ R (.ok (.ret Value.none)) { s with heap := s.heap.update l (Obj.mapSeq fun x => x ++ items2), toks := s.toks }) :=
  .of_wp fun prog w A R s h => by
    obtain ⟨hp, g, d, tk, os⟩ := s
    obtain ⟨hl, hb, h⟩ := h
    have f1 := AutoSeq1.idx_int; have f2 := AutoSeq1.sub_tuple_tuple; have f3 := AutoSeq1.sub_list_list; have f4 := AutoSeq1.sub_tuple_list; have f5 := AutoSeq1.sub_list_tuple; have hz' : (items ++ items2).size ≤ sizeLine + 1 := by rw [Array.size_append]; exact hs2
    wp_walk using (wpAny_updateSeq hl rfl (hz := hs1) (_hz' := hz')), AutoSeq1.wpAny_loadPart' hl, AutoSeq1.wpAny_loadPart' hb
    exact ⟨_, rfl, h⟩
def rExtT (K : PySem.W.Frag) : V → List V → Hp → VK → Prop := fun x vs H Q => ∃ l b xs zs, x = .ref l ∧ vs = [.ref b] ∧ H l = some (.lst xs) ∧ H b = some (.tup zs) ∧ xs.length + zs.length ≤ sizeLine ∧ Q .non (upd H l (.lst (xs ++ zs)))
theorem mt_extT : MtM X "list.extend" (rExtT X.K) := by
  intro pins s σ H x vs v us Q I rx rv ⟨l, b, xs, zs, e0, e1, hH, hB, hz, q⟩
  subst e0 e1
  cases rx
  obtain ⟨u, rfl, ru⟩ := rv.one
  cases ru
  obtain ⟨z, its, n, r, hl, e⟩ := I.lstM hH
  obtain ⟨its2, r2, ⟨⟨oc, dd, od, sl⟩, e2, ec, n2, ed⟩, z2⟩ := I.tuple (.of hB)
  have hl2 := r2.length
  dsimp only at ec ed
  subst ec ed
  have hsz : its.toArray.size + its2.toArray.size ≤ sizeLine := by rw [List.size_toArray, List.size_toArray]; omega
  have hlong : ¬ (!its.toArray.isEmpty && Builtin.List.listTooLong (its.toArray.size + its2.toArray.size)) = true := by rw [notLongL hsz, Bool.and_false]; exact Bool.false_ne_true
  refine call_meets F.slot_list_extend ⟨_, e, rfl⟩ F.entry_list_extend (F.args_list_extend_2 _ _) (ext_meets l its.toArray n b its2.toArray n2 dd sl hlong (by rw [List.size_toArray]; omega) (by omega)) ⟨e, e2, ?_⟩
  refine ⟨.non, _, I.lset (its' := its ++ its2) hH e (by simp) (r.append r2) ?_, rfl, q⟩
  rw [List.length_append]; omega
/-- a pair (int, truth) that is not in a list of such -/
def rNotInP (K : PySem.W.Frag) : R2 := fun x y H Q => ∃ (p a : Addr) (v : Int) (b : Bool) (an : List (Addr × Int × Bool)), x = .ref p ∧ y = .ref a ∧ H p = some (.tup [.int v, .bl b]) ∧ SqL K H a (an.map fun q => .ref q.1) ∧ (∀ q ∈ an, H q.1 = some (.tup [.int q.2.1, .bl q.2.2])) ∧ Q (.bl (decide ((v, b) ∉ an.map (·.2)))) H
end
section
variable {K : PySem.W.Frag} {σ : L2.St} {H : Hp} {Q : VK}
theorem w_step {te tl ts : TE} (h : te σ H fun x H1 => tl σ H1 fun y H2 => ts σ H2 fun z H3 => rStep K x y z H3 Q) : tStep K te tl ts σ H Q := h
theorem w_extT {l b : Addr} {xs zs : List V} (h1 : H l = some (.lst xs)) (h2 : H b = some (.tup zs)) (hz : xs.length + zs.length ≤ sizeLine) (h : ∀ H1, H1 l = some (.lst (xs ++ zs)) → Off l H H1 → Q .non H1) : rExtT K (.ref l) [.ref b] H Q :=
  ⟨l, b, xs, zs, rfl, rfl, h1, h2, hz, h _ upd_same fun b n => upd_ne n⟩
end
end FW

set_option Elab.async false
set_option linter.all false
set_option maxRecDepth 100000
set_option maxHeartbeats 4000000
/-! a, .., *rest = t: the last target starred, t a tuple -/
namespace FW
open PySem PySem.Spec PyProof.Rows L2
section
variable {prog : Program} {w : World} {A : Around} {E : Value → Shared → Prop} {s : Shared}
theorem walks_shift {I : Addr} {fp wr : List Addr} {G : Array GenState → Array GenState → Prop} {n : Nat} {P : Nat → Value → Prop} {St : Nat → Shared → Prop} (W : WalksS prog w A I fp wr G n P St) {j : Nat} (hj : j ≤ n) : WalksS prog w A I fp wr G (n - j) (fun i => P (j + i)) (fun i => St (j + i)) where
  sub := W.sub
  grefl := W.grefl
  gtrans := W.gtrans
  frame := fun i => W.frame (j + i)
  item := fun i s Q E hi st hQ => W.item (j + i) s Q E (by omega) st fun v s' hp hs hm => hQ v s' hp hs hm
  done := fun s Q E st hQ => W.done s Q E (by rw [show j + (n - j) = n by omega] at st; exact st) hQ
  self := fun i => W.self (j + i)
end
/-- n names, then a starred one -/
def gStar (K : PySem.W.Frag) (j : Nat) (t : TGs) : TG := fun v σ H Q => ∃ a xs, v = .ref a ∧ SqT K H a xs ∧ j ≤ xs.length ∧ ∀ L, H L = none → t (xs.take j ++ [.ref L]) σ (upd H L (.lst (xs.drop j))) Q
section
variable {X : Cx} {pos : Pos}
theorem pgs_star {x : Str} {p1 p2 : Pos} {es : List Expr} {t : TG} {u : TGs} (h1 : PG X (.Name x p1) t) (h2 : PGs X es u) : PGs X (.Starred (.Name x p1) p2 :: es) (gCons t u) :=
  ⟨fun pins s σ H vs us Q I r h => (pgs_cons h1 h2).run pins s σ H vs us Q I r h⟩
end
end FW

set_option Elab.async false
set_option linter.all false
set_option maxRecDepth 100000
set_option maxHeartbeats 4000000
/-! try with several except clauses, each with or without a name -/
namespace FW
open PySem PySem.Spec PyProof.Rows L2
abbrev Suite := Addr → Value → Option Addr → TS
/-- the ends behind a suite whose name goes -/
def unset (i : Nat) (D : Ends) : Ends := ⟨fun σ H => D.nx (σ.set i none) H, D.rt, fun σ H => D.bk (σ.set i none) H, fun σ H => D.ct (σ.set i none) H⟩
def runCl (o : Option Nat) (ts : Suite) (a : Addr) (cls : Value) (d : Option Addr) (D : Ends) (σ : L2.St) (H : Hp) : Prop :=
  match o with
  | none => ts a cls d D σ H
  | some i => ts a cls d (unset i D) (σ.set i (some (.ref a))) H
def wCl (K : PySem.W.Frag) (Wo : WX) (D : Ends) : List (Value × Option Nat × Suite) → WX
  | [] => Wo
  | (c, o, ts) :: r => fun cls d σ H => ∃ b, PySem.W.exmOne K cls c = some b ∧ (b = true → ∀ a, H a = none → runCl o ts a cls d D σ H) ∧ (b = false → wCl K Wo D r cls d σ H)
inductive ClOk (X : Cx) : List ExceptHandler → List (Value × Option Nat × Suite) → Prop
  | nil : ClOk X [] []
  | only {x : Str} {c : Value} {ts : Suite} {st : Stmt} {sts : List Stmt} {p1 p2 : Pos} {hs : List ExceptHandler} {l : List (Value × Option Nat × Suite)} (nm : Names X x c)
      (su : ∀ a oe cls d pn, Zc cls d oe → (∃ vs, oe.data = .fields vs) → PSs (X.suite a ((a, oe) :: pn)) (st :: sts) (ts a cls d)) (r : ClOk X hs l) :
      ClOk X (.ExceptHandler (some (.Name x p1)) none (st :: sts) p2 :: hs) ((c, none, ts) :: l)
  | as {x n : Str} {c : Value} {i : Nat} {ts : Suite} {st : Stmt} {sts : List Stmt} {p1 p2 : Pos} {hs : List ExceptHandler} {l : List (Value × Option Nat × Suite)} (hi : X.N[i]? = some n) (hl : X.env.kindOf n = some .local) (nm : Names X x c)
      (su : ∀ a oe cls d pn, Zc cls d oe → (∃ vs, oe.data = .fields vs) → PSs (X.suite a ((a, oe) :: pn)) (st :: sts) (ts a cls d)) (r : ClOk X hs l) :
      ClOk X (.ExceptHandler (some (.Name x p1)) (some n) (st :: sts) p2 :: hs) ((c, some i, ts) :: l)
def tTryG (K : PySem.W.Frag) (l : List (Value × Option Nat × Suite)) (Wo : WX) (tb : WX → TS) : TS := fun D σ H => tb (wCl K Wo D l) D σ H
section
variable {X : Cx} {body : List Stmt} {h1 : ExceptHandler} {hs : List ExceptHandler} {l : List (Value × Option Nat × Suite)} {pos : Pos} {tb : WX → TS} {Wo : WX}
end
section
variable {K : PySem.W.Frag} {σ : L2.St} {H : Hp} {nx bk ct : L2.St → Hp → Prop} {rt : VK}
theorem w_tryG {l : List (Value × Option Nat × Suite)} {Wo : WX} {tb : WX → TS} (h : tb (wCl K Wo ⟨nx, rt, bk, ct⟩ l) ⟨nx, rt, bk, ct⟩ σ H) : tTryG K l Wo tb ⟨nx, rt, bk, ct⟩ σ H := h
end
end FW

set_option Elab.async false
set_option linter.all false
set_option maxRecDepth 100000
set_option maxHeartbeats 4000000
/-! {tuple: value for a in as if ..}: a dict keyed by tuples, one clause; pairs looked for in tuples; zip of tuples -/
namespace FW
open PySem PySem.Spec PyProof.Rows L2
section
variable {kx vx ta ia : Expr} {fa : List Expr} {sc : Scope} {ps : Pos}
abbrev one (kx vx ta ia : Expr) (fa : List Expr) (sc : Scope) (ps : Pos) : Expr := .DictComp kx vx [⟨ta, ia, fa, 0⟩] sc ps
variable {pg : Program} {wd : World} {A : Around} {R : Result → Shared → Prop} {st : Shared} {it : Value} {D : Addr} {env : Env}
end
section
variable {X : Cx}
variable {kx vx ta ia : Expr} {fa : List Expr} {sc : Scope} {ps qs : Pos} {own : List (Str × Nat)} {wa : TI} {ga : TG} {ra : TT} {tk tv : TE}
def DcTP (J : It) (g : TG) (tt : TT) (tk tv : TE) (vs : List Nat) (Q : VK) (σ : L2.St) (H1 : Hp) : Prop := ∀ D, H1 D = none → ∃ W : Nat → Nat → Hp → Prop, (∃ m, W 0 m (upd H1 D (.dT []))) ∧ ∀ i m H, W i m H →
  (J.stop i H ∧ Q (.ref D) H) ∨ (J.go i H ∧ ∃ Nx : Hp → Prop, (∀ H', Nx H' → ∃ m', m' < m ∧ W (i + 1) m' H') ∧ ∀ x H', J.yld i H x H' → g x (wipe σ vs) H' fun σ2 H2 => wipe σ2 vs = wipe σ vs ∧ tt σ2 H2 fun b H3 =>
    if b = true then tk σ2 H3 fun y H4 => tv σ2 H4 fun z H5 => ∃ kvs k b, y = .ref b ∧ H5 b = some (.tup (k.map kV)) ∧ H5 D = some (.dT kvs) ∧ kvs.length < sizeLine ∧ Nx (upd H5 D (.dT (putK kvs k z))) else Nx H3)
def tDcT (wi : TI) (g : TG) (tt : TT) (tk tv : TE) (vs : List Nat) : TE := fun σ H Q => wi σ H fun J H1 => DcTP J g tt tk tv vs Q σ H1
/-- a pair of ints that is not in a tuple of such -/
def rNotInT (K : PySem.W.Frag) : R2 := fun x y H Q => ∃ (p a : Addr) (v b : Int) (an : List (Addr × Int × Int)), x = .ref p ∧ y = .ref a ∧ H p = some (.tup [.int v, .int b]) ∧ SqT K H a (an.map fun q => .ref q.1) ∧ (∀ q ∈ an, H q.1 = some (.tup [.int q.2.1, .int q.2.2])) ∧ Q (.bl (decide ((v, b) ∉ an.map (·.2)))) H
end
section
variable {K : PySem.W.Frag} {σ : L2.St} {H : Hp} {Q : VK} {nx bk ct : L2.St → Hp → Prop} {rt : VK}
theorem w_dct {wi : TI} {g : TG} {tt : TT} {tk tv : TE} {vs : List Nat} (h : wi σ H fun J H1 => DcTP J g tt tk tv vs Q σ H1) : tDcT wi g tt tk tv vs σ H Q := h
/-- for a, b in zip(tuple, tuple) -/
def rZipA (K : PySem.W.Frag) (vs : List V) (H : Hp) (R : It → Hp → Prop) : Prop := ∃ a b xs ys, vs = [.ref a, .ref b] ∧ ((SqL K H a xs ∧ SqL K H b ys ∧ R (Itz K a b) H) ∨ (SqT K H a xs ∧ SqT K H b ys ∧ R (RZ.ItzT K a b) H))
theorem w_zipA {ta : TA} {R : It → Hp → Prop} (h : ta σ H fun vs H1 => rZipA K vs H1 R) : RZ.iZipA K ta σ H R := h
theorem w_zipT' {a b : Addr} {xs ys : List V} {R : It → Hp → Prop} (h1 : SqT K H a xs) (h2 : SqT K H b ys) (h : R (RZ.ItzT K a b) H) : rZipA K [.ref a, .ref b] H R := ⟨a, b, xs, ys, rfl, .inr ⟨h1, h2, h⟩⟩
theorem lp_zipT {a b : Addr} {xs ys : List V} {g : TG} {tb : TS} (hl : xs.length = ys.length) (Pv : Nat → L2.St → Hp → Prop) (h0 : Pv 0 σ H) (hq : ∀ i σ H, Pv i σ H → SqT K H a xs ∧ SqT K H b ys)
    (hs : ∀ i x y T σ H H', xs[i]? = some x → ys[i]? = some y → Pv i σ H → H T = none → H' T = some (.tup [x, y]) → Same H H' → g (.ref T) σ H' fun σ2 H2 => tb ⟨Pv (i + 1), rt, nx, Pv (i + 1)⟩ σ2 H2) (hd : ∀ σ H, Pv xs.length σ H → nx σ H) : Lp (RZ.ItzT K a b) g tb ⟨nx, rt, bk, ct⟩ σ H :=
  RZ.for_zipT (D := ⟨nx, rt, bk, ct⟩) hl Pv h0 hq (fun i x y T σ H hx hy p hT => hs i x y T σ H _ hx hy p hT upd_same (Same.new hT)) hd
end
end FW

set_option Elab.async false
set_option linter.all false
set_option maxRecDepth 100000
set_option maxHeartbeats 4000000
/-! try: .. except (A, B): .. -/
namespace FW
open PySem PySem.Spec PyProof.Rows L2
def wTwo (K : PySem.W.Frag) (c1 c2 : Value) (ts : Suite) (D : Ends) : WX := fun cls d σ H => PySem.W.exmAny K cls [c1, c2] = some true ∧ ∀ a, H a = none → ts a cls d D σ H
def tTry2 (K : PySem.W.Frag) (c1 c2 : Value) (tb : WX → TS) (ts : Suite) : TS := fun D σ H => tb (wTwo K c1 c2 ts D) D σ H
section
variable {X : Cx} {body sts : List Stmt} {st : Stmt} {x1 x2 : Str} {c1 c2 : Value} {p1 p2 p3 p4 p5 : Pos} {kk : Nat} {tb : WX → TS} {ts : Suite}
end
end FW

set_option Elab.async false
set_option linter.all false
set_option maxRecDepth 100000
set_option maxHeartbeats 4000000
/-! texts: len, in, signs one by one, join; lists taken apart; all -/
namespace FW
open PySem PySem.Spec PyProof.Rows L2
def rLenS : List V → Hp → VK → Prop := fun xs H Q => ∃ z, xs = [.str z] ∧ z.length ≤ sizeLine ∧ Q (.int z.length) H
def rInS : R2 := fun x y H Q => ∃ (c : Nat) (z : Str), x = .str ⟨#[c]⟩ ∧ y = .str z ∧ Q (.bl (decide (c ∈ z.cps.toList))) H
def rJoin (K : PySem.W.Frag) : V → List V → Hp → VK → Prop := fun x xs H Q => ∃ a p, ∃ ys : List Str, x = .str a ∧ xs = [.ref p] ∧ (SqL K H p (ys.map V.str) ∨ SqT K H p (ys.map V.str)) ∧ (ys.map (·.length)).sum + ys.length * a.length ≤ 16777216 ∧ Q (.str (Txt.join a ys)) H
def rIStr (v : V) (H : Hp) (R : It → Hp → Prop) : Prop := ∃ x, v = .str x ∧ R (Its x) H
def rLtS : R2 := fun x y H Q => ∃ i j : Str, x = .str i ∧ y = .str j ∧ Q (.bl (decide (i.cps.toList < j.cps.toList))) H
def rGtS : R2 := fun x y H Q => ∃ i j : Str, x = .str i ∧ y = .str j ∧ Q (.bl (decide (j.cps.toList < i.cps.toList))) H
section
variable {X : Cx}
theorem o_ltS : OpR X (compareOp .Lt) rLtS := op_lt_str
theorem c_lenS : CallR X (.builtin "len") rLenS := call_len_str
theorem o_inS : OpR X (compareOp .In) rInS := op_in_sign
theorem p_join {o e : Expr} {to te : TE} {apos pos : Pos} (ho : PE X o to) (he : PE X e te) (hs : starEach [e] X.env = [(false, eval e X.env)] := by rfl) (hbase : attributeBase o "join" X.env (eval o X.env) = eval o X.env := by rfl) (hline : (apos.endLine == pos.line) = true := by rfl) :
    PE X (.Call (.Attribute o "join" apos) [e] [] pos) (tM1 (rJoin X.K) to te) := pe_join ho he hs hbase hline
end
section
variable {K : PySem.W.Frag} {σ : L2.St} {H : Hp} {Q : VK} {nx bk ct : L2.St → Hp → Prop} {rt : VK}
theorem w_callD {sp : Sp} {dvs : List V} {E : XK} {t : TA} (h : t σ H fun vs H1 => sp (vs ++ dvs) H1 Q E) : tCall sp dvs E t σ H Q := h
theorem w_ipI {g : Int → Int → Int} {i j : Int} (h : Q (.int (g i j)) H) : ipI g (.int i) (.int j) H Q := ⟨i, j, rfl, rfl, h⟩
theorem w_ltS {x y : Str} (h : Q (.bl (decide (x.cps.toList < y.cps.toList))) H) : rLtS (.str x) (.str y) H Q := ⟨x, y, rfl, rfl, h⟩
theorem w_gtS {x y : Str} (h : Q (.bl (decide (y.cps.toList < x.cps.toList))) H) : rGtS (.str x) (.str y) H Q := ⟨x, y, rfl, rfl, h⟩
theorem w_neS {x y : Str} (h : Q (.bl (!decide (x = y))) H) : rNe (.str x) (.str y) H Q := ⟨rfl, by
  have e : decide (V.str x = V.str y) = decide (x = y) := by
    by_cases q : x = y
    · subst q; rw [decide_eq_true rfl, decide_eq_true rfl]
    · rw [decide_eq_false q, decide_eq_false (fun z => q (V.str.inj z))]
  rw [e]; exact h⟩
theorem w_lenS {z : Str} (h1 : z.length ≤ sizeLine) (h : Q (.int z.length) H) : rLenS [.str z] H Q := ⟨z, rfl, h1, h⟩
theorem w_inS {c : Nat} {z : Str} (h : Q (.bl (decide (c ∈ z.cps.toList))) H) : rInS (.str ⟨#[c]⟩) (.str z) H Q := ⟨c, z, rfl, rfl, h⟩
theorem w_ixS {z : Str} {i : Int} {c : Nat} (h1 : z.length ≤ sizeLine) (h2 : atI z.cps.toList i = some c) (h : Q (.str ⟨#[c]⟩) H) : rIxS (.str z) (.int i) H Q := ⟨z, i, c, rfl, rfl, h1, h2, h⟩
theorem w_m1 {r : V → List V → Hp → VK → Prop} {to te : TE} (h : to σ H fun x H1 => (∃ a, x = .str a) ∧ te σ H1 fun y H2 => r x [y] H2 Q) : tM1 r to te σ H Q := h
theorem w_isS {z : Str} {A : Prop} (h : A) : (∃ a, V.str z = .str a) ∧ A := ⟨⟨z, rfl⟩, h⟩
theorem w_joinL {a : Str} {p : Addr} {ys : List Str} (h1 : SqL K H p (ys.map V.str)) (h2 : (ys.map (·.length)).sum + ys.length * a.length ≤ 16777216) (h : Q (.str (Txt.join a ys)) H) : rJoin K (.str a) [.ref p] H Q := ⟨a, p, ys, rfl, rfl, .inl h1, h2, h⟩
theorem w_istr {te : TE} {R : It → Hp → Prop} (h : te σ H fun v H1 => rIStr v H1 R) : iStr te σ H R := h
theorem w_istr' {z : Str} {R : It → Hp → Prop} (h : R (Its z) H) : rIStr (.str z) H R := ⟨z, rfl, h⟩
theorem walk_str (x : Str) : Walk (Its x) x.cps.size (fun _ => True) (fun i H v H' => H' = H ∧ ∃ c, x.cps[i]? = some c ∧ v = .str ⟨#[c]⟩) := ⟨fun _ _ hi _ => hi, fun _ _ => Nat.le_refl _, fun _ _ _ _ _ _ y => y⟩
theorem w_glst {a : Addr} {xs : List V} {n : Nat} {t : TGs} {R : L2.St → Hp → Prop} (h1 : SqL K H a xs) (h2 : xs.length = n) (h : t xs σ H R) : gLst K n t (.ref a) σ H R := ⟨a, xs, rfl, h1, h2, h⟩
theorem w_all {p : Addr} {bs : List Bool} (h1 : SqL K H p (bs.map V.bl)) (h : Q (.bl (bs.all id)) H) : rAll K [.ref p] H Q := ⟨p, bs, rfl, h1, h⟩
theorem w_augI {i : Nat} {te : TE} {ti : TIp} {v : V} (e : σ[i]? = some (some v)) (h : te σ H fun x H1 => ti v x H1 fun z H2 => nx (σ.set i (some z)) H2) : tAug i te ti ⟨nx, rt, bk, ct⟩ σ H := ⟨v, e, h⟩
end
section
variable {P : Program} {w : World} {K : PySem.W.Frag} {mg : Str → Option Value} {base : Heap} {x qual : Str} {params : Arguments} {body : List Stmt} {scope : Scope} {dvs : List V} {kws : List (Str × V)} {f : Addr} {fd : FuncData}
end
/-- a def with defaults -/
structure DfD (K : PySem.W.Frag) (mg : Str → Option Value) (x : Str) (st : Stmt) (ps : List Str) (dvs : List V) (f : Addr) (fd : FuncData) : Prop where
  fn : FunD K x x (defArgs st) (defBody st) (defScope st) dvs [] f fd
  g : mg x = some (.ref f)
  kp : PySem.W.keepIn K (.ref f) = true
  b : ∃ ds, Vals dvs ds ∧ Binds K fd ps ds
/-- a def with several keyword-only defaults -/
structure DfKs (K : PySem.W.Frag) (mg : Str → Option Value) (x : Str) (st : Stmt) (ps : List Str) (kws : List (Str × V)) (dvs : List V) (f : Addr) (fd : FuncData) : Prop where
  fn : FunD K x x (defArgs st) (defBody st) (defScope st) [] kws f fd
  g : mg x = some (.ref f)
  kp : PySem.W.keepIn K (.ref f) = true
  b : ∃ ds, Vals dvs ds ∧ Binds K fd ps ds
theorem join_cps' : ∀ ys : List Str, (Str.join (Str.ofString "") ys).cps.toList = (ys.map fun y => y.cps.toList).flatten
  | [] => rfl
  | [y] => by
    show y.cps.toList = _
    simp
  | y :: z :: r => by
    have ih := join_cps' (z :: r)
    show (y.cps ++ (Str.ofString "").cps ++ (Str.join (Str.ofString "") (z :: r)).cps).toList = _
    rw [Array.toList_append, Array.toList_append, ih, List.map_cons (l := z :: r), List.flatten_cons]
    show y.cps.toList ++ [] ++ _ = _
    rw [List.append_nil]
theorem join_cps (ys : List Str) : (Txt.join (Str.ofString "") ys).cps.toList = (ys.map fun y => y.cps.toList).flatten := by
  have e : Txt.join (Str.ofString "") ys = Str.join (Str.ofString "") ys := StrLaws.glued_eq_join _ _
  rw [e]
  exact join_cps' ys
end FW

set_option Elab.async false
set_option linter.all false
set_option maxRecDepth 100000
set_option maxHeartbeats 4000000
/-! t[::-1] of a tuple -/
namespace HT
open PySem PySem.Spec PyProof.Rows
section
variable {prog : Program} {w : World} {A : Around} {E : Value → Shared → Prop} {s : Shared}
end
end HT
namespace FW
open PySem PySem.Spec PyProof.Rows L2
/-- t[::-1] -/
def rRevT (K : PySem.W.Frag) (x z : V) (H : Hp) (Q : VK) : Prop := ∃ (a : Addr) (xs : List V), x = .ref a ∧ z = .int (-1) ∧ SqT K H a xs ∧ Nw (.tup xs.reverse) H Q
def tRevT (K : PySem.W.Frag) (te ts : TE) : TE := fun σ H Q => te σ H fun x H1 => ts σ H1 fun z H3 => rRevT K x z H3 Q
section
variable {X : Cx}
end
section
variable {K : PySem.W.Frag} {σ : L2.St} {H : Hp} {Q : VK}
theorem w_revT {te ts : TE} (h : te σ H fun x H1 => ts σ H1 fun z H3 => rRevT K x z H3 Q) : tRevT K te ts σ H Q := h
end
end FW

set_option Elab.async false
set_option linter.all false
set_option maxRecDepth 100000
set_option maxHeartbeats 4000000
/-! text * number, tuple * number, texts put together -/
namespace FW
open PySem PySem.Spec PyProof.Rows L2
def rRepS : R2 := fun x y H Q => ∃ (z : Str) (k : Int), x = .str z ∧ y = .int k ∧ z.length ≤ 16 ∧ 0 ≤ k ∧ k ≤ 1000 ∧ Q (.str (Txt.mul z k)) H
def rAddS : R2 := fun x y H Q => ∃ i j : Str, x = .str i ∧ y = .str j ∧ i.length + j.length ≤ sizeLine ∧ Q (.str (i ++ j)) H
theorem o_addS {X : Cx} : OpR X (binaryOp .Add) rAddS := op_add_str
section
variable {K : PySem.W.Frag} {H : Hp} {Q : VK}
theorem w_addS {i j : Str} (h1 : i.length + j.length ≤ sizeLine) (h : Q (.str (i ++ j)) H) : rAddS (.str i) (.str j) H Q := ⟨i, j, rfl, rfl, h1, h⟩
end
end FW

set_option Elab.async false
set_option linter.all false
set_option maxRecDepth 100000
set_option maxHeartbeats 4000000
/-! dicts whose keys are nested tuples of ints, texts and None -/
namespace FW
open PySem PySem.Spec PyProof.Rows L2
mutual
/-- the thing v is the key k -/
inductive NAt (H : Hp) : NestedKey → V → Prop
  | non : NAt H .none .non
  | int (i : Int) : NAt H (.num i) (.int i)
  | str (x : Str) : NAt H (.text x) (.str x)
  | tup {a : Addr} {ks : List NestedKey} {xs : List V} : H a = some (.tup xs) → NAll H ks xs → NAt H (.tup ks) (.ref a)
  | frz {a : Addr} {o : Obj} {ks : List NestedKey} {xs : List V} : H a = some (.frz o (.tup xs)) → NAll H ks xs → NAt H (.tup ks) (.ref a)
inductive NAll (H : Hp) : List NestedKey → List V → Prop
  | nil : NAll H [] []
  | cons {k : NestedKey} {v : V} {ks : List NestedKey} {vs : List V} : NAt H k v → NAll H ks vs → NAll H (k :: ks) (v :: vs)
end
mutual
theorem NAt.kt {H H' : Hp} (t : KT H H') : ∀ (k : NestedKey) (v : V), NAt H k v → NAt H' k v
  | .none, _, h => by cases h; exact .non
  | .num i, _, h => by cases h; exact .int i
  | .text x, _, h => by cases h; exact .str x
  | .tup ks, _, h => by
    cases h with
    | tup e all => exact .tup (t _ _ e) (NAll.kt t ks _ all)
    | frz e all => exact .frz (t.f _ _ _ e) (NAll.kt t ks _ all)
theorem NAll.kt {H H' : Hp} (t : KT H H') : ∀ (ks : List NestedKey) (vs : List V), NAll H ks vs → NAll H' ks vs
  | [], _, h => by cases h; exact .nil
  | k :: ks, _, h => by
    cases h with
    | cons a b => exact .cons (NAt.kt t k _ a) (NAll.kt t ks _ b)
end
mutual
theorem NAt.inj {H : Hp} : ∀ (k k' : NestedKey) (v : V), NAt H k v → NAt H k' v → k = k'
  | .none, _, _, h, h' => by cases h; cases h'; rfl
  | .num i, _, _, h, h' => by cases h; cases h'; rfl
  | .text x, _, _, h, h' => by cases h; cases h'; rfl
  | .tup ks, _, _, h, h' => by
    cases h with
    | tup e all =>
      cases h' with
      | tup e' all' =>
        rw [e] at e'
        cases e'
        rw [NAll.inj ks _ _ all all']
      | frz e' all' =>
        rw [e] at e'
        cases e'
    | frz e all =>
      cases h' with
      | tup e' all' =>
        rw [e] at e'
        cases e'
      | frz e' all' =>
        rw [e] at e'
        cases e'
        rw [NAll.inj ks _ _ all all']
theorem NAll.inj {H : Hp} : ∀ (ks ks' : List NestedKey) (vs : List V), NAll H ks vs → NAll H ks' vs → ks = ks'
  | [], _, _, h, h' => by cases h; cases h'; rfl
  | k :: ks, _, _, h, h' => by
    cases h with
    | cons a b =>
      cases h' with
      | cons a' b' => rw [NAt.inj k _ _ a a', NAll.inj ks _ _ b b']
end
section
variable {X : Cx} {pins : List (Addr × Obj)} {σ : L2.St} {H : Hp} {s : Shared}
mutual
theorem NAt.is (I : Inv X pins σ H s) : ∀ (k : NestedKey) (v : V) (u : Value), NAt H k v → RelV v u → NestedIs s.heap k u
  | .none, _, _, h, r => by
    cases h
    cases r
    exact .none
  | .num i, _, _, h, r => by
    cases h
    obtain ⟨t, rfl⟩ := r
    exact .int i t
  | .text x, _, _, h, r => by
    cases h
    obtain ⟨t, rfl⟩ := r
    exact .text x t
  | .tup ks, _, _, h, r => by
    cases h with
    | @tup a _ xs e all =>
      cases r
      obtain ⟨_, its, rel, o, h1, h2, n, h3⟩ := (show ObjOk X.prog X.w H s.heap a (.tup xs) from I.hok a _ e)
      exact .tup h1 h2 h3 (NAll.is I ks _ _ all rel)
    | @frz a ob _ xs e all =>
      cases r
      obtain ⟨_, _, its, rel, o, h1, h2, n, h3⟩ := (show ObjOk X.prog X.w H s.heap a (.frz ob (.tup xs)) from I.hok a _ e)
      exact .tup h1 h2 h3 (NAll.is I ks _ _ all rel)
theorem NAll.is (I : Inv X pins σ H s) : ∀ (ks : List NestedKey) (vs : List V) (us : List Value), NAll H ks vs → Vals vs us → NestedAll s.heap ks us
  | [], _, _, h, r => by
    cases h
    cases r
    exact .nil
  | k :: ks, _, _, h, r => by
    cases h with
    | cons a b =>
      cases r with
      | cons ra rb => exact .cons (NAt.is I k _ _ a ra) (NAll.is I ks _ _ b rb)
end
end
abbrev NEnt := NestedKey × Addr × V
def NVal (xs : List NEnt) (k : NestedKey) : Option V := (xs.find? fun x => decide (x.1 = k)).map (·.2.2)
def NPut (xs : List NEnt) (k : NestedKey) (a : Addr) (v : V) : List NEnt := if (NVal xs k).isSome then xs.map (fun x => if x.1 = k then (x.1, x.2.1, v) else x) else xs ++ [(k, a, v)]
abbrev NRel : List NEnt → List (NestedKey × Addr × Value) → Prop := Paired fun p q => p.1 = q.1 ∧ p.2.1 = q.2.1 ∧ RelV p.2.2 q.2.2
theorem NRel.val {xs : List NEnt} {ys : List (NestedKey × Addr × Value)} (r : NRel xs ys) (k : NestedKey) : RelO (NVal xs k) ((atKey ys k).map (·.2)) := by
  induction r with
  | nil => exact True.intro
  | @cons p q ps qs h t ih =>
    obtain ⟨h1, _, h2⟩ := h
    by_cases e : p.1 = k
    · have e' : q.1 = k := h1.symm.trans e
      have b : atKey (q :: qs) k = some q.2 := by simp [atKey, List.find?_cons, e']
      have c : NVal (p :: ps) k = some p.2.2 := by simp [NVal, List.find?_cons, e]
      rw [c, b]
      exact h2
    · have e' : ¬ q.1 = k := fun z => e (h1.trans z)
      have b : atKey (q :: qs) k = atKey qs k := by simp [atKey, List.find?_cons, e']
      have c : NVal (p :: ps) k = NVal ps k := by simp [NVal, List.find?_cons, e]
      rw [c, b]
      exact ih
theorem NRel.put {xs : List NEnt} {ys : List (NestedKey × Addr × Value)} (r : NRel xs ys) (k : NestedKey) (b : Addr) {y : V} {u : Value} (ry : RelV y u) : NRel (NPut xs k b y) (storedH ys k b u) := by
  have e : (NVal xs k).isSome = (atKey ys k).isSome := by rw [(r.val k).isSome_eq, Option.isSome_map]
  unfold NPut storedH
  rw [e]
  by_cases q : (atKey ys k).isSome = true
  · rw [if_pos q, if_pos q]
    clear e q
    induction r with
    | nil => exact .nil
    | @cons p q ps qs h t ih =>
      rw [List.map_cons, List.map_cons]
      refine .cons ?_ ih
      obtain ⟨h1, h2, h3⟩ := h
      unfold putAt
      by_cases e : p.1 = k
      · rw [if_pos e, if_pos (h1.symm.trans e)]
        exact ⟨h1, h2, ry⟩
      · rw [if_neg e, if_neg (fun z => e (h1.trans z))]
        exact ⟨h1, h2, h3⟩
  · rw [if_neg q, if_neg q]
    exact Paired.snoc r ⟨rfl, rfl, ry⟩
/-- the dict at a, keyed by nested tuples -/
def NO (P : Program) (w : World) (a : Addr) (xs : List NEnt) : HO := .ext fun h => xs.length ≤ sizeLine ∧ (a == sysModules) = false ∧ ∃ ys : List (NestedKey × Addr × Value), NRel xs ys ∧
  ∃ o es ep, h.get? a = some o ∧ o.ExactDict ∧ o.data = .dict es ep ∧ es.toList = ys.map (entryOfKey (nestedKind P w)) ∧ (ys.map (·.1)).Nodup
structure NDict (P : Program) (w : World) (H : Hp) (a : Addr) (xs : List NEnt) : Prop where
  at' : H a = some (NO P w a xs)
  keys : ∀ p ∈ xs, NAt H p.1 (.ref p.2.1) ∧ p.1.depth ≤ 8
theorem NDict.kp {P : Program} {w : World} {M : List Addr} {H H' : Hp} {a : Addr} {xs : List NEnt} (d : NDict P w H a xs) (k : Kp M H H') (t : KT H H') (h : a ∉ M) : NDict P w H' a xs :=
  ⟨k _ _ h d.at', fun p hp => ⟨NAt.kt t _ _ (d.keys p hp).1, (d.keys p hp).2⟩⟩
section
variable {X : Cx} {pins : List (Addr × Obj)} {σ : L2.St} {H : Hp} {s : Shared} {a : Addr} {xs : List NEnt}
variable {b : Addr} {k : NestedKey} {A : Around} {E : Value → Shared → Prop} {v : V} {r : Value}
end
/-! ### the rules -/
def rNIn (P : Program) (w : World) (x y : V) (H : Hp) (Q : VK) : Prop := ∃ a b xs k, x = .ref a ∧ y = .ref b ∧ NDict P w H a xs ∧ NAt H k (.ref b) ∧ k.depth ≤ 8 ∧ Q (.bl (NVal xs k).isSome) H
def rNGet (P : Program) (w : World) (x y : V) (H : Hp) (Q : VK) : Prop := ∃ a b xs k v, x = .ref a ∧ y = .ref b ∧ NDict P w H a xs ∧ NAt H k (.ref b) ∧ k.depth ≤ 8 ∧ NVal xs k = some v ∧ Q v H
def rNIs (P : Program) (w : World) (x : V) (H : Hp) (R : Addr → Hp → Prop) : Prop := ∃ a xs, x = .ref a ∧ NDict P w H a xs ∧ R a H
def rNGet1 (P : Program) (w : World) (a : Addr) (y : V) (H : Hp) (Q : VK) : Prop := ∃ b xs k, y = .ref b ∧ NDict P w H a xs ∧ NAt H k (.ref b) ∧ k.depth ≤ 8 ∧ Q ((NVal xs k).getD .non) H
def rNPut (P : Program) (w : World) (x y v : V) (H : Hp) (R : Hp → Prop) : Prop := ∃ a b xs k, x = .ref a ∧ y = .ref b ∧ NDict P w H a xs ∧ NAt H k (.ref b) ∧ k.depth ≤ 8 ∧ xs.length < sizeLine ∧ R (upd H a (NO P w a (NPut xs k b v)))
def tNIn (P : Program) (w : World) (ty td : TE) : TE := fun σ H Q => ty σ H fun y H1 => td σ H1 fun x H2 => rNIn P w x y H2 Q
def tNGet (P : Program) (w : World) (td ty : TE) : TE := fun σ H Q => td σ H fun x H1 => ty σ H1 fun y H2 => rNGet P w x y H2 Q
def tNGet1 (P : Program) (w : World) (td ty : TE) : TE := fun σ H Q => td σ H fun x H1 => rNIs P w x H1 fun a H1 => ty σ H1 fun y H2 => rNGet1 P w a y H2 Q
def sNPut (P : Program) (w : World) (td ty tv : TE) : TS := fun D σ H => tv σ H fun v H1 => td σ H1 fun x H2 => ty σ H2 fun y H3 => rNPut P w x y v H3 fun H4 => D.nx σ H4
def tNNew (P : Program) (w : World) : TE := fun _ H Q => ∀ p, H p = none → Q (.ref p) (upd H p (NO P w p []))
section
variable {X : Cx} {o i e value : Expr} {pos pos' tpos apos cpos : Pos} {td ty tv : TE}
end
section
variable {P : Program} {w : World} {K : PySem.W.Frag} {σ : L2.St} {H : Hp} {Q : VK} {nx bk ct : L2.St → Hp → Prop} {rt : VK} {v : V}
theorem w_nin {ty td : TE} (h : ty σ H fun y H1 => td σ H1 fun x H2 => rNIn P w x y H2 Q) : tNIn P w ty td σ H Q := h
theorem w_nget {td ty : TE} (h : td σ H fun x H1 => ty σ H1 fun y H2 => rNGet P w x y H2 Q) : tNGet P w td ty σ H Q := h
theorem w_nget1 {td ty : TE} (h : td σ H fun x H1 => rNIs P w x H1 fun a H1 => ty σ H1 fun y H2 => rNGet1 P w a y H2 Q) : tNGet1 P w td ty σ H Q := h
theorem w_nput {td ty tv : TE} (h : tv σ H fun v H1 => td σ H1 fun x H2 => ty σ H2 fun y H3 => rNPut P w x y v H3 fun H4 => nx σ H4) : sNPut P w td ty tv ⟨nx, rt, bk, ct⟩ σ H := h
theorem w_seqNP {td ty tv : TE} {u : TS} (h : tv σ H fun v H1 => td σ H1 fun x H2 => ty σ H2 fun y H3 => rNPut P w x y v H3 fun H4 => u ⟨nx, rt, bk, ct⟩ σ H4) : tSeq (sNPut P w td ty tv) u ⟨nx, rt, bk, ct⟩ σ H := h
end
end FW

set_option Elab.async false
set_option linter.all false
set_option maxRecDepth 100000
set_option maxHeartbeats 4000000
/-! sets of ints out of lists, sorted at any length -/
namespace FW
open PySem PySem.Spec PyProof.Rows L2
/-- an empty set, as set.__new__ lays it -/
abbrev es0 (w : World) : Obj := { cls := .type "set", dict := none, data := .set #[] 0 (.fresh 0 0 (!w.params.followText "set-order")) }
section
variable {P : Program} {w : World} {A : Around} {E : Value → Shared → Prop} {s : Shared}
end
def rSetL (K : PySem.W.Frag) (w : World) (vs : List V) (H : Hp) (Q : VK) : Prop := ∃ (l : Addr) (ns : List Int), vs = [.ref l] ∧ SqL K H l (ns.map V.int) ∧ ns.length ≤ 4000 ∧ ∀ (p : Addr) (c : Nat), H p = none → c ≤ ns.length → Q (.ref p) (upd H p (SetO w p (fun j => decide (j ∈ ns)) c))
def rSortS (w : World) (vs : List V) (H : Hp) (Q : VK) : Prop := ∃ (a : Addr) (S : Int → Bool) (n : Nat), vs = [V.ref a] ∧ H a = some (SetO w a S n) ∧ n ≤ 4000 ∧ ∀ (ns : List Int) (p : Addr), ns.Pairwise (· < ·) → (∀ k : Int, k ∈ ns ↔ S k = true) → H p = none → Q (.ref p) (upd H p (.lst (ns.map V.int)))
section
variable {X : Cx}
theorem c_sortS (calm : X.calm = true) : CallR X (.builtin "sorted") (rSortS X.w) := by
  intro pins s σ H vs us Q I r h
  obtain ⟨a, S, n, rfl, ha, hn4, q⟩ := h
  rw [Vals.ref1 r]
  obtain ⟨o, es, ep, t, ho, hex, hd, good, nd, hm, hb, hf, hn, ris, led⟩ := setO_get I ha
  refine Calls.call_function_entry kind_sorted plain_sorted entry_sorted (args_sorted1 _) ?_
  unfold Builtin.«sorted»; refine wpAny_bind (m := checkCount "sorted" 1 1 _) (wpAny_pure ?_)
  refine wpAny_bind (collect_set (A := X.A.in1) (I.ok.hd calm) ⟨o, ho, hex.1, hd⟩ hf hb ris led fun s1 xs k1 z1 g1 o1 pm => ?_)
  have xl : xs.length = n := by rw [pm.length_eq, List.length_map, Array.length_toList]; exact hn
  have xI : IntsAre xs (xs.map Builtin.Re.reRawOf) := L2.ints_of xs fun v hv => by
    obtain ⟨e, he, rfl⟩ := List.mem_map.mp (pm.mem_iff.mp hv)
    obtain ⟨k, tk, h1, _⟩ := good e he
    exact ⟨k, tk, h1⟩
  have pk : (xs.map Builtin.Re.reRawOf).Perm (es.toList.map keyOf) := by
    have q := pm.map Builtin.Re.reRawOf
    rwa [List.map_map] at q
  have hz : xs.length ≤ sizeLine := by rw [xl, sizeLine_eq]; omega
  refine wpAny_bind (wpAny_newList ?_ hz)
  have atL : (s1.heap.push (seqObj "list" xs.toArray 0)).get? s1.heap.objs.size = some (seqObj "list" xs.toArray 0) := Heap.get?_push_size _ rfl
  refine wpAny_bind (wpAny_holding (wpAny_call_entry slot_list_sort ⟨_, atL, rfl⟩ entry_list_sort (SrtO.list_sort_ord (s := { s1 with heap := s1.heap.push (seqObj "list" xs.toArray 0) }) SrtO.swo_int atL hz (fun h2 => SrtO.ints_sortable xI h2) fun out h1 h2 => ⟨_, rfl, ?_⟩) (args_list_sort _)))
  obtain ⟨i1, i2, i3⟩ := SrtO.ints_out xI h1 h2
  obtain ⟨e', he'⟩ := sortedHeap_at (vs := xs) (out := out.toArray) atL
  have pn : (out.map SrtO.iv).Perm (es.toList.map keyOf) := i2.trans pk
  have hlen : ((out.map SrtO.iv).map V.int).length ≤ sizeLine := by rw [List.length_map, i2.length_eq, List.length_map]; exact hz
  have free : H s1.heap.objs.size = none := I.hok.fresh z1
  have keep : ∀ b u, s.heap.get? b = some u → (sortedHeap (s1.heap.push (seqObj "list" xs.toArray 0)) s1.heap.objs.size xs out.toArray).get? b = some u := fun b u e => by
    have e1 := k1 b u e
    have lb : b < s1.heap.objs.size := Heap.lt_size e1
    rw [sortedHeap_old (Nat.ne_of_lt lb) (by rw [size_push']; exact Nat.lt_succ_of_lt lb)]
    exact Heap.get?_push_of_some _ e1
  have J : Inv X pins σ (upd H s1.heap.objs.size (.lst ((out.map SrtO.iv).map V.int))) { s with heap := sortedHeap (s1.heap.push (seqObj "list" xs.toArray 0)) s1.heap.objs.size xs out.toArray, gens := s1.gens, drawn := s1.drawn, toks := s1.toks } := I.call (ch := []) (Un.laid keep z1 free) (I.hok.laid (o := .lst ((out.map SrtO.iv).map V.int)) keep z1 ⟨hlen, out, e', vals_of_ints i1, he'⟩) (by rw [g1]; exact I.bare) (fun _ z => nomatch z)
  refine wpAny_pure ⟨_, rfl, .ref s1.heap.objs.size, upd H s1.heap.objs.size (.lst ((out.map SrtO.iv).map V.int)), ?_, rfl, q _ _ (lt_of_le_nodup _ i3 (pn.nodup_iff.mpr nd)) (fun k => by rw [pn.mem_iff, ← hm k]) free⟩
  cases s1
  cases s
  cases o1
  exact J
end
section
variable {K : PySem.W.Frag} {w : World} {H : Hp} {Q : VK}
theorem w_sortS {a : Addr} {S : Int → Bool} {n : Nat} (h1 : H a = some (SetO w a S n)) (h2 : n ≤ 4000) (h : ∀ (ns : List Int) p H1, ns.Pairwise (· < ·) → (∀ k : Int, k ∈ ns ↔ S k = true) → H p = none → H1 p = some (.lst (ns.map V.int)) → Same H H1 → Q (.ref p) H1) : rSortS w [.ref a] H Q :=
  ⟨a, S, n, rfl, h1, h2, fun ns p hs hm hp => h ns p _ hs hm hp upd_same (Same.new hp)⟩
end
end FW

set_option Elab.async false
set_option linter.all false
set_option maxRecDepth 100000
set_option maxHeartbeats 4000000
/-! objects of own classes; max with a default; data in lists -/
namespace FW
open PySem PySem.Spec PyProof.Rows L2
/-! ### max(list, default=d) -/
def rMaxD (K : PySem.W.Frag) (vs zs : List V) (H : Hp) (Q : VK) : Prop := ∃ (a : Addr) (ns : List Int) (d : Int), vs = [.ref a] ∧ zs = [.int d] ∧ SqL K H a (ns.map V.int) ∧ (ns = [] → Q (.int d) H) ∧ ∀ m, m ∈ ns → (∀ y ∈ ns, y ≤ m) → Q (.int m) H
section
variable {X : Cx} {pins : List (Addr × Obj)} {σ : L2.St} {H : Hp} {s : Shared}
end
/-! ### fields, methods, makings -/
/-- a class as the top has left it, with the names of its fields -/
structure Kl (K : PySem.W.Frag) (mg : Str → Option Value) (x : Str) (C : Addr) (as : List Str) : Prop where
  g : mg x = some (.ref C)
  cl : Cls K C
  na : ∀ f ∈ as, NoAttr K C f
/-- a method -/
structure DfM (K : PySem.W.Frag) (C : Addr) (m qual : Str) (st : Stmt) (ps : List Str) (f : Addr) (fd : FuncData) : Prop where
  fn : Fun K m qual st f fd
  b : Binds K fd ps []
  m : Meth K C m f
def rFld (K : PySem.W.Frag) (f : Str) (x : V) (H : Hp) (Q : VK) : Prop := ∃ a C dx fs v, x = .ref a ∧ H a = some (.ins C dx fs) ∧ Cls K C ∧ NoAttr K C f ∧ fs.lookup f = some v ∧ Q v H
def rFldS (K : PySem.W.Frag) (f : Str) (x y : V) (H : Hp) (R : Hp → Prop) : Prop := ∃ a C dx fs, x = .ref a ∧ H a = some (.ins C dx fs) ∧ Cls K C ∧ NoAttr K C f ∧ fs.length < 1000 ∧ R (upd H a (.ins C dx (putF f y fs)))
def rMeth (C : Addr) (m : Str) (x : V) (H : Hp) (A : Prop) : Prop := ∃ a dx fs, x = .ref a ∧ H a = some (.ins C dx fs) ∧ fs.lookup m = none ∧ A
def rMake (C : Addr) (sp : Sp) (vs : List V) (H : Hp) (Q : VK) (E : XK) : Prop := ∀ x dx, H x = none → H dx = none → dx ≠ x → sp (.ref x :: vs) (upd (upd H dx (.own x)) x (.ins C dx [])) (fun v H2 => v = .non ∧ Q (.ref x) H2) E
section
variable {K : PySem.W.Frag} {σ : L2.St} {H : Hp} {Q : VK} {nx bk ct : L2.St → Hp → Prop} {rt : VK} {v : V}
theorem w_fld {ta : TE} {f : Str} (h : ta σ H fun x H1 => rFld K f x H1 Q) : tFld K ta f σ H Q := h
theorem w_fld' {f : Str} {a C dx : Addr} {fs : List (Str × V)} (h1 : H a = some (.ins C dx fs)) (h2 : Cls K C) (h3 : NoAttr K C f) (h4 : fs.lookup f = some v) (h : Q v H) : rFld K f (.ref a) H Q := ⟨a, C, dx, fs, v, rfl, h1, h2, h3, h4, h⟩
theorem w_fldS {ta tv : TE} {f : Str} (h : tv σ H fun y H1 => ta σ H1 fun x H2 => rFldS K f x y H2 fun H3 => nx σ H3) : sFld K ta tv f ⟨nx, rt, bk, ct⟩ σ H := h
theorem w_seqFS {ta tv : TE} {f : Str} {u : TS} (h : tv σ H fun y H1 => ta σ H1 fun x H2 => rFldS K f x y H2 fun H3 => u ⟨nx, rt, bk, ct⟩ σ H3) : tSeq (sFld K ta tv f) u ⟨nx, rt, bk, ct⟩ σ H := h
theorem w_fldS' {f : Str} {a C dx : Addr} {fs : List (Str × V)} {R : Hp → Prop} (h1 : H a = some (.ins C dx fs)) (h2 : Cls K C) (h3 : NoAttr K C f) (h4 : fs.length < 1000) (h : ∀ H1, H1 a = some (.ins C dx (putF f v fs)) → Off a H H1 → R H1) : rFldS K f (.ref a) v H R :=
  ⟨a, C, dx, fs, rfl, h1, h2, h3, h4, h _ upd_same fun x hx => upd_ne hx⟩
theorem w_meth {C : Addr} {m : Str} {sp : Sp} {E : XK} {ta : TE} {t : TA} (h : ta σ H fun x H1 => rMeth C m x H1 (t σ H1 fun vs H2 => sp (x :: (vs ++ [])) H2 Q E)) : tMeth C m sp [] E ta t σ H Q := by
  unfold tMeth
  exact h
theorem w_meth' {C a dx : Addr} {m : Str} {fs : List (Str × V)} {A : Prop} (h1 : H a = some (.ins C dx fs)) (h2 : fs.lookup m = none) (h : A) : rMeth C m (.ref a) H A := ⟨a, dx, fs, rfl, h1, h2, h⟩
theorem w_make {C : Addr} {sp : Sp} {E : XK} {t : TA} (h : t σ H fun vs H1 => rMake C sp (vs ++ []) H1 Q E) : tMake C sp [] E t σ H Q := h
theorem w_make' {C : Addr} {sp : Sp} {vs : List V} {E : XK} (h : ∀ x dx H1, H x = none → H dx = none → dx ≠ x → H1 x = some (.ins C dx []) → Same H H1 → sp (.ref x :: vs) H1 (fun v H2 => v = .non ∧ Q (.ref x) H2) E) : rMake C sp vs H Q E := fun x dx hx hd hne =>
  h x dx _ hx hd hne upd_same fun b o e => by
    rw [upd_ne (ne_of_none e hx), upd_ne (ne_of_none e hd)]
    exact e
theorem w_maxD {r : List V → List V → Hp → VK → Prop} {t tk : TA} (h : t σ H fun vs H1 => tk σ H1 fun zs H2 => r vs zs H2 Q) : tCKw r t tk σ H Q := h
end
theorem pe_fldK {X : Cx} {K : PySem.W.Frag} {e : Expr} {f : Str} {pos : Pos} {ta : TE} (hk : X.K = K) (he : PE X e ta) (hb : attributeBase e f X.env (eval e X.env) = eval e X.env) : PE X (.Attribute e f pos) (tFld K ta f) := by
  subst hk
  exact pe_fld he hb
end FW

set_option Elab.async false
set_option linter.all false
set_option maxRecDepth 100000
set_option maxHeartbeats 4000000
/-! l[::-1] of a list; set of a tuple of ints; two promises of one def -/
namespace FW
open PySem PySem.Spec PyProof.Rows L2
def rRevL (K : PySem.W.Frag) (x z : V) (H : Hp) (Q : VK) : Prop := ∃ (a : Addr) (xs : List V), x = .ref a ∧ z = .int (-1) ∧ SqL K H a xs ∧ Nw (.lst xs.reverse) H Q
def tRevL (K : PySem.W.Frag) (te ts : TE) : TE := fun σ H Q => te σ H fun x H1 => ts σ H1 fun z H3 => rRevL K x z H3 Q
section
variable {X : Cx}
end
def rSetT (K : PySem.W.Frag) (w : World) (vs : List V) (H : Hp) (Q : VK) : Prop := ∃ (l : Addr) (ns : List Int), vs = [.ref l] ∧ SqT K H l (ns.map V.int) ∧ ns.length ≤ 4000 ∧ ∀ (p : Addr) (c : Nat), H p = none → c ≤ ns.length → Q (.ref p) (upd H p (SetO w p (fun j => decide (j ∈ ns)) c))
theorem c_setT {X : Cx} (calm : X.calm = true) : CallR X (.type "set") (rSetT X.K X.w) := by
  intro pins s σ H vs us Q I r h
  obtain ⟨l, ns, rfl, hl, hn, q⟩ := h
  rw [Vals.ref1 r]
  obtain ⟨its, rv, pl, hz⟩ := I.tuple hl
  refine call_set_tupI ns (I.ok.hd calm) (show s.heap.IsTuple l its.toArray from pl) (by simpa using RZ.intsAre_vals rv) (by unfold scanBound; omega) fun g tk c R hc keep => ?_
  have free : H s.heap.objs.size = none := I.hok.fresh (Nat.le_refl _)
  exact ⟨.ref s.heap.objs.size, _, I.laid (t' := tk) keep (Nat.le_refl _) (setO_new R), rfl, q _ c free hc⟩
section
variable {K : PySem.W.Frag} {w : World} {σ : L2.St} {H : Hp} {Q : VK}
theorem w_revL {te ts : TE} (h : te σ H fun x H1 => ts σ H1 fun z H3 => rRevL K x z H3 Q) : tRevL K te ts σ H Q := h
theorem w_setOfT {l : Addr} {ns : List Int} (h1 : SqT K H l (ns.map V.int)) (h2 : ns.length ≤ 4000) (h : ∀ p c H1, H p = none → c ≤ ns.length → H1 p = some (SetO w p (fun j => decide (j ∈ ns)) c) → Same H H1 → Q (.ref p) H1) : rSetT K w [.ref l] H Q :=
  ⟨l, ns, rfl, h1, h2, fun p c hp hc => h p c _ hp hc upd_same (Same.new hp)⟩
end
theorem FnOk.or {P : Program} {w : World} {K : PySem.W.Frag} {mg : Str → Option Value} {base : Heap} {CX : CXT} {k : Nat} {f : Addr} {fd : FuncData} {ps : List Str} {sp sp' : Sp} (F : FnOk P w K mg base CX k f fd ps sp) (G : FnOk P w K mg base CX k f fd ps sp') : FnOk P w K mg base CX k f fd ps (fun vs H Q E => sp vs H Q E ∨ sp' vs H Q E) :=
  ⟨fun vs H Q E q => q.elim (F.len vs H Q E) (G.len vs H Q E), fun A outer s H args us vs Q E hr he hb hv hs => hs.elim (F.run A outer s H args us vs Q E hr he hb hv) (G.run A outer s H args us vs Q E hr he hb hv)⟩
end FW

set_option Elab.async false
set_option linter.all false
set_option maxRecDepth 100000
set_option maxHeartbeats 4000000
/-! d.items() of a dict of texts and ints, and sorted of it -/
namespace FW
open PySem PySem.Spec PyProof.Rows L2
def rItemsK : V → List V → Hp → VK → Prop := fun x xs H Q => ∃ (a : Addr) (kvs : List (Key × V)), x = .ref a ∧ xs = [] ∧ H a = some (.dK kvs) ∧ ∀ p, H p = none → Q (.ref p) (upd H p (L2.DX.itemsO p a))
theorem mt_itemsK {X : Cx} : MtR X "dict.items" rItemsK := by
  intro pins s σ H x xs v us Q I rx rxs h
  obtain ⟨a, kvs, rfl, rfl, ha, q⟩ := h
  cases rx
  cases rxs
  obtain ⟨z, lo, vs, rel, dd⟩ := dk_of I.hok ha
  refine call_meetsIn PySem.F.slot_dict_items dd.typeIs PySem.F.entry_dict_items (PySem.F.args_dict_items_1 _) (meets_dict_items (mixKind X.prog X.w) a lo) ⟨⟨vs, dd⟩, ?_⟩
  have hf : H s.heap.objs.size = none := I.hok.fresh (Nat.le_refl _)
  exact ⟨.ref s.heap.objs.size, upd H s.heap.objs.size (L2.DX.itemsO s.heap.objs.size a), I.laid (t' := s.toks) (fun b u e => Heap.get?_push_of_some _ e) (Nat.le_refl _) (L2.DX.itemsO_ok (Heap.get?_push_size _ rfl)), rfl, q _ hf⟩
/-! ### the order of pairs of a text and an int -/
abbrev TI := Addr × Str × Int
def encTI (b : TI) : PyData := .tuple [.str b.2.1, .int b.2.2]
abbrev txLt (x y : Str) : Prop := x.cps.toList < y.cps.toList
theorem eqv_strs (x y : Str) : PyData.eqv (.str x) (.str y) = true ↔ x = y := by
  simp [PyData.eqv]
theorem le_TI (a b : TI) : PySem.W.dataLe false encTI a b = !(decide (txLt b.2.1 a.2.1) || (decide (a.2.1 = b.2.1) && decide (b.2.2 < a.2.2))) := by
  show (!PySem.W.dataLt (encTI b) (encTI a)) = _
  unfold encTI
  rw [PySem.W.dataLt_pair (by simp [PySem.W.alike]) (by simp [PySem.W.alike]), PySem.W.dataLt_str, PySem.W.dataLt_int]
  by_cases h : b.2.1 = a.2.1
  · rw [if_pos ((eqv_strs _ _).mpr h)]
    have h1 : ¬ txLt b.2.1 a.2.1 := by rw [h]; exact List.lt_irrefl _
    have h2 : a.2.1 = b.2.1 := h.symm
    rw [decide_eq_false h1, decide_eq_true h2]
    simp only [PyData.eqv, beq_iff_eq, Bool.false_or, Bool.true_and]
    by_cases e : b.2.2 = a.2.2
    · rw [if_pos e, decide_eq_false (by omega)]
    · rw [if_neg e]
  · rw [if_neg (fun z => h ((eqv_strs _ _).mp z))]
    have h2 : ¬ a.2.1 = b.2.1 := fun e => h e.symm
    rw [decide_eq_false h2, Bool.false_and, Bool.or_false]
theorem tx_tri {x y : Str} (h : ¬ txLt x y) : txLt y x ∨ x = y := by
  by_cases h2 : txLt y x
  · exact .inl h2
  · exact .inr (PySem.W.str_of_cps (List.le_antisymm (List.not_lt.mp h2) (List.not_lt.mp h)))
theorem le_TI_iff (a b : TI) : PySem.W.dataLe false encTI a b = true ↔ (txLt a.2.1 b.2.1 ∨ (a.2.1 = b.2.1 ∧ a.2.2 ≤ b.2.2)) := by
  rw [le_TI]
  simp only [Bool.not_eq_true', Bool.or_eq_false_iff, decide_eq_false_iff_not, Bool.and_eq_false_iff]
  constructor
  · rintro ⟨h1, h2⟩
    rcases tx_tri h1 with h | h
    · exact .inl h
    · right
      refine ⟨h.symm, ?_⟩
      rcases h2 with h2 | h2
      · exact absurd h.symm h2
      · omega
  · rintro (h | ⟨h1, h2⟩)
    · refine ⟨List.lt_asymm h, .inl fun e => ?_⟩
      rw [e] at h
      exact List.lt_irrefl _ h
    · refine ⟨?_, .inr (by omega)⟩
      rw [h1]
      exact List.lt_irrefl _
theorem totTI : PySem.W.TotalLe (PySem.W.dataLe false encTI) where
  trans a b c h1 h2 := by
    rw [le_TI_iff] at *
    rcases h1 with h1 | ⟨h1, g1⟩
    · rcases h2 with h2 | ⟨h2, g2⟩
      · exact .inl (List.lt_trans h1 h2)
      · exact .inl (h2 ▸ h1)
    · rcases h2 with h2 | ⟨h2, g2⟩
      · exact .inl (h1 ▸ h2)
      · exact .inr ⟨h1.trans h2, by omega⟩
  total a b := by
    rw [le_TI_iff, le_TI_iff]
    by_cases h : txLt a.2.1 b.2.1
    · exact .inl (.inl h)
    · rcases tx_tri h with h | h
      · exact .inr (.inl h)
      · by_cases g : a.2.2 ≤ b.2.2
        · exact .inl (.inr ⟨h, g⟩)
        · exact .inr (.inr ⟨h.symm, by omega⟩)
theorem sorted_TI {bs : List TI} (nd : (bs.map (·.2.1)).Nodup) : (bs.mergeSort (PySem.W.dataLe false encTI)).Pairwise (fun x y => txLt x.2.1 y.2.1) := by
  have h := PySem.W.sort_pairwise totTI bs
  have hp := List.mergeSort_perm bs (PySem.W.dataLe false encTI)
  have nd2 : ((bs.mergeSort (PySem.W.dataLe false encTI)).map (·.2.1)).Nodup := ((hp.map (·.2.1)).nodup_iff).mpr nd
  unfold List.Nodup at nd2
  rw [List.pairwise_map] at nd2
  refine (h.and nd2).imp fun {x y} ⟨h1, h2⟩ => ?_
  rcases (le_TI_iff _ _).mp h1 with h | ⟨h, _⟩
  · exact h
  · exact absurd h h2
/-! ### the tuples laid -/
def kvTI (qs : List (Str × Int)) : List (Key × V) := qs.map fun q => ((Sum.inr q.1 : Key), V.int q.2)
theorem tups_laid {X : Cx} {pins : List (Addr × Obj)} {σ : L2.St} {H : Hp} {s : Shared} {h' : Heap} {tk : Nat} {kvs : List (Key × V)} {vs : List (Key × Value)} {as : List Addr} (I : Inv X pins σ H s) (kv : KV kvs vs)
    (hk : ∀ b o, s.heap.get? b = some o → h'.get? b = some o) (hl : as.length = vs.length) (hG : PySem.W.KdxG (mixKind X.prog X.w) vs s.heap.objs.size h' as) :
    (∀ t ∈ as, H t = none) ∧ (∀ b o, H b = some o → LiI.putT H as kvs b = some o) ∧ Paired (fun (t : Addr) (q : Key × V) => LiI.putT H as kvs t = some (.tup [kV q.1, q.2])) as kvs ∧ Inv X pins σ (LiI.putT H as kvs) { s with heap := h', toks := tk } := by
  have lk : kvs.length = vs.length := Paired.length kv
  have nd : as.Nodup := List.Pairwise.imp (fun {a b} (h : a < b) => Nat.ne_of_lt h) hG.rise
  have new : ∀ t ∈ as, H t = none := fun t ht => I.hok.fresh (Nat.le_of_lt (hG.above t ht))
  have atP := LiI.putT_at as kvs H (by omega) nd
  have off : ∀ b, b ∉ as → LiI.putT H as kvs b = H b := fun b h1 => LiI.putT_off as kvs _ h1
  have kp : ∀ b u, H b = some u → (LiI.putT H as kvs) b = some u := fun b u e => by
    rw [off b (fun z => by rw [new b z] at e; cases e)]
    exact e
  refine ⟨new, kp, atP, ?_⟩
  refine I.call' (ch := []) rfl ⟨fun b o q _ _ _ => hk b o q, fun b o q _ _ _ => ⟨o.slots, hk b o q⟩, fun b o q n _ => ?_, fun b o q _ => ⟨o, hk b o q⟩, fun b xs q => kp b _ q, fun b o u q => kp b _ q, fun b ps q => ⟨#[], by rw [kp b _ q]; simp⟩⟩ (fun b u q => ?_) I.bare fun b z => by simp at z
  · rw [off b fun z => absurd (Heap.lt_size q) (Nat.not_lt.mpr (Nat.le_of_lt (hG.above b z)))]
    exact n
  · by_cases hb : b ∈ as
    · obtain ⟨j, pk, e1, e2, e3⟩ := LiI.paired_ix atP hb
      rw [e3] at q
      cases q
      obtain ⟨key, k, x, f1, f2, f3⟩ := hG.pairs j b e1
      obtain ⟨qv, g1, g2, g3⟩ := LiI.paired_get kv e2
      rw [f1] at g1
      cases g1
      have rk : RelV (kV pk.1) key := by
        rw [g2]
        exact relV_key (show keyIs k key = true from f2)
      exact ⟨by show 2 ≤ sizeLine; decide, [key, x], .cons rk (.cons g3 .nil), ⟨_, f3, rfl, _, rfl⟩⟩
    · rw [off b hb] at q
      exact (I.hok b u q).stay (fun d v _ y => hk d v y) (fun d y => kp d _ y) fun d xs y => kp d _ y
def rSortI (vs : List V) (H : Hp) (Q : VK) : Prop := ∃ (a d : Addr) (qs : List (Str × Int)), vs = [.ref a] ∧ H a = some (L2.DX.itemsO a d) ∧ H d = some (.dK (kvTI qs)) ∧ (qs.map (·.1)).Nodup ∧
  ∀ (H' : Hp) (p : Addr) (ts : List TI), (∀ b o, H b = some o → H' b = some o) → H p = none → H' p = some (.lst (ts.map fun t => .ref t.1)) → (∀ t ∈ ts, H' t.1 = some (.tup [.str t.2.1, .int t.2.2])) → (ts.map (·.2)).Perm qs → ts.Pairwise (fun x y => txLt x.2.1 y.2.1) → Q (.ref p) H'
theorem each_refs {out : List Value} {bs : List TI} (h : PySem.W.EachIs (fun v (b : TI) => v = Value.ref b.1) out bs) : out = bs.map fun b => Value.ref b.1 := by
  induction h with
  | nil => rfl
  | cons h1 _ ih => rw [h1, ih]; rfl
theorem zip_map2 {as : List Addr} {qs : List (Str × Int)} (h : as.length = qs.length) : (as.zip qs).map (·.2) = qs := List.map_snd_zip (by omega)
theorem c_sortI {X : Cx} (hcalm : X.calm = true) (hu : X.A.units + 64 < cLine) : CallR X (.builtin "sorted") rSortI := by
  intro pins s σ H xs us Q I r ⟨a, d, qs, ex, hv, hd, nd, q⟩
  subst ex
  obtain ⟨u, eu, rx⟩ := vals1 r
  subst eu
  cases rx
  obtain ⟨z, lo, vs, rel, dd⟩ := dk_of I.hok hd
  obtain ⟨ep, hat⟩ := dd.dictAt
  obtain ⟨hview, _, _⟩ : ObjOk X.prog X.w H s.heap a (L2.DX.itemsO a d) := I.hok a _ hv
  have lk : (kvTI qs).length = vs.length := Paired.length rel
  have lq : (kvTI qs).length = qs.length := List.length_map ..
  refine Calls.call_function_entry kind_sorted plain_sorted entry_sorted (args_sorted1 _) ?_
  unfold Builtin.«sorted»
  refine wpAny_bind (m := checkCount "sorted" 1 1 _) (wpAny_pure ?_)
  refine wpAny_bind (PySem.W.kdx_collect (A := X.A.in1) (knd := mixKind X.prog X.w) (kvs := vs) (ep := ep) (I.ok.hd hcalm) hview hat (by omega) fun h' tk as hk hl hG => ?_)
  obtain ⟨new, kp, atP, I1⟩ := tups_laid (tk := tk) I rel hk hl hG
  have hz : (as.map Value.ref).length ≤ sizeLine := by rw [List.length_map]; omega
  refine wpAny_bind (wpAny_newList ?_ hz)
  have hoL : (h'.push (seqObj "list" (as.map Value.ref).toArray 0)).get? h'.objs.size = some (seqObj "list" (as.map Value.ref).toArray 0) := Heap.get?_push_size _ rfl
  have hlz : as.length = qs.length := by omega
  have e0 : (as.zip qs).map (fun b : TI => Value.ref b.1) = as.map Value.ref := by
    rw [← List.map_fst_zip (l₁ := as) (l₂ := qs) (by omega), List.map_map]
    rw [List.map_fst_zip (by omega)]
    rfl
  have eR : PySem.W.EachIs (fun v (b : TI) => v = Value.ref b.1) (as.map Value.ref) (as.zip qs) := by
    rw [← e0]
    generalize (as.zip qs : List TI) = l
    induction l with
    | nil => exact .nil
    | cons b l ih => exact .cons rfl ih
  have rd : ∀ b ∈ (as.zip qs : List TI), ∃ ws, Reads (h'.push (seqObj "list" (as.map Value.ref).toArray 0)) (.ref b.1) (encTI b) ws ∧ h'.objs.size ∉ ws := by
    intro b hb
    obtain ⟨j, hj⟩ := List.mem_iff_getElem?.mp hb
    obtain ⟨j1, j2⟩ := List.getElem?_zip_eq_some.mp hj
    obtain ⟨key, k, x, f1, f2, f3⟩ := hG.pairs j b.1 j1
    obtain ⟨qv, g1, g2, g3⟩ := LiI.paired_get rel (i := j) (x := ((Sum.inr b.2.1 : Key), V.int b.2.2)) (by unfold kvTI; rw [List.getElem?_map, j2]; rfl)
    rw [f1] at g1
    cases g1
    obtain ⟨t2, rfl⟩ := g3
    rcases keyIs_shape (show keyIs k key = true from f2) with ⟨i, t, ek, ev⟩ | ⟨y, t, ek, ev⟩
    · rw [ek] at g2
      cases g2
    · rw [ek] at g2
      cases g2
      rw [ev] at f3
      exact ⟨_, .tuple (Heap.get?_push_of_some _ f3) rfl rfl (.cons (.str _ _) (.cons (.int _ _) .nil)), by simp⟩
  have er : PySem.W.EachIs (fun v (b : TI) => ∃ ws, Reads (h'.push (seqObj "list" (as.map Value.ref).toArray 0)) v (encTI b) ws ∧ h'.objs.size ∉ ws) (as.map Value.ref) (as.zip qs) :=
    (PySem.W.each_mem eR).mono fun v b ⟨h1, h2⟩ => by
      rw [h1]
      exact rd b h2
  have hal : PySem.W.AllAlike ((as.zip qs : List TI).map encTI) := PySem.W.AllAlike.of fun b b' => by simp [encTI, PySem.W.alike, PySem.W.alikeAll]
  have hso : PySem.W.Sortable ((as.zip qs : List TI).map encTI) := PySem.W.Sortable.tuples fun b => ⟨_, _, rfl⟩
  have lz : (as.zip qs : List TI).length = qs.length := by rw [List.length_zip]; omega
  show wpAny _ _ _ _ _ { s with heap := h'.push (seqObj "list" (as.map Value.ref).toArray 0), toks := tk }
  refine wpAny_bind (wpAny_holding (PySem.W.list_sort_data (s := { s with heap := h'.push (seqObj "list" (as.map Value.ref).toArray 0), toks := tk }) (R := fun v (b : TI) => v = Value.ref b.1) (enc := encTI) (bs := as.zip qs) hoL eR er hal hso (by rw [lz]; omega) (fun b _ => ?_) fun out ho eo => ?_))
  · have : (encTI b).depth ≤ 8 := by
      show PyData.depthAll [.str b.2.1, .int b.2.2] + 1 ≤ 8
      simp only [PyData.depthAll, PyData.depth]
      decide
    show X.A.in1.units + 1 + (encTI b).depth < cLine
    have e : X.A.in1.units = X.A.units + 1 := rfl
    omega
  · have eo' := each_refs eo
    subst eo'
    generalize hts : (as.zip qs : List TI).mergeSort (PySem.W.dataLe false encTI) = ts
    have hp : ts.Perm (as.zip qs) := by rw [← hts]; exact List.mergeSort_perm _ _
    have hsrt : ts.Pairwise (fun x y => txLt x.2.1 y.2.1) := by
      rw [← hts]
      refine sorted_TI ?_
      have : (as.zip qs : List TI).map (·.2.1) = qs.map (·.1) := by
        have e : (as.zip qs : List TI).map (·.2.1) = ((as.zip qs : List TI).map (·.2)).map (·.1) := by rw [List.map_map]; rfl
        rw [e, zip_map2 hlz]
      rw [this]
      exact nd
    obtain ⟨e', he'⟩ := sortedHeap_at (vs := as.map Value.ref) (out := (ts.map fun b => Value.ref b.1).toArray) hoL
    have lts : ts.length = qs.length := by rw [hp.length_eq, lz]
    have hf1 : LiI.putT H as (kvTI qs) h'.objs.size = none := I1.hok.fresh (Nat.le_refl _)
    have hf0 : H h'.objs.size = none := by
      cases e : H h'.objs.size with
      | none => rfl
      | some o => rw [kp _ _ e] at hf1; cases hf1
    have vts : Vals ((ts.map fun t => V.ref t.1) : List V) (ts.map fun b => Value.ref b.1) := by
      generalize ts = l
      induction l with
      | nil => exact .nil
      | cons b l ih => exact .cons rfl ih
    have hlen : ((ts.map fun t => V.ref t.1) : List V).length ≤ sizeLine := by rw [List.length_map]; omega
    refine wpAny_pure ⟨_, rfl, .ref h'.objs.size, upd (LiI.putT H as (kvTI qs)) h'.objs.size (.lst (ts.map fun t => V.ref t.1)), I1.laid (t' := tk) (fun b u e => ?_) (Nat.le_refl _) (show ObjOk X.prog X.w _ _ _ (.lst (ts.map fun t => V.ref t.1)) from ⟨hlen, _, e', vts, he'⟩), rfl, q _ _ ts (fun b o e => ?_) hf0 upd_same (fun t ht => ?_) ?_ hsrt⟩
    · have hb : b < h'.objs.size := Heap.lt_size e
      rw [sortedHeap_old (Nat.ne_of_lt hb) (by rw [size_push']; exact Nat.lt_succ_of_lt hb)]
      exact Heap.get?_push_of_some _ e
    · rw [upd_ne (fun z => by rw [z, hf0] at e; cases e)]
      exact kp b o e
    · have hm := hp.mem_iff.mp ht
      obtain ⟨j, hj⟩ := List.mem_iff_getElem?.mp hm
      obtain ⟨j1, j2⟩ := List.getElem?_zip_eq_some.mp hj
      obtain ⟨y, y1, y2⟩ := LiI.paired_get atP j1
      unfold kvTI at y1
      rw [List.getElem?_map, j2] at y1
      have y3 := Option.some.inj y1
      subst y3
      rw [upd_ne (fun z => by rw [z, hf1] at y2; cases y2)]
      exact y2
    · have := hp.map (·.2)
      rwa [zip_map2 hlz] at this
theorem w_sortI {H : Hp} {Q : VK} {a d : Addr} {qs : List (Str × Int)} (hv : H a = some (L2.DX.itemsO a d)) (hd : H d = some (.dK (kvTI qs))) (nd : (qs.map (·.1)).Nodup)
    (h : ∀ (H' : Hp) (p : Addr) (ts : List TI), Same H H' → H p = none → H' p = some (.lst (ts.map fun t => .ref t.1)) → (∀ t ∈ ts, H' t.1 = some (.tup [.str t.2.1, .int t.2.2])) → (ts.map (·.2)).Perm qs → ts.Pairwise (fun x y => txLt x.2.1 y.2.1) → Q (.ref p) H') : rSortI [.ref a] H Q := ⟨a, d, qs, rfl, hv, hd, nd, h⟩
theorem w_itemsK {H : Hp} {Q : VK} {a : Addr} {kvs : List (Key × V)} (ha : H a = some (.dK kvs)) (h : ∀ p H1, H p = none → H1 p = some (L2.DX.itemsO p a) → Same H H1 → Q (.ref p) H1) : rItemsK (.ref a) [] H Q := ⟨a, kvs, rfl, rfl, ha, fun p hp => h p _ hp upd_same (Same.new hp)⟩
end FW

set_option Elab.async false
set_option linter.all false
set_option maxRecDepth 100000
set_option maxHeartbeats 4000000
/-! a def of an own class called through the class: C.m(x, ..) -/
namespace FW
open PySem PySem.Spec PyProof.Rows L2
/-- a class's reading, with the names of fields, whatever its name -/
structure Kf (K : PySem.W.Frag) (C : Addr) (as : List Str) : Prop where
  cl : Cls K C
  na : ∀ f ∈ as, NoAttr K C f
def tClsF (C : Addr) (sp : Sp) (dvs : List V) (E : XK) (ta : TE) (t : TA) : TE := fun σ H Q => ta σ H fun x H1 => x = .ref C ∧ t σ H1 fun vs H2 => sp (vs ++ dvs) H2 Q E
end FW

set_option Elab.async false
set_option linter.all false
set_option maxRecDepth 100000
set_option maxHeartbeats 4000000
/-! len and str by an own class's defs; != of one object with itself -/
namespace FW
open PySem PySem.Spec PyProof.Rows L2
section
variable {X : Cx} {CX : CXT} {k : Nat} {f C : Addr} {fd : FuncData} {ps : List Str} {sp : Sp} {E : XK}
def rLenO (C : Addr) (sp : Sp) (E : XK) (xs : List V) (H : Hp) (Q : VK) : Prop := ∃ a dx fs, xs = [.ref a] ∧ H a = some (.ins C dx fs) ∧ sp [.ref a] H (fun v H2 => ∃ n : Nat, v = .int (n : Int) ∧ n ≤ 1000000 ∧ Q (.int (n : Int)) H2) E
def rStrO (C : Addr) (sp : Sp) (E : XK) (xs : List V) (H : Hp) (Q : VK) : Prop := ∃ a dx fs, xs = [.ref a] ∧ H a = some (.ins C dx fs) ∧ sp [.ref a] H (fun v H2 => ∃ z : Str, v = .str z ∧ Q (.str z) H2) E
end
def rStrI (xs : List V) (H : Hp) (Q : VK) : Prop := ∃ i, xs = [V.int i] ∧ i.natAbs.log2 < 1920 ∧ Q (.str (toString i)) H
/-! ### one object compared with itself -/
section
variable {M : Model} {prog : Program} {w : World} {A : Around} {E : Value → Shared → Prop} {s : Shared} {K : PySem.W.Frag} {x C : Addr} {ox : Obj} {od : Option Obj}
end
/-- an own class that compares by identity -/
structure EqI (K : PySem.W.Frag) (C : Addr) : Prop where
  mr : PySem.W.mroIn K C (.type "object") = some true
  eq : PySem.W.findIn K (.ref C) "__eq__" = some (some (.builtin "object.__eq__"))
  ne : PySem.W.findIn K (.ref C) "__ne__" = some (some (.builtin "object.__ne__"))
def rNeS (K : PySem.W.Frag) : R2 := fun x y H Q => ∃ a C dx fs, x = .ref a ∧ y = .ref a ∧ H a = some (.ins C dx fs) ∧ EqI K C ∧ Q (.bl false) H
end FW

set_option Elab.async false
set_option linter.all false
set_option maxRecDepth 100000
set_option maxHeartbeats 4000000
/-! f(x, k = v) in a try; for k, v in e.items() of a dict that a call made -/
namespace FW
open PySem PySem.Spec PyProof.Rows L2
section
variable {X : Cx} {CX : CXT} {k n : Nat} {f : Addr} {fd : FuncData} {ps ks : List Str} {sp : Sp} {E : L2.St → XK} {x : Str} {p pos : Pos} {e : Expr} {es : List Expr} {kws : List Keyword} {t tk : TA} {g : List Value → List Value → List Value} {gV : List V → List V → List V}
def tCallNS (n m : Nat) (sp : Sp) (gV : List V → List V → List V) (E : L2.St → XK) (t tk : TA) : TE := fun σ H Q => t σ H fun vs H1 => tk σ H1 fun zs H2 => vs.length = n ∧ zs.length = m ∧ sp (gV vs zs) H2 Q (E σ)
/-! ### a dict that is read from here on -/
def tFrz (td : TE) : TE := fun σ H Q => td σ H fun x H1 => ∃ d kvs, x = .ref d ∧ H1 d = some (.dK kvs) ∧ ∀ o H2, H2 d = some (.frz o (.dK kvs)) → Off d H1 H2 → Q x H2
def rItems (x : V) (H1 : Hp) (R : It → Hp → Prop) : Prop := ∃ d o kvs, x = .ref d ∧ H1 d = some (.frz o (.dK kvs)) ∧ R (Iti d o kvs) H1
end
end FW

set_option Elab.async false
set_option linter.all false
set_option maxRecDepth 100000
set_option maxHeartbeats 4000000
/-! zip of a tuple and a list -/
namespace FW
open PySem
section
variable {pg : Program} {w : World} {ar : Around} {er : Value → Shared → Prop} {sh : Shared}
end
abbrev zipMH1 (h : Heap) (l1 : Addr) : Heap := h.push { cls := .type "tuple_iterator", data := .fields #[.ref l1, .int 0 0] }
abbrev zipMH2 (h : Heap) (l1 l2 : Addr) : Heap := (zipMH1 h l1).push { cls := .type "list_iterator", data := .fields #[.ref l2, .int 0 0] }
abbrev zipMH3 (h : Heap) (l1 l2 : Addr) : Heap := (zipMH2 h l1 l2).push { cls := .type "tuple", data := .seq #[.ref h.objs.size, .ref (zipMH1 h l1).objs.size] }
abbrev zipMH4 (h : Heap) (l1 l2 : Addr) : Heap := (zipMH3 h l1 l2).push { cls := .type "tuple", data := .seq #[.none, .none] }
abbrev zipMH5 (h : Heap) (l1 l2 : Addr) : Heap := (zipMH4 h l1 l2).push { cls := .type "zip", data := .fields #[.none, .bool false, .bool false, .ref (zipMH2 h l1 l2).objs.size, .ref (zipMH3 h l1 l2).objs.size] }

section
variable {pg : Program} {w : World} {ar : Around} {er : Value → Shared → Prop} {sh : Shared}
end
open PySem.Spec PyProof.Rows L2
def ItzM (K : PySem.W.Frag) (aa b : Addr) : It :=
  ⟨fun ix H => ∃ (xs ys : List V) (x y : V), SqT K H aa xs ∧ SqL K H b ys ∧ xs[ix]? = some x ∧ ys[ix]? = some y,
    fun ix H v H' => ∃ T x y, v = .ref T ∧ H T = none ∧ H' = upd H T (.tup [x, y]) ∧ (∀ xs, SqT K H aa xs → xs[ix]? = some x) ∧ ∀ ys, SqL K H b ys → ys[ix]? = some y,
    fun ix H => ∃ xs ys : List V, SqT K H aa xs ∧ SqL K H b ys ∧ (xs.length ≤ ix ∨ ys.length ≤ ix)⟩
def iZipM (K : PySem.W.Frag) (ta : TA) : L2.TI := fun σ H R => ta σ H fun vs Hn => ∃ a b xs ys, vs = [.ref a, .ref b] ∧ SqT K Hn a xs ∧ SqL K Hn b ys ∧ R (ItzM K a b) Hn
def rZipM (K : PySem.W.Frag) (vs : List V) (H : Hp) (R : It → Hp → Prop) : Prop := ∃ a b xs ys, vs = [.ref a, .ref b] ∧ SqT K H a xs ∧ SqL K H b ys ∧ R (ItzM K a b) H
end FW

set_option Elab.async false
set_option linter.all false
set_option maxRecDepth 100000
/-! A walk over what is a list or a tuple. -/
namespace FW
open PySem L2
def rItS (K : PySem.W.Frag) (x : V) (H : Hp) (R : It → Hp → Prop) : Prop := ∃ a, x = .ref a ∧ (((∃ xs, SqL K H a xs) ∧ R (Itl K a) H) ∨ ((∃ xs, SqT K H a xs) ∧ R (Itt K a) H))
def iSeq (K : PySem.W.Frag) (te : L2.TE) : L2.TI := fun σ H R => te σ H fun x H1 => rItS K x H1 R
section
open PySem.Spec PyProof.Rows
end
section
variable {K : PySem.W.Frag} {σ : L2.St} {H : Hp}
end
end FW

set_option Elab.async false
set_option linter.all false
set_option maxRecDepth 100000
set_option maxHeartbeats 4000000
/-! Defs of the text as values: called through a name of the body; a module's own dict by its entries. -/
namespace FW
open PySem PySem.Spec PyProof.Rows L2
/-- the def at f keeps the promise sp, called with all its parameters in order -/
def KnF (P : Program) (w : World) (K : PySem.W.Frag) (mg : Str → Option Value) (base : Heap) (CX : CXT) (k : Nat) (f : Addr) (sp : Sp) : Prop := ∃ fd ps, FnOk P w K mg base CX k f fd ps sp ∧ PySem.W.keepIn K (.ref f) = true ∧ Binds K fd ps []
/-- x(e, ..), x a name of the body that holds a def -/
def tCallV (N : Addr → Sp → Prop) (i : Nat) (E : XK) (t : TA) : TE := fun σ H Q => ∃ f sp, σ[i]? = some (some (.ref f)) ∧ N f sp ∧ t σ H fun vs H1 => sp vs H1 Q E
def tCallVS (N : Addr → Sp → Prop) (i : Nat) (E : L2.St → XK) (t : TA) : TE := fun σ H Q => ∃ f sp, σ[i]? = some (some (.ref f)) ∧ N f sp ∧ t σ H fun vs H1 => sp vs H1 Q (E σ)
section
variable {X : Cx} {CX : CXT} {k i : Nat} {E : XK} {ES : L2.St → XK} {x : Str} {p pos : Pos} {e : Expr} {es : List Expr} {t : TA}
theorem pe_callV {N : Addr → Sp → Prop} (hk0 : ∀ f sp, N f sp → KnF X.prog X.w X.K X.mg X.base CX k f sp) (hr : Room k X.A) (hN : X.N[i]? = some x) (hv : Vis X.env.scope x) (hx : Passes CX X E) (ha : PA X (e :: es) t) (hd : (x == ("__debug__" : Str)) = false := by decide) (hcd : (x == ("__classdict__" : Str)) = false := by decide)
    (he : starEach (e :: es) X.env = (false, eval e X.env) :: starEach es X.env := by rfl) (hpl : (backTo pos (starEach es X.env)).any (·.1) = false := by rfl) :
    PE X (.Call (.Name x p) (e :: es) [] pos) (tCallV N i E t) := by
  refine ⟨fun pins s σ H Q I h => ?_⟩
  obtain ⟨f, sp, hs, hn, ht⟩ := h
  obtain ⟨fd, ps, F, hk, hb⟩ := hk0 f sp hn
  refine wpAny_Call_Name_kw (thn ((pe_var (pos := p) (i := i) hN hv hd hcd).run pins s σ H (fun v H1 => v = .ref f ∧ H1 = H) I ⟨.ref f, hs, rfl, rfl⟩) fun u s1 ⟨v, H1, I1, r1, q1⟩ => ?_)
  obtain ⟨ev, eH⟩ := q1
  subst ev
  rw [eH] at I1
  obtain rfl : u = Value.ref f := r1
  refine PySem.W.callWith_K (h₀ := X.base) I1.ok.mod.kin hk (thn (ha.run pos pins s1 σ H _ I1 ht) fun us s2 ⟨vs, H2, I2, r, q⟩ => ⟨I2.kIn, ?_⟩) he hpl
  exact run_fn (dvs := []) (ds := []) F hr hb .nil hx I2 r (by rw [List.append_nil]; exact q)
theorem pe_callVS {N : Addr → Sp → Prop} (hk0 : ∀ f sp, N f sp → KnF X.prog X.w X.K X.mg X.base CX k f sp) (hr : Room k X.A) (hN : X.N[i]? = some x) (hv : Vis X.env.scope x) (hx : ∀ σ, PassesAt CX X σ (ES σ)) (ha : PA X (e :: es) t) (hd : (x == ("__debug__" : Str)) = false := by decide) (hcd : (x == ("__classdict__" : Str)) = false := by decide)
    (he : starEach (e :: es) X.env = (false, eval e X.env) :: starEach es X.env := by rfl) (hpl : (backTo pos (starEach es X.env)).any (·.1) = false := by rfl) :
    PE X (.Call (.Name x p) (e :: es) [] pos) (tCallVS N i ES t) := by
  refine ⟨fun pins s σ H Q I h => ?_⟩
  obtain ⟨f, sp, hs, hn, ht⟩ := h
  obtain ⟨fd, ps, F, hk, hb⟩ := hk0 f sp hn
  refine wpAny_Call_Name_kw (thn ((pe_var (pos := p) (i := i) hN hv hd hcd).run pins s σ H (fun v H1 => v = .ref f ∧ H1 = H) I ⟨.ref f, hs, rfl, rfl⟩) fun u s1 ⟨v, H1, I1, r1, q1⟩ => ?_)
  obtain ⟨ev, eH⟩ := q1
  subst ev
  rw [eH] at I1
  obtain rfl : u = Value.ref f := r1
  refine PySem.W.callWith_K (h₀ := X.base) I1.ok.mod.kin hk (thn (ha.run pos pins s1 σ H _ I1 ht) fun us s2 ⟨vs, H2, I2, r, q⟩ => ⟨I2.kIn, ?_⟩) he hpl
  exact run_fnS F hr hb (hx σ) I2 r q
end
theorem w_callV {N : Addr → Sp → Prop} {i : Nat} {E : XK} {t : TA} {σ : L2.St} {H : Hp} {Q : VK} {f : Addr} {sp : Sp} (hs : σ[i]? = some (some (.ref f))) (hn : N f sp) (h : t σ H fun vs H1 => sp vs H1 Q E) : tCallV N i E t σ H Q := ⟨f, sp, hs, hn, h⟩
theorem w_callVS {N : Addr → Sp → Prop} {i : Nat} {E : L2.St → XK} {t : TA} {σ : L2.St} {H : Hp} {Q : VK} {f : Addr} {sp : Sp} (hs : σ[i]? = some (some (.ref f))) (hn : N f sp) (h : t σ H fun vs H1 => sp vs H1 Q (E σ)) : tCallVS N i E t σ H Q := ⟨f, sp, hs, hn, h⟩
/-- a module's own dict -/
def KDict (P : Program) (w : World) (K : PySem.W.Frag) (a : Addr) (kvs : List (Key × V)) : Prop := (a == sysModules) = false ∧ ∃ (o : Obj) (vs : List (Key × Value)), K.lookup a = some o ∧ KV kvs vs ∧ o.IsDictOf (mixKind P w) vs
theorem KDict.of {X : Cx} {pins : List (Addr × Obj)} {σ : L2.St} {H : Hp} {s : Shared} {a : Addr} {kvs : List (Key × V)} (I : Inv X pins σ H s) (d : KDict X.prog X.w X.K a kvs) : ∃ vs, KV kvs vs ∧ s.heap.DictOf (mixKind X.prog X.w) a vs := by
  obtain ⟨_, o, vs, l, rel, hd⟩ := d
  exact ⟨vs, rel, Heap.dictOf_iff.mpr ⟨o, I.kIn _ _ l, hd⟩⟩
/-- D[y], y in D -/
def tKGet (N : Addr → List (Key × V) → Prop) (td ty : TE) : TE := fun σ H Q => td σ H fun x H1 => ty σ H1 fun y H2 => ∃ a kvs k v, x = .ref a ∧ N a kvs ∧ y = kV k ∧ valV kvs k = some v ∧ Q v H2
def tKIn (N : Addr → List (Key × V) → Prop) (ty td : TE) : TE := fun σ H Q => ty σ H fun y H1 => td σ H1 fun x H2 => ∃ a kvs k, x = .ref a ∧ N a kvs ∧ y = kV k ∧ Q (.bl (valV kvs k).isSome) H2
section
variable {X : Cx} {o i : Expr} {pos : Pos} {td ty : TE}
theorem pe_kget {N : Addr → List (Key × V) → Prop} (hk0 : ∀ a kvs, N a kvs → KDict X.prog X.w X.K a kvs) (ho : PE X o td) (hi : PE X i ty) (hs : NoSl i) : PE X (.Subscript o i pos) (tKGet N td ty) := by
  refine ⟨fun pins s σ H Q I h => ?_⟩
  refine subD_of PySem.F.slot_dict_getitem.lookup hs (thn (ho.run pins s σ H _ I h) fun u s1 ⟨x, H1, I1, rx, q1⟩ => thn (hi.run pins s1 σ H1 _ I1 q1) fun iv s2 ⟨y, H2, I2, ry, a, kvs, k, v, ex, d, ey, l, q2⟩ => ?_)
  subst ex
  obtain rfl : u = Value.ref a := rx
  subst ey
  have d := hk0 _ _ d
  obtain ⟨vs, rel, dd⟩ := d.of I2
  obtain ⟨w', hw, rw'⟩ := RelO.some_of (v := v) (o := valueAt vs k) (by rw [← l]; exact rel.val k)
  exact ⟨dd.typeIs, wpAny_getItem_of (kV_is ry) dd.mapOf hw ⟨v, H2, I2.tok _, rw', q2⟩⟩
theorem pc_kin {N : Addr → List (Key × V) → Prop} (hk0 : ∀ a kvs, N a kvs → KDict X.prog X.w X.K a kvs) (hi : PE X i ty) (ho : PE X o td) : PC X .In i o (tKIn N ty td) := by
  refine ⟨fun pins s σ H Q I h => ?_⟩
  refine thn (hi.run pins s σ H _ I h) fun iv s1 ⟨y, H1, I1, ry, q1⟩ => thn (ho.run pins s1 σ H1 _ I1 q1) fun u s2 ⟨x, H2, I2, rx, a, kvs, k, ex, d, ey, q2⟩ => ?_
  subst ex
  obtain rfl : u = Value.ref a := rx
  subst ey
  have d := hk0 _ _ d
  obtain ⟨vs, rel, dd⟩ := d.of I2
  refine wpAny_in_of (kV_is ry) d.1 dd.mapOf ⟨.bl (valV kvs k).isSome, H2, I2.tok _, ?_, q2⟩
  show Value.bool _ = Value.bool _
  rw [(rel.val k).isSome_eq]
end
theorem w_kget {N : Addr → List (Key × V) → Prop} {td ty : TE} {σ : L2.St} {H : Hp} {Q : VK} (h : td σ H fun x H1 => ty σ H1 fun y H2 => ∃ a kvs k v, x = .ref a ∧ N a kvs ∧ y = kV k ∧ valV kvs k = some v ∧ Q v H2) : tKGet N td ty σ H Q := h
theorem w_kin {N : Addr → List (Key × V) → Prop} {td ty : TE} {σ : L2.St} {H : Hp} {Q : VK} (h : ty σ H fun y H1 => td σ H1 fun x H2 => ∃ a kvs k, x = .ref a ∧ N a kvs ∧ y = kV k ∧ Q (.bl (valV kvs k).isSome) H2) : tKIn N ty td σ H Q := h
/-- X(), X an own exception class without own __init__ -/
theorem pmk_own0 {X : Cx} {C : Addr} {bmB : List Value} {B newId initId : String} {x : Str} {p pos : Pos} (F : ExcBaseFacts B newId initId bmB) (q : PySem.W.excIn X.K C bmB newId = true) (gC : X.mg x = some (.ref C)) (kC : PySem.W.keepIn X.K (.ref C) = true) (r : Raises X (.ref C)) (hg : Gl X x)
    (hdb : (x == ("__debug__" : Str)) = false := by decide) : PMk X (.Call (.Name x p) [] [] pos) (fun _ H Q => Q (.ref C) none H) := by
  intro pins s σ H Q I h
  refine wpAny_Call_Name_kw (ld_glob I hg gC ?_ hdb)
  refine PySem.W.callWith_K0 I.kIn kC ?_
  obtain ⟨bm, N, nm, qn, bs, hdct, sn, sub, ab, col, dd, k0, k1, k2, k3, k5, mN, hC, hN, hni, T⟩ := exc_obj I.kIn q
  refine wpAny_call_exc_subT F T hC hN hni (fun h' e hm => ?_) (Nat.zero_le _)
  exact mk_of I hm r h (I.hok.gone hm.new)
/-- zip within a try: its reading names K apart from X -/
theorem pi_zipAK {X : Cx} {K' : PySem.W.Frag} (eK : X.K = K') {e e2 : Expr} {ta : TA} {p pos tpos : Pos} {elts : List Expr} {kk : Nat} (hg : Gl X "zip") (hm : X.mg "zip" = none) (ha : PA X [e, e2] ta)
    (hs : starEach [e, e2] X.env = (false, eval e X.env) :: starEach [e2] X.env := by rfl) (hpl : (backTo pos (starEach [e2] X.env)).any (·.1) = false := by rfl) :
    PI X (.Tuple elts kk tpos) (.Call (.Name "zip" p) [e, e2] [] pos) (RZ.iZipA K' ta) := by
  subst eK
  exact RZ.pi_zipA hg hm ha hs hpl
theorem pg_tupK {X : Cx} {K' : PySem.W.Frag} (eK : X.K = K') {pos : Pos} {es : List Expr} {k : Nat} {t : TGs} {n : Nat} (hc : X.calm = true) (h : PGs X es t)
    (hn : (assignEach es X.env).length = n := by rfl) (hst : (assignEach es X.env).findIdx? (·.1) = none := by rfl) : PG X (.Tuple es k pos) (gTup K' n t) := by
  subst eK
  exact pg_tup hc h hn hst
end FW

set_option Elab.async false
set_option linter.all false
set_option maxRecDepth 100000
set_option maxHeartbeats 4000000
/-! what is kept from roots: least steps, a name above; plain mathematics (no program) -/
namespace FW
open PySem PySem.Spec PyProof.Rows L2
/-- int(b), int(i) -/
def rInt1 (xs : List V) (H : Hp) (Q : VK) : Prop := (∃ i, xs = [.int i] ∧ Q (.int i) H) ∨ ∃ k, xs = [.bl k] ∧ Q (.int (if k then 1 else 0)) H
theorem w_int1b {H : Hp} {Q : VK} {k : Bool} (h : Q (.int (if k then 1 else 0)) H) : rInt1 [.bl k] H Q := .inr ⟨k, rfl, h⟩
abbrev KRow := Nat × Nat × Option Nat
/-- what stands of a name in the rows -/
def kF (L : List KRow) (n : Nat) : Option (Nat × Option Nat) := (L.find? fun r => r.1 == n).map (·.2)
theorem kF_none {L : List KRow} {n : Nat} : kF L n = none ↔ n ∉ L.map (·.1) := by
  unfold kF
  rw [Option.map_eq_none_iff, List.find?_eq_none]
  constructor
  · intro h z
    obtain ⟨r, hr, e⟩ := List.mem_map.mp z
    exact h r hr (by simpa using e)
  · intro h r hr e
    exact h (List.mem_map.mpr ⟨r, hr, by simpa using e⟩)
theorem kF_app {L : List KRow} {r : KRow} {n : Nat} : kF (L ++ [r]) n = (kF L n).or (if r.1 = n then some r.2 else none) := by
  unfold kF
  rw [List.find?_append]
  cases h : L.find? (fun r => r.1 == n) with
  | some z => rfl
  | none =>
    rw [Option.none_or, Option.map_none, Option.none_or, List.find?_singleton]
    by_cases e : r.1 = n
    · rw [if_pos e, if_pos (by simpa using e)]; rfl
    · rw [if_neg e, if_neg (by simpa using e)]; rfl
theorem kF_old {L : List KRow} {r : KRow} {n : Nat} {x : Nat × Option Nat} (h : kF L n = some x) : kF (L ++ [r]) n = some x := by rw [kF_app, h]; rfl
theorem kF_new {L : List KRow} {r : KRow} (h : r.1 ∉ L.map (·.1)) : kF (L ++ [r]) r.1 = some r.2 := by rw [kF_app, kF_none.mpr h, Option.none_or, if_pos rfl]
theorem kF_inv {L : List KRow} {r : KRow} {n : Nat} {x : Nat × Option Nat} (h : kF (L ++ [r]) n = some x) : kF L n = some x ∨ (n = r.1 ∧ x = r.2 ∧ kF L n = none) := by
  rw [kF_app] at h
  cases e : kF L n with
  | some z =>
    rw [e] at h
    exact .inl h
  | none =>
    rw [e, Option.none_or] at h
    by_cases e2 : r.1 = n
    · rw [if_pos e2] at h
      exact .inr ⟨e2.symm, (Option.some.inj h).symm, rfl⟩
    · rw [if_neg e2] at h
      cases h
/-- rows that are right: by a name above each, and nothing left out -/
structure Cert (E : Nat → List Nat) (mr : Nat → Nat) (st : List Nat) (deep : Nat) (F : Nat → Option (Nat × Option Nat)) : Prop where
  R : ∀ r ∈ st, F r = some (0, none)
  A : ∀ n m a, F n = some (m, a) → n ∉ st → m ≤ deep ∧ ∃ b mb ab, a = some b ∧ F b = some (mb, ab) ∧ n ∈ E b ∧ mb + mr n = m
  C : ∀ n m a p, F n = some (m, a) → p ∈ E n → m + mr p ≤ deep → ∃ mp ap, F p = some (mp, ap) ∧ mp ≤ m + mr p
/-- the least steps -/
structure Lst (E : Nat → List Nat) (mr : Nat → Nat) (st : List Nat) (deep : Nat) (D : Nat → Option Nat) : Prop where
  R : ∀ r ∈ st, D r = some 0
  A : ∀ n m, D n = some m → n ∉ st → m ≤ deep ∧ ∃ b mb, D b = some mb ∧ n ∈ E b ∧ mb + mr n = m
  C : ∀ n m p, D n = some m → p ∈ E n → m + mr p ≤ deep → ∃ mp, D p = some mp ∧ mp ≤ m + mr p
section
variable {E : Nat → List Nat} {mr : Nat → Nat} {st : List Nat} {deep N : Nat}
theorem Cert.lst {F : Nat → Option (Nat × Option Nat)} (h : Cert E mr st deep F) : Lst E mr st deep fun n => (F n).map (·.1) := by
  refine ⟨fun r hr => by rw [h.R r hr]; rfl, fun n m e hs => ?_, fun n m p e hp hm => ?_⟩
  · obtain ⟨⟨m', a⟩, ef, e2⟩ := Option.map_eq_some_iff.mp e
    cases e2
    obtain ⟨h1, b, mb, ab, _, hb, hn, em⟩ := h.A n _ a ef hs
    exact ⟨h1, b, mb, by rw [hb]; rfl, hn, em⟩
  · obtain ⟨⟨m', a⟩, ef, e2⟩ := Option.map_eq_some_iff.mp e
    cases e2
    obtain ⟨mp, ap, h1, h2⟩ := h.C n _ a p ef hp hm
    exact ⟨mp, by rw [h1]; rfl, h2⟩
/-- what the program looks at, row by row -/
def RK (E : Nat → List Nat) (mr : Nat → Nat) (st : List Nat) (deep : Nat) (L : List KRow) : Prop :=
  (∀ r ∈ st, r ∈ L.map (·.1)) ∧
  (∀ q ∈ L, q.2.1 ≤ deep ∧ (q.2.2 = none ↔ q.1 ∈ st) ∧ (q.2.2 = none → q.2.1 = 0) ∧ ∀ b, q.2.2 = some b → ∃ mb ab, kF L b = some (mb, ab) ∧ q.1 ∈ E b ∧ mb + mr q.1 = q.2.1) ∧
  ∀ q ∈ L, ∀ p ∈ E q.1, q.2.1 + mr p ≤ deep → ∃ mp ap, kF L p = some (mp, ap) ∧ mp ≤ q.2.1 + mr p
/-! ### the keeping's own going -/
/-- while the row of the steps s is walked; of the name x only dn is done -/
structure KIn (E : Nat → List Nat) (mr : Nat → Nat) (st : List Nat) (deep : Nat) (L : List KRow) (s : Nat) (row : List Nat) (on : List (Nat × Nat)) (x : Nat) (dn : List Nat) : Prop where
  nd : (L.map (·.1)).Nodup
  R : ∀ r ∈ st, kF L r = some (0, none)
  A : ∀ n m a, kF L n = some (m, a) → n ∉ st → m ≤ deep ∧ ∃ b mb ab, a = some b ∧ kF L b = some (mb, ab) ∧ n ∈ E b ∧ mb + mr n = m
  le : ∀ n m a, kF L n = some (m, a) → m ≤ s
  rw' : ∀ n ∈ row, ∃ a, kF L n = some (s, a)
  done : ∀ n m a p, kF L n = some (m, a) → m < s → p ∈ E n → m + mr p ≤ deep → ∃ mp ap, kF L p = some (mp, ap) ∧ mp ≤ m + mr p
  cur : ∀ n a p, kF L n = some (s, a) → n ∉ row → p ∈ E n → (n = x → p ∈ dn) → (mr p = 0 → ∃ mp ap, kF L p = some (mp, ap)) ∧ (mr p = 1 → s < deep → (p, n) ∈ on)
  on' : ∀ q ∈ on, (∃ a, kF L q.2 = some (s, a)) ∧ q.1 ∈ E q.2 ∧ mr q.1 = 1 ∧ s < deep
  sd : ∀ n a, kF L n = some (s, a) → s ≤ deep
/-- as the row of the steps s is walked -/
def KBi (E : Nat → List Nat) (mr : Nat → Nat) (st : List Nat) (deep : Nat) (L : List KRow) (s : Nat) (row : List Nat) (on : List (Nat × Nat)) : Prop := ∀ x dn, (∀ p ∈ E x, p ∈ dn) → KIn E mr st deep L s row on x dn
theorem KIn.bi {L : List KRow} {s x : Nat} {row : List Nat} {on : List (Nat × Nat)} (h : KIn E mr st deep L s row on x (E x)) : KBi E mr st deep L s row on := fun y dn hy =>
  ⟨h.nd, h.R, h.A, h.le, h.rw', h.done, fun n a p e hn hp _ => h.cur n a p e hn hp fun e => e ▸ hp, h.on', h.sd⟩
theorem KBi.in' {L : List KRow} {s : Nat} {row : List Nat} {on : List (Nat × Nat)} (h : KBi E mr st deep L s row on) (x : Nat) : KIn E mr st deep L s row on x (E x) := h x (E x) fun _ z => z
/-- a name is taken from the row -/
theorem KBi.pop {L : List KRow} {s x : Nat} {row : List Nat} {on : List (Nat × Nat)} (h : KBi E mr st deep L s (row ++ [x]) on) : KIn E mr st deep L s row on x [] ∧ ∃ a, kF L x = some (s, a) := by
  have h := h.in' x
  refine ⟨⟨h.nd, h.R, h.A, h.le, fun n hn => h.rw' n (List.mem_append.mpr (.inl hn)), h.done, fun n a p e hn hp hx => ?_, h.on', h.sd⟩, h.rw' x (by simp)⟩
  by_cases en : n = x
  · exact absurd (hx en) (by simp)
  · exact h.cur n a p e (fun z => by
      rcases List.mem_append.mp z with z | z
      · exact hn z
      · exact en (List.mem_singleton.mp z)) hp fun z => absurd z en
/-- what is done with one part -/
def kstep (mr : Nat → Nat) (s deep x : Nat) (S : List KRow × List Nat × List (Nat × Nat)) (p : Nat) : List KRow × List Nat × List (Nat × Nat) :=
  if mr p = 1 then (if s < deep then (S.1, S.2.1, S.2.2 ++ [(p, x)]) else S)
  else if p ∈ S.1.map (·.1) then S else (S.1 ++ [(p, s, some x)], S.2.1 ++ [p], S.2.2)
theorem KIn.step (m01 : ∀ p, mr p = 0 ∨ mr p = 1) {S : List KRow × List Nat × List (Nat × Nat)} {s x p : Nat} {dn : List Nat} {a : Option Nat} (h : KIn E mr st deep S.1 s S.2.1 S.2.2 x dn) (hx : kF S.1 x = some (s, a)) (hp : p ∈ E x) :
    KIn E mr st deep (kstep mr s deep x S p).1 s (kstep mr s deep x S p).2.1 (kstep mr s deep x S p).2.2 x (dn ++ [p]) ∧ kF (kstep mr s deep x S p).1 x = some (s, a) := by
  unfold kstep
  by_cases h1 : mr p = 1
  · rw [if_pos h1]
    by_cases hsd : s < deep
    · rw [if_pos hsd]
      refine ⟨⟨h.nd, h.R, h.A, h.le, h.rw', h.done, fun n b q e hn hq hd => ?_, fun q hq => ?_, h.sd⟩, hx⟩
      · by_cases en : n = x
        · subst en
          rcases List.mem_append.mp (hd rfl) with hd | hd
          · obtain ⟨g1, g2⟩ := h.cur n b q e hn hq fun _ => hd
            exact ⟨g1, fun u v => List.mem_append.mpr (.inl (g2 u v))⟩
          · rw [List.mem_singleton.mp hd]
            exact ⟨fun u => by omega, fun _ _ => by simp⟩
        · obtain ⟨g1, g2⟩ := h.cur n b q e hn hq fun z => absurd z en
          exact ⟨g1, fun u v => List.mem_append.mpr (.inl (g2 u v))⟩
      · rcases List.mem_append.mp hq with hq | hq
        · exact h.on' q hq
        · rw [List.mem_singleton.mp hq]
          exact ⟨⟨a, hx⟩, hp, h1, hsd⟩
    · rw [if_neg hsd]
      refine ⟨⟨h.nd, h.R, h.A, h.le, h.rw', h.done, fun n b q e hn hq hd => ?_, h.on', h.sd⟩, hx⟩
      by_cases en : n = x
      · subst en
        rcases List.mem_append.mp (hd rfl) with hd | hd
        · exact h.cur n b q e hn hq fun _ => hd
        · rw [List.mem_singleton.mp hd]
          exact ⟨fun u => by omega, fun _ z => absurd z hsd⟩
      · exact h.cur n b q e hn hq fun z => absurd z en
  · rw [if_neg h1]
    have h0 : mr p = 0 := (m01 p).resolve_right h1
    by_cases hin : p ∈ S.1.map (·.1)
    · rw [if_pos hin]
      refine ⟨⟨h.nd, h.R, h.A, h.le, h.rw', h.done, fun n b q e hn hq hd => ?_, h.on', h.sd⟩, hx⟩
      by_cases en : n = x
      · subst en
        rcases List.mem_append.mp (hd rfl) with hd | hd
        · exact h.cur n b q e hn hq fun _ => hd
        · rw [List.mem_singleton.mp hd]
          refine ⟨fun _ => ?_, fun u => by omega⟩
          cases e2 : kF S.1 p with
          | some z => exact ⟨z.1, z.2, rfl⟩
          | none => exact absurd hin (kF_none.mp e2)
      · exact h.cur n b q e hn hq fun z => absurd z en
    · rw [if_neg hin]
      have hsd := h.sd x a hx
      have hno := kF_none.mpr hin
      refine ⟨⟨?_, fun r hr => kF_old (h.R r hr), fun n m b e hs => ?_, fun n m b e => ?_, fun n hn => ?_, fun n m b q e hm hq hd => ?_, fun n b q e hn hq hd => ?_, fun q hq => ?_, fun _ _ _ => hsd⟩, kF_old hx⟩
      · rw [List.map_append]
        exact List.nodup_append.mpr ⟨h.nd, by simp, fun y hy z hz e => by
          rw [List.map_cons, List.map_nil, List.mem_singleton] at hz
          rw [e, hz] at hy
          exact hin hy⟩
      · rcases kF_inv e with e | ⟨rfl, e, _⟩
        · obtain ⟨g1, b', mb, ab, g2, g3, g4, g5⟩ := h.A n m b e hs
          exact ⟨g1, b', mb, ab, g2, kF_old g3, g4, g5⟩
        · cases e
          exact ⟨hsd, x, s, a, rfl, kF_old hx, hp, by show s + mr n = s; omega⟩
      · rcases kF_inv e with e | ⟨rfl, e, _⟩
        · exact h.le n m b e
        · cases e
          exact Nat.le_refl _
      · rcases List.mem_append.mp hn with hn | hn
        · obtain ⟨b, e⟩ := h.rw' n hn
          exact ⟨b, kF_old e⟩
        · rw [List.mem_singleton.mp hn]
          exact ⟨some x, kF_new (r := (p, s, some x)) hin⟩
      · rcases kF_inv e with e | ⟨rfl, e, _⟩
        · obtain ⟨mp, ap, g1, g2⟩ := h.done n m b q e hm hq hd
          exact ⟨mp, ap, kF_old g1, g2⟩
        · cases e
          omega
      · have hn' : n ∉ S.2.1 := fun z => hn (List.mem_append.mpr (.inl z))
        rcases kF_inv e with e | ⟨rfl, e, _⟩
        · have dnp : n = x → q ∈ dn ∨ q = p := fun z => by
            rcases List.mem_append.mp (hd z) with u | u
            · exact .inl u
            · exact .inr (List.mem_singleton.mp u)
          by_cases eq : n = x ∧ q = p
          · rw [eq.2]
            exact ⟨fun _ => ⟨s, some x, kF_new (r := (p, s, some x)) hin⟩, fun u => by omega⟩
          · obtain ⟨g1, g2⟩ := h.cur n b q e hn' hq fun z => (dnp z).resolve_right fun u => eq ⟨z, u⟩
            refine ⟨fun u => ?_, g2⟩
            obtain ⟨mp, ap, g3⟩ := g1 u
            exact ⟨mp, ap, kF_old g3⟩
        · exact absurd (List.mem_append.mpr (.inr (List.mem_singleton.mpr rfl))) hn
      · obtain ⟨⟨b, g1⟩, g2⟩ := h.on' q hq
        exact ⟨⟨b, kF_old g1⟩, g2⟩
/-- the next row is made of those onward -/
structure KOn (E : Nat → List Nat) (mr : Nat → Nat) (st : List Nat) (deep : Nat) (L : List KRow) (s : Nat) (row : List Nat) (rest : List (Nat × Nat)) : Prop where
  nd : (L.map (·.1)).Nodup
  R : ∀ r ∈ st, kF L r = some (0, none)
  A : ∀ n m a, kF L n = some (m, a) → n ∉ st → m ≤ deep ∧ ∃ b mb ab, a = some b ∧ kF L b = some (mb, ab) ∧ n ∈ E b ∧ mb + mr n = m
  le : ∀ n m a, kF L n = some (m, a) → m ≤ s + 1
  rw' : ∀ n, n ∈ row ↔ ∃ a, kF L n = some (s + 1, a)
  done : ∀ n m a p, kF L n = some (m, a) → m ≤ s → p ∈ E n → m + mr p ≤ deep → (∃ mp ap, kF L p = some (mp, ap) ∧ mp ≤ m + mr p) ∨ (m = s ∧ mr p = 1 ∧ (p, n) ∈ rest)
  on' : ∀ q ∈ rest, (∃ a, kF L q.2 = some (s, a)) ∧ q.1 ∈ E q.2 ∧ mr q.1 = 1 ∧ s < deep
  sd : ∀ n a, kF L n = some (s + 1, a) → s + 1 ≤ deep
theorem KBi.on (m01 : ∀ p, mr p = 0 ∨ mr p = 1) {L : List KRow} {s : Nat} {on : List (Nat × Nat)} (h : KBi E mr st deep L s [] on) : KOn E mr st deep L s [] on := by
  have h0 := h.in' 0
  refine ⟨h0.nd, h0.R, h0.A, fun n m a e => Nat.le_succ_of_le (h0.le n m a e), fun n => ⟨fun z => (by cases z), fun ⟨a, e⟩ => ?_⟩, fun n m a p e hm hp hd => ?_, h0.on', fun n a e => ?_⟩
  · have := h0.le n _ a e
    omega
  · by_cases ms : m < s
    · exact .inl (h0.done n m a p e ms hp hd)
    · have ems : m = s := by omega
      subst ems
      obtain ⟨g1, g2⟩ := (h.in' n).cur n a p e (by simp) hp fun _ => hp
      rcases m01 p with u | u
      · obtain ⟨mp, ap, g3⟩ := g1 u
        exact .inl ⟨mp, ap, g3, by have := h0.le p mp ap g3; omega⟩
      · exact .inr ⟨rfl, u, g2 u (by omega)⟩
  · have := h0.le n _ a e
    omega
def kstepO (s : Nat) (S : List KRow × List Nat) (q : Nat × Nat) : List KRow × List Nat := if q.1 ∈ S.1.map (·.1) then S else (S.1 ++ [(q.1, s + 1, some q.2)], S.2 ++ [q.1])
theorem KOn.step {S : List KRow × List Nat} {s : Nat} {q : Nat × Nat} {rest : List (Nat × Nat)} (h : KOn E mr st deep S.1 s S.2 (q :: rest)) : KOn E mr st deep (kstepO s S q).1 s (kstepO s S q).2 rest := by
  obtain ⟨⟨aq, hq⟩, hE, h1, hsd⟩ := h.on' q (by simp)
  unfold kstepO
  by_cases hin : q.1 ∈ S.1.map (·.1)
  · rw [if_pos hin]
    refine ⟨h.nd, h.R, h.A, h.le, h.rw', fun n m a p e hm hp hd => ?_, fun z hz => h.on' z (List.mem_cons_of_mem _ hz), h.sd⟩
    rcases h.done n m a p e hm hp hd with g | ⟨g1, g2, g3⟩
    · exact .inl g
    · rcases List.mem_cons.mp g3 with g3 | g3
      · have ep : p = q.1 := congrArg Prod.fst g3
        cases e2 : kF S.1 p with
        | none => exact absurd (ep ▸ hin) (kF_none.mp e2)
        | some z => exact .inl ⟨z.1, z.2, rfl, by have := h.le p z.1 z.2 e2; omega⟩
      · exact .inr ⟨g1, g2, g3⟩
  · rw [if_neg hin]
    have new : kF (S.1 ++ [(q.1, s + 1, some q.2)]) q.1 = some (s + 1, some q.2) := kF_new (r := (q.1, s + 1, some q.2)) hin
    refine ⟨?_, fun r hr => kF_old (h.R r hr), fun n m b e hs => ?_, fun n m b e => ?_, fun n => ⟨fun hn => ?_, fun ⟨b, e⟩ => ?_⟩, fun n m b p e hm hp hd => ?_, fun z hz => ?_, fun _ _ _ => by omega⟩
    · rw [List.map_append]
      exact List.nodup_append.mpr ⟨h.nd, by simp, fun y hy z hz e => by
        rw [List.map_cons, List.map_nil, List.mem_singleton] at hz
        rw [e, hz] at hy
        exact hin hy⟩
    · rcases kF_inv e with e | ⟨rfl, e, _⟩
      · obtain ⟨g1, b', mb, ab, g2, g3, g4, g5⟩ := h.A n m b e hs
        exact ⟨g1, b', mb, ab, g2, kF_old g3, g4, g5⟩
      · cases e
        exact ⟨by omega, q.2, s, aq, rfl, kF_old hq, hE, by show s + mr q.1 = s + 1; omega⟩
    · rcases kF_inv e with e | ⟨rfl, e, _⟩
      · exact h.le n m b e
      · cases e
        exact Nat.le_refl _
    · rcases List.mem_append.mp hn with hn | hn
      · obtain ⟨b, e⟩ := (h.rw' n).mp hn
        exact ⟨b, kF_old e⟩
      · rw [List.mem_singleton.mp hn]
        exact ⟨_, new⟩
    · rcases kF_inv e with e | ⟨rfl, e, _⟩
      · exact List.mem_append.mpr (.inl ((h.rw' n).mpr ⟨b, e⟩))
      · exact List.mem_append.mpr (.inr (by simp))
    · rcases kF_inv e with e | ⟨rfl, e, _⟩
      · rcases h.done n m b p e hm hp hd with ⟨mp, ap, g1, g2⟩ | ⟨g1, g2, g3⟩
        · exact .inl ⟨mp, ap, kF_old g1, g2⟩
        · rcases List.mem_cons.mp g3 with g3 | g3
          · have ep : p = q.1 := congrArg Prod.fst g3
            rw [ep]
            exact .inl ⟨_, _, new, by rw [ep] at g2; omega⟩
          · exact .inr ⟨g1, g2, g3⟩
      · cases e
        omega
    · obtain ⟨⟨b, g1⟩, g2⟩ := h.on' z (List.mem_cons_of_mem _ hz)
      exact ⟨⟨b, kF_old g1⟩, g2⟩
theorem KOn.bi {L : List KRow} {s : Nat} {row : List Nat} (h : KOn E mr st deep L s row []) : KBi E mr st deep L (s + 1) row [] := fun x dn _ => by
  refine ⟨h.nd, h.R, h.A, h.le, fun n hn => (h.rw' n).mp hn, fun n m a p e hm hp hd => ?_, fun n a p e hn _ _ => absurd ((h.rw' n).mpr ⟨a, e⟩) hn, fun q hq => (by cases hq), h.sd⟩
  rcases h.done n m a p e (by omega) hp hd with g | ⟨_, _, g⟩
  · exact g
  · cases g
theorem kF_start {st : List Nat} {n : Nat} : kF (st.map fun r => (r, 0, none)) n = if n ∈ st then some (0, none) else none := by
  by_cases h : n ∈ st
  · rw [if_pos h]
    induction st with
    | nil => cases h
    | cons r st ih =>
      unfold kF
      rw [List.map_cons, List.find?_cons]
      by_cases e : r = n
      · simp [e]
      · rw [show ((r, 0, (none : Option Nat)).1 == n) = false by simpa using e]
        exact ih ((List.mem_cons.mp h).resolve_left fun z => e z.symm)
  · rw [if_neg h, kF_none]
    rwa [List.map_map, show ((fun r : KRow => r.1) ∘ fun r : Nat => (r, 0, none)) = id from rfl, List.map_id]
theorem KBi.start (nd : st.Nodup) : KBi E mr st deep (st.map fun r => (r, 0, none)) 0 st [] := fun x dn _ => by
  refine ⟨by rwa [List.map_map, show ((fun r : KRow => r.1) ∘ fun r : Nat => (r, 0, none)) = id from rfl, List.map_id], fun r hr => by rw [kF_start, if_pos hr], fun n m a e hs => ?_, fun n m a e => ?_, fun n hn => ⟨none, by rw [kF_start, if_pos hn]⟩, fun _ _ _ _ _ h => by omega, fun n a p e hn => ?_, fun q hq => (by cases hq), fun _ _ _ => Nat.zero_le _⟩
  · rw [kF_start, if_neg hs] at e
    cases e
  · rw [kF_start] at e
    split at e
    · cases e
      exact Nat.le_refl _
    · cases e
  · rw [kF_start, if_neg hn] at e
    cases e
/-! ### the law's own going: name by name, downwards -/
def dUpd (D : Nat → Option Nat) (p v : Nat) : Nat → Option Nat := fun n => if n = p then some v else D n
structure KDn (E : Nat → List Nat) (mr : Nat → Nat) (st : List Nat) (deep : Nat) (D : Nat → Option Nat) (j x : Nat) (dn : List Nat) : Prop where
  R : ∀ r ∈ st, D r = some 0
  A : ∀ n m, D n = some m → n ∉ st → m ≤ deep ∧ ∃ b mb, D b = some mb ∧ n ∈ E b ∧ mb + mr n = m ∧ j ≤ b
  C : ∀ n m p, D n = some m → j ≤ n → p ∈ E n → (n = x → p ∈ dn) → m + mr p ≤ deep → ∃ mp, D p = some mp ∧ mp ≤ m + mr p
theorem KDn.start {x : Nat} {dn : List Nat} (hst : ∀ r ∈ st, r < N) : KDn E mr st deep (fun n => if n ∈ st then some 0 else none) N x dn := by
  refine ⟨fun r hr => if_pos hr, fun n m e hs => ?_, fun n m p e hn _ _ _ => ?_⟩
  · rw [if_neg hs] at e
    cases e
  · by_cases hs : n ∈ st
    · have := hst n hs
      omega
    · rw [if_neg hs] at e
      cases e
theorem KDn.none {D : Nat → Option Nat} {x y : Nat} {dn dn' : List Nat} (h : KDn E mr st deep D x x dn) (hx : D x = none) : KDn E mr st deep D x y dn' := by
  refine ⟨h.R, h.A, fun n m p e hn hp _ hd => h.C n m p e hn hp (fun z => ?_) hd⟩
  rw [z, hx] at e
  cases e
theorem KDn.keep {D : Nat → Option Nat} {x p m : Nat} {dn : List Nat} (h : KDn E mr st deep D x x dn) (hx : D x = some m) (hno : p ∈ E x → m + mr p ≤ deep → ∃ mp, D p = some mp ∧ mp ≤ m + mr p) : KDn E mr st deep D x x (dn ++ [p]) := by
  refine ⟨h.R, h.A, fun n m' q e hn hq hd hle => ?_⟩
  by_cases en : n = x
  · subst en
    rcases List.mem_append.mp (hd rfl) with z | z
    · exact h.C n m' q e hn hq (fun _ => z) hle
    · rw [hx] at e
      cases e
      have : q = p := by simpa using z
      subst this
      exact hno hq hle
  · exact h.C n m' q e hn hq (fun z => absurd z en) hle
theorem KDn.set {D : Nat → Option Nat} {x p m : Nat} {dn : List Nat} (h : KDn E mr st deep D x x dn) (hx : D x = some m) (hp : p ∈ E x) (hpx : p < x) (hle : m + mr p ≤ deep) (hlt : ∀ mp, D p = some mp → m + mr p < mp) (lt : ∀ n, ∀ q ∈ E n, q < n) : KDn E mr st deep (dUpd D p (m + mr p)) x x (dn ++ [p]) ∧ dUpd D p (m + mr p) x = some m := by
  have hps : p ∉ st := fun z => by have := hlt 0 (h.R p z); omega
  have hxx : dUpd D p (m + mr p) x = some m := by unfold dUpd; rw [if_neg (by omega)]; exact hx
  have low : ∀ n mp, D n = some mp → ∃ mp', dUpd D p (m + mr p) n = some mp' ∧ mp' ≤ mp := fun n mp e => by
    unfold dUpd
    by_cases en : n = p
    · rw [if_pos en]
      rw [en] at e
      exact ⟨_, rfl, Nat.le_of_lt (hlt mp e)⟩
    · rw [if_neg en]
      exact ⟨mp, e, Nat.le_refl _⟩
  refine ⟨⟨fun r hr => ?_, fun n m' e hs => ?_, fun n m' q e hn hq hd hle' => ?_⟩, hxx⟩
  · unfold dUpd
    rw [if_neg (fun z : r = p => hps (by rw [← z]; exact hr))]
    exact h.R r hr
  · by_cases en : n = p
    · subst en
      unfold dUpd at e
      rw [if_pos rfl] at e
      cases e
      exact ⟨hle, x, m, hxx, hp, rfl, Nat.le_refl _⟩
    · have e' : D n = some m' := by unfold dUpd at e; rwa [if_neg en] at e
      obtain ⟨g1, b, mb, g2, g3, g4, g5⟩ := h.A n m' e' hs
      exact ⟨g1, b, mb, by unfold dUpd; rw [if_neg (by omega)]; exact g2, g3, g4, g5⟩
  · have nnp : n ≠ p := by omega
    have e' : D n = some m' := by unfold dUpd at e; rwa [if_neg nnp] at e
    by_cases en : n = x ∧ q = p
    · rw [en.1, hx] at e'
      cases e'
      rw [en.2]
      exact ⟨_, by unfold dUpd; rw [if_pos rfl], Nat.le_refl _⟩
    · obtain ⟨mp, g1, g2⟩ := h.C n m' q e' hn hq (fun z => by
        rcases List.mem_append.mp (hd z) with u | u
        · exact u
        · exact absurd ⟨z, by simpa using u⟩ en) hle'
      obtain ⟨mp', g3, g4⟩ := low q mp g1
      exact ⟨mp', g3, by omega⟩
theorem KDn.lst {D : Nat → Option Nat} {x : Nat} {dn : List Nat} (h : KDn E mr st deep D 0 x dn) (hd : ∀ p ∈ E x, p ∈ dn) : Lst E mr st deep D :=
  ⟨h.R, fun n m e hs => by
    obtain ⟨g1, b, mb, g2, g3, g4, _⟩ := h.A n m e hs
    exact ⟨g1, b, mb, g2, g3, g4⟩, fun n m p e hp hle => h.C n m p e (Nat.zero_le _) hp (fun z => hd p (by rw [← z]; exact hp)) hle⟩
end
end FW

set_option Elab.async false
set_option linter.all false
set_option maxRecDepth 100000
set_option maxHeartbeats 4000000
/-! a, .., *rest = l: the last target starred, l a list -/
namespace FW
open PySem PySem.Spec PyProof.Rows L2
section
variable {prog : Program} {w : World} {A : Around} {E : Value → Shared → Prop} {s : Shared}
theorem items_starL {t : Addr} {items : Array Value} {j : Nat} {Q : List Value → Shared → Prop} (hh : A.handled = none) (ht : s.heap.IsList t items) (hj : j ≤ items.size) (hz : items.size ≤ sizeLine)
    (h : ∀ (h' : Heap) (tk : Nat), (∀ b o, s.heap.get? b = some o → h'.get? b = some o) → Q (items.toList.take j ++ [.ref h'.objs.size]) { s with heap := h'.push { cls := .type "list", data := .seq (items.toList.drop j).toArray }, toks := tk }) :
    wpAny (model prog w) A (unpackItems (.ref t) (j + 1) (some j)) Q E s := by
  have hlt : t ≠ s.heap.objs.size := by obtain ⟨o, ho, _⟩ := ht; exact Nat.ne_of_lt (Heap.lt_size ho)
  unfold unpackItems
  refine wpAny_bind ?_
  unfold notIterableAtAll
  refine wpAny_bind (wpAny_specialOf ht.typeIs slot_list_iter.lookup (wpAny_pure ?_))
  simp only [Bool.false_eq_true, if_false]
  refine wpAny_bind (wpAny_holding (wpAny_pyIter_list ht ?_))
  refine wpAny_bind (wpAny_holding (PySem.W.kun_draw hlt j 0 _ _ ⟨_, Heap.get?_push_size _ rfl, rfl, rfl⟩ (ht.push _) (by omega) fun h1 hit1 hs1 => ?_))
  have ht1 : h1.IsList t items := (ht.push _).extBut hs1.extBut hlt
  rw [List.drop_zero, if_neg (by rw [List.length_take, Array.length_toList]; omega)]
  have hsz1 : s.heap.objs.size < h1.objs.size := by
    obtain ⟨o, ho, _⟩ := hit1
    exact Heap.lt_size ho
  have htl : t < h1.objs.size := by
    obtain ⟨o, ho, _⟩ := ht1
    exact Heap.lt_size ho
  have W := walks_shift (Walks.list (prog := prog) (w := w) (A := A.in1) hh s.heap.objs.size t hlt items).toS hj
  refine wpAny_bind (wpAny_holding (wpAny_collect_iter (.inr (.inr (.inl rfl))) W (fun i s' st => by obtain ⟨⟨o, ho, hc, _⟩, _⟩ := st; exact ⟨o, ho, hc⟩) (show _ ∧ _ from ⟨by rw [Nat.zero_add] at hit1; exact hit1, ht1⟩) (fun b hb => ?_) (by simp) (fun s' acc m ia => ?_) (by omega)))
  · have hb' : b = s.heap.objs.size ∨ b = t := by simpa using hb
    rcases hb' with rfl | rfl
    · exact hsz1
    · exact htl
  · have eacc : acc.toList = items.toList.drop j := by
      apply List.ext_getElem?
      intro i
      rw [List.getElem?_drop]
      by_cases hi : i < items.size - j
      · have hi2 : i < acc.size := by rw [ia.1]; exact hi
        have e1 : acc[i]? = some acc[i] := Array.getElem?_eq_getElem hi2
        have e2 := ia.2 i _ e1
        rw [Array.getElem?_toList, Array.getElem?_toList, e1]
        exact e2.symm
      · rw [List.getElem?_eq_none (by rw [Array.length_toList, ia.1]; omega), List.getElem?_eq_none (by rw [Array.length_toList]; omega)]
    have hgens : s'.gens = s.gens := m.gens
    have hdr : s'.drawn = s.drawn := m.drawn
    have hos : s'.os = s.os := m.os
    have hheap := m.heap
    obtain ⟨hp', g', d', tk', os'⟩ := s'
    dsimp only at hgens hdr hos hheap
    subst hgens hdr hos
    have old : ∀ b o, s.heap.get? b = some o → hp'.get? b = some o := fun b o e => by
      have hb : b ≠ s.heap.objs.size := Nat.ne_of_lt (Heap.lt_size e)
      exact hheap b o (by simpa using hb) (hs1.extBut b o hb (Heap.get?_push_of_some _ e))
    rw [eacc]
    have hz2 : (items.toList.drop j).length ≤ sizeLine := by rw [List.length_drop, Array.length_toList]; omega
    simp only [Nat.add_sub_cancel, Nat.sub_self, Nat.not_lt_zero, if_false, Nat.sub_zero, List.take_length, List.drop_length, List.append_nil]
    exact wpAny_bind (wpAny_newList (wpAny_pure (h hp' tk' old)) hz2)
end
/-- n names, then a starred one, out of a list -/
def gStarL (K : PySem.W.Frag) (j : Nat) (t : TGs) : TG := fun v σ H Q => ∃ a xs, v = .ref a ∧ SqL K H a xs ∧ j ≤ xs.length ∧ ∀ L, H L = none → t (xs.take j ++ [.ref L]) σ (upd H L (.lst (xs.drop j))) Q
theorem pg_starL {X : Cx} {pos : Pos} {es : List Expr} {k : Nat} {t : TGs} {j : Nat} (hc : X.calm = true) (h : PGs X es t) (hn : (assignEach es X.env).length = j + 1 := by rfl) (hst : (assignEach es X.env).findIdx? (·.1) = some j := by rfl) : PG X (.Tuple es k pos) (gStarL X.K j t) := by
  refine ⟨fun pins s σ H v u Q I r ⟨a, xs, e1, hq, hl, hw⟩ => ?_⟩
  subst e1
  cases r
  obtain ⟨its, rv, ⟨o, n, eo, ec, _, ed⟩, hz⟩ := I.list hq
  have ht : s.heap.IsList a its.toArray := ⟨o, eo, ec, n, ed⟩
  have hlen := rv.length
  rw [assign_Tuple]
  refine wpAny_bind (wpAny_standAt ?_)
  unfold unpack
  rw [hn, hst]
  refine wpAny_bind (wpAny_holding (items_starL (I.ok.hd hc) ht (by rw [List.size_toArray]; omega) (by rw [List.size_toArray]; omega) fun h' tk hk => ?_))
  have I1 : Inv X pins σ H { s with heap := h', toks := tk } := I.kept hk
  have hfr := I1.hok.fresh (Nat.le_refl h'.objs.size)
  have I2 : Inv X pins σ (upd H h'.objs.size (.lst (xs.drop j))) { s with heap := h'.push { cls := .type "list", data := .seq (its.drop j).toArray }, toks := tk } :=
    I1.laid (t' := tk) (o := .lst (xs.drop j)) (fun b o q => Heap.get?_push_of_some _ q) (Nat.le_refl _) ⟨by rw [List.length_drop]; omega, _, 0, rv.drop j, Heap.get?_push_size _ rfl⟩
  exact h.run pins _ σ _ (xs.take j ++ [.ref h'.objs.size]) _ Q I2 ((rv.take j).append (.cons (show RelV (.ref h'.objs.size) (Value.ref h'.objs.size) from rfl) .nil)) (hw _ hfr)
theorem w_gstarL {K : PySem.W.Frag} {σ : L2.St} {H : Hp} {j : Nat} {t : TGs} {a : Addr} {xs : List V} {R : L2.St → Hp → Prop} (h1 : SqL K H a xs) (h2 : j ≤ xs.length) (h : ∀ L H1, H L = none → H1 L = some (.lst (xs.drop j)) → Same H H1 → t (xs.take j ++ [.ref L]) σ H1 R) : gStarL K j t (.ref a) σ H R :=
  ⟨a, xs, rfl, h1, h2, fun L hL => h L _ hL upd_same (Same.new hL)⟩
/-- int(text) -/
def rIntS : List V → Hp → VK → Prop := fun xs H Q => ∃ (a : Str) (n : Int), xs = [.str a] ∧ PySem.intText? a = some n ∧ a.length ≤ 640 ∧ Q (.int n) H
theorem c_intS {X : Cx} : CallR X (.type "int") rIntS := call_int_str
theorem w_intS {H : Hp} {Q : VK} {a : Str} {n : Int} (h1 : PySem.intText? a = some n) (h2 : a.length ≤ 640) (h : Q (.int n) H) : rIntS [.str a] H Q := ⟨a, n, rfl, h1, h2, h⟩
/-- text.split(sep) -/
def rSplit : V → List V → Hp → VK → Prop := fun x xs H Q => ∃ a b, x = .str a ∧ xs = [.str b] ∧ (b.length == 0) = false ∧ a.length + 2 ≤ sizeLine ∧ rNewStrs (Txt.split a b) H Q
theorem p_split {X : Cx} {o e : Expr} {to te : TE} {apos pos : Pos} (ho : PE X o to) (he : PE X e te) (hs : starEach [e] X.env = [(false, eval e X.env)] := by rfl) (hbase : attributeBase o "split" X.env (eval o X.env) = eval o X.env := by rfl) (hline : (apos.endLine == pos.line) = true := by rfl) :
    PE X (.Call (.Attribute o "split" apos) [e] [] pos) (tM1 rSplit to te) := pe_split ho he hs hbase hline
theorem w_split {H : Hp} {Q : VK} {a b : Str} (h1 : (b.length == 0) = false) (h2 : a.length + 2 ≤ sizeLine) (h : ∀ p H1, H p = none → H1 p = some (.lst ((Txt.split a b).map V.str)) → Same H H1 → Q (.ref p) H1) : rSplit (.str a) [.str b] H Q :=
  ⟨a, b, rfl, rfl, h1, h2, fun p hp => h p _ hp upd_same (Same.new hp)⟩
end FW

set_option Elab.async false
set_option linter.all false
set_option maxRecDepth 100000
set_option maxHeartbeats 4000000
/-! o.m(e, ..) of an own class's def that may raise, within a try -/
namespace FW
open PySem PySem.Spec PyProof.Rows L2
section
variable {X : Cx} {CX : CXT} {k : Nat} {f C : Addr} {fd : FuncData} {ps : List Str} {sp : Sp} {E : L2.St → XK} {x m : Str} {pos apos : Pos} {e o : Expr} {es : List Expr} {ta : TE} {t : TA}
def tMethTS (C : Addr) (m : Str) (sp : Sp) (E : L2.St → XK) (ta : TE) (t : TA) : TE := fun σ H Q => ta σ H fun x H1 => ∃ a dx fs, x = .ref a ∧ H1 a = some (.ins C dx fs) ∧ fs.lookup m = none ∧ t σ H1 fun vs H2 => sp (x :: vs) H2 Q (E σ)
theorem pe_methTS {pl : Sem Bool} (he : PE X o ta) (c : Cls X.K C) (hm : Meth X.K C m f) (F : FnOk X.prog X.w X.K X.mg X.base CX k f fd ps sp) (hr : Room k X.A) (hb : Binds X.K fd ps []) (hx : ∀ σ, PassesAt CX X σ (E σ)) (ha : PA X (e :: es) t)
    (hst : starEach (e :: es) X.env = (false, eval e X.env) :: starEach es X.env := by rfl) (hpl : (backTo pos (starEach es X.env)).any (·.1) = false := by rfl)
    (ht : eval (.Call (.Attribute o m apos) (e :: es) [] pos) X.env = (do
      let ov ← eval o X.env
      standAt apos.atName
      let (f, first) ← holding [ov] (getMethod ov m pl)
      callWith pos f first (backTo pos (starEach (e :: es) X.env)) (backToKw pos (keywordEach [] X.env))) := by rfl) :
    PE X (.Call (.Attribute o m apos) (e :: es) [] pos) (tMethTS C m sp E ta t) := by
  refine ⟨fun pins s σ H Q I h => ?_⟩
  refine PySem.W.methodCall_KW (pl := pl) (thn (he.run pins s σ H _ I h) fun u s1 ⟨x, H1, I1, rx, a, dx, fs, ex, ea, l, q⟩ => ?_) ht
  subst ex
  obtain rfl : u = Value.ref a := rx
  refine getmeth_ok I1 ea c hm l ?_
  refine PySem.W.callWith_K (first := [.ref a]) (h₀ := X.base) I.ok.mod.kin hm.kp (thn (ha.run pos pins s1 σ H1 _ I1 q) fun us s2 ⟨vs, H2, I2, r, q2⟩ => ⟨I2.kIn, ?_⟩) hst hpl
  exact run_fnS (us := .ref a :: us) (vs := .ref a :: vs) F hr hb (hx σ) I2 (.cons rfl r) q2
end
theorem w_methS {K : PySem.W.Frag} {σ : L2.St} {H : Hp} {Q : VK} {C : Addr} {m : Str} {sp : Sp} {E : L2.St → XK} {ta : TE} {t : TA} (h : ta σ H fun x H1 => ∃ a dx fs, x = .ref a ∧ H1 a = some (.ins C dx fs) ∧ fs.lookup m = none ∧ t σ H1 fun vs H2 => sp (x :: vs) H2 Q (E σ)) : tMethTS C m sp E ta t σ H Q := h
end FW

set_option Elab.async false
set_option linter.all false
set_option maxRecDepth 100000
set_option maxHeartbeats 4000000
/-! dicts keyed by pairs of texts: values(), items(), pop, sorted; sorted of a list of (text, text, int) -/
namespace FW
open PySem PySem.Spec PyProof.Rows L2
def ItdT (d : Addr) (o : Obj) (kvs : List (List Key × V)) : It :=
  ⟨fun i H => H d = some (.frz o (.dT kvs)) ∧ i < kvs.length, fun i H x H' => H' = H ∧ ∃ k, kvs[i]? = some (k, x), fun i H => H d = some (.frz o (.dT kvs)) ∧ kvs.length ≤ i⟩
def ItiT (d : Addr) (o : Obj) (kvs : List (List Key × V)) : It :=
  ⟨fun i H => H d = some (.frz o (.dT kvs)) ∧ i < kvs.length, fun i H x H' => ∃ (T : Addr) (k : List Key) (v : V) (q : Addr), kvs[i]? = some (k, v) ∧ H q = some (.tup (k.map kV)) ∧ x = .ref T ∧ H T = none ∧ H' = upd H T (.tup [.ref q, v]), fun i H => H d = some (.frz o (.dT kvs)) ∧ kvs.length ≤ i⟩
section
variable {P : Program} {w : World} {K : PySem.W.Frag} {tg : Expr} {d : Addr} {o : Obj} {es : Array DictEntry} {ep : Nat}
end
def iValsT (td : TE) : L2.TI := fun σ H R => td σ H fun x H1 => ∃ d o kvs, x = .ref d ∧ H1 d = some (.frz o (.dT kvs)) ∧ R (ItdT d o kvs) H1
def iItemsT (td : TE) : L2.TI := fun σ H R => td σ H fun x H1 => ∃ d o kvs, x = .ref d ∧ H1 d = some (.frz o (.dT kvs)) ∧ R (ItiT d o kvs) H1
section
variable {X : Cx} {tg e : Expr} {td : TE} {apos cpos : Pos}
end
/-! ### readings -/
section
variable {σ : L2.St} {H : Hp} {nx bk ct : L2.St → Hp → Prop} {rt : VK}
def rValsT (x : V) (H1 : Hp) (R : It → Hp → Prop) : Prop := ∃ d o kvs, x = .ref d ∧ H1 d = some (.frz o (.dT kvs)) ∧ R (ItdT d o kvs) H1
def rVals (x : V) (H1 : Hp) (R : It → Hp → Prop) : Prop := ∃ d o kvs, x = .ref d ∧ H1 d = some (.frz o (.dK kvs)) ∧ R (Itd d o kvs) H1
def rItemsTf (x : V) (H1 : Hp) (R : It → Hp → Prop) : Prop := ∃ d o kvs, x = .ref d ∧ H1 d = some (.frz o (.dT kvs)) ∧ R (ItiT d o kvs) H1
end
/-! ### pop -/
def tDPopT (td ty : TE) : TE := fun σ H Q => td σ H fun x H1 => ∃ a, x = .ref a ∧ IsD H1 a ∧ ty σ H1 fun y H2 => ∃ kvs k b v, H2 a = some (.dT kvs) ∧ y = .ref b ∧ H2 b = some (.tup (k.map kV)) ∧ valV kvs k = some v ∧ Q v (upd H2 a (.dT (dropK kvs k)))
def rDPopT (a : Addr) (y : V) (H : Hp) (Q : VK) : Prop := ∃ kvs k b v, H a = some (.dT kvs) ∧ y = .ref b ∧ H b = some (.tup (k.map kV)) ∧ valV kvs k = some v ∧ Q v (upd H a (.dT (dropK kvs k)))
def rDPop1 (a : Addr) (y : V) (H : Hp) (Q : VK) : Prop := ∃ kvs k v, H a = some (.dK kvs) ∧ y = kV k ∧ valV kvs k = some v ∧ Q v (upd H a (.dK (dropK kvs k)))
/-! ### the order of pairs of texts -/
abbrev TTx := Str × Str
def encTT (q : TTx) : PyData := .tuple [.str q.1, .str q.2]
def ttLt (a b : TTx) : Prop := txLt a.1 b.1 ∨ (a.1 = b.1 ∧ txLt a.2 b.2)
def ttK (q : TTx) : List Key := [Sum.inr q.1, Sum.inr q.2]
/-! ### sorted(d) of a dict keyed by pairs of texts -/
def rSortTT : List V → Hp → VK → Prop := fun vs H Q => ∃ (a : Addr) (kvs : List (List Key × V)) (qs : List TTx), vs = [.ref a] ∧ H a = some (.dT kvs) ∧ kvs.map (·.1) = qs.map ttK ∧ qs.Nodup ∧ qs.length ≤ 100000 ∧
  ∀ (ts : List (TTx × Addr)) (p : Addr), (ts.map (·.1)).Perm qs → ts.Pairwise (fun x y => ttLt x.1 y.1) → (∀ t ∈ ts, H t.2 = some (.tup [.str t.1.1, .str t.1.2])) → H p = none → Q (.ref p) (upd H p (.lst (ts.map fun t => V.ref t.2)))
/-! ### sorted of a list of (text, text, int) -/
abbrev T3 := Addr × TTx × Int
def encT3 (b : T3) : PyData := .tuple [.str b.2.1.1, .str b.2.1.2, .int b.2.2]
def rSortT3 : List V → Hp → VK → Prop := fun vs H Q => ∃ (a : Addr) (bs : List T3), vs = [.ref a] ∧ H a = some (.lst (bs.map fun b => V.ref b.1)) ∧ (∀ b ∈ bs, H b.1 = some (.tup [.str b.2.1.1, .str b.2.1.2, .int b.2.2])) ∧ (bs.map (·.2.1)).Nodup ∧ bs.length ≤ 100000 ∧
  ∀ (ts : List T3) (p : Addr), ts.Perm bs → ts.Pairwise (fun x y => ttLt x.2.1 y.2.1) → H p = none → Q (.ref p) (upd H p (.lst (ts.map fun t => V.ref t.1)))
theorem pe_bmX {X : Cx} {K : PySem.W.Frag} {T : String} {name : Str} {id : String} {r : V → List V → Hp → VK → Prop} {o e : Expr} {es : List Expr} {to : TE} {t : TA} {apos cpos : Pos} (hK : X.K = K) (pa : PlainAttrs T) (slot : Slot T name id) (hty : typeOf (.builtin id) = pure (.type "method_descriptor")) (hm : MtR X id r) (ho : PE X o to) (ha : PA X (e :: es) t)
    (hbase : attributeBase o name X.env (eval o X.env) = eval o X.env := by rfl)
    (hfew : ((backTo cpos (starEach (e :: es) X.env)).all (fun x => !x.1) && (backToKw cpos (keywordEach [] X.env)).all (fun x => x.1.isSome)
      && decide ((e :: es).length + ([] : List Keyword).length + (if ([] : List Keyword).isEmpty then 0 else 1) < 30)) = true := by rfl)
    (hline : (apos.endLine == cpos.line) = true := by rfl) (hs : starEach (e :: es) X.env = (false, eval e X.env) :: starEach es X.env := by rfl) (hplain : (backTo cpos (starEach es X.env)).any (·.1) = false := by rfl) :
    PE X (.Call (.Attribute o name apos) (e :: es) [] cpos) (tBM K T r to t) := by
  subst hK
  exact pe_bm pa slot hty hm ho ha hbase hfew hline hs hplain
end FW

set_option Elab.async false
set_option linter.all false
set_option maxRecDepth 100000
set_option maxHeartbeats 4000000
/-! repr of nested data, in the law's own def alone: there it is known that no repr is under way. -/
namespace FW
open PySem PySem.Spec PyProof.Rows L2
def keyD : Key → PyData
  | .inl i => .int i
  | .inr z => .str z
/-- what a thing reads as: the lists and dicts in it are not D; there are no lists in it (L false), or no dicts (L true) -/
inductive Rd (D : Addr) (L : Bool) (H : Hp) : V → PyData → Prop where
  | non : Rd D L H .non .none
  | bl (b : Bool) : Rd D L H (.bl b) (.bool b)
  | int (i : Int) (h : i.natAbs.log2 < 1920) : Rd D L H (.int i) (.int i)
  | str (z : Str) : Rd D L H (.str z) (.str z)
  | lst {a : Addr} {xs : List V} {ds : List PyData} (n : a ≠ D) (hL : L = true) (e : H a = some (.lst xs)) (l : ds.length = xs.length) (h : ∀ (i : Nat) (x : V) (d : PyData), xs[i]? = some x → ds[i]? = some d → Rd D L H x d) : Rd D L H (.ref a) (.list ds)
  | tup {a : Addr} {xs : List V} {ds : List PyData} (e : H a = some (.tup xs)) (l : ds.length = xs.length) (h : ∀ (i : Nat) (x : V) (d : PyData), xs[i]? = some x → ds[i]? = some d → Rd D L H x d) : Rd D L H (.ref a) (.tuple ds)
  | dic {a : Addr} {kvs : List (Key × V)} {ds : List (PyData × PyData)} (n : a ≠ D) (hL : L = false) (e : H a = some (.dK kvs)) (l : ds.length = kvs.length) (hk : ∀ (i : Nat) (x : Key × V) (d : PyData × PyData), kvs[i]? = some x → ds[i]? = some d → d.1 = keyD x.1 ∧ ∀ i, x.1 = .inl i → i.natAbs.log2 < 1920)
      (h : ∀ (i : Nat) (x : Key × V) (d : PyData × PyData), kvs[i]? = some x → ds[i]? = some d → Rd D L H x.2 d.2) : Rd D L H (.ref a) (.dict ds)
/-- what keeps lists, tuples and dicts but D keeps what a thing reads as -/
def KD3 (D : Addr) (H H' : Hp) : Prop := (∀ a xs, a ≠ D → H a = some (.lst xs) → H' a = some (.lst xs)) ∧ (∀ a xs, H a = some (.tup xs) → H' a = some (.tup xs)) ∧ ∀ a kvs, a ≠ D → H a = some (.dK kvs) → H' a = some (.dK kvs)
theorem KD3.refl {D : Addr} {H : Hp} : KD3 D H H := ⟨fun _ _ _ e => e, fun _ _ e => e, fun _ _ _ e => e⟩
theorem KD3.trans {D : Addr} {H H1 H2 : Hp} (a : KD3 D H H1) (b : KD3 D H1 H2) : KD3 D H H2 := ⟨fun x xs n e => b.1 x xs n (a.1 x xs n e), fun x xs e => b.2.1 x xs (a.2.1 x xs e), fun x xs n e => b.2.2 x xs n (a.2.2 x xs n e)⟩
theorem KD3.same {D : Addr} {H H' : Hp} (k : Same H H') : KD3 D H H' := ⟨fun _ _ _ e => k _ _ e, fun _ _ e => k _ _ e, fun _ _ _ e => k _ _ e⟩
theorem KD3.kx {D : Addr} {H H' : Hp} (k : KX D H H') : KD3 D H H' := ⟨fun _ _ n e => k.p _ _ (by simpa using n) e, fun _ _ e => k.t _ _ e, fun _ _ n e => k.p _ _ (by simpa using n) e⟩
/-- only instances are written -/
theorem KD3.kp {D : Addr} {M : List Addr} {H H' : Hp} (k : Kp M H H') (t : KT H H') (h : ∀ b ∈ M, b ≠ D → ∃ C dx fs, H b = some (.ins C dx fs) ) (hD : ∀ b ∈ M, b ≠ D) : KD3 D H H' :=
  ⟨fun a xs n e => k _ _ (fun z => by obtain ⟨C, dx, fs, e2⟩ := h a z n; rw [e] at e2; cases e2) e, fun a xs e => t _ _ e, fun a xs n e => k _ _ (fun z => by obtain ⟨C, dx, fs, e2⟩ := h a z n; rw [e] at e2; cases e2) e⟩
theorem Rd.keep {D : Addr} {L : Bool} {H H' : Hp} {x : V} {d : PyData} (h : Rd D L H x d) (k : KD3 D H H') : Rd D L H' x d := by
  induction h with
  | non => exact .non
  | bl b => exact .bl b
  | int i h => exact .int i h
  | str z => exact .str z
  | lst n hL e l _ ih => exact .lst n hL (k.1 _ _ n e) l ih
  | tup e l _ ih => exact .tup (k.2.1 _ _ e) l ih
  | dic n hL e l hk _ ih => exact .dic n hL (k.2.2 _ _ n e) l hk ih
theorem showAll_of : ∀ {ds : List PyData}, (∀ (i : Nat) (d : PyData), ds[i]? = some d → d.showable = true) → PyData.showableAll ds = true
  | [], _ => by simp [PyData.showableAll]
  | d :: ds, h => by
    simp only [PyData.showableAll, Bool.and_eq_true]
    exact ⟨h 0 d rfl, showAll_of fun i x e => h (i + 1) x (by simpa using e)⟩
theorem showKv_of : ∀ {ds : List (PyData × PyData)}, (∀ (i : Nat) (d : PyData × PyData), ds[i]? = some d → d.1.showable = true ∧ d.2.showable = true) → PyData.showableKv ds = true
  | [], _ => by simp [PyData.showableKv]
  | (a, b) :: ds, h => by
    have h0 := h 0 (a, b) rfl
    simp only [PyData.showableKv, Bool.and_eq_true]
    exact ⟨⟨h0.1, h0.2⟩, showKv_of fun i x e => h (i + 1) x (by simpa using e)⟩
theorem Rd.show {D : Addr} {L : Bool} {H : Hp} {x : V} {d : PyData} (h : Rd D L H x d) : d.showable = true := by
  induction h with
  | non => simp [PyData.showable]
  | bl b => simp [PyData.showable]
  | int i h => simpa [PyData.showable] using h
  | str z => simp [PyData.showable]
  | lst n hL e l _ ih =>
    simp only [PyData.showable]
    refine showAll_of fun i d hd => ?_
    have hi := (List.getElem?_eq_some_iff.mp hd).1
    exact ih i _ d (List.getElem?_eq_getElem (by omega)) hd
  | tup e l _ ih =>
    simp only [PyData.showable]
    refine showAll_of fun i d hd => ?_
    have hi := (List.getElem?_eq_some_iff.mp hd).1
    exact ih i _ d (List.getElem?_eq_getElem (by omega)) hd
  | dic n hL e l hk _ ih =>
    simp only [PyData.showable]
    refine showKv_of fun i d hd => ?_
    have hi := (List.getElem?_eq_some_iff.mp hd).1
    have hx := List.getElem?_eq_getElem (show i < _ by rw [← l]; exact hi)
    refine ⟨?_, ih i _ d hx hd⟩
    obtain ⟨e1, e2⟩ := hk i _ d hx hd
    rw [e1]
    cases hj : (_ : Key × V).1 with
    | inl j => simpa [keyD, PyData.showable] using e2 j hj
    | inr z => simp [keyD, PyData.showable]
/-! ### how long it shows -/
theorem piled_le {k : Nat} : ∀ {ts : List Str}, (∀ t ∈ ts, t.length ≤ k) → piled ts ≤ ts.length * (k + 2)
  | [], _ => Nat.zero_le _
  | t :: ts, h => by
    have h1 := h t (by simp)
    have h2 := piled_le (k := k) (ts := ts) fun z hz => h z (List.mem_cons_of_mem _ hz)
    rw [piled_cons, List.length_cons, Nat.succ_mul]
    omega
theorem shownAll_len : ∀ (ds : List PyData), (PyData.shownAll ds).length = ds.length
  | [] => by simp [PyData.shownAll]
  | d :: ds => by simp [PyData.shownAll, shownAll_len ds]
theorem shownAll_mem : ∀ {ds : List PyData} {t : Str}, t ∈ PyData.shownAll ds → ∃ d ∈ ds, t = d.shown
  | [], t, h => by simp [PyData.shownAll] at h
  | d :: ds, t, h => by
    simp only [PyData.shownAll] at h
    rcases List.mem_cons.mp h with rfl | h
    · exact ⟨d, by simp, rfl⟩
    · obtain ⟨e, he, rfl⟩ := shownAll_mem h
      exact ⟨e, List.mem_cons_of_mem _ he, rfl⟩
theorem shown_tup {k : Nat} {ds : List PyData} (h : ∀ d ∈ ds, d.shown.length ≤ k) : (PyData.tuple ds).shown.length ≤ ds.length * (k + 2) + 3 := by
  have hp : piled (PyData.shownAll ds) ≤ ds.length * (k + 2) := by
    have := piled_le (k := k) (ts := PyData.shownAll ds) fun t ht => by
      obtain ⟨d, hd, rfl⟩ := shownAll_mem ht
      exact h d hd
    rwa [shownAll_len] at this
  have h2 := fmt_text (PyData.shownAll ds)
  simp only [PyData.shown]
  omega
theorem depthAll_le {k : Nat} : ∀ {ds : List PyData}, (∀ d ∈ ds, d.depth ≤ k) → PyData.depthAll ds ≤ k
  | [], _ => by simp [PyData.depthAll]
  | d :: ds, h => by
    simp only [PyData.depthAll]
    exact Nat.max_le.mpr ⟨h d (by simp), depthAll_le fun z hz => h z (List.mem_cons_of_mem _ hz)⟩
theorem depth_tup {k : Nat} {ds : List PyData} (h : ∀ d ∈ ds, d.depth ≤ k) : (PyData.tuple ds).depth ≤ k + 1 := by
  simp only [PyData.depth]
  have := depthAll_le h
  omega
/-! ### what it reads as in the real heap -/
section
variable {X : Cx}
theorem readsAll_of {h : Heap} {F : Addr → Prop} {xs : List V} : ∀ {us : List Value} {ds : List PyData}, Vals xs us → ds.length = xs.length → (∀ (i : Nat) (x : V) (d : PyData) (u : Value), xs[i]? = some x → ds[i]? = some d → RelV x u → ∃ as, Reads h u d as ∧ ∀ a ∈ as, F a) → ∃ as, ReadsAll h us ds as ∧ ∀ a ∈ as, F a := by
  induction xs with
  | nil =>
    intro us ds r l hr
    cases r
    match ds, l with
    | [], _ => exact ⟨[], .nil, by simp⟩
  | cons x xs ih =>
    intro us ds r l hr
    cases r with
    | cons r1 r2 =>
      match ds, l with
      | d :: ds, l =>
        obtain ⟨as, a1, a2⟩ := hr 0 x d _ rfl rfl r1
        obtain ⟨bs, b1, b2⟩ := ih r2 (by simpa using l) fun i y e u hy he hu => hr (i + 1) y e u (by simpa using hy) (by simpa using he) hu
        refine ⟨as ++ bs, .cons a1 b1, fun a z => ?_⟩
        rcases List.mem_append.mp z with z | z
        · exact a2 a z
        · exact b2 a z
theorem readsKey {h : Heap} {k : Key} {v : Value} {d : PyData} (p : keyIs k v = true) (e : d = keyD k) : Reads h v d [] := by
  rcases keyIs_shape p with ⟨i, t, e3, e4⟩ | ⟨y, t, e3, e4⟩
  · subst e3
    rw [e, e4]
    exact .int i t
  · subst e3
    rw [e, e4]
    exact .str y t
theorem reads_dic {h : Heap} {F : Addr → Prop} {P : Program} {w : World} {kvs : List (Key × V)} : ∀ {vs : List (Key × Value)} {es : List DictEntry} {ds : List (PyData × PyData)}, KV kvs vs → Pairs (mixKind P w) es vs → ds.length = kvs.length →
    (∀ (i : Nat) (x : Key × V) (d : PyData × PyData), kvs[i]? = some x → ds[i]? = some d → d.1 = keyD x.1) →
    (∀ (i : Nat) (x : Key × V) (d : PyData × PyData) (u : Value), kvs[i]? = some x → ds[i]? = some d → RelV x.2 u → ∃ as, Reads h u d.2 as ∧ ∀ a ∈ as, F a) →
    ReadsAll h (es.map (·.key)) (ds.map (·.1)) [] ∧ ∃ bs, ReadsAll h (es.map (·.val)) (ds.map (·.2)) bs ∧ ∀ a ∈ bs, F a := by
  induction kvs with
  | nil =>
    intro vs es ds r p l hk hr
    cases r
    cases p
    match ds, l with
    | [], _ => exact ⟨.nil, [], .nil, by simp⟩
  | cons x kvs ih =>
    intro vs es ds r p l hk hr
    cases r with
    | cons r1 r2 =>
      rename_i q vs
      cases p with
      | cons p1 p2 p3 =>
        match ds, l with
        | d :: ds, l =>
          obtain ⟨i1, bs, i2, i3⟩ := ih r2 p3 (by simpa using l) (fun i y e hy he => hk (i + 1) y e (by simpa using hy) (by simpa using he)) fun i y e u hy he hu => hr (i + 1) y e u (by simpa using hy) (by simpa using he) hu
          obtain ⟨as, a1, a2⟩ := hr 0 x d _ rfl rfl r1.2
          have e1 := hk 0 x d rfl rfl
          rw [r1.1] at e1
          rw [← p2] at a1
          refine ⟨.cons (as := []) (bs := []) (readsKey p1 e1) i1, as ++ bs, .cons a1 i2, fun a z => ?_⟩
          rcases List.mem_append.mp z with z | z
          · exact a2 a z
          · exact i3 a z
/-- a dict (L false), a list (L true) -/
def AtL (L : Bool) (a : Addr) : Prop := L = false → (a == sysModules) = false
theorem Rd.reads {P : Program} {w : World} {D : Addr} {L : Bool} {H : Hp} {h : Heap} {x : V} {d : PyData} (r : Rd D L H x d) (ok : HOk P w H h) : ∀ u, RelV x u → ∃ as, Reads h u d as ∧ ∀ a ∈ as, AtL L a := by
  induction r with
  | non =>
    intro u hu
    cases hu
    exact ⟨[], .none, by simp⟩
  | bl b =>
    intro u hu
    cases hu
    exact ⟨[], .bool b, by simp⟩
  | int i hi =>
    intro u hu
    obtain ⟨t, rfl⟩ := hu
    exact ⟨[], .int i t, by simp⟩
  | str z =>
    intro u hu
    obtain ⟨t, rfl⟩ := hu
    exact ⟨[], .str z t, by simp⟩
  | lst n hL e l _ ih =>
    intro u hu
    cases hu
    obtain ⟨_, its, n, rv, ho⟩ := ok _ _ e
    obtain ⟨as, a1, a2⟩ := readsAll_of rv l fun i x d u hx hd hu => ih i x d hx hd u hu
    refine ⟨_, .list ho rfl rfl (by simpa using a1), fun a ha => ?_⟩
    rcases List.mem_cons.mp ha with rfl | ha
    · intro z
      rw [hL] at z
      cases z
    · exact a2 a ha
  | tup e l _ ih =>
    intro u hu
    cases hu
    obtain ⟨_, its, rv, o, ho, hc, n, hd⟩ := ok _ _ e
    obtain ⟨as, a1, a2⟩ := readsAll_of rv l fun i x d u hx hd hu => ih i x d hx hd u hu
    exact ⟨_, .tuple ho hc hd (by simpa using a1), a2⟩
  | dic n hL e l hk _ ih =>
    intro u hu
    cases hu
    obtain ⟨_, hsys, vs, kv, o, es, ep, ho, hx, hd, _, hp, _⟩ := ok _ _ e
    obtain ⟨a1, bs, b1, b2⟩ := reads_dic (F := AtL L) kv hp l (fun i x d h1 h2 => (hk i x d h1 h2).1) fun i x d u hx hd hu => ih i x d hx hd u hu
    refine ⟨_, .dict ho hx.1 hd a1 b1, fun a ha => ?_⟩
    rcases List.mem_append.mp ha with ha | ha
    · rcases List.mem_cons.mp ha with rfl | ha
      · exact fun _ => hsys
      · cases ha
    · exact b2 a ha
theorem hasDictAll_of : ∀ {ds : List PyData}, (∀ (i : Nat) (d : PyData), ds[i]? = some d → d.hasDict = false) → PyData.hasDictAll ds = false
  | [], _ => by simp [PyData.hasDictAll]
  | d :: ds, h => by
    simp only [PyData.hasDictAll, Bool.or_eq_false_iff]
    exact ⟨h 0 d rfl, hasDictAll_of fun i x e => h (i + 1) x (by simpa using e)⟩
theorem Rd.noDict {D : Addr} {H : Hp} {x : V} {d : PyData} (r : Rd D true H x d) : d.hasDict = false := by
  generalize hL : true = L at r
  induction r with
  | non => simp [PyData.hasDict]
  | bl b => simp [PyData.hasDict]
  | int i h => simp [PyData.hasDict]
  | str z => simp [PyData.hasDict]
  | lst n _ e l _ ih =>
    simp only [PyData.hasDict]
    refine hasDictAll_of fun i d hd => ?_
    have hi := (List.getElem?_eq_some_iff.mp hd).1
    exact ih i _ d (List.getElem?_eq_getElem (by omega)) hd
  | tup e l _ ih =>
    simp only [PyData.hasDict]
    refine hasDictAll_of fun i d hd => ?_
    have hi := (List.getElem?_eq_some_iff.mp hd).1
    exact ih i _ d (List.getElem?_eq_getElem (by omega)) hd
  | dic n h e l hk _ ih => rw [← hL] at h; cases h
/-- repr(x) -/
def rRepr : List V → Hp → VK → Prop := fun vs H Q => ∃ (x : V) (D : Addr) (L : Bool) (d : PyData), vs = [x] ∧ Rd D L H x d ∧ d.depth ≤ 60 ∧ d.shown.length ≤ sizeLine ∧ Q (.str d.shown) H
theorem c_repr (hg : X.A.guards = some []) (hu : X.A.units + 64 < cLine) : CallR X (.builtin "repr") rRepr := by
  intro pins s σ H xs us Q I rv h
  obtain ⟨x, D, L, d, rfl, r, hdp, hsz, q⟩ := h
  obtain ⟨u, rfl, hu1⟩ := vals1 rv
  obtain ⟨as, hr, hno⟩ := r.reads I.hok u hu1
  have hsm : d.hasDict = true → sysModules ∉ as := fun hd hm => by
    cases L with
    | true => rw [r.noDict] at hd; cases hd
    | false =>
      have := hno _ hm rfl
      rw [beq_self_eq_true] at this
      cases this
  have fin : ∀ (h' : Heap) (u' tk : Tok), (∀ b o, s.heap.get? b = some o → h'.get? b = some o) → EP X pins σ Q (.str d.shown u') { s with heap := h', toks := tk } := fun h' u' tk k => ⟨.str _, H, I.kept k, ⟨_, rfl⟩, q⟩
  cases x with
  | ref a =>
    cases hu1
    exact repr_of_reads' hr r.show hsm hg (by omega) (fun _ _ e => e) (fun h' u' tk k => fin h' u' tk k) hsz
  | non =>
    cases r
    cases hu1
    simp only [PyData.shown] at fin
    exact PySem.P.repr_of_none (fin s.heap _ _ fun _ _ e => e)
  | bl b =>
    cases r
    cases hu1
    simp only [PyData.shown] at fin
    exact PySem.P.repr_of_bool (fin s.heap _ _ fun _ _ e => e)
  | int i =>
    cases r with
    | int i hi =>
      obtain ⟨t, rfl⟩ := hu1
      simp only [PyData.shown] at fin
      exact PySem.P.repr_of_int hi (fin s.heap _ _ fun _ _ e => e)
  | str z =>
    cases r
    obtain ⟨t, rfl⟩ := hu1
    simp only [PyData.shown] at fin hsz
    exact PySem.P.repr_of_str (fin s.heap _ _ fun _ _ e => e) hsz
  | _ => cases r
end
end FW

set_option Elab.async false
set_option linter.all false
set_option maxRecDepth 100000
set_option maxHeartbeats 4000000
/-! The law's own def where it is known that no repr is under way: FnG is FnOk at such places alone. -/
namespace FW
open PySem PySem.Spec PyProof.Rows L2
structure FnG (P : Program) (w : World) (K : PySem.W.Frag) (mg : Str → Option Value) (base : Heap) (CX : CXT) (k : Nat) (f : Addr) (fd : FuncData) (ps : List Str) (sp : Sp) : Prop where
  len : ∀ us H Q E, sp us H Q E → us.length = ps.length
  go : ∀ (A : Around) (out : List Env) (s : Shared) (H : Hp) (args : Args) (us : List Value) (xs : List V) (Q : VK) (E : XK), A.guards = some [] → Room k A → Env0 P w K mg base A out s H → BindsTo s fd args (ps.zip us) → Vals xs us → sp xs H Q E →
    codeAny (model P w) A (.call (.ref f) args) (CR CX out P w H s Q E) s
section
variable {CX : CXT} {P : Program} {w : World} {K : PySem.W.Frag} {mg : Str → Option Value} {base : Heap} {k : Nat} {f : Addr}
theorem fn_ofG {name qual : Str} {params : Arguments} {body : List Stmt} {scope : Scope} {dV kV doc pm cdv ct oc : Value} {an od : Option Addr} {osl : Array (Option Value)} {N ps : List Str} {sp : Sp}
    (at' : K.lookup f = some ⟨oc, od, .func (PySem.W.fnOf name qual params body scope dV kV doc pm an cdv ct), osl⟩) (code : PySem.W.codeIn K cdv qual = true) (sc : FnScope N ps scope) (len : ∀ us H Q E, sp us H Q E → us.length = ps.length)
    (run : ∀ (A : Around) (out : List Env) (s : Shared) (H : Hp) (xs : List V) (Q : VK) (E : XK), A.guards = some [] → Room k (A.deeper (envOfC qual scope s.heap.objs.size f cdv)) → sp xs H Q E →
      ∃ t, PSs (cxOf CX P w K mg base N qual scope f cdv A out s H E) body t ∧ t { nx := fun _ H2 => Q .non H2, rt := Q } (start N xs) H) :
    FnG P w K mg base CX (k + 1) f (PySem.W.fnOf name qual params body scope dV kV doc pm an cdv ct) ps sp := by
  refine ⟨len, fun A out s H args us xs Q E hg room env bind rel prom => ?_⟩
  have hlen := len _ _ _ _ prom
  have kin : K.In s.heap := PySem.W.Frag.In.keeps env.mod.kin fun x y z => (env.bs x y z).1
  have nolim : s.heap.NoLimit := Heap.NoLimit.keeps env.mod.nolimit fun x y z => (env.bs x y z).1
  have kinds : ∀ z ∈ ps.zip us, scope.names.lookup z.1 = some .local ∨ (scope.names.lookup z.1 = some .cell ∧ ((cellsFrom (s.heap.objs.size + 1) scope.names []).lookup z.1).isSome = true) := by
    rintro ⟨n, v⟩ hz
    rcases sc.par n (List.of_mem_zip hz).1 with h | h
    · exact Or.inl h
    · exact Or.inr ⟨h, PySem.W.cellsFrom_some _ _ _ (Or.inl h)⟩
  refine codeAny_call_function room.depth (kin _ _ at') rfl sc.co sc.gen rfl (PySem.W.codeRec_of kin code) (bind _ _ _ _ ?_)
  refine wpAny_newFunctionEnv_cells sc.kind kinds fun env' ev s2 z => ?_
  subst ev
  refine ⟨nolim.keeps z.toInCall.keep, codeAny_func ?_⟩
  obtain ⟨t, ht, hq⟩ := run A out s H xs Q E hg (room.deeper _) prom
  have inv0 := inv_start (CX := CX) (E := E) sc room.hd env hlen rel z
  have back : ∀ {σ2 : L2.St} {H2 : Hp} {v : V} {u : Value} {s3 : Shared}, Inv (cxOf CX P w K mg base N qual scope f cdv A out s H E) [] σ2 H2 s3 → RelV v u → Q v H2 → CE out P w H s Q u s3 :=
    fun j rv q => ⟨_, _, j.os, j.bare, j.base, j.hok, rv, q⟩
  refine wpAny_mono (ht.run [] s2 _ H _ inv0 hq) (fun fl s3 hs => ?_) fun _ _ hs => hs
  cases fl with
  | ret u =>
    obtain ⟨_, _, _, j, rv, q⟩ := hs
    exact back j rv q
  | next =>
    obtain ⟨_, _, j, q⟩ := hs
    exact back (v := V.non) (u := Value.none) j rfl q
  | brk => exact (hs.elim fun _ h => h.elim fun _ h => h.2.elim)
  | cont => exact (hs.elim fun _ h => h.elim fun _ h => h.2.elim)
/-- a def of the text that the law begins with -/
theorem Fun.okG {x qual : Str} {st : Stmt} {fd : FuncData} {N ps : List Str} {sp : Sp} (F : Fun K x qual st f fd) (S : FnScope N ps (defScope st)) (len : ∀ us H Q E, sp us H Q E → us.length = ps.length)
    (body : ∀ (cdv : Value) (A : Around) (out : List Env) (s : Shared) (H : Hp) (xs : List V) (Q : VK) (E : XK), A.guards = some [] → Room k (A.deeper (envOfC qual (defScope st) s.heap.objs.size f cdv)) → sp xs H Q E →
      ∃ t, PSs (cxOf CX P w K mg base N qual (defScope st) f cdv A out s H E) (defBody st) t ∧ t { nx := fun _ H2 => Q .non H2, rt := Q } (start N xs) H) : FnG P w K mg base CX (k + 1) f fd ps sp := by
  obtain ⟨_, _, _, _, _, _, cdv, _, _, rfl, at1, code1⟩ := F.ex
  exact fn_ofG at1 code1 S len fun A out s H xs Q E => body cdv A out s H xs Q E
theorem Fun.okG0 {x qual : Str} {st : Stmt} {fd : FuncData} {N ps : List Str} {sp : Sp} (F : Fun K x qual st f fd) (S : FnScope N ps (defScope st)) (len : ∀ us H Q E, sp us H Q E → us.length = ps.length)
    (body : ∀ (cdv : Value) (A : Around) (out : List Env) (s : Shared) (H : Hp) (xs : List V) (Q : VK) (E : XK), A.guards = some [] → Room k (A.deeper (envOfC qual (defScope st) s.heap.objs.size f cdv)) → sp xs H Q E →
      ∃ t, PSs (cxOf CX0 P w K mg base N qual (defScope st) f cdv A out s H E).nox (defBody st) t ∧ t { nx := fun _ H2 => Q .non H2, rt := Q } (start N xs) H) : FnG P w K mg base CX0 (k + 1) f fd ps sp := by
  refine Fun.okG F S len fun cdv A out s H xs Q E hg hr hs => ?_
  obtain ⟨t, a, b⟩ := body cdv A out s H xs Q E hg hr hs
  exact ⟨t, a.nox, b⟩
/-- the call of the law -/
theorem law_callG {mb : Str → Option Value} {fa a : Addr} {fd : FuncData} {x : Str} {sp : Sp} {s1 : Shared} {vs : List Value} {ns : List Int}
    (kin : K.In s1.heap) (gl : s1.heap.Ns mainGlobals mg) (bl : s1.heap.Ns builtinsNs mb) (boot : ∀ y : Str, y ≠ "__name__" → mb y = bootBuiltins y) (nolim : s1.heap.NoLimit) (gens : s1.gens = #[])
    (obj : s1.heap.get? a = some { cls := .type "list", data := .seq vs.toArray }) (isI : IntsAre vs ns) (short : ns.length ≤ sizeLine) (room : Room k callerA)
    (F : ∀ b : Heap, K.In b → b.Ns mainGlobals mg → FnG P w K mg b CX k fa fd [x] sp) (binds : ∀ (s : Shared) (u : Value), BindsTo s fd ⟨[u], []⟩ [(x, u)])
    (prom : ∀ H : Hp, Only H → SqL K H a (ns.map V.int) → sp [.ref a] H (fun v _ => v = .bl true) fun _ _ _ => False)
    (noX : ∀ H e s2, CX [] H s1 (fun _ _ _ => False) e s2 → False) :
    codeAny (model P w) callerA (.call (.ref fa) ⟨[.ref a], []⟩) (fun r s2 => r = .ok (.ret (.bool true)) ∧ OldK s1.heap s2.heap ∧ s2.os = s1.os ∧ AllBare s2.gens) s1 := by
  have rel := vals_ints isI
  have eql := isI.length
  have main : ∀ H : Hp, Only H → SqL K H a (ns.map V.int) → HOk P w H s1.heap → (∀ b, H b ≠ none → b = a) → (H a ≠ none → K.lookup a = none) →
      codeAny (model P w) callerA (.call (.ref fa) ⟨[.ref a], []⟩) (fun r s2 => r = .ok (.ret (.bool true)) ∧ OldK s1.heap s2.heap ∧ s2.os = s1.os ∧ AllBare s2.gens) s1 := by
    intro H only sq ok one away
    have stay : ∀ {b : Addr} {o : Obj}, s1.heap.get? b = some o → H b = none → (hidT s1.heap H).get? b = some o := fun e1 e2 => hidT_get e1 e2
    have noDict : ∀ {b : Addr} {o : Obj} {es : Array DictEntry} {n : Nat}, s1.heap.get? b = some o → o.data = .dict es n → H b = none := by
      intro b o es n e1 e2
      by_cases z : H b = none
      · exact z
      · have e3 := one b z
        subst e3
        rw [obj] at e1
        cases e1
        exact absurd (show Data.seq vs.toArray _ = Data.dict es n from e2) (fun q => by cases q)
    have names : ∀ {b : Addr} {m : Str → Option Value}, s1.heap.Ns b m → (hidT s1.heap H).Ns b m := by
      rintro b m ⟨o, es, n, e1, e2, r⟩
      exact ⟨o, es, n, stay e1 (noDict e1 e2), e2, r⟩
    have kin' : K.In (hidT s1.heap H) := by
      intro b o e1
      refine stay (kin b o e1) ?_
      by_cases z : H b = none
      · exact z
      · have e3 := one b z
        subst e3
        rw [away z] at e1
        cases e1
    have mod : Mod K mg (hidT s1.heap H) := ⟨kin', names gl, ⟨mb, names bl, boot⟩, nolim.elim fun m h => ⟨m, names h.1, h.2⟩⟩
    have env : Env0 P w K mg (hidT s1.heap H) callerA [] s1 H := ⟨rfl, mod, fun _ _ e => of_hidT e, Nat.le_of_eq (hidT_size _ _), trivial, (fun b hb => nomatch hb), ok, AllBare.of_eq gens⟩
    refine codeAny_mono ((F _ kin' (names gl)).go callerA [] s1 H ⟨[.ref a], []⟩ [.ref a] [.ref a] _ _ rfl room env (binds s1 (.ref a)) (.cons rfl .nil) (prom H only sq)) fun r s2 h => ?_
    cases r with
    | error e => exact (noX H e s2 h).elim
    | ok fl =>
      cases fl with
      | next | brk | cont => exact False.elim h
      | ret u =>
        obtain ⟨v, H2, os, bare, un, ok2, rv, q⟩ := h
        have q2 : v = .bl true := q
        subst q2
        obtain rfl : u = Value.bool true := rv
        refine ⟨rfl, (OldK.of_keep fun b o e => ?_), os, bare⟩
        by_cases z : H b = none
        · exact un.keep b o e z (by simp [frs]) (by simp)
        · rcases only b with z2 | ⟨ob, xs, z2⟩
          · exact absurd z2 z
          · have z3 := un.frzs b ob _ z2
            have e1 := (ok b _ z2).1
            have e2 := (ok2 b _ z3).1
            rw [e] at e1
            cases e1
            exact e2
  by_cases hk : K.lookup a = none
  rotate_left
  · obtain ⟨o, hk⟩ := Option.ne_none_iff_exists'.mp hk
    have e := kin a o hk
    rw [obj] at e
    cases e
    exact main (fun _ => none) (fun _ => Or.inl rfl) (Or.inr ⟨_, vs.toArray, _, hk, rfl, rfl, rfl, by rw [List.size_toArray, eql]; exact short, by simpa using rel⟩) (fun b u z => by cases (show (none : Option HO) = some u from z)) (fun b z => absurd rfl z) fun z => absurd rfl z
  · have at1 : ∀ b, b = a → (if b = a then some (HO.frz { cls := .type "list", data := .seq vs.toArray } (.lst (ns.map V.int))) else none) = some (HO.frz { cls := .type "list", data := .seq vs.toArray } (.lst (ns.map V.int))) := fun b h => if_pos h
    refine main (fun b => if b = a then some (.frz { cls := .type "list", data := .seq vs.toArray } (.lst (ns.map V.int))) else none) (fun b => ?_) (Or.inl (Or.inr ⟨_, at1 a rfl⟩)) (fun b u z => ?_) (fun b z => ?_) fun _ => hk
    · by_cases h : b = a
      · exact Or.inr ⟨_, _, at1 b h⟩
      · exact Or.inl (if_neg h)
    · by_cases h : b = a
      · have z2 := (at1 b h).symm.trans z
        cases z2
        subst h
        exact ⟨obj, by rw [List.length_map]; exact short, vs, _, rel, obj⟩
      · exact nomatch (if_neg h).symm.trans z
    · exact Decidable.byContradiction fun h => z (if_neg h)
end
theorem walk_ofG {l : PySem.W.OpenLaw} {n k : Nat} {q : Program} {loose : List Str} {XP : (Str → Option Value) → Heap → Prop} {YP : World → Heap → Prop} {d : DefRec} {K : Params → PySem.W.Frag} {CX : World → CXT} {sp : World → Sp} {x : Str}
    (most : l.most = some n) (short : n ≤ sizeLine) (nodef : d.params.defaults = []) (room : Room k callerA)
    (kin : ∀ (w : World) (h : Heap), YP w h → (K w.params).In h)
    (F : ∀ (w : World) (mg : Str → Option Value) (fa : Addr) (h : Heap), PySem.W.Frag.In (K w.params) h → h.Ns mainGlobals mg → mg d.name = some (.ref fa) →
      ∃ fd : FuncData, (∀ (s : Shared) (u : Value), BindsTo s fd ⟨[u], []⟩ [(x, u)]) ∧ ∀ b : Heap, (K w.params).In b → b.Ns mainGlobals mg → FnG l.prog w (K w.params) mg b (CX w) k fa fd [x] (sp w))
    (prom : ∀ (w : World) (H : Hp) (a : Addr) (ns : List Int), ns.length ≤ n → Only H → SqL (K w.params) H a (ns.map V.int) → sp w [.ref a] H (fun v _ => v = .bl true) fun _ _ _ => False)
    (noX : ∀ (w : World) (H : Hp) (s : Shared) (e : Value) (s2 : Shared), CX w [] H s (fun _ _ _ => False) e s2 → False) :
    PySem.W.WalkO q loose XP YP l.row.toRowW d [] (fun g us => PySem.call g us) := by
  refine Att.attach_call most nodef fun w s0 s1 mg mb fa o pm cd doc a vs ns G Y ho hd hcd hmg obj isI len gens => ?_
  have k1 := kin w _ Y
  obtain ⟨fd, binds, go⟩ := F w mg fa _ k1 G.T.g hmg
  exact law_callG k1 G.T.g G.T.b G.T.builtins G.T.nolimit gens obj isI (Nat.le_trans len short) room go binds (fun H hO hS => prom w H a ns len hO hS) fun H e s2 => noX w H s1 e s2
end FW

set_option Elab.async false
set_option linter.all false
set_option maxRecDepth 100000
set_option maxHeartbeats 4000000
namespace FW
open PySem L2
def top (i : Nat) : Stmt := PySem.Challenge.pw_fewasks_k76_texts_read.main.body.getD i (.Pass ⟨0, 0, 0, 0⟩)
abbrev s_Desk___init__ : Stmt := inClass (top 9) 0
abbrev N_Desk___init__ : List Str := ["self", "text", "head", "lines"]
theorem sc_Desk___init__ : FnScope N_Desk___init__ ["self", "text"] (defScope s_Desk___init__) := ⟨rfl, rfl, rfl, by decide +kernel, rfl, by decide +kernel, by decide +kernel⟩
abbrev s_Desk_next_word : Stmt := inClass (top 9) 1
abbrev N_Desk_next_word : List Str := ["self"]
theorem sc_Desk_next_word : FnScope N_Desk_next_word ["self"] (defScope s_Desk_next_word) := ⟨rfl, rfl, rfl, by decide +kernel, rfl, by decide +kernel, by decide +kernel⟩
abbrev s_Desk_need : Stmt := inClass (top 9) 2
abbrev N_Desk_need : List Str := ["self", "word"]
theorem sc_Desk_need : FnScope N_Desk_need ["self", "word"] (defScope s_Desk_need) := ⟨rfl, rfl, rfl, by decide +kernel, rfl, by decide +kernel, by decide +kernel⟩
abbrev s_Desk_is_next : Stmt := inClass (top 9) 3
abbrev N_Desk_is_next : List Str := ["self", "word"]
theorem sc_Desk_is_next : FnScope N_Desk_is_next ["self", "word"] (defScope s_Desk_is_next) := ⟨rfl, rfl, rfl, by decide +kernel, rfl, by decide +kernel, by decide +kernel⟩
abbrev s_Desk_next_lines : Stmt := inClass (top 9) 4
abbrev N_Desk_next_lines : List Str := ["self", "many", "rows"]
theorem sc_Desk_next_lines : FnScope N_Desk_next_lines ["self", "many"] (defScope s_Desk_next_lines) := ⟨rfl, rfl, rfl, by decide +kernel, rfl, by decide +kernel, by decide +kernel⟩
abbrev s_Desk_is_done : Stmt := inClass (top 9) 5
abbrev N_Desk_is_done : List Str := ["self"]
theorem sc_Desk_is_done : FnScope N_Desk_is_done ["self"] (defScope s_Desk_is_done) := ⟨rfl, rfl, rfl, by decide +kernel, rfl, by decide +kernel, by decide +kernel⟩
abbrev s_need : Stmt := top 10
abbrev N_need : List Str := ["good"]
theorem sc_need : FnScope N_need ["good"] (defScope s_need) := ⟨rfl, rfl, rfl, by decide +kernel, rfl, by decide +kernel, by decide +kernel⟩
abbrev s_is_int : Stmt := top 11
abbrev N_is_int : List Str := ["thing"]
theorem sc_is_int : FnScope N_is_int ["thing"] (defScope s_is_int) := ⟨rfl, rfl, rfl, by decide +kernel, rfl, by decide +kernel, by decide +kernel⟩
abbrev s_is_label : Stmt := top 12
abbrev N_is_label : List Str := ["thing", "sign"]
theorem sc_is_label : FnScope N_is_label ["thing"] (defScope s_is_label) := ⟨rfl, rfl, rfl, by decide +kernel, rfl, by decide +kernel, by decide +kernel⟩
abbrev s_is_row : Stmt := top 13
abbrev N_is_row : List Str := ["thing", "sign"]
theorem sc_is_row : FnScope N_is_row ["thing"] (defScope s_is_row) := ⟨rfl, rfl, rfl, by decide +kernel, rfl, by decide +kernel, by decide +kernel⟩
abbrev s_are_rows : Stmt := top 14
abbrev N_are_rows : List Str := ["thing", "row"]
theorem sc_are_rows : FnScope N_are_rows ["thing"] (defScope s_are_rows) := ⟨rfl, rfl, rfl, by decide +kernel, rfl, by decide +kernel, by decide +kernel⟩
abbrev s_is_list : Stmt := top 15
abbrev N_is_list : List Str := ["thing", "most"]
theorem sc_is_list : FnScope N_is_list ["thing", "most"] (defScope s_is_list) := ⟨rfl, rfl, rfl, by decide +kernel, rfl, by decide +kernel, by decide +kernel⟩
abbrev s_is_pair : Stmt := top 16
abbrev N_is_pair : List Str := ["thing"]
theorem sc_is_pair : FnScope N_is_pair ["thing"] (defScope s_is_pair) := ⟨rfl, rfl, rfl, by decide +kernel, rfl, by decide +kernel, by decide +kernel⟩
abbrev s_rises : Stmt := top 17
abbrev N_rises : List Str := ["things", "one", "other"]
theorem sc_rises : FnScope N_rises ["things"] (defScope s_rises) := ⟨rfl, rfl, rfl, by decide +kernel, rfl, by decide +kernel, by decide +kernel⟩
abbrev s_put_int : Stmt := top 18
abbrev N_put_int : List Str := ["thing", "words", "lines"]
theorem sc_put_int : FnScope N_put_int ["thing", "words", "lines"] (defScope s_put_int) := ⟨rfl, rfl, rfl, by decide +kernel, rfl, by decide +kernel, by decide +kernel⟩
abbrev s_put_truth : Stmt := top 19
abbrev N_put_truth : List Str := ["thing", "words", "lines"]
theorem sc_put_truth : FnScope N_put_truth ["thing", "words", "lines"] (defScope s_put_truth) := ⟨rfl, rfl, rfl, by decide +kernel, rfl, by decide +kernel, by decide +kernel⟩
abbrev s_put_label : Stmt := top 20
abbrev N_put_label : List Str := ["thing", "words", "lines"]
theorem sc_put_label : FnScope N_put_label ["thing", "words", "lines"] (defScope s_put_label) := ⟨rfl, rfl, rfl, by decide +kernel, rfl, by decide +kernel, by decide +kernel⟩
abbrev s_put_pair : Stmt := top 21
abbrev N_put_pair : List Str := ["thing", "words", "lines"]
theorem sc_put_pair : FnScope N_put_pair ["thing", "words", "lines"] (defScope s_put_pair) := ⟨rfl, rfl, rfl, by decide +kernel, rfl, by decide +kernel, by decide +kernel⟩
abbrev s_put_piece : Stmt := top 22
abbrev N_put_piece : List Str := ["thing", "words", "lines"]
theorem sc_put_piece : FnScope N_put_piece ["thing", "words", "lines"] (defScope s_put_piece) := ⟨rfl, rfl, rfl, by decide +kernel, rfl, by decide +kernel, by decide +kernel⟩
abbrev s_put_list : Stmt := top 23
abbrev N_put_list : List Str := ["thing", "most", "each", "words", "lines", "one"]
theorem sc_put_list : FnScope N_put_list ["thing", "most", "each", "words", "lines"] (defScope s_put_list) := ⟨rfl, rfl, rfl, by decide +kernel, rfl, by decide +kernel, by decide +kernel⟩
abbrev s_put_content : Stmt := top 24
abbrev N_put_content : List Str := ["thing", "words", "lines", "label", "name"]
theorem sc_put_content : FnScope N_put_content ["thing", "words", "lines"] (defScope s_put_content) := ⟨rfl, rfl, rfl, by decide +kernel, rfl, by decide +kernel, by decide +kernel⟩
abbrev s_put_pack : Stmt := top 25
abbrev N_put_pack : List Str := ["thing", "words", "lines"]
theorem sc_put_pack : FnScope N_put_pack ["thing", "words", "lines"] (defScope s_put_pack) := ⟨rfl, rfl, rfl, by decide +kernel, rfl, by decide +kernel, by decide +kernel⟩
abbrev s_get_int : Stmt := top 26
abbrev N_get_int : List Str := ["desk", "word", "sign"]
theorem sc_get_int : FnScope N_get_int ["desk"] (defScope s_get_int) := ⟨rfl, rfl, rfl, by decide +kernel, rfl, by decide +kernel, by decide +kernel⟩
abbrev s_get_truth : Stmt := top 27
abbrev N_get_truth : List Str := ["desk", "word"]
theorem sc_get_truth : FnScope N_get_truth ["desk"] (defScope s_get_truth) := ⟨rfl, rfl, rfl, by decide +kernel, rfl, by decide +kernel, by decide +kernel⟩
abbrev s_get_label : Stmt := top 28
abbrev N_get_label : List Str := ["desk", "word"]
theorem sc_get_label : FnScope N_get_label ["desk"] (defScope s_get_label) := ⟨rfl, rfl, rfl, by decide +kernel, rfl, by decide +kernel, by decide +kernel⟩
abbrev s_get_pair : Stmt := top 29
abbrev N_get_pair : List Str := ["desk", "label"]
theorem sc_get_pair : FnScope N_get_pair ["desk"] (defScope s_get_pair) := ⟨rfl, rfl, rfl, by decide +kernel, rfl, by decide +kernel, by decide +kernel⟩
abbrev s_get_piece : Stmt := top 30
abbrev N_get_piece : List Str := ["desk", "word", "first", "many"]
theorem sc_get_piece : FnScope N_get_piece ["desk"] (defScope s_get_piece) := ⟨rfl, rfl, rfl, by decide +kernel, rfl, by decide +kernel, by decide +kernel⟩
abbrev s_get_list : Stmt := top 31
abbrev N_get_list : List Str := ["desk", "most", "each", "things"]
theorem sc_get_list : FnScope N_get_list ["desk", "most", "each"] (defScope s_get_list) := ⟨rfl, rfl, rfl, by decide +kernel, rfl, by decide +kernel, by decide +kernel⟩
abbrev s_get_content : Stmt := top 32
abbrev N_get_content : List Str := ["desk", "word", "many", "entries", "parents", "root", "label", "name"]
theorem sc_get_content : FnScope N_get_content ["desk"] (defScope s_get_content) := ⟨rfl, rfl, rfl, by decide +kernel, rfl, by decide +kernel, by decide +kernel⟩
abbrev s_get_pack : Stmt := top 33
abbrev N_get_pack : List Str := ["desk", "name", "word", "base"]
theorem sc_get_pack : FnScope N_get_pack ["desk"] (defScope s_get_pack) := ⟨rfl, rfl, rfl, by decide +kernel, rfl, by decide +kernel, by decide +kernel⟩
abbrev s_text_by : Stmt := top 39
abbrev N_text_by : List Str := ["row", "word", "kinds", "words", "lines", "part", "kind", "deed"]
theorem sc_text_by : FnScope N_text_by ["row", "word", "kinds"] (defScope s_text_by) := ⟨rfl, rfl, rfl, by decide +kernel, rfl, by decide +kernel, by decide +kernel⟩
abbrev s_text_of : Stmt := top 40
abbrev N_text_of : List Str := ["row", "word", "kinds", "text"]
theorem sc_text_of : FnScope N_text_of ["row"] (defScope s_text_of) := ⟨rfl, rfl, rfl, by decide +kernel, rfl, by decide +kernel, by decide +kernel⟩
abbrev s_row_by : Stmt := top 41
abbrev N_row_by : List Str := ["text", "word", "kinds", "desk", "row", "kind", "deed"]
theorem sc_row_by : FnScope N_row_by ["text", "word", "kinds"] (defScope s_row_by) := ⟨rfl, rfl, rfl, by decide +kernel, rfl, by decide +kernel, by decide +kernel⟩
abbrev s_row_of : Stmt := top 42
abbrev N_row_of : List Str := ["text", "word", "kinds", "row"]
theorem sc_row_of : FnScope N_row_of ["text"] (defScope s_row_of) := ⟨rfl, rfl, rfl, by decide +kernel, rfl, by decide +kernel, by decide +kernel⟩
abbrev s_law_deck : Stmt := top 44
abbrev N_law_deck : List Str := ["_law_script"]
theorem sc_law_deck : FnScope N_law_deck ["_law_script"] (defScope s_law_deck) := ⟨rfl, rfl, rfl, by decide +kernel, rfl, by decide +kernel, by decide +kernel⟩
abbrev s_law_mixed : Stmt := top 45
abbrev N_law_mixed : List Str := ["_law_cell", "_law_turn"]
theorem sc_law_mixed : FnScope N_law_mixed ["_law_cell", "_law_turn"] (defScope s_law_mixed) := ⟨rfl, rfl, rfl, by decide +kernel, rfl, by decide +kernel, by decide +kernel⟩
abbrev s_law_draw : Stmt := top 46
abbrev N_law_draw : List Str := ["_law_deck_here", "_law_many", "_law_cells", "_law_found", "_law_number"]
theorem sc_law_draw : FnScope N_law_draw ["_law_deck_here", "_law_many"] (defScope s_law_draw) := ⟨rfl, rfl, rfl, by decide +kernel, rfl, by decide +kernel, by decide +kernel⟩
abbrev s_law_text : Stmt := top 47
abbrev N_law_text : List Str := ["_law_deck_here", "_law_size", "_law_signs", "_law_k"]
theorem sc_law_text : FnScope N_law_text ["_law_deck_here", "_law_size"] (defScope s_law_text) := ⟨rfl, rfl, rfl, by decide +kernel, rfl, by decide +kernel, by decide +kernel⟩
abbrev s_law_label : Stmt := top 48
abbrev N_law_label : List Str := ["_law_deck_here", "_law_letters", "_law_k"]
theorem sc_law_label : FnScope N_law_label ["_law_deck_here"] (defScope s_law_label) := ⟨rfl, rfl, rfl, by decide +kernel, rfl, by decide +kernel, by decide +kernel⟩
abbrev s_law_int : Stmt := top 49
abbrev N_law_int : List Str := ["_law_deck_here", "_law_turn"]
theorem sc_law_int : FnScope N_law_int ["_law_deck_here"] (defScope s_law_int) := ⟨rfl, rfl, rfl, by decide +kernel, rfl, by decide +kernel, by decide +kernel⟩
abbrev s_law_ints : Stmt := top 50
abbrev N_law_ints : List Str := ["_law_deck_here", "_law_k"]
theorem sc_law_ints : FnScope N_law_ints ["_law_deck_here"] (defScope s_law_ints) := ⟨rfl, rfl, rfl, by decide +kernel, rfl, by decide +kernel, by decide +kernel⟩
abbrev s_law_leaf_rows : Stmt := top 51
abbrev N_law_leaf_rows : List Str := ["_law_deck_here", "_law_low", "_law_k"]
theorem sc_law_leaf_rows : FnScope N_law_leaf_rows ["_law_deck_here", "_law_low"] (defScope s_law_leaf_rows) := ⟨rfl, rfl, rfl, by decide +kernel, rfl, by decide +kernel, by decide +kernel⟩
abbrev s_law_pairs : Stmt := top 52
abbrev N_law_pairs : List Str := ["_law_deck_here", "_law_pairs_here", "_law_k"]
theorem sc_law_pairs : FnScope N_law_pairs ["_law_deck_here"] (defScope s_law_pairs) := ⟨rfl, rfl, rfl, by decide +kernel, rfl, by decide +kernel, by decide +kernel⟩
abbrev s_law_marks : Stmt := top 53
abbrev N_law_marks : List Str := ["_law_deck_here", "_law_k"]
theorem sc_law_marks : FnScope N_law_marks ["_law_deck_here"] (defScope s_law_marks) := ⟨rfl, rfl, rfl, by decide +kernel, rfl, by decide +kernel, by decide +kernel⟩
abbrev s_law_pieces : Stmt := top 54
abbrev N_law_pieces : List Str := ["_law_deck_here", "_law_pieces_here", "_law_k"]
theorem sc_law_pieces : FnScope N_law_pieces ["_law_deck_here"] (defScope s_law_pieces) := ⟨rfl, rfl, rfl, by decide +kernel, rfl, by decide +kernel, by decide +kernel⟩
abbrev s_law_pack : Stmt := top 55
abbrev N_law_pack : List Str := ["_law_deck_here", "_law_turn", "_law_parents"]
theorem sc_law_pack : FnScope N_law_pack ["_law_deck_here", "_law_turn"] (defScope s_law_pack) := ⟨rfl, rfl, rfl, by decide +kernel, rfl, by decide +kernel, by decide +kernel⟩
abbrev s_law_row : Stmt := top 56
abbrev N_law_row : List Str := ["_law_deck_here", "_law_turn", "_law_picks", "_law_starts", "_law_limit", "_law_k"]
theorem sc_law_row : FnScope N_law_row ["_law_deck_here", "_law_turn"] (defScope s_law_row) := ⟨rfl, rfl, rfl, by decide +kernel, rfl, by decide +kernel, by decide +kernel⟩
abbrev s_law_words : Stmt := top 57
abbrev N_law_words : List Str := ["_law_thing", "_law_words_here", "_law_one"]
theorem sc_law_words : FnScope N_law_words ["_law_thing"] (defScope s_law_words) := ⟨rfl, rfl, rfl, by decide +kernel, rfl, by decide +kernel, by decide +kernel⟩
abbrev s_law_pack_words : Stmt := top 58
abbrev N_law_pack_words : List Str := ["_law_row_here", "_law_lines", "_law_words_here", "_law_piece", "_law_part"]
theorem sc_law_pack_words : FnScope N_law_pack_words ["_law_row_here", "_law_lines"] (defScope s_law_pack_words) := ⟨rfl, rfl, rfl, by decide +kernel, rfl, by decide +kernel, by decide +kernel⟩
abbrev s_law_written : Stmt := top 59
abbrev N_law_written : List Str := ["_law_row_here", "_law_words_here", "_law_lines", "_law_k"]
theorem sc_law_written : FnScope N_law_written ["_law_row_here"] (defScope s_law_written) := ⟨rfl, rfl, rfl, by decide +kernel, rfl, by decide +kernel, by decide +kernel⟩
abbrev s_law_refused : Stmt := top 60
abbrev N_law_refused : List Str := ["_law_text_here", "_law_told"]
theorem sc_law_refused : FnScope N_law_refused ["_law_text_here"] (defScope s_law_refused) := ⟨rfl, rfl, rfl, by decide +kernel, rfl, by decide +kernel, by decide +kernel⟩
abbrev s_law : Stmt := top 61
abbrev N_law : List Str := ["_law_script", "_law_deck_here", "_law_row_here", "_law_other", "_law_one", "_law_text_here", "_law_found", "_law_head"]
theorem sc_law : FnScope N_law ["_law_script"] (defScope s_law) := ⟨rfl, rfl, rfl, by decide +kernel, rfl, by decide +kernel, by decide +kernel⟩
structure Df (K : PySem.W.Frag) (mg : Str → Option Value) (x : Str) (st : Stmt) (ps : List Str) (f : Addr) (fd : FuncData) : Prop where
  fn : Fun K x x st f fd
  b : Binds K fd ps []
  g : mg x = some (.ref f)
structure Txt (K : PySem.W.Frag) (mg : Str → Option Value) : Prop where
  n_len : mg "len" = none
  n_list : mg "list" = none
  n_isinstance : mg "isinstance" = none
  n_int : mg "int" = none
  n_bool : mg "bool" = none
  n_str : mg "str" = none
  n_tuple : mg "tuple" = none
  n_all : mg "all" = none
  n_range : mg "range" = none
  n_zip : mg "zip" = none
  n_ord : mg "ord" = none
  n_set : mg "set" = none
  n_sorted : mg "sorted" = none
  n_max : mg "max" = none
  n_repr : mg "repr" = none
  g_GREATEST : ∃ t, mg "GREATEST" = some (.int 1000000000000000000 t)
  g_MANY : ∃ t, mg "MANY" = some (.int 400 t)
  g_ROWS : ∃ t, mg "ROWS" = some (.int 40 t)
  g_LETTERS : ∃ t, mg "LETTERS" = some (.str "abcdefghijklmnopqrstuvwxyz" t)
  g_FIGURES : ∃ t, mg "FIGURES" = some (.str "0123456789" t)
local macro_rules | `(tactic| walk_at "sq") => `(tactic| first | assumption | exact SqL.of (by assumption) | exact SqT.of (by assumption) | exact TupD.sq (by assumption))
local macro_rules | `(tactic| walk_at "c") => `(tactic| first | ((with_reducible refine cdivw ?_ ?_) <;> first | decide | omega | assumption) | ((with_reducible refine cmul_r ?_ ?_) <;> first | decide | omega) | ((with_reducible refine cmul_l ?_ ?_) <;> first | decide | omega) | with_reducible assumption | decide | omega | exact ⟨by decide, by decide, by first | decide | omega⟩)
local macro_rules | `(tactic| walk_at "at") => `(tactic| first | assumption | exact rfl)
local macro_rules | `(tactic| walk_at "ty") => `(tactic| first | exact .base (.int _) | exact .base (.bl _) | exact .base (.str _) | exact .base .non | exact .base (.tup (by assumption)) | exact .base (.lst (by assumption)) | exact .base (.dK (by assumption)) | exact TupD.tx (by assumption))
local macro_rules | `(tactic| walk_at "kb") => `(tactic| first | exact kb_int_int | exact kb_int_bool | exact kb_int_str | exact kb_int_tuple | exact kb_int_list | exact kb_int_dict | exact kb_bool_int | exact kb_bool_bool | exact kb_bool_str | exact kb_bool_tuple | exact kb_bool_list | exact kb_bool_dict | exact kb_str_int | exact kb_str_bool | exact kb_str_str | exact kb_str_tuple | exact kb_str_list | exact kb_str_dict | exact kb_tuple_int | exact kb_tuple_bool | exact kb_tuple_str | exact kb_tuple_tuple | exact kb_tuple_list | exact kb_tuple_dict | exact kb_list_int | exact kb_list_bool | exact kb_list_str | exact kb_list_tuple | exact kb_list_list | exact kb_list_dict | exact kb_dict_int | exact kb_dict_bool | exact kb_dict_str | exact kb_dict_tuple | exact kb_dict_list | exact kb_dict_dict | exact kb_NoneType_int | exact kb_NoneType_bool | exact kb_NoneType_str | exact kb_NoneType_tuple | exact kb_NoneType_list | exact kb_NoneType_dict)
local macro_rules | `(tactic| walk_at "s") => `(tactic| first
  | dsimp only [Bool.not_true, Bool.not_false]
  )
local macro_rules | `(tactic| walk_at "s") => `(tactic| first
  | with_reducible refine w_m1 ?_
  | with_reducible refine w_isS ?_
  | with_reducible refine w_istr ?_
  | with_reducible refine w_istr' ?_
  | ((with_reducible refine' w_all ?h1 ?_); (case h1 => walk_at "sq"))
  | ((with_reducible refine' w_glst ?h1 ?h2 ?_); (case h1 => walk_at "sq"); (case h2 => exact rfl))
  | with_reducible refine w_callN ?_
  | with_reducible refine w_step ?_
  )
local macro_rules | `(tactic| walk_at "s") => `(tactic| first
  | with_reducible refine w_tryG ?_
  | with_reducible refine w_inS ?_
  | with_reducible refine w_neS ?_
  | with_reducible refine w_ltS ?_
  | with_reducible refine w_gtS ?_
  | ((with_reducible refine' w_augI ?hv ?_); (case hv => exact rfl))
  | ((with_reducible refine w_ipI ?_); dsimp only [List.set_cons_zero, List.set_cons_succ])
  | with_reducible refine w_callD ?_
  )
local macro_rules | `(tactic| walk_at "s") => `(tactic| first
  | with_reducible refine w_keys ?_
  | ((with_reducible refine' w_keys' ?h1 ?_); (case h1 => assumption))
  | ((with_reducible refine' w_dinF ?h1 ?_); (case h1 => assumption))
  | ((with_reducible refine' w_dgetF ?h1 ?h2 ?_); (case h1 => assumption); (case h2 => assumption))
  | ((with_reducible refine' w_any ?h1 ?_); (case h1 => walk_at "sq"))
  | with_reducible refine w_zipA ?_
  | ((with_reducible refine' w_zipT' ?h1 ?h2 ?_); (case h1 => walk_at "sq"); (case h2 => walk_at "sq"))
  | with_reducible refine w_dct ?_
  )
local macro_rules | `(tactic| walk_at "s") => `(tactic| first
  | with_reducible refine w_noPart ?_
  | with_reducible refine w_part ?_
  | with_reducible refine w_part' ?_
  | with_reducible refine w_enum ?_
  | ((with_reducible refine' w_enum' ?h1 ?_); (case h1 => walk_at "sq"))
  | with_reducible refine w_bm0 ?_
  | with_reducible refine w_retN ?_
  | with_reducible refine w_tyes ?_
  )
local macro_rules | `(tactic| walk_at "s") => `(tactic| first
  | ((with_reducible refine' w_trT ?h1 ?_); (case h1 => walk_at "sq"))
  | with_reducible refine w_dc ?_
  | with_reducible refine w_dc2 ?_
  | with_reducible refine w_dget1 ?_
  | ((with_reducible refine' w_dget1I ?h1 ?_); (case h1 => assumption))
  | with_reducible refine w_rev ?_
  | ((with_reducible refine' w_rev' ?h1 ?_); (case h1 => walk_at "sq"))
  | with_reducible refine w_slice ?_
  )
local macro_rules | `(tactic| walk_at "s") => `(tactic| first
  | with_reducible refine w_callS ?_
  | with_reducible refine w_try ?_
  | with_reducible refine w_isB ?_
  | with_reducible refine w_isN ?_
  | with_reducible refine w_notN ?_
  | with_reducible refine w_chain ?_
  | with_reducible refine w_tru ?_
  | ((with_reducible refine' w_trL ?h1 ?_); (case h1 => walk_at "sq"))
  )
local macro_rules | `(tactic| walk_at "s") => `(tactic| first
  | with_reducible refine w_dsetd ?_
  | ((with_reducible refine' w_leT2 ?h1 ?h2 ?_); (case h1 => walk_at "sq"); (case h2 => walk_at "sq"))
  | ((with_reducible refine' w_inT ?h1 ?_); (case h1 => walk_at "sq"))
  | ((with_reducible refine' w_ninT ?h1 ?_); (case h1 => walk_at "sq"))
  | ((with_reducible refine' w_inL ?h1 ?_); (case h1 => walk_at "sq"))
  | ((with_reducible refine' w_ninL ?h1 ?_); (case h1 => walk_at "sq"))
  | with_reducible refine w_pair ?_
  | with_reducible refine w_pnil ?_
  )
local macro_rules | `(tactic| walk_at "s") => `(tactic| first
  | ((with_reducible refine' w_dinI ?h1 ?_); (case h1 => assumption))
  | ((with_reducible refine' w_dnotinI ?h1 ?_); (case h1 => assumption))
  | ((with_reducible refine' w_dgetI ?h1 ?h2 ?_); (case h1 => assumption); (case h2 => assumption))
  | with_reducible refine w_dnewK ?_
  | with_reducible refine w_dput ?_
  | with_reducible refine w_dget2 ?_
  | ((with_reducible refine' w_isD ?h1 ?_); (case h1 => assumption))
  | ((with_reducible refine' w_dget2I ?h1 ?_); (case h1 => assumption))
  )
local macro_rules | `(tactic| walk_at "s") => `(tactic| first
  | with_reducible refine w_eqB ?_
  | ((with_reducible refine' w_sum ?h1 ?_); (case h1 => walk_at "sq"))
  | ((with_reducible refine' w_gtup ?h1 ?h2 ?_); (case h1 => walk_at "sq"); (case h2 => exact rfl))
  | with_reducible refine w_gcons ?_
  | with_reducible refine w_gnil ?_
  | with_reducible refine w_din ?_
  | with_reducible refine w_dnotin ?_
  | with_reducible refine w_dget ?_
  )
local macro_rules | `(tactic| walk_at "s") => `(tactic| first
  | ((with_reducible refine' w_itT' ?h1 ?_); (case h1 => walk_at "sq"))
  | with_reducible refine w_lc ?_
  | ((with_reducible refine' w_isi ?ty ?hk ?_); (case ty => walk_at "ty"); (case hk => walk_at "kb"))
  | with_reducible refine iteT ?_
  | with_reducible refine iteF ?_
  | with_reducible refine w_nT ?_
  | with_reducible refine w_nF ?_
  | with_reducible refine w_eqS ?_
  )
local macro_rules | `(tactic| walk_at "s") => `(tactic| first
  | with_reducible refine w_for ?_
  | with_reducible refine w_rng1 ?_
  | ((with_reducible refine w_rng1' ?h1 ?h2 ?_); (case h1 => omega); (case h2 => omega))
  | with_reducible refine w_rng2 ?_
  | ((with_reducible refine w_rng2' ?h1 ?_); (case h1 => omega))
  | with_reducible refine w_itL ?_
  | ((with_reducible refine' w_itL' ?h1 ?_); (case h1 => walk_at "sq"))
  | with_reducible refine w_itT ?_
  )
local macro_rules | `(tactic| walk_at "s") => `(tactic| first
  | ((with_reducible refine w_sz ?h1 ?_); (case h1 => first | decide | (simp only [List.length_cons, List.length_nil]; decide)))
  | with_reducible refine w_min2 ?_
  | with_reducible refine w_max2 ?_
  | with_reducible refine w_tupRg ?_
  | with_reducible refine w_rg2 ?_
  | with_reducible refine w_rg2' ?_
  | with_reducible refine w_bits ?_
  | with_reducible refine w_bits' ?_
  )
local macro_rules | `(tactic| walk_at "s") => `(tactic| first
  | with_reducible refine w_cons ?_
  | with_reducible refine w_call ?_
  | with_reducible refine w_lst ?_
  | with_reducible refine w_tup ?_
  | with_reducible refine w_bm ?_
  | ((with_reducible refine' w_tyL ?h1 ?_); (case h1 => assumption))
  | ((with_reducible refine' w_lenL ?h1 ?_); (case h1 => walk_at "sq"))
  | ((with_reducible refine' w_lenT ?h1 ?_); (case h1 => walk_at "sq"))
  )
local macro_rules | `(tactic| walk_at "s") => `(tactic| first
  | with_reducible refine w_andV ?_
  | with_reducible refine w_orV ?_
  | with_reducible refine w_notV ?_
  | with_reducible refine w_ret ?_
  | with_reducible refine w_drop ?_
  | with_reducible refine w_next ?_
  | with_reducible refine w_cb ?_
  | with_reducible refine w_nil ?_
  )
local macro_rules | `(tactic| walk_at "s") => `(tactic| first
  | with_reducible refine w_sub ?_
  | with_reducible refine w_if ?_
  | with_reducible refine w_test ?_
  | with_reducible refine w_tb ?_
  | with_reducible refine w_bl ?_
  | with_reducible refine w_and ?_
  | with_reducible refine w_or ?_
  | with_reducible refine w_not ?_
  )
local macro_rules | `(tactic| walk_at "s") => `(tactic| first
  | with_reducible refine w_eqI ?_
  | with_reducible refine w_neI ?_
  | ((with_reducible refine' w_ixL ?h1 ?h2 ?_); (case h1 => walk_at "sq"); (case h2 => walk_at "at"))
  | ((with_reducible refine' w_ixT ?h1 ?h2 ?_); (case h1 => walk_at "sq"); (case h2 => walk_at "at"))
  | ((with_reducible refine' w_ixSL ?h1 ?h2 ?_); (case h1 => walk_at "sq"); (case h2 => walk_at "at"))
  | ((with_reducible refine' w_ixST ?h1 ?h2 ?_); (case h1 => walk_at "sq"); (case h2 => walk_at "at"))
  | with_reducible refine w_neB ?_
  | with_reducible refine w_eqN ?_
  )
local macro_rules | `(tactic| walk_at "s") => `(tactic| first
  | with_reducible refine w_c ?_
  | ((with_reducible refine w_name ?_); dsimp only [List.set_cons_zero, List.set_cons_succ])
  | with_reducible refine w_name ?_
  | with_reducible refine w_op ?_
  | with_reducible refine w_un ?_
  | with_reducible refine w_neg ?_
  | with_reducible refine w_i0 ?_
  | ((with_reducible refine w_i ?hc ?_); (case hc => walk_at "c"))
  )
local macro_rules | `(tactic| walk_at "s") => `(tactic| first
  | with_reducible refine w_seqA ?_
  | with_reducible refine w_seqD ?_
  | with_reducible refine w_seqF ?_
  | with_reducible refine w_seqW ?_
  | with_reducible refine w_seqG ?_
  | with_reducible refine w_seqP ?_
  | with_reducible refine w_asg ?_
  | ((with_reducible refine' w_var ?hv ?_); (case hv => exact rfl))
  )
local macro_rules | `(tactic| walk_at "p") => `(tactic| first | assumption | omega | (simp only [List.length_cons, List.length_nil, List.length_map]; omega) | exact rfl | decide)
local macro_rules | `(tactic| walk_at "d") => `(tactic| first
  | ((with_reducible refine w_yes ?hp ?_); (case hp => walk_at "p"))
  | ((with_reducible refine w_no ?hp ?_); (case hp => walk_at "p"))
  | ((with_reducible refine w_nyes ?hp ?_); (case hp => walk_at "p"))
  | ((with_reducible refine w_nno ?hp ?_); (case hp => walk_at "p")))
local macro_rules | `(tactic| walk_at "g") => `(tactic| repeat walk_at "s")
local macro_rules | `(tactic| walk_at "dg") => `(tactic| (walk_at "d"; repeat walk_at "s"))
local macro_rules | `(tactic| walk_at "x") => `(tactic| ((try dsimp only [cxOf, Cx.nox, Cx.wish]); repeat walk_at "s"))
local macro_rules | `(tactic| walk_at "s") => `(tactic| with_reducible refine w_revT ?_)
local macro_rules | `(tactic| walk_at "s") => `(tactic| first
  | with_reducible refine w_nget ?_
  | with_reducible refine w_nget1 ?_
  | with_reducible refine w_seqNP ?_
  | with_reducible refine w_nput ?_
  | with_reducible refine w_maxD ?_
  )
local macro_rules | `(tactic| walk_at "s") => `(tactic| first
  | with_reducible refine w_fld ?_
  | ((with_reducible refine' w_fld' ?h1 ?h2 ?h3 ?h4 ?_); (case h1 => assumption); (case h2 => assumption); (case h3 => assumption); (case h4 => exact rfl))
  | with_reducible refine w_seqFS ?_
  | with_reducible refine w_fldS ?_
  | with_reducible refine w_meth ?_
  | ((with_reducible refine' w_meth' ?h1 ?h2 ?_); (case h1 => assumption); (case h2 => exact rfl))
  | with_reducible refine w_make ?_
  | with_reducible refine w_nin ?_
  )
local macro_rules | `(tactic| walk_at "s") => `(tactic| first
  | with_reducible refine w_revL ?_
  )
def spDeck (K : PySem.W.Frag) : Sp := fun vs H Q _ => ∃ (a : Addr) (ns : List Int), vs = [.ref a] ∧ SqL K H a (ns.map V.int) ∧
  ∀ H' d c, Same H H' → H d = none → H c = none → Deck H' d c 0 → Q (.ref d) H'
def spMixed : Sp := fun vs H Q _ => ∃ (x t : Int), vs = [.int x, .int t] ∧ 0 ≤ t ∧ t ≤ 2 ^ 41 ∧ ∀ i, Q (.int i) H
def spDraw : Sp := fun vs H Q _ => ∃ (d c : Addr) (n : Nat) (m : Int), vs = [.ref d, .int m] ∧ Deck H d c n ∧ n < MOSTD ∧ 0 < m ∧ m < 2 ^ 64 ∧
  ∀ (i : Nat) H', (i : Int) < m → Deck H' d c (n + 1) → Off d H H' → Q (.int i) H'
theorem w_deck {K : PySem.W.Frag} {H : Hp} {Q : VK} {E : XK} {a : Addr} {ns : List Int} (h1 : SqL K H a (ns.map V.int)) (h : ∀ H' d c, Same H H' → H d = none → H c = none → Deck H' d c 0 → Q (.ref d) H') : spDeck K ([V.ref a] ++ []) H Q E := ⟨a, ns, rfl, h1, h⟩
theorem w_draw {H : Hp} {Q : VK} {E : XK} {d c : Addr} {n : Nat} {m : Int} (D : Deck H d c n) (hn : n < MOSTD) (h0 : 0 < m) (h1 : m < 2 ^ 64) (h : ∀ (i : Nat) H', (i : Int) < m → Deck H' d c (n + 1) → Off d H H' → Q (.int i) H') : spDraw ([V.ref d, V.int m] ++ []) H Q E := ⟨d, c, n, m, rfl, D, hn, h0, h1, h⟩
theorem dk0 {c : Addr} {a b t : V} : atI [V.ref c, a, b, t] 0 = some (.ref c) := rfl
theorem dk1 {c a b t : V} : atI [c, a, b, t] 1 = some a := rfl
theorem dk2 {c a b t : V} : atI [c, a, b, t] 2 = some b := rfl
theorem dk3 {c a b t : V} : atI [c, a, b, t] 3 = some t := rfl
section
variable {P : Program} {w : World} {K : PySem.W.Frag} {mg : Str → Option Value} {base : Heap}
theorem ok_deck {f : Addr} {fd : FuncData} (T : Txt K mg) (F : Fun K "_law_deck" "_law_deck" s_law_deck f fd) : FnOk P w K mg base CX0 1 f fd ["_law_script"] (spDeck K) := by
  refine F.ok sc_law_deck (fun vs H Q E h => ?_) (fun cdv A outer s H vs Q E hr h => ?_)
  · obtain ⟨a, ns, rfl, _⟩ := h
    rfl
  · obtain ⟨a, ns, rfl, hS, q⟩ := h
    refine ⟨_,
      (pss_one
        (ps_ret (pe_lst (pa_cons (pe_callTy (r := rListOf K) c_listOf (by rfl) T.n_list (by decide +kernel) (pa_cons (pv 0) pa_nil)) (pa_cons pe_int (pa_cons pe_int (pa_cons pe_int pa_nil)))))))
      , ?_⟩
    walk_at "x"
    refine w_listL hS fun c H1 hc e1 k1 => ?_
    walk_at "g"
    refine w_new fun d H2 hd e2 k2 => ?_
    refine q _ d c (Same.trans k1 k2) (k1.free hd) hc ⟨⟨ns, 0, 0, 0, e2, k2 _ _ e1, Nat.le_refl _⟩, ne_of_none e1 hd⟩
theorem ok_mixed {f : Addr} {fd : FuncData} (T : Txt K mg) (F : Fun K "_law_mixed" "_law_mixed" s_law_mixed f fd) : FnOk P w K mg base CX0 1 f fd ["_law_cell", "_law_turn"] spMixed := by
  refine F.ok sc_law_mixed (fun vs H Q E h => ?_) (fun cdv A outer s H vs Q E hr h => ?_)
  · obtain ⟨x, t, rfl, _⟩ := h
    rfl
  · obtain ⟨x, t, rfl, h0, h1, q⟩ := h
    refine ⟨_,
      (pss_one
        (ps_ret (pe_op op_mod (pe_op op_pow (pe_op op_add (pe_op op_add (pe_op op_mod (pv 0) pe_int) (pe_op op_mul (pv 1) pe_int)) pe_int) pe_int) pe_int)))
      , ?_⟩
    have e := Int.emod_lt_of_pos x (show (0 : Int) < 2147483629 by decide)
    have e2 := Int.emod_nonneg x (show (2147483629 : Int) ≠ 0 by decide)
    walk_at "x"
    exact q _
theorem ok_draw {f fM : Addr} {fd fdM : FuncData} (T : Txt K mg) (F : Fun K "_law_draw" "_law_draw" s_law_draw f fd) (D_law_mixed : Df K mg "_law_mixed" s_law_mixed ["_law_cell", "_law_turn"] fM fdM) : FnOk P w K mg base CX0 2 f fd ["_law_deck_here", "_law_many"] spDraw := by
  have G_law_mixed : FnOk P w K mg base CX0 1 fM fdM ["_law_cell", "_law_turn"] spMixed := ok_mixed T D_law_mixed.fn
  refine F.ok sc_law_draw (fun vs H Q E h => ?_) (fun cdv A outer s H vs Q E hr h => ?_)
  · obtain ⟨d, c, n, m, rfl, _⟩ := h
    rfl
  · obtain ⟨d, c, n, m, rfl, ⟨⟨cs, a, b, t, e1, e2, e3⟩, ne⟩, hn, hm, hm2, q⟩ := h
    have hn' : t < 1099511627776 := Nat.lt_of_le_of_lt e3 hn
    refine ⟨_,
      (pss_cons
        (ps_set (i := 2) sc_law_draw.nd rfl (.inl rfl) (pe_ix (r := rIxL K) ix_list (pv 0) pe_int (fun _ _ => rfl)))
      (pss_cons
        (ps_asg (pe_op op_add (pe_ix (r := rIxL K) ix_list (pv 0) pe_int (fun _ _ => rfl)) pe_int) (pg_sub (pv 0) pe_int set_list))
      (pss_cons
        (ps_if (PW.pt (pw_and (pt_cmpR op_eq (pe_ix (r := rIxL K) ix_list (pv 0) pe_int (fun _ _ => rfl)) pe_int (nomark _)) (pw_and1 (pt_cmpR op_lt (pe_ix (r := rIxL K) ix_list (pv 0) pe_int (fun _ _ => rfl)) (pe_callB (r := rLen K) c_len (by rfl) T.n_len (by decide +kernel) (pa_cons (pv 2) pa_nil)) (nomark _)))))
          (pss_cons
            (ps_asg (pe_op op_add (pe_ix (r := rIxL K) ix_list (pv 0) pe_int (fun _ _ => rfl)) pe_int) (pg_sub (pv 0) pe_int set_list))
          (pss_cons
            (ps_if (pt_cmpR op_lt (pe_ix (r := rIxL K) ix_list (pv 2) (pe_op op_sub (pe_ix (r := rIxL K) ix_list (pv 0) pe_int (fun _ _ => rfl)) pe_int) (fun _ _ => rfl)) (pe_op op_pow pe_int pe_int) (nomark _))
              (pss_one
                (ps_ret (pe_op op_mod (pe_call G_law_mixed (hr.mono (by omega)) (by rfl) D_law_mixed.g D_law_mixed.fn.kp D_law_mixed.b .nil pass0 (pa_cons (pe_ix (r := rIxL K) ix_list (pv 2) (pe_op op_sub (pe_ix (r := rIxL K) ix_list (pv 0) pe_int (fun _ _ => rfl)) pe_int) (fun _ _ => rfl)) (pa_cons (pe_ix (r := rIxL K) ix_list (pv 0) pe_int (fun _ _ => rfl)) pa_nil))) (pv 1))))
              pss_nil)
          (pss_one
            (ps_asg (pe_ix (r := rIxL K) ix_list (pv 2) (pe_op op_sub (pe_ix (r := rIxL K) ix_list (pv 0) pe_int (fun _ _ => rfl)) pe_int) (fun _ _ => rfl)) (pg_sub (pv 0) pe_int set_list)))))
          pss_nil)
      (pss_cons
        (ps_if (pt_cmpR op_gt (pe_ix (r := rIxL K) ix_list (pv 0) pe_int (fun _ _ => rfl)) pe_int (nomark _))
          (pss_cons
            (ps_set (i := 3) sc_law_draw.nd rfl (.inl rfl) (pe_op op_mod (pe_ix (r := rIxL K) ix_list (pv 0) pe_int (fun _ _ => rfl)) (pv 1)))
          (pss_cons
            (ps_asg (pe_op op_fdivW (pe_ix (r := rIxL K) ix_list (pv 0) pe_int (fun _ _ => rfl)) (pv 1)) (pg_sub (pv 0) pe_int set_list))
          (pss_one
            (ps_ret (pv 3)))))
          pss_nil)
      (pss_cons
        (ps_set (i := 4) sc_law_draw.nd rfl (.inl rfl) (pe_op op_mul (pe_ix (r := rIxL K) ix_list (pv 0) pe_int (fun _ _ => rfl)) pe_int))
      (pss_cons
        (ps_if (pt_cmpR op_gt (pe_callB (r := rLen K) c_len (by rfl) T.n_len (by decide +kernel) (pa_cons (pv 2) pa_nil)) pe_int (nomark _))
          (pss_one
            (ps_set (i := 4) sc_law_draw.nd rfl (.inl rfl) (pe_op op_add (pv 4) (pe_op op_mod (pe_ix (r := rIxL K) ix_list (pv 2) (pe_op op_mod (pe_op op_mul (pe_ix (r := rIxL K) ix_list (pv 0) pe_int (fun _ _ => rfl)) pe_int) (pe_callB (r := rLen K) c_len (by rfl) T.n_len (by decide +kernel) (pa_cons (pv 2) pa_nil))) (fun _ _ => rfl)) pe_int))))
          pss_nil)
      (pss_one
        (ps_ret (pe_op op_mod (pe_call G_law_mixed (hr.mono (by omega)) (by rfl) D_law_mixed.g D_law_mixed.fn.kp D_law_mixed.b .nil pass0 (pa_cons (pv 4) (pa_cons (pe_ix (r := rIxL K) ix_list (pv 0) pe_int (fun _ _ => rfl)) pa_nil))) (pv 1))))))))))
      , ?_⟩
    rw [show L2.start N_law_draw [V.ref d, V.int m] = [some (.ref d), some (.int m), none, none, none] from rfl]
    -- cells = deck[0]; deck[3] = deck[3] + 1
    walk_at "x"
    refine w_setL e1 rfl rfl fun H1 g0 o0 => ?_
    have fin : ∀ (H' : Hp) (a' : Nat) (b' i : Int), 0 ≤ i → i < m → H' d = some (.lst [.ref c, .int a', .int b', .int (t + 1)]) → Off d H H' → Q (.int i) H' := fun H' a' b' i i0 i1 g1 g2 => by
      have z := q i.toNat H' (by omega) ⟨⟨cs, a', b', t + 1, g1, (g2 c ne).trans e2, by omega⟩, ne⟩ g2
      rw [Int.toNat_of_nonneg i0] at z
      exact z
    have md : ∀ x : Int, 0 ≤ x % m ∧ x % m < m := fun x => ⟨Int.emod_nonneg x (by omega), Int.emod_lt_of_pos x hm⟩
    have g0 : H1 d = some (.lst [.ref c, .int a, .int b, .int ((t : Int) + 1)]) := g0
    have c1 : H1 c = some (.lst (cs.map V.int)) := (o0 c ne).trans e2
    -- if deck[2] == 0 and deck[1] < len(cells): ..
    refine w_seqJ (fun σ' H2 => σ' = [some (.ref d), some (.int m), some (.ref c), none, none] ∧ ∃ (a' : Nat) (b' : Int), H2 d = some (.lst [.ref c, .int a', .int b', .int ((t : Int) + 1)]) ∧ Off d H H2) ?_ ?_
    · rintro σ' H2 ⟨rfl, a', b', g2, o2⟩
      have c2 : H2 c = some (.lst (cs.map V.int)) := (o2 c ne).trans e2
      refine w_seqJ (fun σ' H3 => σ' = [some (.ref d), some (.int m), some (.ref c), none, none] ∧ H3 = H2) ?_ ?_
      · rintro σ' H3 ⟨rfl, rfl⟩
        -- number = deck[3] * 48271; if len(cells) > 0: ..
        walk_at "g"
        refine w_seqJ (fun σ' H4 => (∃ z : Int, σ' = [some (.ref d), some (.int m), some (.ref c), none, some (.int z)]) ∧ H4 = H3) ?_ ?_
        · rintro σ' H4 ⟨⟨z, rfl⟩, rfl⟩
          walk_at "g"
          refine ⟨_, _, rfl, by omega, by omega, fun y => ?_⟩
          walk_at "g"
          exact fin _ a' b' _ (md y).1 (md y).2 g2 o2
        · intro U hU
          walk_at "g"
          refine w_ite (fun hl => ?_) (fun hl => ?_)
          · obtain ⟨v, hv1, hv2⟩ := at_lt (xs := cs.map V.int) (i := ((t : Int) + 1) * 7 % ((cs.map V.int).length : Int)) (Int.emod_nonneg _ (by omega)) (Int.emod_lt_of_pos _ hl)
            rw [List.getElem?_map] at hv1
            obtain ⟨y, _, rfl⟩ := Option.map_eq_some_iff.mp hv1
            walk_at "g"
            exact hU _ _ ⟨⟨_, rfl⟩, rfl⟩
          · exact hU _ _ ⟨⟨_, rfl⟩, rfl⟩
      · intro U hU
        walk_at "g"
        refine w_ite (fun hl => ?_) (fun hl => ?_)
        · walk_at "g"
          refine w_setL g2 rfl rfl fun H9 g9 o9 => ?_
          walk_at "g"
          exact fin _ a' (b' / m) _ (md b').1 (md b').2 g9 (o2.trans o9)
        · exact hU _ _ ⟨rfl, rfl⟩
    · intro U hU
      have no : U [some (.ref d), some (.int m), some (.ref c), none, none] H1 := hU _ _ ⟨rfl, a, b, g0, o0⟩
      walk_at "g"
      refine w_ite (fun hl => ?_) (fun _ => no)
      walk_at "g"
      refine w_ite (fun hl2 => ?_) (fun _ => no)
      obtain ⟨v, hv1, hv2⟩ := at_lt (xs := cs.map V.int) (i := ((a + 1 : Nat) : Int) - 1) (by omega) (by omega)
      rw [List.getElem?_map] at hv1
      obtain ⟨y, _, rfl⟩ := Option.map_eq_some_iff.mp hv1
      walk_at "g"
      refine w_setL g0 rfl rfl fun H2 g2 o2 => ?_
      have g2 : H2 d = some (.lst [.ref c, .int ((a + 1 : Nat) : Int), .int b, .int ((t : Int) + 1)]) := g2
      have o2 : Off d H H2 := o0.trans o2
      have c2 : H2 c = some (.lst (cs.map V.int)) := (o2 c ne).trans e2
      refine w_seq ?_
      walk_at "g"
      refine w_ite (fun hl => ?_) (fun hl => ?_)
      · walk_at "g"
        refine ⟨_, _, rfl, by omega, by omega, fun y => ?_⟩
        walk_at "g"
        exact fin _ (a + 1) b _ (md y).1 (md y).2 g2 o2
      · walk_at "g"
        refine w_setL g2 rfl rfl fun H9 g9 o9 => ?_
        exact hU _ _ ⟨rfl, a + 1, y, g9, o2.trans o9⟩
end
/-! ### things of a row -/
def LabOk (z : Str) : Prop := 1 ≤ z.length ∧ z.length ≤ 8 ∧ ∀ c ∈ z.cps.toList, c ∈ (Str.ofString "abcdefghijklmnopqrstuvwxyz").cps.toList
def RowN (z : Str) : Prop := z.length ≤ 40 ∧ ∀ c ∈ z.cps.toList, 32 ≤ c ∧ c ≤ 126 ∧ c ≠ 37
def RowsN (rs : List Str) : Prop := rs.length ≤ 40 ∧ ∀ z ∈ rs, RowN z
abbrev nV (n : Nat) : V := .int (n : Int)
def TOP : Nat := 1000000000000000000
theorem map_at {α β : Type} {f : α → β} {l : List α} {i : Nat} {y : β} (h : (l.map f)[i]? = some y) : ∃ x, l[i]? = some x ∧ f x = y := by
  rw [List.getElem?_map] at h
  exact Option.map_eq_some_iff.mp h
def spNeed (C : Addr) : Sp := fun vs H Q E => ∃ b : Bool, vs = [.bl b] ∧ (b = true → Q .non H) ∧ (b = false → E (.ref C) none H)
def spNInt : Sp := fun vs H Q _ => ∃ v : V, vs = [v] ∧ ((∃ n : Nat, v = nV n ∧ n ≤ TOP ∧ Q (.bl true) H) ∨ ∃ b : Bool, v = .bl b ∧ Q (.bl false) H)
def spNLab : Sp := fun vs H Q _ => ∃ z : Str, vs = [.str z] ∧ LabOk z ∧ ∀ H', Same H H' → Q (.bl true) H'
def spNRow : Sp := fun vs H Q _ => ∃ z : Str, vs = [.str z] ∧ RowN z ∧ ∀ H', Same H H' → Q (.bl true) H'
def spNRows : Sp := fun vs H Q _ => ∃ (r : Addr) (rs : List Str), vs = [.ref r] ∧ H r = some (.tup (rs.map V.str)) ∧ RowsN rs ∧ ∀ H', Same H H' → Q (.bl true) H'
def spNList : Sp := fun vs H Q _ => ∃ (r : Addr) (xs : List V) (m : Int), vs = [.ref r, .int m] ∧ H r = some (.tup xs) ∧ xs.length ≤ 1000 ∧ (xs.length : Int) ≤ m ∧ Q (.bl true) H
def spNPair : Sp := fun vs H Q _ => ∃ (r : Addr) (z : Str) (n : Nat), vs = [.ref r] ∧ H r = some (.tup [.str z, nV n]) ∧ LabOk z ∧ n ≤ TOP ∧ ∀ H', Same H H' → Q (.bl true) H'
section
variable {P : Program} {w : World} {K : PySem.W.Frag} {mg : Str → Option Value} {base : Heap}
theorem ok_need {C_NoText f : Addr} {fd : FuncData} (T : Txt K mg) (F : Fun K "need" "need" s_need f fd) (X_NoText : Exn K mg "NoText" C_NoText) : FnOk P w K mg base (L2.CX P w) 1 f fd ["good"] (spNeed C_NoText) := by
  refine F.okX sc_need (fun vs H Q E h => ?_) (fun cdv A outer s H vs Q E hr h => ?_)
  · obtain ⟨b, rfl, _⟩ := h
    rfl
  · obtain ⟨b, rfl, q1, q2⟩ := h
    refine ⟨_,
      (pss_one
        (ps_if (pt_not (pt_val (pv 0)))
          (pss_one
            (ps_raise rfl (takes_of rfl rfl rfl rfl) (pmk_own0 PySem.F.excBase_ValueError X_NoText.x X_NoText.g X_NoText.k (raises_own X_NoText.b X_NoText.t) rfl)))
          pss_nil))
      , ?_⟩
    rw [show L2.start N_need [V.bl b] = [some (.bl b)] from rfl]
    cases b with
    | true =>
      walk_at "x"
      exact q1 rfl
    | false =>
      walk_at "x"
      exact q2 rfl
theorem ok_nint {f : Addr} {fd : FuncData} (T : Txt K mg) (F : Fun K "is_int" "is_int" s_is_int f fd) : FnOk P w K mg base CX0 1 f fd ["thing"] spNInt := by
  obtain ⟨tk_GREATEST, g_GREATEST⟩ := T.g_GREATEST
  refine F.ok sc_is_int (fun vs H Q E h => ?_) (fun cdv A outer s H vs Q E hr h => ?_)
  · obtain ⟨x, rfl, _⟩ := h
    rfl
  · obtain ⟨x, rfl, hc⟩ := h
    refine ⟨_,
      (pss_one
        (ps_ret (pe_and (pe_callB (r := rIsi K) call_isi (by rfl) T.n_isinstance (by decide +kernel) (pa_cons (pv 0) (pa_cons (pe_bltn (v := .ty "int") (u := .type "int") (by rfl) T.n_int (by decide +kernel) rfl) pa_nil))) (pe_and (pe_not (pe_callB (r := rIsi K) call_isi (by rfl) T.n_isinstance (by decide +kernel) (pa_cons (pv 0) (pa_cons (pe_bltn (v := .ty "bool") (u := .type "bool") (by rfl) T.n_bool (by decide +kernel) rfl) pa_nil)))) (pe_one (pe_chain op_le op_le pe_int (pv 0) (pe_glob (v := .int 1000000000000000000) rfl g_GREATEST ⟨_, rfl⟩)))))))
      , ?_⟩
    rw [show L2.start N_is_int [x] = [some x] from rfl]
    rcases hc with ⟨n, rfl, hn, q⟩ | ⟨b, rfl, q⟩
    · walk_at "x"
      refine w_yes (by omega) ?_
      walk_at "g"
      rw [decide_eq_true (show (n : Int) ≤ 1000000000000000000 by unfold TOP at hn; omega)]
      exact q
    · walk_at "x"
      exact q
theorem ok_nlab {f : Addr} {fd : FuncData} (T : Txt K mg) (F : Fun K "is_label" "is_label" s_is_label f fd) : FnOk P w K mg base CX0 1 f fd ["thing"] spNLab := by
  obtain ⟨tk_LETTERS, g_LETTERS⟩ := T.g_LETTERS
  refine F.ok sc_is_label (fun vs H Q E h => ?_) (fun cdv A outer s H vs Q E hr h => ?_)
  · obtain ⟨z, rfl, _⟩ := h
    rfl
  · obtain ⟨z, rfl, ⟨l1, l8, hz⟩, q⟩ := h
    refine ⟨_,
      (pss_cons
        (ps_if (PW.pt (pw_or (pt_not (pt_val (pe_callB (r := rIsi K) call_isi (by rfl) T.n_isinstance (by decide +kernel) (pa_cons (pv 0) (pa_cons (pe_bltn (v := .ty "str") (u := .type "str") (by rfl) T.n_str (by decide +kernel) rfl) pa_nil))))) (pw_or1 (pt_not (pt_chain op_le op_le pe_int (pe_callB c_lenS (by rfl) T.n_len (by decide +kernel) (pa_cons (pv 0) pa_nil)) pe_int)))))
          (pss_one
            (ps_ret pe_bl))
          pss_nil)
      (pss_one
        (ps_ret (pe_callB (r := rAll K) (cr_all rfl) (by rfl) T.n_all (by decide +kernel) (pa_cons (pe_lc (own := [("sign", 1)]) (g := (gName 1)) rfl sc_is_label.nd (pi_str (pv 0)) (blkOk_by (own := [("sign", 1)]) (N := N_is_label) (sc := defScope s_is_label) (by decide +kernel)) (fun _ _ _ _ _ => (pg_name (i := 1) sc_is_label.nd rfl (.inl rfl))) (fun _ _ _ _ _ => pts_nil) (fun _ _ _ _ _ => (pe_cmpR o_inS (pv 1) (pe_glob (v := .str "abcdefghijklmnopqrstuvwxyz") rfl g_LETTERS ⟨_, rfl⟩) rfl))) pa_nil)))))
      , ?_⟩
    rw [show L2.start N_is_label [V.str z] = [some (.str z), none] from rfl]
    refine w_seq ?_
    walk_at "x"
    refine w_lenS (Nat.le_trans l8 (by decide)) ?_
    walk_at "g"
    refine w_yes (by omega) ?_
    walk_at "g"
    rw [decide_eq_true (show (z.length : Int) ≤ 8 by omega)]
    walk_at "g"
    refine lcp_map (walk_str z) [] ((z.cps.toList.map fun c => true).map V.bl) (by simp) (by show z.length ≤ 1000000; omega) (fun _ _ => trivial) ?_ (by simp) ?_
    · rintro i x H1 H2 R hi k1 ⟨rfl, c, hc, rfl⟩ hR
      have hc' : z.cps.toList[i]? = some c := by rw [Array.getElem?_toList]; exact hc
      refine w_name ⟨rfl, ?_⟩
      walk_at "g"
      refine hR _ _ ?_ Kp.refl
      rw [List.getElem?_map, List.getElem?_map, hc', decide_eq_true (hz c (List.mem_of_getElem? hc'))]
      rfl
    · intro L H1 hL k1 eL
      walk_at "g"
      rw [show (z.cps.toList.map fun c => true).all id = true by simp]
      exact q _ k1.same
theorem ok_nrow {f : Addr} {fd : FuncData} (T : Txt K mg) (F : Fun K "is_row" "is_row" s_is_row f fd) : FnOk P w K mg base CX0 1 f fd ["thing"] spNRow := by
  refine F.ok sc_is_row (fun vs H Q E h => ?_) (fun cdv A outer s H vs Q E hr h => ?_)
  · obtain ⟨z, rfl, _⟩ := h
    rfl
  · obtain ⟨z, rfl, ⟨l40, hz⟩, q⟩ := h
    refine ⟨_,
      (pss_cons
        (ps_if (PW.pt (pw_or (pt_not (pt_val (pe_callB (r := rIsi K) call_isi (by rfl) T.n_isinstance (by decide +kernel) (pa_cons (pv 0) (pa_cons (pe_bltn (v := .ty "str") (u := .type "str") (by rfl) T.n_str (by decide +kernel) rfl) pa_nil))))) (pw_or1 (pt_cmpR op_gt (pe_callB c_lenS (by rfl) T.n_len (by decide +kernel) (pa_cons (pv 0) pa_nil)) pe_int (nomark _)))))
          (pss_one
            (ps_ret pe_bl))
          pss_nil)
      (pss_one
        (ps_ret (pe_callB (r := rAll K) (cr_all rfl) (by rfl) T.n_all (by decide +kernel) (pa_cons (pe_lc (own := [("sign", 1)]) (g := (gName 1)) rfl sc_is_row.nd (pi_str (pv 0)) (blkOk_by (own := [("sign", 1)]) (N := N_is_row) (sc := defScope s_is_row) (by decide +kernel)) (fun _ _ _ _ _ => (pg_name (i := 1) sc_is_row.nd rfl (.inl rfl))) (fun _ _ _ _ _ => pts_nil) (fun _ _ _ _ _ => (pe_and (pe_chain op_le_str op_le_str pe_str (pv 1) pe_str) (pe_one (pe_cmpR op_ne (pe_callB call_ord (by rfl) T.n_ord (by decide +kernel) (pa_cons (pv 1) pa_nil)) pe_int (nomark _)))))) pa_nil)))))
      , ?_⟩
    rw [show L2.start N_is_row [V.str z] = [some (.str z), none] from rfl]
    refine w_seq ?_
    walk_at "x"
    refine w_lenS (Nat.le_trans l40 (by decide)) ?_
    walk_at "g"
    rw [decide_eq_false (show ¬ (40 : Int) < z.length by omega), if_neg (by decide)]
    walk_at "g"
    refine lcp_map (walk_str z) [] ((z.cps.toList.map fun c => true).map V.bl) (by simp) (by show z.length ≤ 1000000; omega) (fun _ _ => trivial) ?_ (by simp) ?_
    · rintro i x H1 H2 R hi k1 ⟨rfl, c, hc, rfl⟩ hR
      have hc' : z.cps.toList[i]? = some c := by rw [Array.getElem?_toList]; exact hc
      obtain ⟨c1, c2, c3⟩ := hz c (List.mem_of_getElem? hc')
      refine w_name ⟨rfl, ?_⟩
      have e1 : decide (((⟨#[c]⟩ : Str)).cps.toList < (Str.ofString " ").cps.toList) = false := by
        refine decide_eq_false fun h => ?_
        have h : [c] < [32] := h
        cases h with
        | rel h => omega
        | cons h => cases h
      have e2 : decide ((Str.ofString "~").cps.toList < ((⟨#[c]⟩ : Str)).cps.toList) = false := by
        refine decide_eq_false fun h => ?_
        have h : [126] < [c] := h
        cases h with
        | rel h => omega
        | cons h => cases h
      walk_at "g"
      refine ⟨_, _, rfl, rfl, _, rfl, ?_⟩
      rw [e1, if_pos (show (!false) = true from rfl)]
      walk_at "g"
      refine ⟨_, _, rfl, rfl, _, rfl, ?_⟩
      rw [e2, if_pos (show (!false) = true from rfl)]
      walk_at "g"
      refine ⟨_, rfl, rfl, ?_⟩
      have e3 : (⟨#[c]⟩ : Str).cps.getD 0 0 = c := rfl
      rw [e3]
      walk_at "g"
      rw [decide_eq_false (show ¬ (c : Int) = 37 by omega)]
      refine hR _ _ ?_ Kp.refl
      rw [List.getElem?_map, List.getElem?_map, hc']
      rfl
    · intro L H1 hL k1 eL
      walk_at "g"
      rw [show (z.cps.toList.map fun c => true).all id = true by simp]
      exact q _ k1.same
theorem ok_nrows {f fR : Addr} {fd fdR : FuncData} (T : Txt K mg) (F : Fun K "are_rows" "are_rows" s_are_rows f fd) (D_is_row : Df K mg "is_row" s_is_row ["thing"] fR fdR) : FnOk P w K mg base CX0 2 f fd ["thing"] spNRows := by
  obtain ⟨tk_ROWS, g_ROWS⟩ := T.g_ROWS
  have G_is_row : FnOk P w K mg base CX0 1 fR fdR ["thing"] spNRow := ok_nrow T D_is_row.fn
  refine F.ok sc_are_rows (fun vs H Q E h => ?_) (fun cdv A outer s H vs Q E hr h => ?_)
  · obtain ⟨r, rows, rfl, _⟩ := h
    rfl
  · obtain ⟨r, rows, rfl, hr', ⟨hl, hz⟩, q⟩ := h
    have hr0 : H r = some (.tup (rows.map V.str)) := hr'
    refine ⟨_,
      (pss_one
        (ps_ret (pe_and (pe_callB (r := rIsi K) call_isi (by rfl) T.n_isinstance (by decide +kernel) (pa_cons (pv 0) (pa_cons (pe_bltn (v := .ty "tuple") (u := .type "tuple") (by rfl) T.n_tuple (by decide +kernel) rfl) pa_nil))) (pe_and (pe_cmpR op_le (pe_callB (r := rLen K) c_len (by rfl) T.n_len (by decide +kernel) (pa_cons (pv 0) pa_nil)) (pe_glob (v := .int 40) rfl g_ROWS ⟨_, rfl⟩) (nomark _)) (pe_one (pe_callB (r := rAll K) (cr_all rfl) (by rfl) T.n_all (by decide +kernel) (pa_cons (pe_lc (own := [("row", 1)]) (g := (gName 1)) rfl sc_are_rows.nd (pi_tup (pv 0)) (blkOk_by (own := [("row", 1)]) (N := N_are_rows) (sc := defScope s_are_rows) (by decide +kernel)) (fun _ _ _ _ _ => (pg_name (i := 1) sc_are_rows.nd rfl (.inl rfl))) (fun _ _ _ _ _ => pts_nil) (fun _ _ _ _ _ => (pe_call G_is_row (hr.mono (by omega)) (by rfl) D_is_row.g D_is_row.fn.kp D_is_row.b .nil pass0 (pa_cons (pv 1) pa_nil)))) pa_nil)))))))
      , ?_⟩
    rw [show L2.start N_are_rows [V.ref r] = [some (.ref r), none] from rfl]
    walk_at "x"
    rw [decide_eq_true (show (((rows.map V.str).length : Nat) : Int) ≤ 40 by rw [List.length_map]; omega)]
    walk_at "g"
    refine lcp_map (walk_tup (K := K) (a := r) (xs := rows.map V.str)) [] ((rows.map fun _ => true).map V.bl) (by simp) (by rw [List.length_map]; omega) (fun H' k => .of (k _ _ (by simp) hr0)) ?_ (by simp) ?_
    · rintro i x H1 H2 R hi k1 ⟨rfl, hx⟩ hR
      obtain ⟨z, hz', rfl⟩ := map_at hx
      have hzo := hz z (List.mem_of_getElem? hz')
      refine w_name ⟨rfl, ?_⟩
      walk_at "g"
      refine ⟨z, rfl, hzo, fun H3 k3 => ?_⟩
      refine hR _ _ ?_ (Kp.of k3)
      rw [List.getElem?_map, List.getElem?_map, hz']
      rfl
    · intro L H1 hL k1 eL
      walk_at "g"
      rw [show (rows.map fun _ => true).all id = true by simp]
      exact q _ k1.same
theorem ok_nlist {f : Addr} {fd : FuncData} (T : Txt K mg) (F : Fun K "is_list" "is_list" s_is_list f fd) : FnOk P w K mg base CX0 1 f fd ["thing", "most"] spNList := by
  refine F.ok sc_is_list (fun vs H Q E h => ?_) (fun cdv A outer s H vs Q E hr h => ?_)
  · obtain ⟨r, xs, m, rfl, _⟩ := h
    rfl
  · obtain ⟨r, xs, m, rfl, hr0, hl, hm, q⟩ := h
    refine ⟨_,
      (pss_one
        (ps_ret (pe_and (pe_callB (r := rIsi K) call_isi (by rfl) T.n_isinstance (by decide +kernel) (pa_cons (pv 0) (pa_cons (pe_bltn (v := .ty "tuple") (u := .type "tuple") (by rfl) T.n_tuple (by decide +kernel) rfl) pa_nil))) (pe_one (pe_cmpR op_le (pe_callB (r := rLen K) c_len (by rfl) T.n_len (by decide +kernel) (pa_cons (pv 0) pa_nil)) (pv 1) (nomark _))))))
      , ?_⟩
    rw [show L2.start N_is_list [V.ref r, V.int m] = [some (.ref r), some (.int m)] from rfl]
    walk_at "x"
    rw [decide_eq_true hm]
    exact q
theorem ok_npair {f fL fI : Addr} {fd fdL fdI : FuncData} (T : Txt K mg) (F : Fun K "is_pair" "is_pair" s_is_pair f fd) (D_is_label : Df K mg "is_label" s_is_label ["thing"] fL fdL) (D_is_int : Df K mg "is_int" s_is_int ["thing"] fI fdI) : FnOk P w K mg base CX0 2 f fd ["thing"] spNPair := by
  have G_is_label : FnOk P w K mg base CX0 1 fL fdL ["thing"] spNLab := ok_nlab T D_is_label.fn
  have G_is_int : FnOk P w K mg base CX0 1 fI fdI ["thing"] spNInt := ok_nint T D_is_int.fn
  refine F.ok sc_is_pair (fun vs H Q E h => ?_) (fun cdv A outer s H vs Q E hr h => ?_)
  · obtain ⟨r, z, n, rfl, _⟩ := h
    rfl
  · obtain ⟨r, z, n, rfl, hr0, hz, hn, q⟩ := h
    have at0 : atI [V.str z, nV n] 0 = some (.str z) := rfl
    have at1 : atI [V.str z, nV n] 1 = some (nV n) := rfl
    refine ⟨_,
      (pss_one
        (ps_ret (pe_and (pe_callB (r := rIsi K) call_isi (by rfl) T.n_isinstance (by decide +kernel) (pa_cons (pv 0) (pa_cons (pe_bltn (v := .ty "tuple") (u := .type "tuple") (by rfl) T.n_tuple (by decide +kernel) rfl) pa_nil))) (pe_and (pe_cmpR op_eq (pe_callB (r := rLen K) c_len (by rfl) T.n_len (by decide +kernel) (pa_cons (pv 0) pa_nil)) pe_int (nomark _)) (pe_and (pe_call G_is_label (hr.mono (by omega)) (by rfl) D_is_label.g D_is_label.fn.kp D_is_label.b .nil pass0 (pa_cons (pe_ix (r := rIxT K) ix_tup (pv 0) pe_int (fun _ _ => rfl)) pa_nil)) (pe_one (pe_call G_is_int (hr.mono (by omega)) (by rfl) D_is_int.g D_is_int.fn.kp D_is_int.b .nil pass0 (pa_cons (pe_ix (r := rIxT K) ix_tup (pv 0) pe_int (fun _ _ => rfl)) pa_nil))))))))
      , ?_⟩
    rw [show L2.start N_is_pair [V.ref r] = [some (.ref r)] from rfl]
    walk_at "x"
    rw [decide_eq_true (show (([V.str z, nV n].length : Nat) : Int) = 2 from rfl), if_pos rfl]
    walk_at "g"
    refine ⟨z, rfl, hz, fun H1 k1 => ?_⟩
    have hr1 := k1 _ _ hr0
    walk_at "g"
    exact ⟨_, rfl, .inl ⟨n, rfl, hn, q H1 k1⟩⟩
end
/-! ### the words of a row -/
inductive El where
  | int (n : Nat)
  | tr (b : Bool)
  | lab (z : Str)
  | pair (z : Str) (n : Nat)
  | take (a b : Nat)
  | put (rs : List Str)
inductive Kd where
  | int | tr | lab | pair | piece
  deriving DecidableEq
def ElAt (H : Hp) (v : V) : El → Prop
  | .int n => v = nV n
  | .tr b => v = .bl b
  | .lab z => v = .str z
  | .pair z n => ∃ t, v = .ref t ∧ H t = some (.tup [.str z, nV n])
  | .take a b => ∃ t, v = .ref t ∧ H t = some (.tup [.str "take", nV a, nV b])
  | .put rs => ∃ t r, v = .ref t ∧ H t = some (.tup [.str "put", .ref r]) ∧ H r = some (.tup (rs.map V.str))
def El.ok : El → Prop
  | .int n => n ≤ TOP
  | .tr _ => True
  | .lab z => LabOk z
  | .pair z n => LabOk z ∧ n ≤ TOP
  | .take a b => a ≤ TOP ∧ b ≤ TOP ∧ 0 < b
  | .put rs => RowsN rs ∧ 0 < rs.length
def iS (n : Nat) : Str := toString (n : Int)
def El.w : El → List Str
  | .int n => [iS n]
  | .tr b => [if b then "yes" else "no"]
  | .lab z => [z]
  | .pair z n => [z, iS n]
  | .take a b => ["take", iS a, iS b]
  | .put rs => ["put", iS rs.length]
def El.l : El → List Str
  | .put rs => rs
  | _ => []
def El.kd : El → Kd
  | .int _ => .int
  | .tr _ => .tr
  | .lab _ => .lab
  | .pair _ _ => .pair
  | .take _ _ => .piece
  | .put _ => .piece
theorem El.w_len (e : El) : e.w.length ≤ 3 := by cases e <;> simp [El.w]
theorem El.l_len {e : El} (h : e.ok) : e.l.length ≤ 40 := by
  cases e with
  | put rs => exact h.1.1
  | _ => exact Nat.zero_le _
theorem ElAt.kt {H H' : Hp} {v : V} {e : El} (h : ElAt H v e) (k : KT H H') : ElAt H' v e := by
  cases e with
  | pair z n => obtain ⟨t, e, h⟩ := h; exact ⟨t, e, k _ _ h⟩
  | take a b => obtain ⟨t, e, h⟩ := h; exact ⟨t, e, k _ _ h⟩
  | put rs => obtain ⟨t, r, e, h, h2⟩ := h; exact ⟨t, r, e, k _ _ h, k _ _ h2⟩
  | _ => exact h
theorem log_top {n : Nat} (h : n ≤ TOP) : (n : Int).natAbs.log2 < 1920 := by
  have h0 : (n : Int).natAbs ≤ 2 ^ 64 := by unfold TOP at h; omega
  by_cases hz : (n : Int).natAbs = 0
  · rw [hz]; decide
  · rw [Nat.log2_lt hz]
    exact Nat.lt_of_le_of_lt h0 (by decide +kernel)
/-- words w and lines l with what is there -/
structure WL (H : Hp) (w l : Addr) (ws ls : List Str) : Prop where
  ew : H w = some (.lst (ws.map V.str))
  el : H l = some (.lst (ls.map V.str))
  ne : w ≠ l
theorem WL.same {H H' : Hp} {w l : Addr} {ws ls : List Str} (h : WL H w l ws ls) (k : Same H H') : WL H' w l ws ls := ⟨k _ _ h.ew, k _ _ h.el, h.ne⟩
theorem w_extNL {l b : Addr} {xs zs : List V} {H : Hp} {Q : VK} (h1 : H l = some (.lst xs)) (h2 : H b = some (.lst zs)) (hz : xs.length + zs.length ≤ sizeLine) (h : ∀ H1, H1 l = some (.lst (xs ++ zs)) → Off l H H1 → Q .non H1) : rExtend (.ref l) [.ref b] H Q := ⟨l, b, xs, zs, rfl, rfl, h1, h2, hz, h _ upd_same fun x hx => upd_ne hx⟩
theorem KT.offN {a : Addr} {H H1 : Hp} {xs : List V} (o : Off a H H1) (e : H a = some (.lst xs)) : KT H H1 := ⟨fun b ys h => o.get (ne_of h e (fun z => nomatch z)) h, fun b u ys h => o.get (ne_of h e (fun z => nomatch z)) h⟩
theorem WL.putw {H H1 : Hp} {w l : Addr} {ws ls zs : List Str} (W : WL H w l ws ls) (e : H1 w = some (.lst (ws.map V.str ++ zs.map V.str))) (o : Off w H H1) : WL H1 w l (ws ++ zs) ls ∧ Kp [w, l] H H1 ∧ KT H H1 :=
  ⟨⟨by rw [List.map_append]; exact e, o.get W.ne.symm W.el, W.ne⟩, o.kp (by simp), KT.offN o W.ew⟩
theorem WL.putl {H H1 : Hp} {w l : Addr} {ws ls zs : List Str} (W : WL H w l ws ls) (e : H1 l = some (.lst (ls.map V.str ++ zs.map V.str))) (o : Off l H H1) : WL H1 w l ws (ls ++ zs) ∧ Kp [w, l] H H1 ∧ KT H H1 :=
  ⟨⟨o.get W.ne W.ew, by rw [List.map_append]; exact e, W.ne⟩, o.kp (by simp), KT.offN o W.el⟩
theorem small5 {n : Nat} (h : n ≤ 200000) : n < sizeLine := Nat.lt_of_le_of_lt h (by decide)
/-- put_x(v, words, lines) -/
def spPut (C : Addr) (k : Kd) : Sp := fun vs H Q E => ∃ (v : V) (w l : Addr) (e : El) (ws ls : List Str), vs = [v, .ref w, .ref l] ∧ ElAt H v e ∧ e.ok ∧ WL H w l ws ls ∧ ws.length ≤ 100000 ∧ ls.length ≤ 100000 ∧ (e.kd = k ∨ (k = .int ∧ e.kd = .tr)) ∧
  (e.kd = k → ∀ H', WL H' w l (ws ++ e.w) (ls ++ e.l) → Kp [w, l] H H' → KT H H' → Q .non H') ∧ (e.kd ≠ k → E (.ref C) none H)
theorem w_strN {n : Nat} {H : Hp} {Q : VK} (h : n ≤ TOP) (q : Q (.str (iS n)) H) : rStrI [nV n] H Q := ⟨_, rfl, log_top h, q⟩
section
variable {P : Program} {w : World} {K : PySem.W.Frag} {mg : Str → Option Value} {base : Heap}
theorem ok_putint {C_NoText f fN fI : Addr} {fd fdN fdI : FuncData} (T : Txt K mg) (F : Fun K "put_int" "put_int" s_put_int f fd) (X_NoText : Exn K mg "NoText" C_NoText) (D_need : Df K mg "need" s_need ["good"] fN fdN) (D_is_int : Df K mg "is_int" s_is_int ["thing"] fI fdI) : FnOk P w K mg base (L2.CX P w) 2 f fd ["thing", "words", "lines"] (spPut C_NoText .int) := by
  have G_need : FnOk P w K mg base (L2.CX P w) 1 fN fdN ["good"] (spNeed C_NoText) := ok_need T D_need.fn X_NoText
  have G_is_int : FnOk P w K mg base CX0 1 fI fdI ["thing"] spNInt := ok_nint T D_is_int.fn
  refine F.okX sc_put_int (fun vs H Q E h => ?_) (fun cdv A outer s H vs Q E hr h => ?_)
  · obtain ⟨v, w, l, e, ws, ls, rfl, _⟩ := h
    rfl
  · obtain ⟨v, w, l, e, ws, ls, rfl, he, ok, W, hw, hl, hk, q1, q2⟩ := h
    refine ⟨_,
      (pss_cons
        (ps_expr (pe_call G_need (hr.mono (by omega)) (by rfl) D_need.g D_need.fn.kp D_need.b .nil (passes_call (takes_of rfl rfl rfl rfl) (fun _ _ _ _ h => h)) (pa_cons (pe_call G_is_int (hr.mono (by omega)) (by rfl) D_is_int.g D_is_int.fn.kp D_is_int.b .nil pass0 (pa_cons (pv 0) pa_nil)) pa_nil)))
      (pss_one
        (ps_expr (pe_bm PySem.F.plainAttrs_list PySem.F.slot_list_append PySem.F.type_list_append mt_append (pv 1) (pa_cons (pe_callTy (r := rStrI) call_str_int (by rfl) T.n_str (by decide +kernel) (pa_cons (pv 0) pa_nil)) pa_nil)))))
      , ?_⟩
    rw [show L2.start N_put_int [v, V.ref w, V.ref l] = [some v, some (.ref w), some (.ref l)] from rfl]
    have ew := W.ew
    cases e with
    | int n =>
      obtain rfl : v = nV n := he
      walk_at "x"
      refine ⟨_, rfl, .inl ⟨n, rfl, ok, ?_⟩⟩
      walk_at "g"
      refine ⟨true, rfl, fun _ => ?_, fun z => nomatch z⟩
      walk_at "g"
      refine w_strN ok ?_
      walk_at "g"
      refine w_app ew (by rw [List.length_map]; exact small5 (by omega)) fun H1 e1 o1 => ?_
      obtain ⟨W1, k1, t1⟩ := W.putw (zs := [iS n]) e1 o1
      exact q1 rfl H1 (by rw [show (El.int n).l = [] from rfl, List.append_nil]; exact W1) k1 t1
    | tr b =>
      obtain rfl : v = .bl b := he
      walk_at "x"
      refine ⟨_, rfl, .inr ⟨b, rfl, ?_⟩⟩
      walk_at "g"
      refine ⟨false, rfl, (fun z => nomatch z), fun _ => ?_⟩
      exact q2 (fun z => nomatch z)
    | lab z => rcases hk with h | ⟨_, h⟩ <;> cases h
    | pair z n => rcases hk with h | ⟨_, h⟩ <;> cases h
    | take a b => rcases hk with h | ⟨_, h⟩ <;> cases h
    | put rs => rcases hk with h | ⟨_, h⟩ <;> cases h
theorem ok_puttruth {C_NoText f fN : Addr} {fd fdN : FuncData} (T : Txt K mg) (F : Fun K "put_truth" "put_truth" s_put_truth f fd) (X_NoText : Exn K mg "NoText" C_NoText) (D_need : Df K mg "need" s_need ["good"] fN fdN) : FnOk P w K mg base (L2.CX P w) 3 f fd ["thing", "words", "lines"] (spPut C_NoText .tr) := by
  have G_need : FnOk P w K mg base (L2.CX P w) 1 fN fdN ["good"] (spNeed C_NoText) := ok_need T D_need.fn X_NoText
  refine F.okX sc_put_truth (fun vs H Q E h => ?_) (fun cdv A outer s H vs Q E hr h => ?_)
  · obtain ⟨v, w, l, e, ws, ls, rfl, _⟩ := h
    rfl
  · obtain ⟨v, w, l, e, ws, ls, rfl, he, ok, W, hw, hl, hk, q1, q2⟩ := h
    have hk : e.kd = .tr := hk.elim id fun h => nomatch h.1
    refine ⟨_,
      (pss_cons
        (ps_expr (pe_call G_need (hr.mono (by omega)) (by rfl) D_need.g D_need.fn.kp D_need.b .nil (passes_call (takes_of rfl rfl rfl rfl) (fun _ _ _ _ h => h)) (pa_cons (pe_callB (r := rIsi K) call_isi (by rfl) T.n_isinstance (by decide +kernel) (pa_cons (pv 0) (pa_cons (pe_bltn (v := .ty "bool") (u := .type "bool") (by rfl) T.n_bool (by decide +kernel) rfl) pa_nil))) pa_nil)))
      (pss_one
        (ps_expr (pe_bm PySem.F.plainAttrs_list PySem.F.slot_list_append PySem.F.type_list_append mt_append (pv 1) (pa_cons (pe_ifExp (pt_val (pv 0)) pe_str pe_str) pa_nil)))))
      , ?_⟩
    rw [show L2.start N_put_truth [v, V.ref w, V.ref l] = [some v, some (.ref w), some (.ref l)] from rfl]
    have ew := W.ew
    have el := W.el
    cases e with
    | tr b =>
      obtain rfl : v = .bl b := he
      walk_at "x"
      refine ⟨true, rfl, fun _ => ?_, fun z => nomatch z⟩
      have fin : ∀ z : Str, (El.tr b).w = [z] → rAppend (.ref w) [.str z] H fun _ H1 => Q .non H1 := fun z hz => w_app ew (by rw [List.length_map]; exact small5 (by omega)) fun H2 e2 o2 => by
        obtain ⟨W2, k2, t2⟩ := W.putw (zs := [z]) e2 o2
        exact q1 rfl H2 (by rw [hz, show (El.tr b).l = [] from rfl, List.append_nil]; exact W2) k2 t2
      cases b with
      | true =>
        walk_at "g"
        refine ⟨.bl true, rfl, true, rfl, ?_⟩
        exact fin (Str.ofString "yes") rfl
      | false =>
        walk_at "g"
        refine ⟨.bl false, rfl, false, rfl, ?_⟩
        exact fin (Str.ofString "no") rfl
    | _ => cases hk
theorem ok_putlabel {C_NoText f fN fL : Addr} {fd fdN fdL : FuncData} (T : Txt K mg) (F : Fun K "put_label" "put_label" s_put_label f fd) (X_NoText : Exn K mg "NoText" C_NoText) (D_need : Df K mg "need" s_need ["good"] fN fdN) (D_is_label : Df K mg "is_label" s_is_label ["thing"] fL fdL) : FnOk P w K mg base (L2.CX P w) 3 f fd ["thing", "words", "lines"] (spPut C_NoText .lab) := by
  have G_need : FnOk P w K mg base (L2.CX P w) 1 fN fdN ["good"] (spNeed C_NoText) := ok_need T D_need.fn X_NoText
  have G_is_label : FnOk P w K mg base CX0 1 fL fdL ["thing"] spNLab := ok_nlab T D_is_label.fn
  refine F.okX sc_put_label (fun vs H Q E h => ?_) (fun cdv A outer s H vs Q E hr h => ?_)
  · obtain ⟨v, w, l, e, ws, ls, rfl, _⟩ := h
    rfl
  · obtain ⟨v, w, l, e, ws, ls, rfl, he, ok, W, hw, hl, hk, q1, q2⟩ := h
    have hk : e.kd = .lab := hk.elim id fun h => nomatch h.1
    refine ⟨_,
      (pss_cons
        (ps_expr (pe_call G_need (hr.mono (by omega)) (by rfl) D_need.g D_need.fn.kp D_need.b .nil (passes_call (takes_of rfl rfl rfl rfl) (fun _ _ _ _ h => h)) (pa_cons (pe_call G_is_label (hr.mono (by omega)) (by rfl) D_is_label.g D_is_label.fn.kp D_is_label.b .nil pass0 (pa_cons (pv 0) pa_nil)) pa_nil)))
      (pss_one
        (ps_expr (pe_bm PySem.F.plainAttrs_list PySem.F.slot_list_append PySem.F.type_list_append mt_append (pv 1) (pa_cons (pv 0) pa_nil)))))
      , ?_⟩
    rw [show L2.start N_put_label [v, V.ref w, V.ref l] = [some v, some (.ref w), some (.ref l)] from rfl]
    have ew := W.ew
    have el := W.el
    cases e with
    | lab z =>
      obtain rfl : v = .str z := he
      walk_at "x"
      refine ⟨z, rfl, ok, fun H1 k1 => ?_⟩
      have W1 := W.same k1
      have ew1 := W1.ew
      walk_at "g"
      refine ⟨true, rfl, fun _ => ?_, fun z => nomatch z⟩
      walk_at "g"
      refine w_app ew1 (by rw [List.length_map]; exact small5 (by omega)) fun H2 e2 o2 => ?_
      obtain ⟨W2, k2, t2⟩ := W1.putw (zs := [z]) e2 o2
      exact q1 rfl H2 (by rw [show (El.lab z).l = [] from rfl, List.append_nil]; exact W2) (fun b u hb e => k2 _ _ hb (k1 _ _ e)) ((KT.of k1).trans t2)
    | _ => cases hk
theorem ok_putpair {C_NoText f fN fL fI fP : Addr} {fd fdN fdL fdI fdP : FuncData} (T : Txt K mg) (F : Fun K "put_pair" "put_pair" s_put_pair f fd) (X_NoText : Exn K mg "NoText" C_NoText) (D_need : Df K mg "need" s_need ["good"] fN fdN) (D_is_label : Df K mg "is_label" s_is_label ["thing"] fL fdL) (D_is_int : Df K mg "is_int" s_is_int ["thing"] fI fdI) (D_is_pair : Df K mg "is_pair" s_is_pair ["thing"] fP fdP) : FnOk P w K mg base (L2.CX P w) 3 f fd ["thing", "words", "lines"] (spPut C_NoText .pair) := by
  have G_need : FnOk P w K mg base (L2.CX P w) 1 fN fdN ["good"] (spNeed C_NoText) := ok_need T D_need.fn X_NoText
  have G_is_int : FnOk P w K mg base CX0 1 fI fdI ["thing"] spNInt := ok_nint T D_is_int.fn
  have G_is_pair : FnOk P w K mg base CX0 2 fP fdP ["thing"] spNPair := ok_npair T D_is_pair.fn D_is_label D_is_int
  refine F.okX sc_put_pair (fun vs H Q E h => ?_) (fun cdv A outer s H vs Q E hr h => ?_)
  · obtain ⟨v, w, l, e, ws, ls, rfl, _⟩ := h
    rfl
  · obtain ⟨v, w, l, e, ws, ls, rfl, he, ok, W, hw, hl, hk, q1, q2⟩ := h
    have hk : e.kd = .pair := hk.elim id fun h => nomatch h.1
    refine ⟨_,
      (pss_cons
        (ps_expr (pe_call G_need (hr.mono (by omega)) (by rfl) D_need.g D_need.fn.kp D_need.b .nil (passes_call (takes_of rfl rfl rfl rfl) (fun _ _ _ _ h => h)) (pa_cons (pe_call G_is_pair (hr.mono (by omega)) (by rfl) D_is_pair.g D_is_pair.fn.kp D_is_pair.b .nil pass0 (pa_cons (pv 0) pa_nil)) pa_nil)))
      (pss_one
        (ps_expr (pe_bm PySem.F.plainAttrs_list PySem.F.slot_list_extend PySem.F.type_list_extend mt_extend (pv 1) (pa_cons (pe_lst (pa_cons (pe_ix (r := rIxT K) ix_tup (pv 0) pe_int (fun _ _ => rfl)) (pa_cons (pe_callTy (r := rStrI) call_str_int (by rfl) T.n_str (by decide +kernel) (pa_cons (pe_ix (r := rIxT K) ix_tup (pv 0) pe_int (fun _ _ => rfl)) pa_nil)) pa_nil))) pa_nil)))))
      , ?_⟩
    rw [show L2.start N_put_pair [v, V.ref w, V.ref l] = [some v, some (.ref w), some (.ref l)] from rfl]
    have ew := W.ew
    have el := W.el
    cases e with
    | pair z n =>
      obtain ⟨t, rfl, et⟩ := he
      have at0 : atI [V.str z, nV n] 0 = some (.str z) := rfl
      have at1 : atI [V.str z, nV n] 1 = some (nV n) := rfl
      walk_at "x"
      refine ⟨t, z, n, rfl, et, ok.1, ok.2, fun H1 k1 => ?_⟩
      have W1 := W.same k1
      have ew1 := W1.ew
      have et1 := k1 _ _ et
      walk_at "g"
      refine ⟨true, rfl, fun _ => ?_, fun z => nomatch z⟩
      walk_at "g"
      refine w_strN ok.2 ?_
      walk_at "g"
      refine w_new fun p H2 hp ep k2 => ?_
      have W2 := W1.same k2
      have ew2 := W2.ew
      walk_at "g"
      refine w_extNL ew2 ep (by rw [List.length_map]; exact Nat.le_of_lt (small5 (by simp; omega))) fun H3 e3 o3 => ?_
      obtain ⟨W3, k3, t3⟩ := W2.putw (zs := [z, iS n]) e3 o3
      have k12 := Same.trans k1 k2
      exact q1 rfl H3 (by rw [show (El.pair z n).l = [] from rfl, List.append_nil]; exact W3) (fun b u hb e => k3 _ _ hb (k12 _ _ e)) ((KT.of k12).trans t3)
    | _ => cases hk
theorem ok_putpiece {C_NoText f fN fI fR fA : Addr} {fd fdN fdI fdR fdA : FuncData} (T : Txt K mg) (F : Fun K "put_piece" "put_piece" s_put_piece f fd) (X_NoText : Exn K mg "NoText" C_NoText) (D_need : Df K mg "need" s_need ["good"] fN fdN) (D_is_int : Df K mg "is_int" s_is_int ["thing"] fI fdI) (D_is_row : Df K mg "is_row" s_is_row ["thing"] fR fdR) (D_are_rows : Df K mg "are_rows" s_are_rows ["thing"] fA fdA) : FnOk P w K mg base (L2.CX P w) 3 f fd ["thing", "words", "lines"] (spPut C_NoText .piece) := by
  have G_need : FnOk P w K mg base (L2.CX P w) 1 fN fdN ["good"] (spNeed C_NoText) := ok_need T D_need.fn X_NoText
  have G_is_int : FnOk P w K mg base CX0 1 fI fdI ["thing"] spNInt := ok_nint T D_is_int.fn
  have G_are_rows : FnOk P w K mg base CX0 2 fA fdA ["thing"] spNRows := ok_nrows T D_are_rows.fn D_is_row
  refine F.okX sc_put_piece (fun vs H Q E h => ?_) (fun cdv A outer s H vs Q E hr h => ?_)
  · obtain ⟨v, w, l, e, ws, ls, rfl, _⟩ := h
    rfl
  · obtain ⟨v, w, l, e, ws, ls, rfl, he, ok, W, hw, hl, hk, q1, q2⟩ := h
    have hk : e.kd = .piece := hk.elim id fun h => nomatch h.1
    refine ⟨_,
      (pss_cons
        (ps_expr (pe_call G_need (hr.mono (by omega)) (by rfl) D_need.g D_need.fn.kp D_need.b .nil (passes_call (takes_of rfl rfl rfl rfl) (fun _ _ _ _ h => h)) (pa_cons (pe_and (pe_callB (r := rIsi K) call_isi (by rfl) T.n_isinstance (by decide +kernel) (pa_cons (pv 0) (pa_cons (pe_bltn (v := .ty "tuple") (u := .type "tuple") (by rfl) T.n_tuple (by decide +kernel) rfl) pa_nil))) (pe_and (pe_cmpR op_gt (pe_callB (r := rLen K) c_len (by rfl) T.n_len (by decide +kernel) (pa_cons (pv 0) pa_nil)) pe_int (nomark _)) (pe_one (pe_callB (r := rIsi K) call_isi (by rfl) T.n_isinstance (by decide +kernel) (pa_cons (pe_ix (r := rIxT K) ix_tup (pv 0) pe_int (fun _ _ => rfl)) (pa_cons (pe_bltn (v := .ty "str") (u := .type "str") (by rfl) T.n_str (by decide +kernel) rfl) pa_nil)))))) pa_nil)))
      (pss_one
        (ps_if (pt_cmpR op_eq (pe_ix (r := rIxT K) ix_tup (pv 0) pe_int (fun _ _ => rfl)) pe_str (nomark _))
          (pss_cons
            (ps_expr (pe_call G_need (hr.mono (by omega)) (by rfl) D_need.g D_need.fn.kp D_need.b .nil (passes_call (takes_of rfl rfl rfl rfl) (fun _ _ _ _ h => h)) (pa_cons (pe_and (pe_cmpR op_eq (pe_callB (r := rLen K) c_len (by rfl) T.n_len (by decide +kernel) (pa_cons (pv 0) pa_nil)) pe_int (nomark _)) (pe_and (pe_call G_is_int (hr.mono (by omega)) (by rfl) D_is_int.g D_is_int.fn.kp D_is_int.b .nil pass0 (pa_cons (pe_ix (r := rIxT K) ix_tup (pv 0) pe_int (fun _ _ => rfl)) pa_nil)) (pe_and (pe_call G_is_int (hr.mono (by omega)) (by rfl) D_is_int.g D_is_int.fn.kp D_is_int.b .nil pass0 (pa_cons (pe_ix (r := rIxT K) ix_tup (pv 0) pe_int (fun _ _ => rfl)) pa_nil)) (pe_one (pe_cmpR op_gt (pe_ix (r := rIxT K) ix_tup (pv 0) pe_int (fun _ _ => rfl)) pe_int (nomark _)))))) pa_nil)))
          (pss_one
            (ps_expr (pe_bm PySem.F.plainAttrs_list PySem.F.slot_list_extend PySem.F.type_list_extend mt_extend (pv 1) (pa_cons (pe_lst (pa_cons pe_str (pa_cons (pe_callTy (r := rStrI) call_str_int (by rfl) T.n_str (by decide +kernel) (pa_cons (pe_ix (r := rIxT K) ix_tup (pv 0) pe_int (fun _ _ => rfl)) pa_nil)) (pa_cons (pe_callTy (r := rStrI) call_str_int (by rfl) T.n_str (by decide +kernel) (pa_cons (pe_ix (r := rIxT K) ix_tup (pv 0) pe_int (fun _ _ => rfl)) pa_nil)) pa_nil)))) pa_nil)))))
          (pss_cons
            (ps_expr (pe_call G_need (hr.mono (by omega)) (by rfl) D_need.g D_need.fn.kp D_need.b .nil (passes_call (takes_of rfl rfl rfl rfl) (fun _ _ _ _ h => h)) (pa_cons (pe_and (pe_cmpR op_eq (pe_ix (r := rIxT K) ix_tup (pv 0) pe_int (fun _ _ => rfl)) pe_str (nomark _)) (pe_and (pe_cmpR op_eq (pe_callB (r := rLen K) c_len (by rfl) T.n_len (by decide +kernel) (pa_cons (pv 0) pa_nil)) pe_int (nomark _)) (pe_and (pe_call G_are_rows (hr.mono (by omega)) (by rfl) D_are_rows.g D_are_rows.fn.kp D_are_rows.b .nil pass0 (pa_cons (pe_ix (r := rIxT K) ix_tup (pv 0) pe_int (fun _ _ => rfl)) pa_nil)) (pe_one (pe_cmpR op_gt (pe_callB (r := rLen K) c_len (by rfl) T.n_len (by decide +kernel) (pa_cons (pe_ix (r := rIxT K) ix_tup (pv 0) pe_int (fun _ _ => rfl)) pa_nil)) pe_int (nomark _)))))) pa_nil)))
          (pss_cons
            (ps_expr (pe_bm PySem.F.plainAttrs_list PySem.F.slot_list_extend PySem.F.type_list_extend mt_extend (pv 1) (pa_cons (pe_lst (pa_cons pe_str (pa_cons (pe_callTy (r := rStrI) call_str_int (by rfl) T.n_str (by decide +kernel) (pa_cons (pe_callB (r := rLen K) c_len (by rfl) T.n_len (by decide +kernel) (pa_cons (pe_ix (r := rIxT K) ix_tup (pv 0) pe_int (fun _ _ => rfl)) pa_nil)) pa_nil)) pa_nil))) pa_nil)))
          (pss_one
            (ps_expr (pe_bm PySem.F.plainAttrs_list PySem.F.slot_list_extend PySem.F.type_list_extend mt_extT (pv 2) (pa_cons (pe_ix (r := rIxT K) ix_tup (pv 0) pe_int (fun _ _ => rfl)) pa_nil)))))))))
      , ?_⟩
    rw [show L2.start N_put_piece [v, V.ref w, V.ref l] = [some v, some (.ref w), some (.ref l)] from rfl]
    have ew := W.ew
    have el := W.el
    cases e with
    | take a b =>
      obtain ⟨t, rfl, et⟩ := he
      have at0 : atI [V.str "take", nV a, nV b] 0 = some (.str "take") := rfl
      have at1 : atI [V.str "take", nV a, nV b] 1 = some (nV a) := rfl
      have at2 : atI [V.str "take", nV a, nV b] 2 = some (nV b) := rfl
      walk_at "x"
      rw [decide_eq_true (show (1 : Int) < (([V.str "take", nV a, nV b].length : Nat) : Int) by simp), if_pos rfl]
      walk_at "g"
      refine ⟨true, rfl, fun _ => ?_, fun z => nomatch z⟩
      walk_at "g"
      rw [decide_eq_true (rfl : Str.ofString "take" = Str.ofString "take"), if_pos rfl]
      walk_at "g"
      rw [decide_eq_true (show (([V.str "take", nV a, nV b].length : Nat) : Int) = 3 from rfl), if_pos rfl]
      walk_at "g"
      refine ⟨_, rfl, .inl ⟨a, rfl, ok.1, ?_⟩⟩
      walk_at "g"
      refine ⟨_, rfl, .inl ⟨b, rfl, ok.2.1, ?_⟩⟩
      walk_at "g"
      rw [decide_eq_true (show (0 : Int) < (b : Int) by have := ok.2.2; omega)]
      refine ⟨true, rfl, fun _ => ?_, fun z => nomatch z⟩
      walk_at "g"
      refine w_strN ok.1 ?_
      walk_at "g"
      refine w_strN ok.2.1 ?_
      walk_at "g"
      refine w_new fun p H2 hp ep k2 => ?_
      have W2 := W.same k2
      have ew2 := W2.ew
      walk_at "g"
      refine w_extNL ew2 ep (by rw [List.length_map]; exact Nat.le_of_lt (small5 (by simp; omega))) fun H3 e3 o3 => ?_
      obtain ⟨W3, k3, t3⟩ := W2.putw (zs := ["take", iS a, iS b]) e3 o3
      exact q1 rfl H3 (by rw [show (El.take a b).l = [] from rfl, List.append_nil]; exact W3) (fun b u hb e => k3 _ _ hb (k2 _ _ e)) ((KT.of k2).trans t3)
    | put rs =>
      obtain ⟨t, r, rfl, et, er⟩ := he
      have at0 : atI [V.str "put", V.ref r] 0 = some (.str "put") := rfl
      have at1 : atI [V.str "put", V.ref r] 1 = some (.ref r) := rfl
      walk_at "x"
      rw [decide_eq_true (show (1 : Int) < (([V.str "put", V.ref r].length : Nat) : Int) by simp), if_pos rfl]
      walk_at "g"
      refine ⟨true, rfl, fun _ => ?_, fun z => nomatch z⟩
      walk_at "g"
      rw [decide_eq_false (show ¬ Str.ofString "put" = Str.ofString "take" by decide), if_neg (by decide)]
      walk_at "g"
      rw [decide_eq_true (rfl : Str.ofString "put" = Str.ofString "put"), if_pos rfl]
      walk_at "g"
      rw [decide_eq_true (show (([V.str "put", V.ref r].length : Nat) : Int) = 2 from rfl), if_pos rfl]
      walk_at "g"
      refine ⟨r, rs, rfl, er, ok.1, fun H1 k1 => ?_⟩
      have W1 := W.same k1
      have et1 := k1 _ _ et
      have er1 := k1 _ _ er
      have hrs := ok.1.1
      walk_at "g"
      rw [decide_eq_true (show (0 : Int) < (((rs.map V.str).length : Nat) : Int) by rw [List.length_map]; have := ok.2; omega)]
      refine ⟨true, rfl, fun _ => ?_, fun z => nomatch z⟩
      have ew1 := W1.ew
      walk_at "g"
      rw [List.length_map]
      refine w_strN (n := rs.length) (by unfold TOP; omega) ?_
      walk_at "g"
      refine w_new fun p H2 hp ep k2 => ?_
      have W2 := W1.same k2
      have ew2 := W2.ew
      walk_at "g"
      refine w_extNL ew2 ep (by rw [List.length_map]; exact Nat.le_of_lt (small5 (by simp; omega))) fun H3 e3 o3 => ?_
      obtain ⟨W3, k3, t3⟩ := W2.putw (zs := ["put", iS rs.length]) e3 o3
      have el3 := W3.el
      have et3 := t3 _ _ (k2 _ _ et1)
      have er3 := t3 _ _ (k2 _ _ er1)
      walk_at "g"
      refine w_extT el3 er3 (by rw [List.length_map, List.length_map]; exact Nat.le_of_lt (small5 (by omega))) fun H4 e4 o4 => ?_
      obtain ⟨W4, k4, t4⟩ := W3.putl (zs := rs) e4 o4
      have k12 := Same.trans k1 k2
      exact q1 rfl H4 W4 (fun b u hb e => k4 _ _ hb (k3 _ _ hb (k12 _ _ e))) ((KT.of k12).trans (t3.trans t4))
    | _ => cases hk
end
/-! ### lists of a row -/
def OP : Str := "("
def CP : Str := ")"
def lwE (es : List El) : List Str := OP :: (es.flatMap El.w ++ [CP])
def llE (es : List El) : List Str := es.flatMap El.l
theorem fw_len : ∀ (es : List El), (es.flatMap El.w).length ≤ 3 * es.length
  | [] => Nat.le_refl _
  | e :: es => by
    rw [List.flatMap_cons, List.length_append, List.length_cons]
    have := e.w_len
    have := fw_len es
    omega
theorem fl_len : ∀ (es : List El), (∀ e ∈ es, e.ok) → (es.flatMap El.l).length ≤ 40 * es.length
  | [], _ => Nat.le_refl _
  | e :: es, h => by
    rw [List.flatMap_cons, List.length_append, List.length_cons]
    have := El.l_len (h e (by simp))
    have := fl_len es fun x hx => h x (List.mem_cons_of_mem _ hx)
    omega
def spPList (P : Program) (w : World) (K : PySem.W.Frag) (mg : Str → Option Value) (base : Heap) (C : Addr) : Sp := fun vs H Q E => ∃ (t f a l : Addr) (m : Int) (k : Kd) (es : List (V × El)) (ws ls : List Str), vs = [.ref t, .int m, .ref f, .ref a, .ref l] ∧ KnF P w K mg base (L2.CX P w) 4 f (spPut C k) ∧ H t = some (.tup (es.map (·.1))) ∧
  (∀ q ∈ es, ElAt H q.1 q.2 ∧ q.2.ok ∧ (q.2.kd = k ∨ (k = .int ∧ q.2.kd = .tr))) ∧ es.length ≤ 60 ∧ (es.length : Int) ≤ m ∧ WL H a l ws ls ∧ ws.length ≤ 50000 ∧ ls.length ≤ 50000 ∧
  ((∀ q ∈ es, q.2.kd = k) → ∀ H', WL H' a l (ws ++ lwE (es.map (·.2))) (ls ++ llE (es.map (·.2))) → Kp [a, l] H H' → KT H H' → Q .non H') ∧ ((∃ q ∈ es, q.2.kd ≠ k) → ∀ H', Kp [a, l] H H' → KT H H' → E (.ref C) none H')
section
variable {P : Program} {w : World} {K : PySem.W.Frag} {mg : Str → Option Value} {base : Heap}
theorem ok_putlist {C_NoText f fN fI : Addr} {fd fdN fdI : FuncData} (T : Txt K mg) (F : Fun K "put_list" "put_list" s_put_list f fd) (X_NoText : Exn K mg "NoText" C_NoText) (D_need : Df K mg "need" s_need ["good"] fN fdN) (D_is_list : Df K mg "is_list" s_is_list ["thing", "most"] fI fdI) : FnOk P w K mg base (L2.CX P w) 5 f fd ["thing", "most", "each", "words", "lines"] (spPList P w K mg base C_NoText) := by
  have G_need : FnOk P w K mg base (L2.CX P w) 1 fN fdN ["good"] (spNeed C_NoText) := ok_need T D_need.fn X_NoText
  have G_is_list : FnOk P w K mg base CX0 1 fI fdI ["thing", "most"] spNList := ok_nlist T D_is_list.fn
  refine F.okX sc_put_list (fun vs H Q E h => ?_) (fun cdv A outer s H vs Q E hr h => ?_)
  · obtain ⟨t, f, a, l, m, k, es, ws, ls, rfl, _⟩ := h
    rfl
  · obtain ⟨t, f, a, l, m, k, es, ws, ls, rfl, hf, et, hes, hlen, hm, W, hw, hl, q1, q2⟩ := h
    refine ⟨_,
      (pss_cons
        (ps_expr (pe_call G_need (hr.mono (by omega)) (by rfl) D_need.g D_need.fn.kp D_need.b .nil (passes_call (takes_of rfl rfl rfl rfl) (fun _ _ _ _ h => h)) (pa_cons (pe_call G_is_list (hr.mono (by omega)) (by rfl) D_is_list.g D_is_list.fn.kp D_is_list.b .nil pass0 (pa_cons (pv 0) (pa_cons (pv 1) pa_nil))) pa_nil)))
      (pss_cons
        (ps_expr (pe_bm PySem.F.plainAttrs_list PySem.F.slot_list_append PySem.F.type_list_append mt_append (pv 3) (pa_cons pe_str pa_nil)))
      (pss_cons
        (ps_for (passes_of rfl) rfl (pi_tup (pv 0)) (pg_name (i := 5) sc_put_list.nd rfl (.inl rfl))
          (pss_one
            (ps_expr (pe_callV (N := KnF P w K mg base (L2.CX P w) 4) (i := 2) (fun _ _ h => h) (hr.mono (by omega)) (by rfl) (by first | exact Or.inl rfl | exact Or.inr (Or.inl rfl) | exact Or.inr (Or.inr rfl)) (passes_call (takes_of rfl rfl rfl rfl) (fun _ _ _ _ h => h)) (pa_cons (pv 5) (pa_cons (pv 3) (pa_cons (pv 4) pa_nil)))))))
      (pss_one
        (ps_expr (pe_bm PySem.F.plainAttrs_list PySem.F.slot_list_append PySem.F.type_list_append mt_append (pv 3) (pa_cons pe_str pa_nil)))))))
      , ?_⟩
    rw [show L2.start N_put_list [V.ref t, V.int m, V.ref f, V.ref a, V.ref l] = [some (.ref t), some (.int m), some (.ref f), some (.ref a), some (.ref l), none] from rfl]
    have ew := W.ew
    walk_at "x"
    refine ⟨t, _, m, rfl, et, by rw [List.length_map]; omega, by rw [List.length_map]; exact hm, ?_⟩
    walk_at "g"
    refine ⟨true, rfl, fun _ => ?_, fun z => nomatch z⟩
    walk_at "g"
    refine w_app ew (by rw [List.length_map]; exact small5 (by omega)) fun H1 e1 o1 => ?_
    obtain ⟨W1, k1, t1⟩ := W.putw (zs := [OP]) e1 o1
    have et1 := t1 _ _ et
    walk_at "g"
    have hok : ∀ i, ∀ e ∈ (es.take i).map (·.2), e.ok := fun i e he => by
      obtain ⟨q, hq, rfl⟩ := List.mem_map.mp he
      exact (hes q (List.mem_of_mem_take hq)).2.1
    refine lp_tup (xs := es.map (·.1)) (fun i σ H' => ∃ y : Option V, σ = [some (.ref t), some (.int m), some (.ref f), some (.ref a), some (.ref l), y] ∧ WL H' a l (ws ++ OP :: ((es.take i).map (·.2)).flatMap El.w) (ls ++ ((es.take i).map (·.2)).flatMap El.l) ∧ Kp [a, l] H H' ∧ KT H H' ∧ ∀ q ∈ es.take i, q.2.kd = k) ⟨_, rfl, by simpa using W1, k1, t1, by simp⟩ (fun i σ H' _ ⟨_, _, _, _, t', _⟩ => .of (t' _ _ et)) ?_ ?_
    · rintro i x σ H2 hx ⟨y, rfl, W2, k2, t2, hk2⟩
      obtain ⟨q, hq, rfl⟩ := map_at hx
      have hqm := List.mem_of_getElem? hq
      obtain ⟨he, hqok, hqk⟩ := hes q hqm
      have hi : i < es.length := (List.getElem?_eq_some_iff.mp hq).1
      have l1 := fw_len ((es.take i).map (·.2))
      have l2 := fl_len ((es.take i).map (·.2)) (hok i)
      rw [List.length_map, List.length_take] at l1 l2
      walk_at "g"
      refine w_callV rfl hf ?_
      walk_at "g"
      refine ⟨q.1, a, l, q.2, _, _, rfl, he.kt t2, hqok, W2, by rw [List.length_append, List.length_cons]; omega, by rw [List.length_append]; omega, hqk, fun hkd H3 W3 k3 t3 => ?_, fun hkd => ?_⟩
      · walk_at "g"
        refine ⟨_, rfl, ?_, fun b u hb e => k3 _ _ hb (k2 _ _ hb e), t2.trans t3, fun q' hq' => ?_⟩
        · rw [List.take_add_one, hq, List.map_append, List.flatMap_append, List.flatMap_append]
          simpa using W3
        · rw [List.take_add_one, hq] at hq'
          rcases List.mem_append.mp hq' with h | h
          · exact hk2 q' h
          · obtain rfl : q' = q := by simpa using h
            exact hkd
      · exact q2 ⟨q, hqm, hkd⟩ H2 k2 t2
    · rintro σ H2 ⟨y, rfl, W2, k2, t2, hk2⟩
      rw [List.length_map, List.take_length] at W2 hk2
      have ew2 := W2.ew
      have l1 := fw_len (es.map (·.2))
      rw [List.length_map] at l1
      walk_at "g"
      refine w_app ew2 (by rw [List.length_map, List.length_append, List.length_cons]; exact small5 (by omega)) fun H3 e3 o3 => ?_
      obtain ⟨W3, k3, t3⟩ := W2.putw (zs := [CP]) e3 o3
      exact q1 hk2 H3 (by simpa [lwE, llE] using W3) (fun b u hb e => k3 _ _ hb (k2 _ _ hb e)) (t2.trans t3)
end
/-! ### contents, packs -/
theorem cut1 (xs : List V) : cutV xs (some 1) none = xs.drop 1 := by
  unfold cutV HT.sIx
  cases xs with
  | nil => rfl
  | cons x xs =>
    simp
/-- zip of two tuples: what both have -/
theorem walk_zipT {K : PySem.W.Frag} {a b : Addr} {xs ys : List V} {n : Nat} (h1 : n ≤ xs.length) (h2 : n ≤ ys.length) (h3 : n = xs.length ∨ n = ys.length) : Walk (RZ.ItzT K a b) n (fun H => SqT K H a xs ∧ SqT K H b ys) (fun i H v H' => ∃ T x y, v = .ref T ∧ H T = none ∧ H' = upd H T (.tup [x, y]) ∧ xs[i]? = some x ∧ ys[i]? = some y) :=
  ⟨fun i H hi ⟨qx, qy⟩ => ⟨xs, ys, _, _, qx, qy, List.getElem?_eq_getElem (by omega), List.getElem?_eq_getElem (by omega)⟩, fun H ⟨qx, qy⟩ => ⟨xs, ys, qx, qy, by omega⟩, fun i H v H' _ ⟨qx, qy⟩ ⟨T, x, y, e, hT, eH, g1, g2⟩ => ⟨T, x, y, e, hT, eH, g1 xs qx, g2 ys qy⟩⟩
theorem walk_zipL {K : PySem.W.Frag} {a b : Addr} {xs ys : List V} {n : Nat} (h1 : n ≤ xs.length) (h2 : n ≤ ys.length) (h3 : n = xs.length ∨ n = ys.length) : Walk (Itz K a b) n (fun H => SqL K H a xs ∧ SqL K H b ys) (fun i H v H' => ∃ T x y, v = .ref T ∧ H T = none ∧ H' = upd H T (.tup [x, y]) ∧ xs[i]? = some x ∧ ys[i]? = some y) :=
  ⟨fun i H hi ⟨qx, qy⟩ => ⟨xs, ys, _, _, qx, qy, List.getElem?_eq_getElem (by omega), List.getElem?_eq_getElem (by omega)⟩, fun H ⟨qx, qy⟩ => ⟨xs, ys, qx, qy, by omega⟩, fun i H v H' _ ⟨qx, qy⟩ ⟨T, x, y, e, hT, eH, g1, g2⟩ => ⟨T, x, y, e, hT, eH, g1 xs qx, g2 ys qy⟩⟩
theorem pw_adj {α : Type} {R : α → α → Prop} {l : List α} (h : l.Pairwise R) {i : Nat} {x y : α} (hx : l[i]? = some x) (hy : l[i + 1]? = some y) : R x y := by
  obtain ⟨h1, e1⟩ := List.getElem?_eq_some_iff.mp hx
  obtain ⟨h2, e2⟩ := List.getElem?_eq_some_iff.mp hy
  have := List.pairwise_iff_getElem.mp h i (i + 1) h1 h2 (by omega)
  rw [e1, e2] at this
  exact this
def rZipI (K : PySem.W.Frag) (vs : List V) (H : Hp) (R : It → Hp → Prop) : Prop := ∃ a b xs ys, vs = [.ref a, .ref b] ∧ SqL K H a xs ∧ SqL K H b ys ∧ R (Itz K a b) H
theorem w_zipI {K : PySem.W.Frag} {σ : L2.St} {H : Hp} {ta : TA} {R : It → Hp → Prop} (h : ta σ H fun vs H1 => rZipI K vs H1 R) : iZip K ta σ H R := h
def spRisT : Sp := fun vs H Q _ => ∃ (t : Addr) (ns : List Nat), vs = [.ref t] ∧ H t = some (.tup (ns.map nV)) ∧ ns.Pairwise (· < ·) ∧ ns.length ≤ 1000 ∧ ∀ H', Same H H' → Q (.bl true) H'
def spRisL : Sp := fun vs H Q _ => ∃ (t : Addr) (zs : List Str), vs = [.ref t] ∧ H t = some (.lst (zs.map V.str)) ∧ zs.Pairwise (fun a b => a.cps.toList < b.cps.toList) ∧ zs.length ≤ 1000 ∧ ∀ H', Same H H' → Q (.bl true) H'
section
variable {P : Program} {w : World} {K : PySem.W.Frag} {mg : Str → Option Value} {base : Heap}
theorem ok_risT {f : Addr} {fd : FuncData} (T : Txt K mg) (F : Fun K "rises" "rises" s_rises f fd) : FnOk P w K mg base CX0 1 f fd ["things"] spRisT := by
  refine F.ok sc_rises (fun vs H Q E h => ?_) (fun cdv A outer s H vs Q E hr h => ?_)
  · obtain ⟨t, ns, rfl, _⟩ := h
    rfl
  · obtain ⟨t, ns, rfl, et, up, hl, q⟩ := h
    refine ⟨_,
      (pss_one
        (ps_ret (pe_callB (r := rAll K) (cr_all rfl) (by rfl) T.n_all (by decide +kernel) (pa_cons (pe_lc (own := [("one", 1), ("other", 2)]) (g := (gTup K 2 (gCons (gName 1) (gCons (gName 2) gNil)))) rfl sc_rises.nd (RZ.pi_zipA (by rfl) T.n_zip (pa_cons (pv 0) (pa_cons (pe_slice sl_tupA (pv 0) (po_some pe_int) po_none) pa_nil))) (blkOk_by (own := [("one", 1), ("other", 2)]) (N := N_rises) (sc := defScope s_rises) (by decide +kernel)) (fun _ _ _ _ _ => (pg_tup rfl (pgs_cons (pg_name (i := 1) sc_rises.nd rfl (.inl rfl)) (pgs_cons (pg_name (i := 2) sc_rises.nd rfl (.inl rfl)) pgs_nil)))) (fun _ _ _ _ _ => pts_nil) (fun _ _ _ _ _ => (pe_cmpR op_lt (pv 1) (pv 2) (nomark _)))) pa_nil))))
      , ?_⟩
    rw [show L2.start N_rises [V.ref t] = [some (.ref t), none, none] from rfl]
    walk_at "x"
    refine w_slAt et fun p H1 ep k1 => ?_
    rw [cut1] at ep
    have et1 := k1 _ _ et
    walk_at "g"
    refine lcp_map (walk_zipT (K := K) (a := t) (b := p) (xs := ns.map nV) (ys := (ns.map nV).drop 1) (n := ns.length - 1) (by simp) (by simp) (.inr (by simp))) [] (((List.range (ns.length - 1)).map fun _ => true).map V.bl) (by simp) (by omega) (fun H' k => ⟨.of (k _ _ (by simp) et1), .of (k _ _ (by simp) ep)⟩) ?_ (by simp) ?_
    · rintro i x H2 H3 R hi k2 ⟨T', x1, x2, rfl, hT, rfl, g1, g2⟩ hR
      obtain ⟨n1, h1, rfl⟩ := map_at g1
      rw [List.getElem?_drop, Nat.add_comm] at g2
      obtain ⟨n2, h2, rfl⟩ := map_at g2
      have hlt := pw_adj up h1 h2
      refine w_gtup (K := K) (xs := [nV n1, nV n2]) (.of upd_same) rfl (w_gcons (w_name (w_gcons (w_name (w_gnil ⟨rfl, ?_⟩)))))
      walk_at "g"
      rw [decide_eq_true (show (n1 : Int) < (n2 : Int) by omega)]
      exact hR _ _ (by simp [hi]) (Kp.new hT)
    · intro L H2 hL k2 eL
      walk_at "g"
      rw [show ((List.range (ns.length - 1)).map fun _ => true).all id = true by simp]
      exact q _ (Same.trans k1 k2.same)
theorem ok_risL {f : Addr} {fd : FuncData} (T : Txt K mg) (F : Fun K "rises" "rises" s_rises f fd) : FnOk P w K mg base CX0 1 f fd ["things"] spRisL := by
  refine F.ok sc_rises (fun vs H Q E h => ?_) (fun cdv A outer s H vs Q E hr h => ?_)
  · obtain ⟨t, zs, rfl, _⟩ := h
    rfl
  · obtain ⟨t, zs, rfl, et, up, hl, q⟩ := h
    refine ⟨_,
      (pss_one
        (ps_ret (pe_callB (r := rAll K) (cr_all rfl) (by rfl) T.n_all (by decide +kernel) (pa_cons (pe_lc (own := [("one", 1), ("other", 2)]) (g := (gTup K 2 (gCons (gName 1) (gCons (gName 2) gNil)))) rfl sc_rises.nd (pi_zip (by rfl) T.n_zip (pa_cons (pv 0) (pa_cons (pe_slice sl_list (pv 0) (po_some pe_int) po_none) pa_nil))) (blkOk_by (own := [("one", 1), ("other", 2)]) (N := N_rises) (sc := defScope s_rises) (by decide +kernel)) (fun _ _ _ _ _ => (pg_tup rfl (pgs_cons (pg_name (i := 1) sc_rises.nd rfl (.inl rfl)) (pgs_cons (pg_name (i := 2) sc_rises.nd rfl (.inl rfl)) pgs_nil)))) (fun _ _ _ _ _ => pts_nil) (fun _ _ _ _ _ => (pe_cmpR o_ltS (pv 1) (pv 2) (nomark _)))) pa_nil))))
      , ?_⟩
    rw [show L2.start N_rises [V.ref t] = [some (.ref t), none, none] from rfl]
    walk_at "x"
    refine w_zipI ?_
    walk_at "g"
    refine w_slL (.of et) fun p H1 hp ep k1 => ?_
    rw [cut1] at ep
    have et1 := k1 _ _ et
    walk_at "g"
    refine ⟨t, p, zs.map V.str, (zs.map V.str).drop 1, rfl, .of et1, .of ep, ?_⟩
    refine lcp_map (walk_zipL (K := K) (a := t) (b := p) (xs := zs.map V.str) (ys := (zs.map V.str).drop 1) (n := zs.length - 1) (by simp) (by simp) (.inr (by simp))) [] (((List.range (zs.length - 1)).map fun _ => true).map V.bl) (by simp) (by omega) (fun H' k => ⟨.of (k _ _ (by simp) et1), .of (k _ _ (by simp) ep)⟩) ?_ (by simp) ?_
    · rintro i x H2 H3 R hi k2 ⟨T', x1, x2, rfl, hT, rfl, g1, g2⟩ hR
      obtain ⟨n1, h1, rfl⟩ := map_at g1
      rw [List.getElem?_drop, Nat.add_comm] at g2
      obtain ⟨n2, h2, rfl⟩ := map_at g2
      have hlt := pw_adj up h1 h2
      refine w_gtup (K := K) (xs := [V.str n1, V.str n2]) (.of upd_same) rfl (w_gcons (w_name (w_gcons (w_name (w_gnil ⟨rfl, ?_⟩)))))
      walk_at "g"
      rw [decide_eq_true hlt]
      exact hR _ _ (by simp [hi]) (Kp.new hT)
    · intro L H2 hL k2 eL
      walk_at "g"
      rw [show ((List.range (zs.length - 1)).map fun _ => true).all id = true by simp]
      exact q _ (Same.trans k1 k2.same)
end
inductive Cn where
  | leaf (rs : List Str)
  | tree (ps : List (Str × Nat))
  | ver (ns : List Nat) (a b : Nat)
def pEl (q : Str × Nat) : El := .pair q.1 q.2
def CnAt (H : Hp) (v : V) : Cn → Prop
  | .leaf rs => ∃ t r, v = .ref t ∧ H t = some (.tup [.str "leaf", .ref r]) ∧ H r = some (.tup (rs.map V.str))
  | .tree ps => ∃ t r, ∃ as : List (Addr × (Str × Nat)), v = .ref t ∧ H t = some (.tup [.str "tree", .ref r]) ∧ H r = some (.tup (as.map fun q => V.ref q.1)) ∧ as.map (·.2) = ps ∧ ∀ q ∈ as, H q.1 = some (.tup [.str q.2.1, nV q.2.2])
  | .ver ns a b => ∃ t r, v = .ref t ∧ H t = some (.tup [.str "version", .ref r, nV a, nV b]) ∧ H r = some (.tup (ns.map nV))
def Cn.ok : Cn → Prop
  | .leaf rs => RowsN rs
  | .tree ps => ps.length ≤ 20 ∧ (∀ q ∈ ps, LabOk q.1 ∧ q.2 ≤ TOP) ∧ (ps.map (·.1)).Pairwise (fun a b => a.cps.toList < b.cps.toList)
  | .ver ns a b => ns.length ≤ 4 ∧ ns.Pairwise (· < ·) ∧ (∀ n ∈ ns, n ≤ TOP) ∧ a ≤ TOP ∧ b ≤ TOP
def Cn.w : Cn → List Str
  | .leaf rs => ["leaf", iS rs.length]
  | .tree ps => ("tree" : Str) :: lwE (ps.map pEl)
  | .ver ns a b => ("version" : Str) :: (lwE (ns.map El.int) ++ [iS a, iS b])
def Cn.l : Cn → List Str
  | .leaf rs => rs
  | _ => []
def spPCont (C : Addr) : Sp := fun vs H Q E => ∃ (v : V) (a l : Addr) (c : Cn) (ws ls : List Str), vs = [v, .ref a, .ref l] ∧ CnAt H v c ∧ c.ok ∧ WL H a l ws ls ∧ ws.length ≤ 40000 ∧ ls.length ≤ 40000 ∧
  ∀ H', WL H' a l (ws ++ c.w) (ls ++ c.l) → Kp [a, l] H H' → KT H H' → Q .non H'
theorem llE_int (ns : List Nat) : llE (ns.map El.int) = [] := by
  unfold llE
  rw [List.flatMap_map]
  induction ns with
  | nil => rfl
  | cons n ns ih => rw [List.flatMap_cons, ih]; rfl
theorem llE_pair (ps : List (Str × Nat)) : llE (ps.map pEl) = [] := by
  unfold llE
  rw [List.flatMap_map]
  induction ps with
  | nil => rfl
  | cons n ns ih => rw [List.flatMap_cons, ih]; rfl
section
variable {P : Program} {w : World} {K : PySem.W.Frag} {mg : Str → Option Value} {base : Heap}
theorem ok_putcont {C_NoText f fN fI fL fR fA fK fS fO fPp fPi : Addr} {fd fdN fdI fdL fdR fdA fdK fdS fdO fdPp fdPi : FuncData} (T : Txt K mg) (F : Fun K "put_content" "put_content" s_put_content f fd) (X_NoText : Exn K mg "NoText" C_NoText) (D_need : Df K mg "need" s_need ["good"] fN fdN) (D_is_int : Df K mg "is_int" s_is_int ["thing"] fI fdI) (D_is_label : Df K mg "is_label" s_is_label ["thing"] fL fdL) (D_is_row : Df K mg "is_row" s_is_row ["thing"] fR fdR) (D_are_rows : Df K mg "are_rows" s_are_rows ["thing"] fA fdA) (D_is_pair : Df K mg "is_pair" s_is_pair ["thing"] fK fdK)
    (D_is_list : Df K mg "is_list" s_is_list ["thing", "most"] fS fdS) (D_rises : Df K mg "rises" s_rises ["things"] fO fdO) (D_put_pair : Df K mg "put_pair" s_put_pair ["thing", "words", "lines"] fPp fdPp) (D_put_int : Df K mg "put_int" s_put_int ["thing", "words", "lines"] fPi fdPi) {fPl : Addr} {fdPl : FuncData} (D_put_list : Df K mg "put_list" s_put_list ["thing", "most", "each", "words", "lines"] fPl fdPl) : FnOk P w K mg base (L2.CX P w) 6 f fd ["thing", "words", "lines"] (spPCont C_NoText) := by
  have G_need : FnOk P w K mg base (L2.CX P w) 1 fN fdN ["good"] (spNeed C_NoText) := ok_need T D_need.fn X_NoText
  have G_are_rows : FnOk P w K mg base CX0 2 fA fdA ["thing"] spNRows := ok_nrows T D_are_rows.fn D_is_row
  have G_put_int : FnOk P w K mg base (L2.CX P w) 2 fPi fdPi ["thing", "words", "lines"] (spPut C_NoText .int) := ok_putint T D_put_int.fn X_NoText D_need D_is_int
  have G_put_pair : FnOk P w K mg base (L2.CX P w) 3 fPp fdPp ["thing", "words", "lines"] (spPut C_NoText .pair) := ok_putpair T D_put_pair.fn X_NoText D_need D_is_label D_is_int D_is_pair
  have G_put_list : FnOk P w K mg base (L2.CX P w) 5 fPl fdPl ["thing", "most", "each", "words", "lines"] (spPList P w K mg base C_NoText) := ok_putlist T D_put_list.fn X_NoText D_need D_is_list
  have N_int : KnF P w K mg base (L2.CX P w) 4 fPi (spPut C_NoText .int) := ⟨_, _, G_put_int.mono (by omega), D_put_int.fn.kp, D_put_int.b⟩
  have N_pair : KnF P w K mg base (L2.CX P w) 4 fPp (spPut C_NoText .pair) := ⟨_, _, G_put_pair.mono (by omega), D_put_pair.fn.kp, D_put_pair.b⟩
  let f_put_pair := fPp
  let f_put_int := fPi
  refine F.okX sc_put_content (fun vs H Q E h => ?_) (fun cdv A outer s H vs Q E hr h => ?_)
  · obtain ⟨v, a, l, c, ws, ls, rfl, _⟩ := h
    rfl
  · obtain ⟨v, a, l, c, ws, ls, rfl, he, ok, W, hw, hl, q⟩ := h
    have ew := W.ew
    have el := W.el
    cases c with
    | leaf rs =>
      obtain ⟨t, r, rfl, et, er⟩ := he
      have at0 : atI [V.str "leaf", V.ref r] 0 = some (.str "leaf") := rfl
      have at1 : atI [V.str "leaf", V.ref r] 1 = some (.ref r) := rfl
      have G_rises : FnOk P w K mg base CX0 1 fO fdO ["things"] spRisT := ok_risT T D_rises.fn
      refine ⟨_,
      (pss_cons
        (ps_expr (pe_call G_need (hr.mono (by omega)) (by rfl) D_need.g D_need.fn.kp D_need.b .nil (passes_call (takes_of rfl rfl rfl rfl) (fun _ _ _ _ h => h)) (pa_cons (pe_and (pe_callB (r := rIsi K) call_isi (by rfl) T.n_isinstance (by decide +kernel) (pa_cons (pv 0) (pa_cons (pe_bltn (v := .ty "tuple") (u := .type "tuple") (by rfl) T.n_tuple (by decide +kernel) rfl) pa_nil))) (pe_and (pe_cmpR op_gt (pe_callB (r := rLen K) c_len (by rfl) T.n_len (by decide +kernel) (pa_cons (pv 0) pa_nil)) pe_int (nomark _)) (pe_one (pe_callB (r := rIsi K) call_isi (by rfl) T.n_isinstance (by decide +kernel) (pa_cons (pe_ix (r := rIxT K) ix_tup (pv 0) pe_int (fun _ _ => rfl)) (pa_cons (pe_bltn (v := .ty "str") (u := .type "str") (by rfl) T.n_str (by decide +kernel) rfl) pa_nil)))))) pa_nil)))
      (pss_cons
        (ps_expr (pe_bm PySem.F.plainAttrs_list PySem.F.slot_list_append PySem.F.type_list_append mt_append (pv 1) (pa_cons (pe_ix (r := rIxT K) ix_tup (pv 0) pe_int (fun _ _ => rfl)) pa_nil)))
      (pss_one
        (ps_if (pt_cmpR op_eq (pe_ix (r := rIxT K) ix_tup (pv 0) pe_int (fun _ _ => rfl)) pe_str (nomark _))
          (pss_cons
            (ps_expr (pe_call G_need (hr.mono (by omega)) (by rfl) D_need.g D_need.fn.kp D_need.b .nil (passes_call (takes_of rfl rfl rfl rfl) (fun _ _ _ _ h => h)) (pa_cons (pe_and (pe_cmpR op_eq (pe_callB (r := rLen K) c_len (by rfl) T.n_len (by decide +kernel) (pa_cons (pv 0) pa_nil)) pe_int (nomark _)) (pe_one (pe_call G_are_rows (hr.mono (by omega)) (by rfl) D_are_rows.g D_are_rows.fn.kp D_are_rows.b .nil pass0 (pa_cons (pe_ix (r := rIxT K) ix_tup (pv 0) pe_int (fun _ _ => rfl)) pa_nil)))) pa_nil)))
          (pss_cons
            (ps_expr (pe_bm PySem.F.plainAttrs_list PySem.F.slot_list_append PySem.F.type_list_append mt_append (pv 1) (pa_cons (pe_callTy (r := rStrI) call_str_int (by rfl) T.n_str (by decide +kernel) (pa_cons (pe_callB (r := rLen K) c_len (by rfl) T.n_len (by decide +kernel) (pa_cons (pe_ix (r := rIxT K) ix_tup (pv 0) pe_int (fun _ _ => rfl)) pa_nil)) pa_nil)) pa_nil)))
          (pss_one
            (ps_expr (pe_bm PySem.F.plainAttrs_list PySem.F.slot_list_extend PySem.F.type_list_extend mt_extT (pv 2) (pa_cons (pe_ix (r := rIxT K) ix_tup (pv 0) pe_int (fun _ _ => rfl)) pa_nil))))))
          (pss_one
            (ps_if (pt_cmpR op_eq (pe_ix (r := rIxT K) ix_tup (pv 0) pe_int (fun _ _ => rfl)) pe_str (nomark _))
              (pss_cons
                (ps_expr (pe_call G_need (hr.mono (by omega)) (by rfl) D_need.g D_need.fn.kp D_need.b .nil (passes_call (takes_of rfl rfl rfl rfl) (fun _ _ _ _ h => h)) (pa_cons (pe_cmpR op_eq (pe_callB (r := rLen K) c_len (by rfl) T.n_len (by decide +kernel) (pa_cons (pv 0) pa_nil)) pe_int (nomark _)) pa_nil)))
              (pss_cons
                (ps_expr (pe_call G_put_list (hr.mono (by omega)) (by rfl) D_put_list.g D_put_list.fn.kp D_put_list.b .nil (passes_call (takes_of rfl rfl rfl rfl) (fun _ _ _ _ h => h)) (pa_cons (pe_ix (r := rIxT K) ix_tup (pv 0) pe_int (fun _ _ => rfl)) (pa_cons pe_int (pa_cons (pe_glob (v := .ref f_put_pair) rfl D_put_pair.g rfl) (pa_cons (pv 1) (pa_cons (pv 2) pa_nil)))))))
              (pss_one
                (ps_expr (pe_call G_need (hr.mono (by omega)) (by rfl) D_need.g D_need.fn.kp D_need.b .nil (passes_call (takes_of rfl rfl rfl rfl) (fun _ _ _ _ h => h)) (pa_cons (pe_call G_rises (hr.mono (by omega)) (by rfl) D_rises.g D_rises.fn.kp D_rises.b .nil pass0 (pa_cons (pe_lc (own := [("label", 3), ("name", 4)]) (g := (gTup K 2 (gCons (gName 3) (gCons (gName 4) gNil)))) rfl sc_put_content.nd (pi_tup (pe_ix (r := rIxT K) ix_tup (pv 0) pe_int (fun _ _ => rfl))) (blkOk_by (own := [("label", 3), ("name", 4)]) (N := N_put_content) (sc := defScope s_put_content) (by decide +kernel)) (fun _ _ _ _ _ => (pg_tup rfl (pgs_cons (pg_name (i := 3) sc_put_content.nd rfl (.inl rfl)) (pgs_cons (pg_name (i := 4) sc_put_content.nd rfl (.inl rfl)) pgs_nil)))) (fun _ _ _ _ _ => pts_nil) (fun _ _ _ _ _ => (pv 3))) pa_nil)) pa_nil))))))
              (pss_cons
                (ps_expr (pe_call G_need (hr.mono (by omega)) (by rfl) D_need.g D_need.fn.kp D_need.b .nil (passes_call (takes_of rfl rfl rfl rfl) (fun _ _ _ _ h => h)) (pa_cons (pe_and (pe_cmpR op_eq (pe_ix (r := rIxT K) ix_tup (pv 0) pe_int (fun _ _ => rfl)) pe_str (nomark _)) (pe_one (pe_cmpR op_eq (pe_callB (r := rLen K) c_len (by rfl) T.n_len (by decide +kernel) (pa_cons (pv 0) pa_nil)) pe_int (nomark _)))) pa_nil)))
              (pss_cons
                (ps_expr (pe_call G_put_list (hr.mono (by omega)) (by rfl) D_put_list.g D_put_list.fn.kp D_put_list.b .nil (passes_call (takes_of rfl rfl rfl rfl) (fun _ _ _ _ h => h)) (pa_cons (pe_ix (r := rIxT K) ix_tup (pv 0) pe_int (fun _ _ => rfl)) (pa_cons pe_int (pa_cons (pe_glob (v := .ref f_put_int) rfl D_put_int.g rfl) (pa_cons (pv 1) (pa_cons (pv 2) pa_nil)))))))
              (pss_cons
                (ps_expr (pe_call G_need (hr.mono (by omega)) (by rfl) D_need.g D_need.fn.kp D_need.b .nil (passes_call (takes_of rfl rfl rfl rfl) (fun _ _ _ _ h => h)) (pa_cons (pe_call G_rises (hr.mono (by omega)) (by rfl) D_rises.g D_rises.fn.kp D_rises.b .nil pass0 (pa_cons (pe_ix (r := rIxT K) ix_tup (pv 0) pe_int (fun _ _ => rfl)) pa_nil)) pa_nil)))
              (pss_cons
                (ps_expr (pe_call G_put_int (hr.mono (by omega)) (by rfl) D_put_int.g D_put_int.fn.kp D_put_int.b .nil (passes_call (takes_of rfl rfl rfl rfl) (fun _ _ _ _ h => h)) (pa_cons (pe_ix (r := rIxT K) ix_tup (pv 0) pe_int (fun _ _ => rfl)) (pa_cons (pv 1) (pa_cons (pv 2) pa_nil)))))
              (pss_one
                (ps_expr (pe_call G_put_int (hr.mono (by omega)) (by rfl) D_put_int.g D_put_int.fn.kp D_put_int.b .nil (passes_call (takes_of rfl rfl rfl rfl) (fun _ _ _ _ h => h)) (pa_cons (pe_ix (r := rIxT K) ix_tup (pv 0) pe_int (fun _ _ => rfl)) (pa_cons (pv 1) (pa_cons (pv 2) pa_nil))))))))))))))))
        , ?_⟩
      rw [show L2.start N_put_content [V.ref t, V.ref a, V.ref l] = [some (.ref t), some (.ref a), some (.ref l), none, none] from rfl]
      walk_at "x"
      rw [decide_eq_true (show (1 : Int) < (([V.str "leaf", V.ref r].length : Nat) : Int) by simp), if_pos rfl]
      walk_at "g"
      refine ⟨true, rfl, fun _ => ?_, fun z => nomatch z⟩
      walk_at "g"
      refine w_app ew (by rw [List.length_map]; exact small5 (by omega)) fun H1 e1 o1 => ?_
      obtain ⟨W1, k1, t1⟩ := W.putw (zs := ["leaf"]) e1 o1
      have et1 := t1 _ _ et
      have er1 := t1 _ _ er
      walk_at "g"
      rw [decide_eq_true (rfl : Str.ofString "leaf" = Str.ofString "leaf"), if_pos rfl]
      walk_at "g"
      rw [decide_eq_true (show (([V.str "leaf", V.ref r].length : Nat) : Int) = 2 from rfl), if_pos rfl]
      walk_at "g"
      refine ⟨r, rs, rfl, er1, ok, fun H2 k2 => ?_⟩
      have W2 := W1.same k2
      have et2 := k2 _ _ et1
      have er2 := k2 _ _ er1
      have ew2 := W2.ew
      have hrs := ok.1
      walk_at "g"
      refine ⟨true, rfl, fun _ => ?_, fun z => nomatch z⟩
      walk_at "g"
      rw [List.length_map]
      refine w_strN (n := rs.length) (by unfold TOP; omega) ?_
      walk_at "g"
      refine w_app ew2 (by rw [List.length_map, List.length_append]; exact small5 (by simp; omega)) fun H3 e3 o3 => ?_
      obtain ⟨W3, k3, t3⟩ := W2.putw (zs := [iS rs.length]) e3 o3
      have et3 := t3 _ _ et2
      have er3 := t3 _ _ er2
      have el3 := W3.el
      walk_at "g"
      refine w_extT el3 er3 (by rw [List.length_map, List.length_map]; exact Nat.le_of_lt (small5 (by omega))) fun H4 e4 o4 => ?_
      obtain ⟨W4, k4, t4⟩ := W3.putl (zs := rs) e4 o4
      exact q H4 (by simpa [Cn.w, Cn.l] using W4) (fun b u hb e => k4 _ _ hb (k3 _ _ hb (k2 _ _ (k1 _ _ hb e)))) (t1.trans ((KT.of k2).trans (t3.trans t4)))
    | ver ns x y =>
      obtain ⟨t, r, rfl, et, er⟩ := he
      obtain ⟨h4, up, hns, hx, hy⟩ := ok
      have at0 : atI [V.str "version", V.ref r, nV x, nV y] 0 = some (.str "version") := rfl
      have at1 : atI [V.str "version", V.ref r, nV x, nV y] 1 = some (.ref r) := rfl
      have at2 : atI [V.str "version", V.ref r, nV x, nV y] 2 = some (nV x) := rfl
      have at3 : atI [V.str "version", V.ref r, nV x, nV y] 3 = some (nV y) := rfl
      have G_rises : FnOk P w K mg base CX0 1 fO fdO ["things"] spRisT := ok_risT T D_rises.fn
      refine ⟨_,
      (pss_cons
        (ps_expr (pe_call G_need (hr.mono (by omega)) (by rfl) D_need.g D_need.fn.kp D_need.b .nil (passes_call (takes_of rfl rfl rfl rfl) (fun _ _ _ _ h => h)) (pa_cons (pe_and (pe_callB (r := rIsi K) call_isi (by rfl) T.n_isinstance (by decide +kernel) (pa_cons (pv 0) (pa_cons (pe_bltn (v := .ty "tuple") (u := .type "tuple") (by rfl) T.n_tuple (by decide +kernel) rfl) pa_nil))) (pe_and (pe_cmpR op_gt (pe_callB (r := rLen K) c_len (by rfl) T.n_len (by decide +kernel) (pa_cons (pv 0) pa_nil)) pe_int (nomark _)) (pe_one (pe_callB (r := rIsi K) call_isi (by rfl) T.n_isinstance (by decide +kernel) (pa_cons (pe_ix (r := rIxT K) ix_tup (pv 0) pe_int (fun _ _ => rfl)) (pa_cons (pe_bltn (v := .ty "str") (u := .type "str") (by rfl) T.n_str (by decide +kernel) rfl) pa_nil)))))) pa_nil)))
      (pss_cons
        (ps_expr (pe_bm PySem.F.plainAttrs_list PySem.F.slot_list_append PySem.F.type_list_append mt_append (pv 1) (pa_cons (pe_ix (r := rIxT K) ix_tup (pv 0) pe_int (fun _ _ => rfl)) pa_nil)))
      (pss_one
        (ps_if (pt_cmpR op_eq (pe_ix (r := rIxT K) ix_tup (pv 0) pe_int (fun _ _ => rfl)) pe_str (nomark _))
          (pss_cons
            (ps_expr (pe_call G_need (hr.mono (by omega)) (by rfl) D_need.g D_need.fn.kp D_need.b .nil (passes_call (takes_of rfl rfl rfl rfl) (fun _ _ _ _ h => h)) (pa_cons (pe_and (pe_cmpR op_eq (pe_callB (r := rLen K) c_len (by rfl) T.n_len (by decide +kernel) (pa_cons (pv 0) pa_nil)) pe_int (nomark _)) (pe_one (pe_call G_are_rows (hr.mono (by omega)) (by rfl) D_are_rows.g D_are_rows.fn.kp D_are_rows.b .nil pass0 (pa_cons (pe_ix (r := rIxT K) ix_tup (pv 0) pe_int (fun _ _ => rfl)) pa_nil)))) pa_nil)))
          (pss_cons
            (ps_expr (pe_bm PySem.F.plainAttrs_list PySem.F.slot_list_append PySem.F.type_list_append mt_append (pv 1) (pa_cons (pe_callTy (r := rStrI) call_str_int (by rfl) T.n_str (by decide +kernel) (pa_cons (pe_callB (r := rLen K) c_len (by rfl) T.n_len (by decide +kernel) (pa_cons (pe_ix (r := rIxT K) ix_tup (pv 0) pe_int (fun _ _ => rfl)) pa_nil)) pa_nil)) pa_nil)))
          (pss_one
            (ps_expr (pe_bm PySem.F.plainAttrs_list PySem.F.slot_list_extend PySem.F.type_list_extend mt_extT (pv 2) (pa_cons (pe_ix (r := rIxT K) ix_tup (pv 0) pe_int (fun _ _ => rfl)) pa_nil))))))
          (pss_one
            (ps_if (pt_cmpR op_eq (pe_ix (r := rIxT K) ix_tup (pv 0) pe_int (fun _ _ => rfl)) pe_str (nomark _))
              (pss_cons
                (ps_expr (pe_call G_need (hr.mono (by omega)) (by rfl) D_need.g D_need.fn.kp D_need.b .nil (passes_call (takes_of rfl rfl rfl rfl) (fun _ _ _ _ h => h)) (pa_cons (pe_cmpR op_eq (pe_callB (r := rLen K) c_len (by rfl) T.n_len (by decide +kernel) (pa_cons (pv 0) pa_nil)) pe_int (nomark _)) pa_nil)))
              (pss_cons
                (ps_expr (pe_call G_put_list (hr.mono (by omega)) (by rfl) D_put_list.g D_put_list.fn.kp D_put_list.b .nil (passes_call (takes_of rfl rfl rfl rfl) (fun _ _ _ _ h => h)) (pa_cons (pe_ix (r := rIxT K) ix_tup (pv 0) pe_int (fun _ _ => rfl)) (pa_cons pe_int (pa_cons (pe_glob (v := .ref f_put_pair) rfl D_put_pair.g rfl) (pa_cons (pv 1) (pa_cons (pv 2) pa_nil)))))))
              (pss_one
                (ps_expr (pe_call G_need (hr.mono (by omega)) (by rfl) D_need.g D_need.fn.kp D_need.b .nil (passes_call (takes_of rfl rfl rfl rfl) (fun _ _ _ _ h => h)) (pa_cons (pe_call G_rises (hr.mono (by omega)) (by rfl) D_rises.g D_rises.fn.kp D_rises.b .nil pass0 (pa_cons (pe_lc (own := [("label", 3), ("name", 4)]) (g := (gTup K 2 (gCons (gName 3) (gCons (gName 4) gNil)))) rfl sc_put_content.nd (pi_tup (pe_ix (r := rIxT K) ix_tup (pv 0) pe_int (fun _ _ => rfl))) (blkOk_by (own := [("label", 3), ("name", 4)]) (N := N_put_content) (sc := defScope s_put_content) (by decide +kernel)) (fun _ _ _ _ _ => (pg_tup rfl (pgs_cons (pg_name (i := 3) sc_put_content.nd rfl (.inl rfl)) (pgs_cons (pg_name (i := 4) sc_put_content.nd rfl (.inl rfl)) pgs_nil)))) (fun _ _ _ _ _ => pts_nil) (fun _ _ _ _ _ => (pv 3))) pa_nil)) pa_nil))))))
              (pss_cons
                (ps_expr (pe_call G_need (hr.mono (by omega)) (by rfl) D_need.g D_need.fn.kp D_need.b .nil (passes_call (takes_of rfl rfl rfl rfl) (fun _ _ _ _ h => h)) (pa_cons (pe_and (pe_cmpR op_eq (pe_ix (r := rIxT K) ix_tup (pv 0) pe_int (fun _ _ => rfl)) pe_str (nomark _)) (pe_one (pe_cmpR op_eq (pe_callB (r := rLen K) c_len (by rfl) T.n_len (by decide +kernel) (pa_cons (pv 0) pa_nil)) pe_int (nomark _)))) pa_nil)))
              (pss_cons
                (ps_expr (pe_call G_put_list (hr.mono (by omega)) (by rfl) D_put_list.g D_put_list.fn.kp D_put_list.b .nil (passes_call (takes_of rfl rfl rfl rfl) (fun _ _ _ _ h => h)) (pa_cons (pe_ix (r := rIxT K) ix_tup (pv 0) pe_int (fun _ _ => rfl)) (pa_cons pe_int (pa_cons (pe_glob (v := .ref f_put_int) rfl D_put_int.g rfl) (pa_cons (pv 1) (pa_cons (pv 2) pa_nil)))))))
              (pss_cons
                (ps_expr (pe_call G_need (hr.mono (by omega)) (by rfl) D_need.g D_need.fn.kp D_need.b .nil (passes_call (takes_of rfl rfl rfl rfl) (fun _ _ _ _ h => h)) (pa_cons (pe_call G_rises (hr.mono (by omega)) (by rfl) D_rises.g D_rises.fn.kp D_rises.b .nil pass0 (pa_cons (pe_ix (r := rIxT K) ix_tup (pv 0) pe_int (fun _ _ => rfl)) pa_nil)) pa_nil)))
              (pss_cons
                (ps_expr (pe_call G_put_int (hr.mono (by omega)) (by rfl) D_put_int.g D_put_int.fn.kp D_put_int.b .nil (passes_call (takes_of rfl rfl rfl rfl) (fun _ _ _ _ h => h)) (pa_cons (pe_ix (r := rIxT K) ix_tup (pv 0) pe_int (fun _ _ => rfl)) (pa_cons (pv 1) (pa_cons (pv 2) pa_nil)))))
              (pss_one
                (ps_expr (pe_call G_put_int (hr.mono (by omega)) (by rfl) D_put_int.g D_put_int.fn.kp D_put_int.b .nil (passes_call (takes_of rfl rfl rfl rfl) (fun _ _ _ _ h => h)) (pa_cons (pe_ix (r := rIxT K) ix_tup (pv 0) pe_int (fun _ _ => rfl)) (pa_cons (pv 1) (pa_cons (pv 2) pa_nil))))))))))))))))
        , ?_⟩
      rw [show L2.start N_put_content [V.ref t, V.ref a, V.ref l] = [some (.ref t), some (.ref a), some (.ref l), none, none] from rfl]
      walk_at "x"
      rw [decide_eq_true (show (1 : Int) < (([V.str "version", V.ref r, nV x, nV y].length : Nat) : Int) by simp), if_pos rfl]
      walk_at "g"
      refine ⟨true, rfl, fun _ => ?_, fun z => nomatch z⟩
      walk_at "g"
      refine w_app ew (by rw [List.length_map]; exact small5 (by omega)) fun H1 e1 o1 => ?_
      obtain ⟨W1, k1, t1⟩ := W.putw (zs := ["version"]) e1 o1
      have et1 := t1 _ _ et
      have er1 := t1 _ _ er
      walk_at "g"
      rw [decide_eq_false (show ¬ Str.ofString "version" = Str.ofString "leaf" by decide), if_neg (by decide)]
      walk_at "g"
      rw [decide_eq_false (show ¬ Str.ofString "version" = Str.ofString "tree" by decide), if_neg (by decide)]
      walk_at "g"
      rw [decide_eq_true (rfl : Str.ofString "version" = Str.ofString "version"), if_pos rfl]
      walk_at "g"
      rw [decide_eq_true (show (([V.str "version", V.ref r, nV x, nV y].length : Nat) : Int) = 4 from rfl)]
      refine ⟨true, rfl, fun _ => ?_, fun z => nomatch z⟩
      walk_at "g"
      have lw1 := fw_len (ns.map El.int)
      rw [List.length_map] at lw1
      refine ⟨r, fPi, a, l, 4, .int, ns.map fun n => (nV n, El.int n), _, _, rfl, N_int, by rw [List.map_map]; exact er1, fun q hq => ?_, by rw [List.length_map]; omega, by rw [List.length_map]; omega, W1, by rw [List.length_append]; simp; omega, by omega, fun _ H2 W2 k2 t2 => ?_, fun ⟨q', hq', hne⟩ => ?_⟩
      · obtain ⟨n, hn, rfl⟩ := List.mem_map.mp hq
        exact ⟨rfl, hns n hn, .inl rfl⟩
      · have et2 := t2 _ _ et1
        have er2 := t2 _ _ er1
        rw [List.map_map, show ((fun q : V × El => q.2) ∘ fun n => (nV n, El.int n)) = El.int from rfl, llE_int, List.append_nil] at W2
        walk_at "g"
        refine ⟨r, ns, rfl, er2, up, by omega, fun H3 k3 => ?_⟩
        have W3 := W2.same k3
        have et3 := k3 _ _ et2
        walk_at "g"
        refine ⟨true, rfl, fun _ => ?_, fun z => nomatch z⟩
        walk_at "g"
        have lw : (lwE (ns.map El.int)).length ≤ 20 := by unfold lwE; simp at lw1 ⊢; omega
        refine ⟨nV x, a, l, .int x, _, _, rfl, rfl, hx, W3, by simp only [List.length_append, List.length_cons, List.length_nil]; omega, by omega, .inl rfl, fun _ H4 W4 k4 t4 => ?_, fun z => absurd rfl z⟩
        have et4 := t4 _ _ et3
        walk_at "g"
        refine ⟨nV y, a, l, .int y, _, _, rfl, rfl, hy, W4, by simp only [List.length_append, List.length_cons, List.length_nil, show (El.int x).w = [iS x] from rfl]; omega, by rw [show (El.int x).l = [] from rfl, List.append_nil]; omega, .inl rfl, fun _ H5 W5 k5 t5 => ?_, fun z => absurd rfl z⟩
        exact q H5 (by simpa [Cn.w, Cn.l, El.w, El.l] using W5) (fun b u hb e => k5 _ _ hb (k4 _ _ hb (k3 _ _ (k2 _ _ hb (k1 _ _ hb e))))) (t1.trans (t2.trans ((KT.of k3).trans (t4.trans t5))))
      · obtain ⟨n, hn, rfl⟩ := List.mem_map.mp hq'
        exact absurd rfl hne
    | tree ps =>
      obtain ⟨t, r, as, rfl, et, er, hps, has⟩ := he
      obtain ⟨h20, hq, up⟩ := ok
      have hal : as.length ≤ 20 := by rw [← hps, List.length_map] at h20; exact h20
      have at0 : atI [V.str "tree", V.ref r] 0 = some (.str "tree") := rfl
      have at1 : atI [V.str "tree", V.ref r] 1 = some (.ref r) := rfl
      have G_rises : FnOk P w K mg base CX0 1 fO fdO ["things"] spRisL := ok_risL T D_rises.fn
      refine ⟨_,
      (pss_cons
        (ps_expr (pe_call G_need (hr.mono (by omega)) (by rfl) D_need.g D_need.fn.kp D_need.b .nil (passes_call (takes_of rfl rfl rfl rfl) (fun _ _ _ _ h => h)) (pa_cons (pe_and (pe_callB (r := rIsi K) call_isi (by rfl) T.n_isinstance (by decide +kernel) (pa_cons (pv 0) (pa_cons (pe_bltn (v := .ty "tuple") (u := .type "tuple") (by rfl) T.n_tuple (by decide +kernel) rfl) pa_nil))) (pe_and (pe_cmpR op_gt (pe_callB (r := rLen K) c_len (by rfl) T.n_len (by decide +kernel) (pa_cons (pv 0) pa_nil)) pe_int (nomark _)) (pe_one (pe_callB (r := rIsi K) call_isi (by rfl) T.n_isinstance (by decide +kernel) (pa_cons (pe_ix (r := rIxT K) ix_tup (pv 0) pe_int (fun _ _ => rfl)) (pa_cons (pe_bltn (v := .ty "str") (u := .type "str") (by rfl) T.n_str (by decide +kernel) rfl) pa_nil)))))) pa_nil)))
      (pss_cons
        (ps_expr (pe_bm PySem.F.plainAttrs_list PySem.F.slot_list_append PySem.F.type_list_append mt_append (pv 1) (pa_cons (pe_ix (r := rIxT K) ix_tup (pv 0) pe_int (fun _ _ => rfl)) pa_nil)))
      (pss_one
        (ps_if (pt_cmpR op_eq (pe_ix (r := rIxT K) ix_tup (pv 0) pe_int (fun _ _ => rfl)) pe_str (nomark _))
          (pss_cons
            (ps_expr (pe_call G_need (hr.mono (by omega)) (by rfl) D_need.g D_need.fn.kp D_need.b .nil (passes_call (takes_of rfl rfl rfl rfl) (fun _ _ _ _ h => h)) (pa_cons (pe_and (pe_cmpR op_eq (pe_callB (r := rLen K) c_len (by rfl) T.n_len (by decide +kernel) (pa_cons (pv 0) pa_nil)) pe_int (nomark _)) (pe_one (pe_call G_are_rows (hr.mono (by omega)) (by rfl) D_are_rows.g D_are_rows.fn.kp D_are_rows.b .nil pass0 (pa_cons (pe_ix (r := rIxT K) ix_tup (pv 0) pe_int (fun _ _ => rfl)) pa_nil)))) pa_nil)))
          (pss_cons
            (ps_expr (pe_bm PySem.F.plainAttrs_list PySem.F.slot_list_append PySem.F.type_list_append mt_append (pv 1) (pa_cons (pe_callTy (r := rStrI) call_str_int (by rfl) T.n_str (by decide +kernel) (pa_cons (pe_callB (r := rLen K) c_len (by rfl) T.n_len (by decide +kernel) (pa_cons (pe_ix (r := rIxT K) ix_tup (pv 0) pe_int (fun _ _ => rfl)) pa_nil)) pa_nil)) pa_nil)))
          (pss_one
            (ps_expr (pe_bm PySem.F.plainAttrs_list PySem.F.slot_list_extend PySem.F.type_list_extend mt_extT (pv 2) (pa_cons (pe_ix (r := rIxT K) ix_tup (pv 0) pe_int (fun _ _ => rfl)) pa_nil))))))
          (pss_one
            (ps_if (pt_cmpR op_eq (pe_ix (r := rIxT K) ix_tup (pv 0) pe_int (fun _ _ => rfl)) pe_str (nomark _))
              (pss_cons
                (ps_expr (pe_call G_need (hr.mono (by omega)) (by rfl) D_need.g D_need.fn.kp D_need.b .nil (passes_call (takes_of rfl rfl rfl rfl) (fun _ _ _ _ h => h)) (pa_cons (pe_cmpR op_eq (pe_callB (r := rLen K) c_len (by rfl) T.n_len (by decide +kernel) (pa_cons (pv 0) pa_nil)) pe_int (nomark _)) pa_nil)))
              (pss_cons
                (ps_expr (pe_call G_put_list (hr.mono (by omega)) (by rfl) D_put_list.g D_put_list.fn.kp D_put_list.b .nil (passes_call (takes_of rfl rfl rfl rfl) (fun _ _ _ _ h => h)) (pa_cons (pe_ix (r := rIxT K) ix_tup (pv 0) pe_int (fun _ _ => rfl)) (pa_cons pe_int (pa_cons (pe_glob (v := .ref f_put_pair) rfl D_put_pair.g rfl) (pa_cons (pv 1) (pa_cons (pv 2) pa_nil)))))))
              (pss_one
                (ps_expr (pe_call G_need (hr.mono (by omega)) (by rfl) D_need.g D_need.fn.kp D_need.b .nil (passes_call (takes_of rfl rfl rfl rfl) (fun _ _ _ _ h => h)) (pa_cons (pe_call G_rises (hr.mono (by omega)) (by rfl) D_rises.g D_rises.fn.kp D_rises.b .nil pass0 (pa_cons (pe_lc (own := [("label", 3), ("name", 4)]) (g := (gTup K 2 (gCons (gName 3) (gCons (gName 4) gNil)))) rfl sc_put_content.nd (pi_tup (pe_ix (r := rIxT K) ix_tup (pv 0) pe_int (fun _ _ => rfl))) (blkOk_by (own := [("label", 3), ("name", 4)]) (N := N_put_content) (sc := defScope s_put_content) (by decide +kernel)) (fun _ _ _ _ _ => (pg_tup rfl (pgs_cons (pg_name (i := 3) sc_put_content.nd rfl (.inl rfl)) (pgs_cons (pg_name (i := 4) sc_put_content.nd rfl (.inl rfl)) pgs_nil)))) (fun _ _ _ _ _ => pts_nil) (fun _ _ _ _ _ => (pv 3))) pa_nil)) pa_nil))))))
              (pss_cons
                (ps_expr (pe_call G_need (hr.mono (by omega)) (by rfl) D_need.g D_need.fn.kp D_need.b .nil (passes_call (takes_of rfl rfl rfl rfl) (fun _ _ _ _ h => h)) (pa_cons (pe_and (pe_cmpR op_eq (pe_ix (r := rIxT K) ix_tup (pv 0) pe_int (fun _ _ => rfl)) pe_str (nomark _)) (pe_one (pe_cmpR op_eq (pe_callB (r := rLen K) c_len (by rfl) T.n_len (by decide +kernel) (pa_cons (pv 0) pa_nil)) pe_int (nomark _)))) pa_nil)))
              (pss_cons
                (ps_expr (pe_call G_put_list (hr.mono (by omega)) (by rfl) D_put_list.g D_put_list.fn.kp D_put_list.b .nil (passes_call (takes_of rfl rfl rfl rfl) (fun _ _ _ _ h => h)) (pa_cons (pe_ix (r := rIxT K) ix_tup (pv 0) pe_int (fun _ _ => rfl)) (pa_cons pe_int (pa_cons (pe_glob (v := .ref f_put_int) rfl D_put_int.g rfl) (pa_cons (pv 1) (pa_cons (pv 2) pa_nil)))))))
              (pss_cons
                (ps_expr (pe_call G_need (hr.mono (by omega)) (by rfl) D_need.g D_need.fn.kp D_need.b .nil (passes_call (takes_of rfl rfl rfl rfl) (fun _ _ _ _ h => h)) (pa_cons (pe_call G_rises (hr.mono (by omega)) (by rfl) D_rises.g D_rises.fn.kp D_rises.b .nil pass0 (pa_cons (pe_ix (r := rIxT K) ix_tup (pv 0) pe_int (fun _ _ => rfl)) pa_nil)) pa_nil)))
              (pss_cons
                (ps_expr (pe_call G_put_int (hr.mono (by omega)) (by rfl) D_put_int.g D_put_int.fn.kp D_put_int.b .nil (passes_call (takes_of rfl rfl rfl rfl) (fun _ _ _ _ h => h)) (pa_cons (pe_ix (r := rIxT K) ix_tup (pv 0) pe_int (fun _ _ => rfl)) (pa_cons (pv 1) (pa_cons (pv 2) pa_nil)))))
              (pss_one
                (ps_expr (pe_call G_put_int (hr.mono (by omega)) (by rfl) D_put_int.g D_put_int.fn.kp D_put_int.b .nil (passes_call (takes_of rfl rfl rfl rfl) (fun _ _ _ _ h => h)) (pa_cons (pe_ix (r := rIxT K) ix_tup (pv 0) pe_int (fun _ _ => rfl)) (pa_cons (pv 1) (pa_cons (pv 2) pa_nil))))))))))))))))
        , ?_⟩
      rw [show L2.start N_put_content [V.ref t, V.ref a, V.ref l] = [some (.ref t), some (.ref a), some (.ref l), none, none] from rfl]
      walk_at "x"
      rw [decide_eq_true (show (1 : Int) < (([V.str "tree", V.ref r].length : Nat) : Int) by simp), if_pos rfl]
      walk_at "g"
      refine ⟨true, rfl, fun _ => ?_, fun z => nomatch z⟩
      walk_at "g"
      refine w_app ew (by rw [List.length_map]; exact small5 (by omega)) fun H1 e1 o1 => ?_
      obtain ⟨W1, k1, t1⟩ := W.putw (zs := ["tree"]) e1 o1
      have et1 := t1 _ _ et
      have er1 := t1 _ _ er
      walk_at "g"
      rw [decide_eq_false (show ¬ Str.ofString "tree" = Str.ofString "leaf" by decide), if_neg (by decide)]
      walk_at "g"
      rw [decide_eq_true (rfl : Str.ofString "tree" = Str.ofString "tree"), if_pos rfl]
      walk_at "g"
      rw [decide_eq_true (show (([V.str "tree", V.ref r].length : Nat) : Int) = 2 from rfl)]
      refine ⟨true, rfl, fun _ => ?_, fun z => nomatch z⟩
      walk_at "g"
      refine ⟨r, fPp, a, l, 20, .pair, as.map fun q => (V.ref q.1, pEl q.2), _, _, rfl, N_pair, by rw [List.map_map]; exact er1, fun q hqm => ?_, by rw [List.length_map]; omega, by rw [List.length_map]; omega, W1, by rw [List.length_append]; simp; omega, by omega, fun _ H2 W2 k2 t2 => ?_, fun ⟨q', hq', hne⟩ => ?_⟩
      · obtain ⟨q', hq', rfl⟩ := List.mem_map.mp hqm
        exact ⟨⟨q'.1, rfl, t1 _ _ (has q' hq')⟩, hq q'.2 (by rw [← hps]; exact List.mem_map.mpr ⟨q', hq', rfl⟩), .inl rfl⟩
      · have et2 := t2 _ _ et1
        have er2 := t2 _ _ er1
        have ee : ((as.map fun q => (V.ref q.1, pEl q.2)).map fun q : V × El => q.2) = ps.map pEl := by rw [List.map_map, ← hps, List.map_map]; rfl
        rw [ee, llE_pair, List.append_nil] at W2
        walk_at "g"
        refine lcp_map (walk_tup (K := K) (a := r) (xs := as.map fun q => V.ref q.1)) [] (as.map fun q => V.str q.2.1) (by rw [List.length_map, List.length_map]) (by rw [List.length_map]; omega) (fun H' k => .of (k _ _ (by simp) er2)) ?_ (by simp) ?_
        · rintro i x H3 H4 R hi k3 ⟨rfl, hx⟩ hR
          obtain ⟨q0, hq0, rfl⟩ := map_at hx
          have erow := k3 _ _ (by simp) (t2 _ _ (t1 _ _ (has q0 (List.mem_of_getElem? hq0))))
          refine w_gtup (K := K) (.of erow) rfl (w_gcons (w_name (w_gcons (w_name (w_gnil ⟨rfl, ?_⟩)))))
          walk_at "g"
          exact hR _ _ (by rw [List.getElem?_map, hq0]; rfl) Kp.refl
        intro L H3 hL k3' eL
        have k3 := k3'.same
        have W3 := W2.same k3
        walk_at "g"
        refine ⟨L, ps.map (·.1), rfl, by rw [← hps, List.map_map, List.map_map]; exact eL, up, by rw [List.length_map]; omega, fun H4 k4 => ?_⟩
        have W4 := W3.same k4
        walk_at "g"
        refine ⟨true, rfl, fun _ => ?_, fun z => nomatch z⟩
        exact q H4 (by simpa [Cn.w, Cn.l] using W4) (fun b u hb e => k4 _ _ (k3 _ _ (k2 _ _ hb (k1 _ _ hb e)))) (t1.trans (t2.trans ((KT.of k3).trans (KT.of k4))))
      · obtain ⟨n, hn, rfl⟩ := List.mem_map.mp hq'
        exact absurd rfl hne
end
/-! ### packs -/
inductive Pk where
  | plain (n : Nat) (c : Cn)
  | over (n m : Nat) (es : List El)
def PkAt (H : Hp) (v : V) : Pk → Prop
  | .plain n c => ∃ t x, v = .ref t ∧ H t = some (.tup [nV n, .str "plain", x]) ∧ CnAt H x c
  | .over n m es => ∃ t r, ∃ as : List (V × El), v = .ref t ∧ H t = some (.tup [nV n, .str "over", nV m, .ref r]) ∧ H r = some (.tup (as.map (·.1))) ∧ as.map (·.2) = es ∧ ∀ q ∈ as, ElAt H q.1 q.2
def Pk.ok : Pk → Prop
  | .plain n c => n ≤ TOP ∧ c.ok
  | .over n m es => n ≤ TOP ∧ m ≤ TOP ∧ es.length ≤ 40 ∧ ∀ e ∈ es, e.ok ∧ e.kd = .piece
def PLAIN : Str := "plain"
def OVR : Str := "over"
def Pk.w : Pk → List Str
  | .plain n c => iS n :: PLAIN :: c.w
  | .over n m es => iS n :: OVR :: iS m :: lwE es
def Pk.l : Pk → List Str
  | .plain _ c => c.l
  | .over _ _ es => llE es
theorem CnAt.kt {H H' : Hp} {v : V} {c : Cn} (h : CnAt H v c) (k : KT H H') : CnAt H' v c := by
  cases c with
  | leaf rs => obtain ⟨t, r, e, h1, h2⟩ := h; exact ⟨t, r, e, k _ _ h1, k _ _ h2⟩
  | tree ps => obtain ⟨t, r, as, e, h1, h2, h3, h4⟩ := h; exact ⟨t, r, as, e, k _ _ h1, k _ _ h2, h3, fun q hq => k _ _ (h4 q hq)⟩
  | ver ns a b => obtain ⟨t, r, e, h1, h2⟩ := h; exact ⟨t, r, e, k _ _ h1, k _ _ h2⟩
theorem PkAt.kt {H H' : Hp} {v : V} {p : Pk} (h : PkAt H v p) (k : KT H H') : PkAt H' v p := by
  cases p with
  | plain n c => obtain ⟨t, x, e, h1, h2⟩ := h; exact ⟨t, x, e, k _ _ h1, h2.kt k⟩
  | over n m es => obtain ⟨t, r, as, e, h1, h2, h3, h4⟩ := h; exact ⟨t, r, as, e, k _ _ h1, k _ _ h2, h3, fun q hq => (h4 q hq).kt k⟩
def spPPack (C : Addr) : Sp := fun vs H Q E => ∃ (v : V) (a l : Addr) (p : Pk) (ws ls : List Str), vs = [v, .ref a, .ref l] ∧ PkAt H v p ∧ p.ok ∧ WL H a l ws ls ∧ ws.length ≤ 30000 ∧ ls.length ≤ 30000 ∧
  ∀ H', WL H' a l (ws ++ p.w) (ls ++ p.l) → Kp [a, l] H H' → KT H H' → Q .non H'
section
variable {P : Program} {w : World} {K : PySem.W.Frag} {mg : Str → Option Value} {base : Heap}
theorem ok_putpack {C_NoText f fN fI fC fS fPi fPl fPc fR fA : Addr} {fd fdN fdI fdC fdS fdPi fdPl fdPc fdR fdA : FuncData} (T : Txt K mg) (F : Fun K "put_pack" "put_pack" s_put_pack f fd) (X_NoText : Exn K mg "NoText" C_NoText) (D_need : Df K mg "need" s_need ["good"] fN fdN) (D_is_int : Df K mg "is_int" s_is_int ["thing"] fI fdI) (D_is_list : Df K mg "is_list" s_is_list ["thing", "most"] fS fdS) (D_put_int : Df K mg "put_int" s_put_int ["thing", "words", "lines"] fPi fdPi) (D_put_list : Df K mg "put_list" s_put_list ["thing", "most", "each", "words", "lines"] fPl fdPl)
    (D_is_row : Df K mg "is_row" s_is_row ["thing"] fR fdR) (D_are_rows : Df K mg "are_rows" s_are_rows ["thing"] fA fdA) (D_put_piece : Df K mg "put_piece" s_put_piece ["thing", "words", "lines"] fPc fdPc) (D_put_content : Df K mg "put_content" s_put_content ["thing", "words", "lines"] fC fdC) (G_put_content : FnOk P w K mg base (L2.CX P w) 6 fC fdC ["thing", "words", "lines"] (spPCont C_NoText)) : FnOk P w K mg base (L2.CX P w) 7 f fd ["thing", "words", "lines"] (spPPack C_NoText) := by
  obtain ⟨tk_ROWS, g_ROWS⟩ := T.g_ROWS
  have G_need : FnOk P w K mg base (L2.CX P w) 1 fN fdN ["good"] (spNeed C_NoText) := ok_need T D_need.fn X_NoText
  have G_put_int : FnOk P w K mg base (L2.CX P w) 2 fPi fdPi ["thing", "words", "lines"] (spPut C_NoText .int) := ok_putint T D_put_int.fn X_NoText D_need D_is_int
  have G_put_piece : FnOk P w K mg base (L2.CX P w) 3 fPc fdPc ["thing", "words", "lines"] (spPut C_NoText .piece) := ok_putpiece T D_put_piece.fn X_NoText D_need D_is_int D_is_row D_are_rows
  have G_put_list : FnOk P w K mg base (L2.CX P w) 5 fPl fdPl ["thing", "most", "each", "words", "lines"] (spPList P w K mg base C_NoText) := ok_putlist T D_put_list.fn X_NoText D_need D_is_list
  have N_piece : KnF P w K mg base (L2.CX P w) 4 fPc (spPut C_NoText .piece) := ⟨_, _, G_put_piece.mono (by omega), D_put_piece.fn.kp, D_put_piece.b⟩
  let f_put_piece := fPc
  refine F.okX sc_put_pack (fun vs H Q E h => ?_) (fun cdv A outer s H vs Q E hr h => ?_)
  · obtain ⟨v, a, l, p, ws, ls, rfl, _⟩ := h
    rfl
  · obtain ⟨v, a, l, p, ws, ls, rfl, he, ok, W, hw, hl, q⟩ := h
    have ew := W.ew
    have el := W.el
    refine ⟨_,
      (pss_cons
        (ps_expr (pe_call G_need (hr.mono (by omega)) (by rfl) D_need.g D_need.fn.kp D_need.b .nil (passes_call (takes_of rfl rfl rfl rfl) (fun _ _ _ _ h => h)) (pa_cons (pe_and (pe_callB (r := rIsi K) call_isi (by rfl) T.n_isinstance (by decide +kernel) (pa_cons (pv 0) (pa_cons (pe_bltn (v := .ty "tuple") (u := .type "tuple") (by rfl) T.n_tuple (by decide +kernel) rfl) pa_nil))) (pe_and (pe_cmpR op_gt (pe_callB (r := rLen K) c_len (by rfl) T.n_len (by decide +kernel) (pa_cons (pv 0) pa_nil)) pe_int (nomark _)) (pe_one (pe_callB (r := rIsi K) call_isi (by rfl) T.n_isinstance (by decide +kernel) (pa_cons (pe_ix (r := rIxT K) ix_tup (pv 0) pe_int (fun _ _ => rfl)) (pa_cons (pe_bltn (v := .ty "str") (u := .type "str") (by rfl) T.n_str (by decide +kernel) rfl) pa_nil)))))) pa_nil)))
      (pss_cons
        (ps_expr (pe_call G_put_int (hr.mono (by omega)) (by rfl) D_put_int.g D_put_int.fn.kp D_put_int.b .nil (passes_call (takes_of rfl rfl rfl rfl) (fun _ _ _ _ h => h)) (pa_cons (pe_ix (r := rIxT K) ix_tup (pv 0) pe_int (fun _ _ => rfl)) (pa_cons (pv 1) (pa_cons (pv 2) pa_nil)))))
      (pss_cons
        (ps_expr (pe_bm PySem.F.plainAttrs_list PySem.F.slot_list_append PySem.F.type_list_append mt_append (pv 1) (pa_cons (pe_ix (r := rIxT K) ix_tup (pv 0) pe_int (fun _ _ => rfl)) pa_nil)))
      (pss_one
        (ps_if (pt_cmpR op_eq (pe_ix (r := rIxT K) ix_tup (pv 0) pe_int (fun _ _ => rfl)) pe_str (nomark _))
          (pss_cons
            (ps_expr (pe_call G_need (hr.mono (by omega)) (by rfl) D_need.g D_need.fn.kp D_need.b .nil (passes_call (takes_of rfl rfl rfl rfl) (fun _ _ _ _ h => h)) (pa_cons (pe_cmpR op_eq (pe_callB (r := rLen K) c_len (by rfl) T.n_len (by decide +kernel) (pa_cons (pv 0) pa_nil)) pe_int (nomark _)) pa_nil)))
          (pss_one
            (ps_expr (pe_call G_put_content (hr.mono (by omega)) (by rfl) D_put_content.g D_put_content.fn.kp D_put_content.b .nil (passes_call (takes_of rfl rfl rfl rfl) (fun _ _ _ _ h => h)) (pa_cons (pe_ix (r := rIxT K) ix_tup (pv 0) pe_int (fun _ _ => rfl)) (pa_cons (pv 1) (pa_cons (pv 2) pa_nil)))))))
          (pss_cons
            (ps_expr (pe_call G_need (hr.mono (by omega)) (by rfl) D_need.g D_need.fn.kp D_need.b .nil (passes_call (takes_of rfl rfl rfl rfl) (fun _ _ _ _ h => h)) (pa_cons (pe_and (pe_cmpR op_eq (pe_ix (r := rIxT K) ix_tup (pv 0) pe_int (fun _ _ => rfl)) pe_str (nomark _)) (pe_one (pe_cmpR op_eq (pe_callB (r := rLen K) c_len (by rfl) T.n_len (by decide +kernel) (pa_cons (pv 0) pa_nil)) pe_int (nomark _)))) pa_nil)))
          (pss_cons
            (ps_expr (pe_call G_put_int (hr.mono (by omega)) (by rfl) D_put_int.g D_put_int.fn.kp D_put_int.b .nil (passes_call (takes_of rfl rfl rfl rfl) (fun _ _ _ _ h => h)) (pa_cons (pe_ix (r := rIxT K) ix_tup (pv 0) pe_int (fun _ _ => rfl)) (pa_cons (pv 1) (pa_cons (pv 2) pa_nil)))))
          (pss_one
            (ps_expr (pe_call G_put_list (hr.mono (by omega)) (by rfl) D_put_list.g D_put_list.fn.kp D_put_list.b .nil (passes_call (takes_of rfl rfl rfl rfl) (fun _ _ _ _ h => h)) (pa_cons (pe_ix (r := rIxT K) ix_tup (pv 0) pe_int (fun _ _ => rfl)) (pa_cons (pe_glob (v := .int 40) rfl g_ROWS ⟨_, rfl⟩) (pa_cons (pe_glob (v := .ref f_put_piece) rfl D_put_piece.g rfl) (pa_cons (pv 1) (pa_cons (pv 2) pa_nil)))))))))))))))
      , ?_⟩
    rw [show L2.start N_put_pack [v, V.ref a, V.ref l] = [some v, some (.ref a), some (.ref l)] from rfl]
    cases p with
    | plain n c =>
      obtain ⟨t, x, rfl, et, hc⟩ := he
      have at0 : atI [nV n, V.str "plain", x] 0 = some (nV n) := rfl
      have at1 : atI [nV n, V.str "plain", x] 1 = some (.str "plain") := rfl
      have at2 : atI [nV n, V.str "plain", x] 2 = some x := rfl
      walk_at "x"
      rw [decide_eq_true (show (2 : Int) < (([nV n, V.str "plain", x].length : Nat) : Int) by simp), if_pos rfl]
      walk_at "g"
      refine ⟨true, rfl, fun _ => ?_, fun z => nomatch z⟩
      walk_at "g"
      refine ⟨nV n, a, l, .int n, _, _, rfl, rfl, ok.1, W, by omega, by omega, .inl rfl, fun _ H1 W1 k1 t1 => ?_, fun z => absurd rfl z⟩
      have et1 := t1 _ _ et
      have ew1 := W1.ew
      walk_at "g"
      refine w_app ew1 (by rw [List.length_map, List.length_append]; exact small5 (by simp [El.w]; omega)) fun H2 e2 o2 => ?_
      obtain ⟨W2, k2, t2⟩ := W1.putw (zs := [PLAIN]) e2 o2
      have et2 := t2 _ _ et1
      walk_at "g"
      rw [decide_eq_true (rfl : Str.ofString "plain" = Str.ofString "plain"), if_pos rfl]
      walk_at "g"
      rw [decide_eq_true (show (([nV n, V.str "plain", x].length : Nat) : Int) = 3 from rfl)]
      refine ⟨true, rfl, fun _ => ?_, fun z => nomatch z⟩
      walk_at "g"
      refine ⟨x, a, l, c, _, _, rfl, hc.kt (t1.trans t2), ok.2, W2, by simp only [List.length_append, List.length_cons, List.length_nil, El.w]; omega, by simp only [List.length_append, List.length_nil, El.l]; omega, fun H3 W3 k3 t3 => ?_⟩
      exact q H3 (by simpa [Pk.w, Pk.l, El.w, El.l] using W3) (fun b u hb e => k3 _ _ hb (k2 _ _ hb (k1 _ _ hb e))) (t1.trans (t2.trans t3))
    | over n m es =>
      obtain ⟨t, r, as, rfl, et, er, hes, has⟩ := he
      obtain ⟨hn, hm, h40, heo⟩ := ok
      have hal : as.length ≤ 40 := by rw [← hes, List.length_map] at h40; exact h40
      have at0 : atI [nV n, V.str "over", nV m, V.ref r] 0 = some (nV n) := rfl
      have at1 : atI [nV n, V.str "over", nV m, V.ref r] 1 = some (.str "over") := rfl
      have at2 : atI [nV n, V.str "over", nV m, V.ref r] 2 = some (nV m) := rfl
      have at3 : atI [nV n, V.str "over", nV m, V.ref r] 3 = some (.ref r) := rfl
      walk_at "x"
      rw [decide_eq_true (show (2 : Int) < (([nV n, V.str "over", nV m, V.ref r].length : Nat) : Int) by simp), if_pos rfl]
      walk_at "g"
      refine ⟨true, rfl, fun _ => ?_, fun z => nomatch z⟩
      walk_at "g"
      refine ⟨nV n, a, l, .int n, _, _, rfl, rfl, hn, W, by omega, by omega, .inl rfl, fun _ H1 W1 k1 t1 => ?_, fun z => absurd rfl z⟩
      have et1 := t1 _ _ et
      have ew1 := W1.ew
      walk_at "g"
      refine w_app ew1 (by rw [List.length_map, List.length_append]; exact small5 (by simp [El.w]; omega)) fun H2 e2 o2 => ?_
      obtain ⟨W2, k2, t2⟩ := W1.putw (zs := [OVR]) e2 o2
      have et2 := t2 _ _ et1
      walk_at "g"
      rw [decide_eq_false (show ¬ Str.ofString "over" = Str.ofString "plain" by decide), if_neg (by decide)]
      walk_at "g"
      rw [decide_eq_true (rfl : Str.ofString "over" = Str.ofString "over"), if_pos rfl]
      walk_at "g"
      rw [decide_eq_true (show (([nV n, V.str "over", nV m, V.ref r].length : Nat) : Int) = 4 from rfl)]
      refine ⟨true, rfl, fun _ => ?_, fun z => nomatch z⟩
      walk_at "g"
      refine ⟨nV m, a, l, .int m, _, _, rfl, rfl, hm, W2, by simp only [List.length_append, List.length_cons, List.length_nil, El.w]; omega, by simp only [List.length_append, List.length_nil, El.l]; omega, .inl rfl, fun _ H3 W3 k3 t3 => ?_, fun z => absurd rfl z⟩
      have et3 := t3 _ _ et2
      have t13 := t1.trans (t2.trans t3)
      walk_at "g"
      refine ⟨r, fPc, a, l, 40, .piece, as, _, _, rfl, N_piece, t13 _ _ er, fun q hq => ?_, by omega, by omega, W3, by simp only [List.length_append, List.length_cons, List.length_nil, El.w]; omega, by simp only [List.length_append, List.length_nil, El.l]; omega, fun _ H4 W4 k4 t4 => ?_, fun ⟨q', hq', hne⟩ => ?_⟩
      · have := heo q.2 (by rw [← hes]; exact List.mem_map.mpr ⟨q, hq, rfl⟩)
        exact ⟨(has q hq).kt t13, this.1, .inl this.2⟩
      · rw [hes] at W4
        exact q H4 (by simpa [Pk.w, Pk.l, El.w, El.l] using W4) (fun b u hb e => k4 _ _ hb (k3 _ _ hb (k2 _ _ hb (k1 _ _ hb e)))) (t13.trans t4)
      · exact absurd (heo q'.2 (by rw [← hes]; exact List.mem_map.mpr ⟨q', hq', rfl⟩)).2 hne
end
/-! ### a row's text by one form -/
inductive Ar where
  | one (e : El)
  | lst (es : List El)
  | pk (p : Pk)
inductive KK where
  | ints | truths | labels | marks | int | truth | pack
  deriving DecidableEq
def KK.s : KK → Str
  | .ints => "ints"
  | .truths => "truths"
  | .labels => "labels"
  | .marks => "marks"
  | .int => "int"
  | .truth => "truth"
  | .pack => "pack row"
def KK.each : KK → Option Kd
  | .ints => some .int
  | .truths => some .tr
  | .labels => some .lab
  | .marks => some .pair
  | _ => none
def KK.one : KK → Option Kd
  | .int => some .int
  | .truth => some .tr
  | _ => none
def ArAt (H : Hp) (v : V) : Ar → Prop
  | .one e => ElAt H v e
  | .lst es => ∃ t, ∃ as : List (V × El), v = .ref t ∧ H t = some (.tup (as.map (·.1))) ∧ as.map (·.2) = es ∧ ∀ q ∈ as, ElAt H q.1 q.2
  | .pk p => PkAt H v p
theorem ArAt.kt {H H' : Hp} {v : V} {a : Ar} (h : ArAt H v a) (k : KT H H') : ArAt H' v a := by
  cases a with
  | one e => exact ElAt.kt h k
  | lst es => obtain ⟨t, as, e, h1, h2, h3⟩ := h; exact ⟨t, as, e, k _ _ h1, h2, fun q hq => (h3 q hq).kt k⟩
  | pk p => exact PkAt.kt h k
def Ar.ok : Ar → Prop
  | .one e => e.ok
  | .lst es => es.length ≤ 10 ∧ ∀ e ∈ es, e.ok
  | .pk p => p.ok
def Ar.w : Ar → List Str
  | .one e => e.w
  | .lst es => lwE es
  | .pk p => p.w
def Ar.l : Ar → List Str
  | .one e => e.l
  | .lst es => llE es
  | .pk p => p.l
def fit (k : KK) : Ar → Prop
  | .one e => k.one = some e.kd
  | .lst es => ∃ d, k.each = some d ∧ ∀ e ∈ es, e.kd = d
  | .pk _ => k = .pack
def unfit (k : KK) (a : Ar) : Prop := k = .ints ∧ ∃ es, a = .lst es ∧ es ≠ [] ∧ ∀ e ∈ es, e.kd = .tr
theorem lwE_len (es : List El) : (lwE es).length ≤ 3 * es.length + 2 := by
  have := fw_len es
  unfold lwE
  simp only [List.length_cons, List.length_append, List.length_nil]
  omega
theorem Pk.w_len {p : Pk} (h : p.ok) : p.w.length ≤ 200 ∧ p.l.length ≤ 2000 := by
  cases p with
  | plain n c =>
    cases c with
    | leaf rs => exact ⟨by simp [Pk.w, Cn.w], Nat.le_trans h.2.1 (by decide)⟩
    | tree ps =>
      have h1 := lwE_len (ps.map pEl)
      rw [List.length_map] at h1
      have h2 := h.2.1
      exact ⟨by simp only [Pk.w, Cn.w, List.length_cons]; omega, Nat.zero_le _⟩
    | ver ns a b =>
      have h1 := lwE_len (ns.map El.int)
      rw [List.length_map] at h1
      have h2 := h.2.1
      exact ⟨by simp only [Pk.w, Cn.w, List.length_cons, List.length_append, List.length_nil]; omega, Nat.zero_le _⟩
  | over n m es =>
    have h1 := lwE_len es
    have h2 := h.2.2.1
    have h3 := fl_len es fun e he => (h.2.2.2 e he).1
    exact ⟨by simp only [Pk.w, List.length_cons]; omega, by show (llE es).length ≤ _; unfold llE; omega⟩
theorem Ar.w_len {a : Ar} (h : a.ok) : a.w.length ≤ 200 ∧ a.l.length ≤ 2000 := by
  cases a with
  | one e => exact ⟨Nat.le_trans e.w_len (by decide), Nat.le_trans (El.l_len h) (by decide)⟩
  | lst es =>
    have h1 := lwE_len es
    have h2 := h.1
    have h3 := fl_len es h.2
    exact ⟨by show (lwE es).length ≤ _; omega, by show (llE es).length ≤ _; unfold llE; omega⟩
  | pk p => exact Pk.w_len h
theorem Ar.sum_len : ∀ (as : List Ar), (∀ a ∈ as, a.ok) → (as.flatMap Ar.w).length ≤ 200 * as.length ∧ (as.flatMap Ar.l).length ≤ 2000 * as.length
  | [], _ => ⟨Nat.le_refl _, Nat.le_refl _⟩
  | a :: as, h => by
    have h1 := Ar.w_len (h a (by simp))
    have h2 := Ar.sum_len as fun x hx => h x (List.mem_cons_of_mem _ hx)
    rw [List.flatMap_cons, List.flatMap_cons, List.length_append, List.length_append, List.length_cons]
    omega
/-! ### text_by -/
theorem ifNo {b : Bool} {A B : Prop} (e : b = false) (h : B) : if b = true then A else B := by
  rw [e]
  exact h
def NLS : Str := "\n"
def SPS : Str := " "
def txt (rw : Str) (as : List Ar) : Str := Txt.join NLS (Txt.join SPS (rw :: as.flatMap Ar.w) :: as.flatMap Ar.l)
theorem iS_len {n : Nat} (h : n ≤ TOP) : (iS n).length ≤ 19 := by
  have e : (iS n).cps.toList = (Nat.toDigits 10 n).map Char.toNat := by
    show (Str.ofString (toString n)).cps.toList = _
    rw [Str.ofString_eq_toList]
    show (toString n).toList.map Char.toNat = _
    rw [show toString n = n.repr from rfl, Nat.toList_repr]
  show (iS n).cps.size ≤ 19
  rw [← Array.length_toList, e, List.length_map, Nat.length_toDigits_le_iff (by decide) (by decide)]
  exact Nat.lt_of_le_of_lt h (by decide)
theorem sjoin_len (a : Str) : ∀ ys : List Str, (Str.join a ys).length ≤ (ys.map (·.length)).sum + ys.length * a.length
  | [] => Nat.zero_le _
  | [y] => by
    show y.length ≤ _
    simp
  | y :: z :: r => by
    have ih := sjoin_len a (z :: r)
    show (y.cps ++ a.cps ++ (Str.join a (z :: r)).cps).size ≤ _
    rw [Array.size_append, Array.size_append, List.map_cons, List.sum_cons, List.length_cons (as := z :: r), Nat.succ_mul]
    show y.length + a.length + (Str.join a (z :: r)).length ≤ _
    omega
theorem join_len (a : Str) (ys : List Str) : (Txt.join a ys).length ≤ (ys.map (·.length)).sum + ys.length * a.length := by
  have e : Txt.join a ys = Str.join a ys := StrLaws.glued_eq_join _ _
  rw [e]
  exact sjoin_len a ys
theorem sum_le40 : ∀ (zs : List Str) (m : Nat), (∀ z ∈ zs, z.length ≤ m) → (zs.map (·.length)).sum ≤ m * zs.length
  | [], _, _ => Nat.zero_le _
  | z :: zs, m, h => by
    rw [List.map_cons, List.sum_cons, List.length_cons, Nat.mul_succ]
    have h1 := h z (by simp)
    have h2 := sum_le40 zs m fun x hx => h x (List.mem_cons_of_mem _ hx)
    omega
theorem El.short {e : El} (h : e.ok) : (∀ z ∈ e.w, z.length ≤ 40) ∧ ∀ z ∈ e.l, z.length ≤ 40 := by
  cases e with
  | int n =>
    refine ⟨fun z hz => ?_, fun z hz => (by cases hz)⟩
    have e : z = iS n := by simpa [El.w] using hz
    have := iS_len h
    rw [e]; omega
  | tr b =>
    refine ⟨fun z hz => ?_, fun z hz => (by cases hz)⟩
    cases b with
    | true =>
      have e : z = "yes" := by simpa [El.w] using hz
      rw [e]; decide
    | false =>
      have e : z = "no" := by simpa [El.w] using hz
      rw [e]; decide
  | lab y =>
    refine ⟨fun z hz => ?_, fun z hz => (by cases hz)⟩
    have e : z = y := by simpa [El.w] using hz
    have := h.2.1
    rw [e]; omega
  | pair y n =>
    refine ⟨fun z hz => ?_, fun z hz => (by cases hz)⟩
    rcases (by simpa [El.w] using hz : z = y ∨ z = iS n) with e | e
    · have := h.1.2.1
      rw [e]; omega
    · have := iS_len h.2
      rw [e]; omega
  | take a b =>
    refine ⟨fun z hz => ?_, fun z hz => (by cases hz)⟩
    rcases (by simpa [El.w] using hz : z = "take" ∨ z = iS a ∨ z = iS b) with e | e | e
    · rw [e]; decide
    · have := iS_len h.1
      rw [e]; omega
    · have := iS_len h.2.1
      rw [e]; omega
  | put rs =>
    refine ⟨fun z hz => ?_, fun z hz => (h.1.2 z hz).1⟩
    rcases (by simpa [El.w] using hz : z = "put" ∨ z = iS rs.length) with e | e
    · rw [e]; decide
    · have := iS_len (n := rs.length) (Nat.le_trans h.1.1 (by decide))
      rw [e]; omega
theorem lwE_short {es : List El} (h : ∀ e ∈ es, e.ok) : (∀ z ∈ lwE es, z.length ≤ 40) ∧ ∀ z ∈ llE es, z.length ≤ 40 := by
  refine ⟨fun z hz => ?_, fun z hz => ?_⟩
  · unfold lwE at hz
    rcases List.mem_cons.mp hz with e | hz
    · rw [e]; decide
    rcases List.mem_append.mp hz with hz | hz
    · obtain ⟨e, he, hz⟩ := List.mem_flatMap.mp hz
      exact (El.short (h e he)).1 z hz
    · have e : z = CP := by simpa using hz
      rw [e]; decide
  · obtain ⟨e, he, hz⟩ := List.mem_flatMap.mp hz
    exact (El.short (h e he)).2 z hz
theorem Cn.short {c : Cn} (h : c.ok) : (∀ z ∈ c.w, z.length ≤ 40) ∧ ∀ z ∈ c.l, z.length ≤ 40 := by
  cases c with
  | leaf rs =>
    refine ⟨fun z hz => ?_, fun z hz => (h.2 z hz).1⟩
    rcases (by simpa [Cn.w] using hz : z = "leaf" ∨ z = iS rs.length) with e | e
    · rw [e]; decide
    · have := iS_len (n := rs.length) (Nat.le_trans h.1 (by decide))
      rw [e]; omega
  | tree ps =>
    refine ⟨fun z hz => ?_, fun z hz => (by cases hz)⟩
    rcases List.mem_cons.mp hz with e | hz
    · rw [e]; decide
    · exact (lwE_short fun e he => by
        obtain ⟨q, hq, rfl⟩ := List.mem_map.mp he
        exact h.2.1 q hq).1 z hz
  | ver ns a b =>
    refine ⟨fun z hz => ?_, fun z hz => (by cases hz)⟩
    rcases List.mem_cons.mp hz with e | hz
    · rw [e]; decide
    rcases List.mem_append.mp hz with hz | hz
    · exact (lwE_short fun e he => by
        obtain ⟨q, hq, rfl⟩ := List.mem_map.mp he
        exact h.2.2.1 q hq).1 z hz
    · rcases (by simpa using hz : z = iS a ∨ z = iS b) with e | e
      · have := iS_len h.2.2.2.1
        rw [e]; omega
      · have := iS_len h.2.2.2.2
        rw [e]; omega
theorem Pk.short {p : Pk} (h : p.ok) : (∀ z ∈ p.w, z.length ≤ 40) ∧ ∀ z ∈ p.l, z.length ≤ 40 := by
  cases p with
  | plain n c =>
    refine ⟨fun z hz => ?_, (Cn.short h.2).2⟩
    rcases List.mem_cons.mp hz with e | hz
    · have := iS_len h.1
      rw [e]; omega
    rcases List.mem_cons.mp hz with e | hz
    · rw [e]; decide
    · exact (Cn.short h.2).1 z hz
  | over n m es =>
    have hs := lwE_short fun e he => (h.2.2.2 e he).1
    refine ⟨fun z hz => ?_, hs.2⟩
    rcases List.mem_cons.mp hz with e | hz
    · have := iS_len h.1
      rw [e]; omega
    rcases List.mem_cons.mp hz with e | hz
    · rw [e]; decide
    rcases List.mem_cons.mp hz with e | hz
    · have := iS_len h.2.1
      rw [e]; omega
    · exact hs.1 z hz
theorem Ar.short {a : Ar} (h : a.ok) : (∀ z ∈ a.w, z.length ≤ 40) ∧ ∀ z ∈ a.l, z.length ≤ 40 := by
  cases a with
  | one e => exact El.short h
  | lst es => exact lwE_short h.2
  | pk p => exact Pk.short h
/-- the bounds that both joins of a row's text ask for -/
theorem txt_fits {rw : Str} {as : List Ar} (h : ∀ a ∈ as, a.ok) (hl : as.length ≤ 10) (hr : rw.length ≤ 100) :
    ((rw :: as.flatMap Ar.w).map (·.length)).sum + (rw :: as.flatMap Ar.w).length * 1 ≤ 16777216 ∧ ((Txt.join SPS (rw :: as.flatMap Ar.w) :: as.flatMap Ar.l).map (·.length)).sum + (Txt.join SPS (rw :: as.flatMap Ar.w) :: as.flatMap Ar.l).length * 1 ≤ 16777216 := by
  have hn := Ar.sum_len as h
  have h1 := sum_le40 (as.flatMap Ar.w) 40 fun z hz => by
    obtain ⟨a, ha, hz⟩ := List.mem_flatMap.mp hz
    exact (Ar.short (h a ha)).1 z hz
  have h2 := sum_le40 (as.flatMap Ar.l) 40 fun z hz => by
    obtain ⟨a, ha, hz⟩ := List.mem_flatMap.mp hz
    exact (Ar.short (h a ha)).2 z hz
  have h3 := join_len SPS (rw :: as.flatMap Ar.w)
  rw [show SPS.length = 1 from rfl, List.map_cons, List.sum_cons, List.length_cons] at h3
  rw [List.map_cons, List.sum_cons, List.length_cons, List.map_cons, List.sum_cons, List.length_cons]
  omega
def spTextBy (K : PySem.W.Frag) : Sp := fun vs H Q _ => ∃ (t kt : Addr) (wd rw : Str) (as : List (V × Ar)) (ks : List KK), vs = [.ref t, .str wd, .ref kt] ∧ H t = some (.tup (.str rw :: as.map (·.1))) ∧ (∀ H', SqT K H' kt (ks.map fun k => .str k.s)) ∧ (∀ q ∈ as, ArAt H q.1 q.2 ∧ q.2.ok) ∧ as.length ≤ 10 ∧ ks.length ≤ 10 ∧ rw.length ≤ 100 ∧
  ((as.length ≠ ks.length ∨ rw ≠ wd) ∨ (∀ (i : Nat) (k : KK) (q : V × Ar), ks[i]? = some k → as[i]? = some q → fit k q.2) ∨ (∃ (k : KK) (q : V × Ar), as = [q] ∧ ks = [k] ∧ unfit k q.2)) ∧
  ((as.length ≠ ks.length ∨ rw ≠ wd) → Q .non H) ∧
  (as.length = ks.length → rw = wd → (∀ (i : Nat) (k : KK) (q : V × Ar), ks[i]? = some k → as[i]? = some q → fit k q.2) → ∀ H', Same H H' → Q (.str (txt rw (as.map (·.2)))) H') ∧
  (∀ (k : KK) (q : V × Ar), as = [q] → ks = [k] → rw = wd → unfit k q.2 → ∀ H', Same H H' → Q .non H')
section
variable {P : Program} {w : World} {K : PySem.W.Frag} {mg : Str → Option Value} {base : Heap}
theorem ok_textby {C_NoText f fPi fPt fPl fPp fPk fL ka_PUTS ka_PUTS_EACH : Addr} {fd fdPl : FuncData} (T : Txt K mg) (F : Fun K "text_by" "text_by" s_text_by f fd) (X_NoText : Exn K mg "NoText" C_NoText) (xm_NoText_NoText : PySem.W.exmOne K (.ref C_NoText) (.ref C_NoText) = some true) (D_put_list : Df K mg "put_list" s_put_list ["thing", "most", "each", "words", "lines"] fPl fdPl) (G_put_list : FnOk P w K mg base (L2.CX P w) 5 fPl fdPl ["thing", "most", "each", "words", "lines"] (spPList P w K mg base C_NoText))
    (g_PUTS : mg "PUTS" = some (.ref ka_PUTS)) (d_PUTS : KDict P w K ka_PUTS [(Sum.inr "int", .ref fPi), (Sum.inr "truth", .ref fPt), (Sum.inr "pack row", .ref fPk)]) (g_PUTS_EACH : mg "PUTS_EACH" = some (.ref ka_PUTS_EACH)) (d_PUTS_EACH : KDict P w K ka_PUTS_EACH [(Sum.inr "ints", .ref fPi), (Sum.inr "truths", .ref fPt), (Sum.inr "labels", .ref fL), (Sum.inr "marks", .ref fPp)])
    (N_int : KnF P w K mg base (L2.CX P w) 4 fPi (spPut C_NoText .int)) (N_tr : KnF P w K mg base (L2.CX P w) 4 fPt (spPut C_NoText .tr)) (N_lab : KnF P w K mg base (L2.CX P w) 4 fL (spPut C_NoText .lab)) (N_pair : KnF P w K mg base (L2.CX P w) 4 fPp (spPut C_NoText .pair))
    (M_int : KnF P w K mg base (L2.CX P w) 7 fPi (spPut C_NoText .int)) (M_tr : KnF P w K mg base (L2.CX P w) 7 fPt (spPut C_NoText .tr)) (M_pk : KnF P w K mg base (L2.CX P w) 7 fPk (spPPack C_NoText)) : FnOk P w K mg base CX0 8 f fd ["row", "word", "kinds"] (spTextBy K) := by
  obtain ⟨tk_MANY, g_MANY⟩ := T.g_MANY
  refine F.ok sc_text_by (fun vs H Q E h => ?_) (fun cdv A outer s H vs Q E hr h => ?_)
  · obtain ⟨t, kt, wd, rw', as, ks, rfl, _⟩ := h
    rfl
  · obtain ⟨t, kt, wd, rw', as, ks, rfl, et, hkt, has, hal, hkl, hrw, hcase, q1, q2, q3⟩ := h
    have hu := hu_of hr
    have hk0 := hkt H
    have at0 : atI (V.str rw' :: as.map (·.1)) 0 = some (.str rw') := atI_nat (j := 0) rfl
    refine ⟨_,
      (pss_cons
        (ps_if (PW.pt (pw_or (pt_cmpR op_ne (pe_callB (r := rLen K) c_len (by rfl) T.n_len (by decide +kernel) (pa_cons (pv 0) pa_nil)) (pe_op op_add pe_int (pe_callB (r := rLen K) c_len (by rfl) T.n_len (by decide +kernel) (pa_cons (pv 2) pa_nil))) (nomark _)) (pw_or1 (pt_cmpR op_ne (pe_ix (r := rIxT K) ix_tup (pv 0) pe_int (fun _ _ => rfl)) (pv 1) (nomark _)))))
          (pss_one
            (ps_ret pe_non))
          pss_nil)
      (pss_cons
        (ps_set (i := 3) sc_text_by.nd rfl (.inl rfl) (pe_lst (pa_cons (pv 1) pa_nil)))
      (pss_cons
        (ps_set (i := 4) sc_text_by.nd rfl (.inl rfl) (pe_lst pa_nil))
      (pss_cons
        (p_try rfl rfl ⟨rfl, by decide, .inl X_NoText.g⟩ (fun W pn xe tk po =>
          (pss_one
            (ps_for po rfl (pi_zipAK (K' := K) rfl (by rfl) T.n_zip (pa_cons (pe_slice (r := rSlA K) sl_tupA (pv 0) (po_some pe_int) po_none) (pa_cons (pv 2) pa_nil))) (pg_tupK (K' := K) (n := 2) rfl rfl (pgs_cons (pg_name (i := 5) sc_text_by.nd rfl (.inl rfl)) (pgs_cons (pg_name (i := 6) sc_text_by.nd rfl (.inl rfl)) pgs_nil)))
              (pss_one
                (ps_if (pt_cmp (pc_kin (N := KDict P w K) (fun _ _ h => h) (pv 6) (pe_glob (v := .ref ka_PUTS_EACH) rfl g_PUTS_EACH rfl)))
                  (pss_one
                    (ps_expr (pe_callS G_put_list (hr.mono (by omega)) (by rfl) D_put_list.g D_put_list.fn.kp D_put_list.b (fun σ => passAt tk σ) (pa_cons (pv 5) (pa_cons (pe_glob (v := .int 400) rfl g_MANY ⟨_, rfl⟩) (pa_cons (pe_kget (N := KDict P w K) (fun _ _ h => h) (pe_glob (v := .ref ka_PUTS_EACH) rfl g_PUTS_EACH rfl) (pv 6) (fun _ _ => rfl)) (pa_cons (pv 3) (pa_cons (pv 4) pa_nil))))))))
                  (pss_cons
                    (ps_set (i := 7) sc_text_by.nd rfl (.inl rfl) (pe_kget (N := KDict P w K) (fun _ _ h => h) (pe_glob (v := .ref ka_PUTS) rfl g_PUTS rfl) (pv 6) (fun _ _ => rfl)))
                  (pss_one
                    (ps_expr (pe_callVS (N := KnF P w K mg base (L2.CX P w) 7) (i := 7) (fun _ _ h => h) (hr.mono (by omega)) (by rfl) (by first | exact Or.inl rfl | exact Or.inr (Or.inl rfl) | exact Or.inr (Or.inr rfl)) (fun σ => passAt tk σ) (pa_cons (pv 5) (pa_cons (pv 3) (pa_cons (pv 4) pa_nil))))))))))))
        (fun a oe cls d pn _ _ =>
          (pss_one
            (ps_ret pe_non))))
      (pss_one
        (ps_ret (p_join pe_str (pe_op op_cat (pe_lst (pa_cons (p_join pe_str (pv 3)) pa_nil)) (pv 4)))))))))
      , ?_⟩
    rw [show L2.start N_text_by [V.ref t, V.str wd, V.ref kt] = [some (.ref t), some (.str wd), some (.ref kt), none, none, none, none, none] from rfl]
    refine w_seq ?_
    walk_at "x"
    by_cases hlen : as.length = ks.length
    case neg =>
      rw [decide_eq_false (show ¬ (((V.str rw' :: as.map (fun x => x.1)).length : Nat) : Int) = 1 + (((ks.map fun k => V.str k.s).length : Nat) : Int) by simp only [List.length_cons, List.length_map]; omega), if_pos (by rfl)]
      walk_at "g"
      exact q1 (.inl hlen)
    rw [decide_eq_true (show (((V.str rw' :: as.map (fun x => x.1)).length : Nat) : Int) = 1 + (((ks.map fun k => V.str k.s).length : Nat) : Int) by simp only [List.length_cons, List.length_map]; omega), if_neg (by decide)]
    walk_at "g"
    by_cases hwd : rw' = wd
    case neg =>
      rw [decide_eq_false hwd]
      walk_at "g"
      exact q1 (.inr hwd)
    rw [decide_eq_true hwd]
    walk_at "g"
    subst hwd
    refine w_new fun a H1 ha ea k1 => ?_
    walk_at "g"
    refine w_new fun l H2 hl el k2 => ?_
    walk_at "g"
    have et2 := k2 _ _ (k1 _ _ et)
    have W2 : WL H2 a l [rw'] [] := ⟨k2 _ _ ea, el, ne_of_none ea hl⟩
    refine w_seq ?_
    refine w_try ?_
    walk_at "g"
    refine w_slAt et2 fun p H3 ep k3 => ?_
    rw [cut1] at ep
    have ep : H3 p = some (.tup (as.map (·.1))) := ep
    have W3 := W2.same k3
    have k03 := Same.trans k1 (Same.trans k2 k3)
    walk_at "g"
    refine w_zipT' (.of ep) (hkt H3) ?_
    refine lp_zipT (xs := as.map (·.1)) (ys := ks.map fun k => V.str k.s) (by rw [List.length_map, List.length_map]; exact hlen) (fun i σ H' => ∃ y5 y6 y7 : Option V, σ = [some (.ref t), some (.str rw'), some (.ref kt), some (.ref a), some (.ref l), y5, y6, y7] ∧ WL H' a l (rw' :: ((as.take i).map (·.2)).flatMap Ar.w) (((as.take i).map (·.2)).flatMap Ar.l) ∧ Kp [a, l] H3 H' ∧ KT H3 H' ∧ (i = 0 ∨ ∀ (k : KK) (q : V × Ar), as = [q] → ks = [k] → ¬ unfit k q.2)) ⟨_, _, _, rfl, by simpa using W3, Kp.refl, KT.refl, .inl rfl⟩ (fun i σ H' ⟨_, _, _, _, _, _, t', _⟩ => ⟨.of (t' _ _ ep), hkt H'⟩) ?_ ?_
    · rintro i x y T' σ H4 H5 hx hy ⟨y5, y6, y7, rfl, W4, k4, t4, _⟩ hT eT k5
      obtain ⟨q, hq, rfl⟩ := map_at hx
      obtain ⟨k, hk, rfl⟩ := map_at hy
      refine w_gtup (K := K) (.of eT) rfl (w_gcons (w_name (w_gcons (w_name (w_gnil ?_)))))
      walk_at "g"
      refine w_kin ?_
      walk_at "g"
      refine ⟨ka_PUTS_EACH, _, Sum.inr k.s, rfl, d_PUTS_EACH, rfl, _, rfl, ?_⟩
      obtain ⟨heq, hqok⟩ := has q (List.mem_of_getElem? hq)
      have W5 := W4.same k5
      have k05 : Kp [a, l] H3 H5 := fun b u hb e => k5 _ _ (k4 _ _ hb e)
      have t05 : KT H3 H5 := t4.trans (KT.of k5)
      have hl2 := Ar.sum_len ((as.take i).map (·.2)) (fun e he => by
        obtain ⟨q', hq', rfl⟩ := List.mem_map.mp he
        exact (has q' (List.mem_of_mem_take hq')).2)
      rw [List.length_map, List.length_take] at hl2
      have hil : i < as.length := (List.getElem?_eq_some_iff.mp hq).1
      have heq5 := heq.kt ((KT.of k03).trans t05)
      -- what is handed to each: words and lines grow by the thing's
      have nxt : ∀ {H6 : Hp} {z5 z6 z7 : Option V}, ¬ unfit k q.2 → WL H6 a l (rw' :: ((as.take i).map (·.2)).flatMap Ar.w ++ q.2.w) (((as.take i).map (·.2)).flatMap Ar.l ++ q.2.l) → Kp [a, l] H5 H6 → KT H5 H6 → ∃ y5 y6 y7 : Option V, [some (.ref t), some (.str rw'), some (.ref kt), some (.ref a), some (.ref l), z5, z6, z7] = [some (.ref t), some (.str rw'), some (.ref kt), some (.ref a), some (.ref l), y5, y6, y7] ∧ WL H6 a l (rw' :: ((as.take (i + 1)).map (·.2)).flatMap Ar.w) (((as.take (i + 1)).map (·.2)).flatMap Ar.l) ∧ Kp [a, l] H3 H6 ∧ KT H3 H6 ∧ (i + 1 = 0 ∨ ∀ (k : KK) (q : V × Ar), as = [q] → ks = [k] → ¬ unfit k q.2) := fun {H6 z5 z6 z7} hnu W6 k6 t6 => ⟨_, _, _, rfl, by
        rw [List.take_add_one, hq, List.map_append, List.flatMap_append, List.flatMap_append]
        simpa using W6, fun b u hb e => k6 _ _ hb (k05 _ _ hb e), t05.trans t6, .inr fun k2 q2 e1 e2 => by
          rw [e1] at hq
          rw [e2] at hk
          cases List.mem_singleton.mp (List.mem_of_getElem? hq)
          cases List.mem_singleton.mp (List.mem_of_getElem? hk)
          exact hnu⟩
      have hfit : fit k q.2 ∨ (as = [q] ∧ unfit k q.2) := by
        rcases hcase with (h | h) | h | ⟨k', q', e1, e2, h⟩
        · exact absurd hlen h
        · exact absurd rfl h
        · exact .inl (h i _ _ hk hq)
        · rw [e2] at hk
          cases List.mem_singleton.mp (List.mem_of_getElem? hk)
          have hq2 := hq
          rw [e1] at hq2
          cases List.mem_singleton.mp (List.mem_of_getElem? hq2)
          exact .inr ⟨e1, h⟩
      cases k with
      | «ints» =>
        rw [if_pos (by rfl)]
        walk_at "g"
        refine w_kget ?_
        walk_at "g"
        refine ⟨ka_PUTS_EACH, _, Sum.inr KK.ints.s, .ref fPi, rfl, d_PUTS_EACH, rfl, rfl, ?_⟩
        walk_at "g"
        obtain ⟨qv, qa⟩ := q
        cases qa with
        | lst es =>
          obtain ⟨t', as', rfl, et', hes, has'⟩ := heq5
          have hal' : as'.length ≤ 10 := by
            have := hqok.1
            rw [← hes, List.length_map] at this
            exact this
          have hmem : ∀ q' ∈ as', q'.2 ∈ es := fun q' hq' => by rw [← hes]; exact List.mem_map.mpr ⟨q', hq', rfl⟩
          rcases hfit with ⟨d, hd, h⟩ | ⟨e1, _, es', he, hne0, h⟩
          · cases hd
            refine ⟨t', fPi, a, l, 400, .int, as', _, _, rfl, N_int, et', fun q' hq' => ⟨has' q' hq', hqok.2 _ (hmem q' hq'), .inl (h _ (hmem q' hq'))⟩, by omega, by omega, W5, by simp only [List.length_cons]; omega, by omega, fun _ H6 W6 k6 t6 => ?_, fun ⟨q', hq', hne⟩ => absurd (h _ (hmem q' hq')) hne⟩
            rw [hes] at W6
            exact nxt (fun ⟨_, es', he', hne', ht'⟩ => by
              cases he'
              cases es with
              | nil => exact hne' rfl
              | cons e0 r0 =>
                have g1 := h e0 (by simp)
                have g2 := ht' e0 (by simp)
                rw [g1] at g2
                cases g2) W6 k6 t6
          · cases he
            refine ⟨t', fPi, a, l, 400, .int, as', _, _, rfl, N_int, et', fun q' hq' => ⟨has' q' hq', hqok.2 _ (hmem q' hq'), .inr ⟨rfl, h _ (hmem q' hq')⟩⟩, by omega, by omega, W5, by simp only [List.length_cons]; omega, by omega, fun hall => ?_, fun _ H6 k6 t6 => ?_⟩
            · exfalso
              cases as' with
              | nil => exact hne0 (by rw [← hes]; rfl)
              | cons q1' r =>
                have h1 := hall q1' (by simp)
                have h2 := h _ (hmem q1' (by simp))
                rw [h1] at h2
                cases h2
            · refine ⟨true, xm_NoText_NoText, fun _ ea hea => ?_, fun z => nomatch z⟩
              walk_at "g"
              have hks : ks = [KK.ints] := by
                obtain ⟨k0, hk0⟩ := List.length_eq_one_iff.mp (show ks.length = 1 by rw [← hlen, e1]; rfl)
                rw [hk0] at hk
                rw [hk0, List.mem_singleton.mp (List.mem_of_getElem? hk)]
              have hl0 : H l = none := k1.free hl
              refine q3 .ints _ e1 hks rfl ⟨rfl, es, rfl, hne0, h⟩ H6 fun b u e => k6 b u (by
                simp only [List.mem_cons, List.not_mem_nil, or_false, not_or]
                exact ⟨fun z => (by rw [z, ha] at e; cases e), fun z => (by rw [z, hl0] at e; cases e)⟩) (k5 _ _ (k4 _ _ (by
                simp only [List.mem_cons, List.not_mem_nil, or_false, not_or]
                exact ⟨fun z => (by rw [z, ha] at e; cases e), fun z => (by rw [z, hl0] at e; cases e)⟩) (k03 _ _ e)))
        | one e =>
          rcases hfit with h | ⟨_, _, _, h, _⟩
          · cases h
          · cases h
        | pk p =>
          rcases hfit with h | ⟨_, _, _, h, _⟩
          · cases h
          · cases h
      | truths =>
        rw [if_pos (by rfl)]
        walk_at "g"
        refine w_kget ?_
        walk_at "g"
        refine ⟨ka_PUTS_EACH, _, Sum.inr KK.truths.s, .ref fPt, rfl, d_PUTS_EACH, rfl, rfl, ?_⟩
        walk_at "g"
        obtain ⟨qv, qa⟩ := q
        cases qa with
        | lst es =>
          have hkd : ∀ e ∈ es, e.kd = .tr := by
            rcases hcase with (h | h) | h | ⟨k', q', e1, e2, h, _⟩
            · exact absurd hlen h
            · exact absurd rfl h
            · obtain ⟨d, hd, h⟩ := h i _ _ hk hq
              cases hd
              exact h
            · rw [e2] at hk
              cases List.mem_singleton.mp (List.mem_of_getElem? hk)
              cases h
          obtain ⟨t', as', rfl, et', hes, has'⟩ := heq5
          have hal' : as'.length ≤ 10 := by
            have := hqok.1
            rw [← hes, List.length_map] at this
            exact this
          have hmem : ∀ q' ∈ as', q'.2 ∈ es := fun q' hq' => by rw [← hes]; exact List.mem_map.mpr ⟨q', hq', rfl⟩
          refine ⟨t', fPt, a, l, 400, .tr, as', _, _, rfl, N_tr, et', fun q' hq' => ⟨has' q' hq', hqok.2 _ (hmem q' hq'), .inl (hkd _ (hmem q' hq'))⟩, by omega, by omega, W5, by simp only [List.length_cons]; omega, by omega, fun _ H6 W6 k6 t6 => ?_, fun ⟨q', hq', hne⟩ => absurd (hkd _ (hmem q' hq')) hne⟩
          rw [hes] at W6
          exact nxt (fun z => nomatch z.1) W6 k6 t6
        | one e =>
          rcases hfit with h | ⟨_, h, _⟩
          · cases h
          · cases h
        | pk p =>
          rcases hfit with h | ⟨_, h, _⟩
          · cases h
          · cases h
      | labels =>
        rw [if_pos (by rfl)]
        walk_at "g"
        refine w_kget ?_
        walk_at "g"
        refine ⟨ka_PUTS_EACH, _, Sum.inr KK.labels.s, .ref fL, rfl, d_PUTS_EACH, rfl, rfl, ?_⟩
        walk_at "g"
        obtain ⟨qv, qa⟩ := q
        cases qa with
        | lst es =>
          have hkd : ∀ e ∈ es, e.kd = .lab := by
            rcases hcase with (h | h) | h | ⟨k', q', e1, e2, h, _⟩
            · exact absurd hlen h
            · exact absurd rfl h
            · obtain ⟨d, hd, h⟩ := h i _ _ hk hq
              cases hd
              exact h
            · rw [e2] at hk
              cases List.mem_singleton.mp (List.mem_of_getElem? hk)
              cases h
          obtain ⟨t', as', rfl, et', hes, has'⟩ := heq5
          have hal' : as'.length ≤ 10 := by
            have := hqok.1
            rw [← hes, List.length_map] at this
            exact this
          have hmem : ∀ q' ∈ as', q'.2 ∈ es := fun q' hq' => by rw [← hes]; exact List.mem_map.mpr ⟨q', hq', rfl⟩
          refine ⟨t', fL, a, l, 400, .lab, as', _, _, rfl, N_lab, et', fun q' hq' => ⟨has' q' hq', hqok.2 _ (hmem q' hq'), .inl (hkd _ (hmem q' hq'))⟩, by omega, by omega, W5, by simp only [List.length_cons]; omega, by omega, fun _ H6 W6 k6 t6 => ?_, fun ⟨q', hq', hne⟩ => absurd (hkd _ (hmem q' hq')) hne⟩
          rw [hes] at W6
          exact nxt (fun z => nomatch z.1) W6 k6 t6
        | one e =>
          rcases hfit with h | ⟨_, h, _⟩
          · cases h
          · cases h
        | pk p =>
          rcases hfit with h | ⟨_, h, _⟩
          · cases h
          · cases h
      | marks =>
        rw [if_pos (by rfl)]
        walk_at "g"
        refine w_kget ?_
        walk_at "g"
        refine ⟨ka_PUTS_EACH, _, Sum.inr KK.marks.s, .ref fPp, rfl, d_PUTS_EACH, rfl, rfl, ?_⟩
        walk_at "g"
        obtain ⟨qv, qa⟩ := q
        cases qa with
        | lst es =>
          have hkd : ∀ e ∈ es, e.kd = .pair := by
            rcases hcase with (h | h) | h | ⟨k', q', e1, e2, h, _⟩
            · exact absurd hlen h
            · exact absurd rfl h
            · obtain ⟨d, hd, h⟩ := h i _ _ hk hq
              cases hd
              exact h
            · rw [e2] at hk
              cases List.mem_singleton.mp (List.mem_of_getElem? hk)
              cases h
          obtain ⟨t', as', rfl, et', hes, has'⟩ := heq5
          have hal' : as'.length ≤ 10 := by
            have := hqok.1
            rw [← hes, List.length_map] at this
            exact this
          have hmem : ∀ q' ∈ as', q'.2 ∈ es := fun q' hq' => by rw [← hes]; exact List.mem_map.mpr ⟨q', hq', rfl⟩
          refine ⟨t', fPp, a, l, 400, .pair, as', _, _, rfl, N_pair, et', fun q' hq' => ⟨has' q' hq', hqok.2 _ (hmem q' hq'), .inl (hkd _ (hmem q' hq'))⟩, by omega, by omega, W5, by simp only [List.length_cons]; omega, by omega, fun _ H6 W6 k6 t6 => ?_, fun ⟨q', hq', hne⟩ => absurd (hkd _ (hmem q' hq')) hne⟩
          rw [hes] at W6
          exact nxt (fun z => nomatch z.1) W6 k6 t6
        | one e =>
          rcases hfit with h | ⟨_, h, _⟩
          · cases h
          · cases h
        | pk p =>
          rcases hfit with h | ⟨_, h, _⟩
          · cases h
          · cases h
      | int =>
        refine ifNo rfl ?_
        walk_at "g"
        refine w_kget ?_
        walk_at "g"
        refine ⟨ka_PUTS, _, Sum.inr KK.int.s, .ref fPi, rfl, d_PUTS, rfl, rfl, ?_⟩
        walk_at "g"
        obtain ⟨qv, qa⟩ := q
        cases qa with
        | one e =>
          have hkd : e.kd = .int := by
            rcases hcase with (h | h) | h | ⟨k', q', e1, e2, h, _⟩
            · exact absurd hlen h
            · exact absurd rfl h
            · exact (Option.some.inj (h i _ _ hk hq)).symm
            · rw [e2] at hk
              cases List.mem_singleton.mp (List.mem_of_getElem? hk)
              cases h
          refine w_callVS rfl M_int ?_
          walk_at "g"
          refine ⟨qv, a, l, e, _, _, rfl, heq5, hqok, W5, by simp only [List.length_cons]; omega, by omega, .inl hkd, fun _ H6 W6 k6 t6 => ?_, fun z => absurd hkd z⟩
          exact nxt (fun z => nomatch z.1) W6 k6 t6
        | lst es =>
          rcases hfit with ⟨d, h, _⟩ | ⟨_, h, _⟩
          · cases h
          · cases h
        | pk p =>
          rcases hfit with h | ⟨_, h, _⟩
          · cases h
          · cases h
      | truth =>
        refine ifNo rfl ?_
        walk_at "g"
        refine w_kget ?_
        walk_at "g"
        refine ⟨ka_PUTS, _, Sum.inr KK.truth.s, .ref fPt, rfl, d_PUTS, rfl, rfl, ?_⟩
        walk_at "g"
        obtain ⟨qv, qa⟩ := q
        cases qa with
        | one e =>
          have hkd : e.kd = .tr := by
            rcases hcase with (h | h) | h | ⟨k', q', e1, e2, h, _⟩
            · exact absurd hlen h
            · exact absurd rfl h
            · exact (Option.some.inj (h i _ _ hk hq)).symm
            · rw [e2] at hk
              cases List.mem_singleton.mp (List.mem_of_getElem? hk)
              cases h
          refine w_callVS rfl M_tr ?_
          walk_at "g"
          refine ⟨qv, a, l, e, _, _, rfl, heq5, hqok, W5, by simp only [List.length_cons]; omega, by omega, .inl hkd, fun _ H6 W6 k6 t6 => ?_, fun z => absurd hkd z⟩
          exact nxt (fun z => nomatch z.1) W6 k6 t6
        | lst es =>
          rcases hfit with ⟨d, h, _⟩ | ⟨_, h, _⟩
          · cases h
          · cases h
        | pk p =>
          rcases hfit with h | ⟨_, h, _⟩
          · cases h
          · cases h
      | pack =>
        refine ifNo rfl ?_
        walk_at "g"
        refine w_kget ?_
        walk_at "g"
        refine ⟨ka_PUTS, _, Sum.inr KK.pack.s, .ref fPk, rfl, d_PUTS, rfl, rfl, ?_⟩
        walk_at "g"
        obtain ⟨qv, qa⟩ := q
        cases qa with
        | pk p =>
          refine w_callVS rfl M_pk ?_
          walk_at "g"
          refine ⟨qv, a, l, p, _, _, rfl, heq5, hqok, W5, by simp only [List.length_cons]; omega, by omega, fun H6 W6 k6 t6 => ?_⟩
          exact nxt (fun z => nomatch z.1) W6 k6 t6
        | lst es =>
          rcases hfit with ⟨d, h, _⟩ | ⟨_, h, _⟩
          · cases h
          · cases h
        | one e =>
          rcases hfit with h | ⟨_, h, _⟩
          · cases h
          · cases h
    · rintro σ H4 ⟨y5, y6, y7, rfl, W4, k4, t4, hnu⟩
      rw [List.length_map] at hnu
      rw [List.length_map, List.take_length] at W4
      have hall : ∀ (i : Nat) (k : KK) (q : V × Ar), ks[i]? = some k → as[i]? = some q → fit k q.2 := by
        rcases hcase with (h | h) | h | ⟨k', q', e1, e2, h⟩
        · exact absurd hlen h
        · exact absurd rfl h
        · exact h
        · exfalso
          rcases hnu with h0 | hnu
          · rw [e1] at h0
            simp at h0
          · exact hnu k' q' e1 e2 h
      have hl0 : H l = none := k1.free hl
      have hok2 : ∀ x ∈ as.map (·.2), x.ok := fun x hx => by
        obtain ⟨q', hq', rfl⟩ := List.mem_map.mp hx
        exact (has q' hq').2
      obtain ⟨b1, b2⟩ := txt_fits (rw := rw') hok2 (by rw [List.length_map]; exact hal) hrw
      walk_at "g"
      refine w_joinL (.of W4.ew) b1 ?_
      walk_at "g"
      refine w_new fun x1 H5 hx1 ex1 k5 => ?_
      have el5 := k5 _ _ W4.el
      walk_at "g"
      refine w_cat ex1 el5 ?_ fun p2 H6 hp2 ep2 k6 => ?_
      · have := Ar.sum_len (as.map (·.2)) hok2
        rw [List.length_map] at this
        rw [List.length_map]
        simp only [List.length_cons, List.length_nil]
        exact Nat.le_of_lt (small5 (by omega))
      · refine w_joinL (ys := Txt.join SPS (rw' :: (as.map (·.2)).flatMap Ar.w) :: (as.map (·.2)).flatMap Ar.l) (.of (by rw [ep2]; rfl)) b2 ?_
        refine q2 hlen rfl hall H6 fun b u e => k6 _ _ (k5 _ _ (k4 b u (by
          simp only [List.mem_cons, List.not_mem_nil, or_false, not_or]
          exact ⟨fun z => (by rw [z, ha] at e; cases e), fun z => (by rw [z, hl0] at e; cases e)⟩) (k03 _ _ e)))
end
/-! ### text_of -/
def FORM : List (Str × List KK) := [("hello", []), ("have", [.ints]), ("have", [.truths]), ("want", [.ints, .int, .labels, .ints, .truth, .ints]), ("lack", [.ints, .ints]), ("row", [.int]), ("done", []), ("house", [.marks, .ints, .int]), ("bill", [.ints, .ints, .ints]), ("pack", [.int, .int]), ("row", [.int, .pack])]
/-- the forms as the module has them -/
def FormsAt (K : PySem.W.Frag) (kF : Addr) : Prop := ∃ fs : List (Addr × Addr), (∀ H, SqT K H kF (fs.map fun q => .ref q.1)) ∧ fs.length = FORM.length ∧ ∀ (i : Nat) (q : Addr × Addr) (f : Str × List KK), fs[i]? = some q → FORM[i]? = some f → (∀ H, SqT K H q.1 [.str f.1, .ref q.2]) ∧ ∀ H, SqT K H q.2 (f.2.map fun k => .str k.s)
/-- a row's args fit form i and none ahead of it -/
def Fits (i : Nat) (rw : Str) (as : List Ar) : Prop := (∃ ks, FORM[i]? = some (rw, ks) ∧ as.length = ks.length ∧ ∀ (j : Nat) (k : KK) (a : Ar), ks[j]? = some k → as[j]? = some a → fit k a) ∧ ∀ (j : Nat) (f : Str × List KK), j < i → FORM[j]? = some f → (as.length ≠ f.2.length ∨ rw ≠ f.1) ∨ ∃ (k : KK) (a : Ar), as = [a] ∧ f.2 = [k] ∧ unfit k a
def RowAt (H : Hp) (t : Addr) (i : Nat) (rw : Str) (as : List (V × Ar)) : Prop := H t = some (.tup (.str rw :: as.map (·.1))) ∧ (∀ q ∈ as, ArAt H q.1 q.2 ∧ q.2.ok) ∧ Fits i rw (as.map (·.2))
theorem RowAt.kt {H H' : Hp} {t : Addr} {i : Nat} {rw : Str} {as : List (V × Ar)} (h : RowAt H t i rw as) (k : KT H H') : RowAt H' t i rw as := ⟨k _ _ h.1, fun q hq => ⟨(h.2.1 q hq).1.kt k, (h.2.1 q hq).2⟩, h.2.2⟩
theorem FORM_le : ∀ f ∈ FORM, f.2.length ≤ 6 ∧ f.1.length ≤ 100 := by decide
def spTextOf (C : Addr) : Sp := fun vs H Q E => ∃ v : V, vs = [v] ∧ (((v = .non ∨ ∃ l xs, v = .ref l ∧ H l = some (.lst xs)) ∧ E (.ref C) none H) ∨ ∃ t i rw as, v = .ref t ∧ RowAt H t i rw as ∧ ∀ H', Same H H' → Q (.str (txt rw (as.map (·.2)))) H')
section
variable {P : Program} {w : World} {K : PySem.W.Frag} {mg : Str → Option Value} {base : Heap}
theorem ok_textof {C_NoText f fB ka_FORMS : Addr} {fd fdB : FuncData} (T : Txt K mg) (F : Fun K "text_of" "text_of" s_text_of f fd) (X_NoText : Exn K mg "NoText" C_NoText) (g_FORMS : mg "FORMS" = some (.ref ka_FORMS)) (d_FORMS : FormsAt K ka_FORMS) (D_text_by : Df K mg "text_by" s_text_by ["row", "word", "kinds"] fB fdB) (G_text_by : FnOk P w K mg base CX0 8 fB fdB ["row", "word", "kinds"] (spTextBy K)) : FnOk P w K mg base (L2.CX P w) 9 f fd ["row"] (spTextOf C_NoText) := by
  refine F.okX sc_text_of (fun vs H Q E h => ?_) (fun cdv A outer s H vs Q E hr h => ?_)
  · obtain ⟨v, rfl, _⟩ := h
    rfl
  · obtain ⟨v, rfl, hc⟩ := h
    refine ⟨_,
      (pss_cons
        (ps_if (PW.pt (pw_or (pt_not (pt_val (pe_callB (r := rIsi K) call_isi (by rfl) T.n_isinstance (by decide +kernel) (pa_cons (pv 0) (pa_cons (pe_bltn (v := .ty "tuple") (u := .type "tuple") (by rfl) T.n_tuple (by decide +kernel) rfl) pa_nil))))) (pw_or (pt_cmpR op_eq (pe_callB (r := rLen K) c_len (by rfl) T.n_len (by decide +kernel) (pa_cons (pv 0) pa_nil)) pe_int (nomark _)) (pw_or1 (pt_not (pt_val (pe_callB (r := rIsi K) call_isi (by rfl) T.n_isinstance (by decide +kernel) (pa_cons (pe_ix (r := rIxT K) ix_tup (pv 0) pe_int (fun _ _ => rfl)) (pa_cons (pe_bltn (v := .ty "str") (u := .type "str") (by rfl) T.n_str (by decide +kernel) rfl) pa_nil)))))))))
          (pss_one
            (ps_raise rfl (takes_of rfl rfl rfl rfl) (pmk_own0 PySem.F.excBase_ValueError X_NoText.x X_NoText.g X_NoText.k (raises_own X_NoText.b X_NoText.t) rfl)))
          pss_nil)
      (pss_cons
        (ps_for (passes_of rfl) rfl (pi_tup (pe_glob (v := .ref ka_FORMS) rfl g_FORMS rfl)) (pg_tup rfl (pgs_cons (pg_name (i := 1) sc_text_of.nd rfl (.inl rfl)) (pgs_cons (pg_name (i := 2) sc_text_of.nd rfl (.inl rfl)) pgs_nil)))
          (pss_cons
            (ps_set (i := 3) sc_text_of.nd rfl (.inl rfl) (pe_call G_text_by (hr.mono (by omega)) (by rfl) D_text_by.g D_text_by.fn.kp D_text_by.b .nil pass0 (pa_cons (pv 0) (pa_cons (pv 1) (pa_cons (pv 2) pa_nil)))))
          (pss_one
            (ps_if (pt_cmpR o_notN (pv 3) pe_non (nomark _))
              (pss_one
                (ps_ret (pv 3)))
              pss_nil))))
      (pss_one
        (ps_raise rfl (takes_of rfl rfl rfl rfl) (pmk_own0 PySem.F.excBase_ValueError X_NoText.x X_NoText.g X_NoText.k (raises_own X_NoText.b X_NoText.t) rfl)))))
      , ?_⟩
    rw [show L2.start N_text_of [v] = [some v, none, none, none] from rfl]
    rcases hc with ⟨hv, q⟩ | ⟨t, i, rw', as, rfl, hR, q⟩
    · rcases hv with rfl | ⟨l, xs, rfl, el⟩
      · refine w_seq ?_
        walk_at "x"
        exact q
      · refine w_seq ?_
        walk_at "x"
        exact q
    · obtain ⟨et, has, ⟨ks, hf, hlen, hfit⟩, hbef⟩ := hR
      obtain ⟨fs, hF, hFl, hFs⟩ := d_FORMS
      have at0 : atI (V.str rw' :: as.map (·.1)) 0 = some (.str rw') := atI_nat (j := 0) rfl
      rw [List.length_map] at hlen
      have hle : ks.length ≤ 6 ∧ rw'.length ≤ 100 := FORM_le _ (List.mem_of_getElem? hf)
      refine w_seq ?_
      walk_at "x"
      rw [decide_eq_false (show ¬ (((V.str rw' :: as.map (fun x => x.1)).length : Nat) : Int) = 0 by simp only [List.length_cons]; omega), if_neg (by decide)]
      walk_at "g"
      refine w_itT' (hF H) ?_
      refine lp_tup (xs := fs.map fun q => .ref q.1) (fun j σ H' => ∃ y1 y2 y3 : Option V, σ = [some (.ref t), y1, y2, y3] ∧ Same H H' ∧ j ≤ i) ⟨_, _, _, rfl, fun _ _ z => z, Nat.zero_le _⟩ (fun j σ H' _ _ => hF H') ?_ ?_
      · rintro j x σ H1 hx ⟨y1, y2, y3, rfl, k1, hj⟩
        obtain ⟨p, hp, rfl⟩ := map_at hx
        have hjl : j < FORM.length := by rw [← hFl]; exact (List.getElem?_eq_some_iff.mp hp).1
        obtain ⟨f, hfj⟩ : ∃ f, FORM[j]? = some f := ⟨_, List.getElem?_eq_getElem hjl⟩
        obtain ⟨s1, s2⟩ := hFs j p f hp hfj
        have hle' := FORM_le _ (List.mem_of_getElem? hfj)
        refine w_gtup (K := K) (s1 H1) rfl (w_gcons (w_name (w_gcons (w_name (w_gnil ?_)))))
        walk_at "g"
        have et1 := k1 _ _ et
        refine ⟨t, p.2, f.1, rw', as, f.2, rfl, et1, s2, fun q' hq' => ⟨(has q' hq').1.kt (KT.of k1), (has q' hq').2⟩, by omega, by omega, by omega, ?_, ?_, ?_, ?_⟩
        · by_cases hji : j = i
          · subst hji
            rw [hf] at hfj
            cases hfj
            exact .inr (.inl fun j' k' q' h1 h2 => hfit j' k' q'.2 h1 (by rw [List.getElem?_map, h2]; rfl))
          · rcases hbef j f (by omega) hfj with h | ⟨k, a, e1, e2, h⟩
            · rw [List.length_map] at h
              exact .inl h
            · obtain ⟨q', e3, rfl⟩ : ∃ q', as = [q'] ∧ q'.2 = a := by
                cases as with
                | nil => cases e1
                | cons q' r =>
                  cases r with
                  | nil => exact ⟨q', rfl, by simpa using e1⟩
                  | cons _ _ => simp at e1
              exact .inr (.inr ⟨k, q', e3, e2, h⟩)
        · intro hne
          walk_at "g"
          refine ⟨_, _, _, rfl, k1, ?_⟩
          rcases Nat.lt_or_ge j i with h | h
          · omega
          · have : j = i := by omega
            subst this
            rw [hf] at hfj
            cases hfj
            rcases hne with h | h
            · exact absurd hlen h
            · exact absurd rfl h
        · intro h1 h2 h3 H2 k2
          walk_at "g"
          by_cases hji : j = i
          · rw [if_pos (by rfl)]
            walk_at "g"
            exact q H2 (Same.trans k1 k2)
          · exfalso
            rcases hbef j f (by omega) hfj with h | ⟨k, a, e1, e2, hk, es, ea, hne, htr⟩
            · rw [List.length_map] at h
              rcases h with h | h
              · exact h h1
              · exact h h2
            · obtain ⟨q', e3, e4⟩ : ∃ q', as = [q'] ∧ q'.2 = a := by
                cases as with
                | nil => cases e1
                | cons q' r =>
                  cases r with
                  | nil => exact ⟨q', rfl, by simpa using e1⟩
                  | cons _ _ => simp at e1
              have hf1 := h3 0 k q' (by rw [e2]; rfl) (by rw [e3]; rfl)
              rw [e4, ea, hk] at hf1
              obtain ⟨d, hd, hall⟩ := hf1
              cases hd
              cases es with
              | nil => exact hne rfl
              | cons e r =>
                have g1 := hall e (by simp)
                have g2 := htr e (by simp)
                rw [g1] at g2
                cases g2
        · intro k q' e1 e2 e3 hu H2 k2
          walk_at "g"
          refine ⟨_, _, _, rfl, Same.trans k1 k2, ?_⟩
          rcases Nat.lt_or_ge j i with h | h
          · omega
          · have : j = i := by omega
            subst this
            rw [hf] at hfj
            cases hfj
            exfalso
            obtain ⟨hk, es, ea, hne, htr⟩ := hu
            have e2' : ks = [k] := e2
            have hf1 := hfit 0 k q'.2 (by rw [e2']; rfl) (by rw [e1]; rfl)
            rw [ea, hk] at hf1
            obtain ⟨d, hd, hall⟩ := hf1
            cases hd
            cases es with
            | nil => exact hne rfl
            | cons e r =>
              have g1 := hall e (by simp)
              have g2 := htr e (by simp)
              rw [g1] at g2
              cases g2
      · rintro σ H1 ⟨y1, y2, y3, rfl, k1, hj⟩
        exfalso
        rw [List.length_map, hFl] at hj
        have := (List.getElem?_eq_some_iff.mp hf).1
        omega
end
/-! ### drawn texts and labels -/
abbrev SG : Str := Str.ofString " !\"#$&'()*+,-./0123456789:;<=>?@ABCDEFGHIJKLMNOPQRSTUVWXYZ[\\]^_`abcdefghijklmnopqrstuvwxyz{|}~"
def LineOk (z : Str) : Prop := z.length ≤ 40 ∧ ∀ c ∈ z.cps.toList, c ∈ SG.cps.toList
theorem small1kl {n : Nat} (h : n ≤ 1000) : n < sizeLine := Nat.lt_of_le_of_lt h (by decide)
theorem KX.offN {d L : Addr} {H H1 H2 : Hp} (k : KX d H H1) (o : Off L H1 H2) (h : H L = none) : KX d H H2 where
  t := ⟨fun b xs e => o.get (ne_of_none e h) (k.t b xs e), fun b u xs e => o.get (ne_of_none e h) (k.t.f b u xs e)⟩
  l := fun b xs e => by
    obtain ⟨ys, e1⟩ := k.l b xs e
    exact ⟨ys, o.get (ne_of_none e h) e1⟩
  d := fun b xs e => by
    obtain ⟨ys, e1⟩ := k.d b xs e
    exact ⟨ys, o.get (ne_of_none e h) e1⟩
  p := fun b u hb e => o.get (ne_of_none e h) (k.p b u hb e)
theorem small2000 {n : Nat} (h : n ≤ 2000) : n ≤ sizeLine := Nat.le_trans h (by decide)
theorem Deck.kxK {H H' : Hp} {d c : Addr} {n m : Nat} (D : Deck H d c n) (D' : Deck H' d c m) (k : Kp [d] H H') : KX d H H' := by
  obtain ⟨⟨xs, e⟩, _⟩ := D.at
  obtain ⟨⟨xs', e'⟩, _⟩ := D'.at
  refine ⟨⟨KT.kp k (by simp [e]), fun b ys h => ?_, fun b ys h => ?_⟩, k⟩
  · by_cases hb : b = d
    · subst hb
      exact ⟨_, e'⟩
    · exact ⟨_, k _ _ (by simpa using hb) h⟩
  · exact ⟨_, k _ _ (by simpa using ne_of h e (fun z => nomatch z)) h⟩
theorem Deck.ktK {H H' : Hp} {d c : Addr} {n : Nat} (D : Deck H d c n) (k : Kp [d] H H') : KT H H' := by
  obtain ⟨⟨xs, e⟩, _⟩ := D.at
  exact KT.kp k (by simp [e])
theorem w_bm0D {K : PySem.W.Frag} {σ : L2.St} {H : Hp} {Q : VK} {r : V → List V → Hp → VK → Prop} {to : TE} (h : to σ H fun x H1 => tyV K "dict" x H1 ∧ r x [] H1 Q) : tBM0 K "dict" r to σ H Q := h
theorem w_tyDK {K : PySem.W.Frag} {H : Hp} {p : Addr} {kvs : List (Key × V)} {A : Prop} (h1 : H p = some (.dK kvs)) (h : A) : tyV K "dict" (.ref p) H ∧ A := ⟨.inr (.inr (.inl ⟨rfl, .inl ⟨_, h1⟩⟩)), h⟩
def spText : Sp := fun vs H Q _ => ∃ (d c : Addr) (n : Nat) (m : Nat), vs = [.ref d, .int (m : Int)] ∧ Deck H d c n ∧ n + 42 ≤ MOSTD ∧ m ≤ 40 ∧ ∀ H' z, Deck H' d c (n + 42) → Kp [d] H H' → KT H H' → LineOk z → Q (.str z) H'
def spLabel : Sp := fun vs H Q _ => ∃ (d c : Addr) (n : Nat), vs = [.ref d] ∧ Deck H d c n ∧ n + 12 ≤ MOSTD ∧ ∀ H' z, Deck H' d c (n + 12) → Kp [d] H H' → KT H H' → LabOk z → Q (.str z) H'
theorem chs_of {S : List Nat} {ys : List V} (h : ∀ y ∈ ys, ∃ ch : Nat, y = .str ⟨#[ch]⟩ ∧ ch ∈ S) : ∃ zs : List Nat, ys = (zs.map fun ch => (⟨#[ch]⟩ : Str)).map V.str ∧ ∀ ch ∈ zs, ch ∈ S := by
  induction ys with
  | nil => exact ⟨[], rfl, by simp⟩
  | cons y ys ih =>
    obtain ⟨ch, rfl, hch⟩ := h y (by simp)
    obtain ⟨zs, rfl, hz⟩ := ih fun y hy => h y (by simp [hy])
    exact ⟨ch :: zs, rfl, fun c hc => by
      rcases List.mem_cons.mp hc with rfl | hc
      · exact hch
      · exact hz c hc⟩
theorem chs_sum (l : List Nat) : (l.map fun ch => ((⟨#[ch]⟩ : Str)).length).sum = l.length := by
  induction l with
  | nil => rfl
  | cons x l ih =>
    rw [List.map_cons, List.sum_cons, ih, List.length_cons]
    show 1 + l.length = _
    omega
theorem chs_flat (l : List Nat) : ((l.map fun ch => (⟨#[ch]⟩ : Str)).map fun y => y.cps.toList).flatten = l := by
  induction l with
  | nil => rfl
  | cons x l ih =>
    rw [List.map_cons, List.map_cons, List.flatten_cons, ih]
    rfl
abbrev LTR : Str := Str.ofString "abcdefghijklmnopqrstuvwxyz"
theorem strs_of {ys : List V} {p : Str → Prop} (h : ∀ y ∈ ys, ∃ z : Str, y = .str z ∧ p z) : ∃ zs : List Str, ys = zs.map V.str ∧ ∀ z ∈ zs, p z := by
  induction ys with
  | nil => exact ⟨[], rfl, by simp⟩
  | cons y ys ih =>
    obtain ⟨z, rfl, hz⟩ := h y (by simp)
    obtain ⟨zs, rfl, hs⟩ := ih fun y hy => h y (by simp [hy])
    exact ⟨z :: zs, rfl, fun c hc => by
      rcases List.mem_cons.mp hc with rfl | hc
      · exact hz
      · exact hs c hc⟩
theorem w_dputS {H : Hp} {a : Addr} {kvs : List (Key × V)} {z : Str} {v : V} {R : Hp → Prop} (e : H a = some (.dK kvs)) (hl : kvs.length < sizeLine) (h : ∀ H1, H1 a = some (.dK (putK kvs (Sum.inr z) v)) → Off a H H1 → R H1) : rDPut (.ref a) (.str z) v H R :=
  ⟨a, _, rfl, DPut.k (k := Sum.inr z) e hl, h _ upd_same fun x hx => upd_ne hx⟩
def putTI (qs : List (Str × Int)) (z : Str) (v : Int) : List (Str × Int) := if (qs.any fun q => decide (q.1 = z)) = true then qs.map (fun q => if q.1 = z then (q.1, v) else q) else qs ++ [(z, v)]
theorem putTI_kv (qs : List (Str × Int)) (z : Str) (v : Int) : putK (kvTI qs) (Sum.inr z) (V.int v) = kvTI (putTI qs z v) := by
  unfold putK putTI kvTI
  have e : ((qs.map fun q => ((Sum.inr q.1 : Key), V.int q.2)).any fun kv => decide (kv.1 = (Sum.inr z : Key))) = (qs.any fun q => decide (q.1 = z)) := by
    rw [List.any_map]
    congr 1
    funext q
    show decide ((Sum.inr q.1 : Key) = Sum.inr z) = decide (q.1 = z)
    by_cases h : q.1 = z
    · rw [decide_eq_true h, decide_eq_true (by rw [h])]
    · rw [decide_eq_false h, decide_eq_false (fun e => h (Sum.inr.inj e))]
  rw [e]
  by_cases h : (qs.any fun q => decide (q.1 = z)) = true
  · rw [if_pos h, if_pos h, List.map_map, List.map_map]
    refine List.map_congr_left fun q _ => ?_
    show (if (Sum.inr q.1 : Key) = Sum.inr z then ((Sum.inr q.1 : Key), V.int v) else ((Sum.inr q.1 : Key), V.int q.2)) = ((Sum.inr (if q.1 = z then (q.1, v) else q).1 : Key), V.int (if q.1 = z then (q.1, v) else q).2)
    by_cases g : q.1 = z
    · rw [if_pos (by rw [g]), if_pos g]
    · rw [if_neg (fun e => g (Sum.inr.inj e)), if_neg g]
  · rw [if_neg h, if_neg h, List.map_append]
    rfl
theorem putTI_nd {qs : List (Str × Int)} {z : Str} {v : Int} (nd : (qs.map (·.1)).Nodup) : ((putTI qs z v).map (·.1)).Nodup := by
  unfold putTI
  by_cases h : (qs.any fun q => decide (q.1 = z)) = true
  · rw [if_pos h, List.map_map]
    have : ((fun x : Str × Int => x.1) ∘ fun q => if q.1 = z then (q.1, v) else q) = fun q : Str × Int => q.1 := by
      funext q
      show (if q.1 = z then (q.1, v) else q).1 = q.1
      by_cases g : q.1 = z
      · rw [if_pos g]
      · rw [if_neg g]
    rw [this]
    exact nd
  · rw [if_neg h, List.map_append, List.nodup_append]
    refine ⟨nd, by simp, fun x hx y hy e => ?_⟩
    have : y = z := by simpa using hy
    subst this
    obtain ⟨q, hq, e2⟩ := List.mem_map.mp hx
    exact h (List.any_eq_true.mpr ⟨q, hq, decide_eq_true (e2.trans e)⟩)
theorem putTI_mem {qs : List (Str × Int)} {z : Str} {v : Int} {q : Str × Int} (h : q ∈ putTI qs z v) : q ∈ qs ∨ q = (z, v) := by
  unfold putTI at h
  by_cases g : (qs.any fun q => decide (q.1 = z)) = true
  · rw [if_pos g] at h
    obtain ⟨q', hq', e⟩ := List.mem_map.mp h
    by_cases f : q'.1 = z
    · rw [if_pos f] at e
      exact .inr (by rw [← e, f])
    · rw [if_neg f] at e
      exact .inl (by rw [← e]; exact hq')
  · rw [if_neg g] at h
    simpa using h
theorem putTI_len {qs : List (Str × Int)} {z : Str} {v : Int} : (putTI qs z v).length ≤ qs.length + 1 := by
  unfold putTI
  by_cases g : (qs.any fun q => decide (q.1 = z)) = true
  · rw [if_pos g, List.length_map]
    omega
  · rw [if_neg g, List.length_append]
    simp
section
variable {P : Program} {w : World} {K : PySem.W.Frag} {mg : Str → Option Value} {base : Heap}
theorem ok_text {f fM fD : Addr} {fd fdM fdD : FuncData} (T : Txt K mg) (F : Fun K "_law_text" "_law_text" s_law_text f fd) (D_law_mixed : Df K mg "_law_mixed" s_law_mixed ["_law_cell", "_law_turn"] fM fdM) (D_law_draw : Df K mg "_law_draw" s_law_draw ["_law_deck_here", "_law_many"] fD fdD) : FnOk P w K mg base CX0 3 f fd ["_law_deck_here", "_law_size"] spText := by
  have G_law_draw : FnOk P w K mg base CX0 2 fD fdD ["_law_deck_here", "_law_many"] spDraw := ok_draw T D_law_draw.fn D_law_mixed
  refine F.ok sc_law_text (fun vs H Q E h => ?_) (fun cdv A outer s H vs Q E hr h => ?_)
  · obtain ⟨d, c, n, m, rfl, _⟩ := h
    rfl
  · obtain ⟨d, c, n, m, rfl, D0, hn, hm, q⟩ := h
    refine ⟨_,
      (pss_cons
        (ps_set (i := 2) sc_law_text.nd rfl (.inr rfl) pe_str)
      (pss_cons
        (ps_if (pt_cmpR op_eq (pe_call G_law_draw (hr.mono (by omega)) (by rfl) D_law_draw.g D_law_draw.fn.kp D_law_draw.b .nil pass0 (pa_cons (pv 0) (pa_cons pe_int pa_nil))) pe_int (nomark _))
          (pss_one
            (ps_set (i := 2) sc_law_text.nd rfl (.inr rfl) pe_str))
          pss_nil)
      (pss_one
        (ps_ret (p_join pe_str (pe_lc (own := [("_law_k", 3)]) (g := (gName 3)) rfl sc_law_text.nd (pi_range1 (by rfl) T.n_range (pa_cons (pe_call G_law_draw (hr.mono (by omega)) (by rfl) D_law_draw.g D_law_draw.fn.kp D_law_draw.b .nil pass0 (pa_cons (pv 0) (pa_cons (pe_op op_add (pv 1) pe_int) pa_nil))) pa_nil)) (blkOk_by (own := [("_law_k", 3)]) (N := N_law_text) (sc := defScope s_law_text) (by decide +kernel)) (fun _ _ _ _ _ => (pg_name (i := 3) sc_law_text.nd rfl (.inl rfl))) (fun _ _ _ _ _ => pts_nil) (fun _ _ _ _ _ => (pe_ix ix_str (pv 2) (pe_call G_law_draw (hr.mono (by omega)) (by rfl) D_law_draw.g D_law_draw.fn.kp D_law_draw.b .nil pass0 (pa_cons (pv 0) (pa_cons (pe_callB c_lenS (by rfl) T.n_len (by decide +kernel) (pa_cons (pv 2) pa_nil)) pa_nil))) (fun _ _ => rfl)))))))))
      , ?_⟩
    rw [show L2.start N_law_text [V.ref d, V.int (m : Int)] = [some (.ref d), some (.int (m : Int)), none, none] from rfl]
    walk_at "x"
    refine w_seqJ (fun σ' H' => ∃ sg : Str, σ' = [some (.ref d), some (.int (m : Int)), some (.str sg), none] ∧ Deck H' d c (n + 1) ∧ Kp [d] H H' ∧ 0 < sg.length ∧ sg.length ≤ 100 ∧ ∀ c ∈ sg.cps.toList, c ∈ SG.cps.toList) ?_ ?_
    rotate_left
    · intro U hU
      walk_at "g"
      refine w_draw D0 (by omega) (by decide) (by decide) fun r H1 hr1 D1 o1 => ?_
      walk_at "g"
      refine w_ite (fun h => ?_) (fun h => ?_)
      · walk_at "g"
        exact hU _ _ ⟨_, rfl, D1, o1.kp (by simp), by decide, by decide, by decide⟩
      · walk_at "g"
        exact hU _ _ ⟨_, rfl, D1, o1.kp (by simp), by decide +kernel, by decide +kernel, fun c h => h⟩
    rintro σ' H1 ⟨sg, rfl, D1, k1, hs0, hs1, hsg⟩
    obtain ⟨⟨dx, ed1⟩, ⟨cx, ec1⟩⟩ := D1.at
    walk_at "g"
    refine w_draw D1 (by omega) (by omega) (by omega) fun r H2 hr2 D2 o2 => ?_
    obtain ⟨⟨dx2, ed2⟩, _⟩ := D2.at
    walk_at "g"
    refine lcp_gen (walk_range (lo := 0) (n := (r : Int).toNat)) [d] (fun i y _ => ∃ ch : Nat, y = .str ⟨#[ch]⟩ ∧ ch ∈ SG.cps.toList) (fun i H' => Deck H' d c (n + 2 + i)) (by omega) (fun _ _ _ _ _ h => h) (fun D hD i H1' o z => z.mut (D2.ne1 hD).1 (D2.ne1 hD).2) (fun _ _ _ _ => trivial) D2 ?_ (by intro b hb; have e : b = d := (by simpa using hb); subst e; exact ⟨_, ed2⟩) ?_
    · rintro i x H3 H4 R hi k3 t3 D3 ⟨rfl, rfl⟩ hR
      refine w_name ⟨rfl, ?_⟩
      walk_at "g"
      refine w_lenS (small2000 (by omega)) ?_
      walk_at "g"
      refine w_draw D3 (by unfold MOSTD at *; omega) (by omega) (by omega) fun r4 H5 hr4 D5 o5 => ?_
      obtain ⟨⟨dx3, ed3⟩, _⟩ := D3.at
      obtain ⟨ch, hch, ech⟩ : ∃ ch, sg.cps.toList[r4]? = some ch ∧ atI sg.cps.toList (r4 : Int) = some ch := by
        have hl : r4 < sg.cps.toList.length := by
          have : sg.length = sg.cps.toList.length := by show sg.cps.size = _; simp
          omega
        exact ⟨_, List.getElem?_eq_getElem hl, atI_nat (List.getElem?_eq_getElem hl)⟩
      walk_at "g"
      refine w_ixS (small2000 (by omega)) ech ?_
      exact hR _ _ ⟨ch, rfl, hsg ch (List.mem_of_getElem? hch)⟩ (o5.kp (by simp)) (KT.off o5 ed3) D5
    · intro L H3 ys hyl hyp hL k3 t3 D3 eL
      obtain ⟨zs, hzs, hzc⟩ : ∃ zs : List Nat, ys = (zs.map fun ch => (⟨#[ch]⟩ : Str)).map V.str ∧ ∀ ch ∈ zs, ch ∈ SG.cps.toList := by
        have : ∀ {ys : List V}, (∀ y ∈ ys, ∃ ch : Nat, y = .str ⟨#[ch]⟩ ∧ ch ∈ SG.cps.toList) → ∃ zs : List Nat, ys = (zs.map fun ch => (⟨#[ch]⟩ : Str)).map V.str ∧ ∀ ch ∈ zs, ch ∈ SG.cps.toList := by
          intro ys
          induction ys with
          | nil => intro _; exact ⟨[], rfl, by simp⟩
          | cons y ys ih =>
            intro h
            obtain ⟨ch, rfl, hch⟩ := h y (by simp)
            obtain ⟨zs, rfl, hz⟩ := ih fun y hy => h y (by simp [hy])
            exact ⟨ch :: zs, rfl, fun c hc => by
              rcases List.mem_cons.mp hc with rfl | hc
              · exact hch
              · exact hz c hc⟩
        refine this fun y hy => ?_
        obtain ⟨i, hi, e⟩ := List.getElem_of_mem hy
        exact hyp i y (by rw [List.getElem?_eq_getElem hi, e])
      have hzl : zs.length = (r : Int).toNat := by rw [← hyl, hzs]; simp
      subst hzs
      have hsum : ∀ l : List Nat, (l.map fun ch => ((⟨#[ch]⟩ : Str)).length).sum = l.length := by
        intro l
        induction l with
        | nil => rfl
        | cons x l ih =>
          rw [List.map_cons, List.sum_cons, ih, List.length_cons]
          show 1 + l.length = _
          omega
      have hflat : ∀ l : List Nat, ((l.map fun ch => (⟨#[ch]⟩ : Str)).map fun y => y.cps.toList).flatten = l := by
        intro l
        induction l with
        | nil => rfl
        | cons x l ih =>
          rw [List.map_cons, List.map_cons, List.flatten_cons, ih]
          rfl
      walk_at "g"
      refine w_joinL (.of eL) ?_ ?_
      · rw [List.map_map, List.length_map]
        have := hsum zs
        show (zs.map fun ch => ((⟨#[ch]⟩ : Str)).length).sum + zs.length * 0 ≤ _
        omega
      · have ec := join_cps (zs.map fun ch => (⟨#[ch]⟩ : Str))
        rw [hflat] at ec
        refine q H3 _ (D3.mono (by omega)) (k1.trans ((o2.kp (by simp)).trans k3)) ?_ ⟨?_, fun ch hch => ?_⟩
        · exact D0.ktK (k1.trans ((o2.kp (by simp)).trans k3))
        · show (Txt.join (Str.ofString "") (zs.map fun ch => (⟨#[ch]⟩ : Str))).cps.size ≤ 40
          rw [← Array.length_toList, ec]
          omega
        · rw [ec] at hch
          exact hzc ch hch
theorem ok_label {f fM fD : Addr} {fd fdM fdD : FuncData} (T : Txt K mg) (F : Fun K "_law_label" "_law_label" s_law_label f fd) (D_law_mixed : Df K mg "_law_mixed" s_law_mixed ["_law_cell", "_law_turn"] fM fdM) (D_law_draw : Df K mg "_law_draw" s_law_draw ["_law_deck_here", "_law_many"] fD fdD) : FnOk P w K mg base CX0 3 f fd ["_law_deck_here"] spLabel := by
  have G_law_draw : FnOk P w K mg base CX0 2 fD fdD ["_law_deck_here", "_law_many"] spDraw := ok_draw T D_law_draw.fn D_law_mixed
  refine F.ok sc_law_label (fun vs H Q E h => ?_) (fun cdv A outer s H vs Q E hr h => ?_)
  · obtain ⟨d, c, n, rfl, _⟩ := h
    rfl
  · obtain ⟨d, c, n, rfl, D0, hn, q⟩ := h
    refine ⟨_,
      (pss_cons
        (ps_if (pt_cmpR op_gt (pe_call G_law_draw (hr.mono (by omega)) (by rfl) D_law_draw.g D_law_draw.fn.kp D_law_draw.b .nil pass0 (pa_cons (pv 0) (pa_cons pe_int pa_nil))) pe_int (nomark _))
          (pss_one
            (ps_ret (pe_ix ix_str pe_str (pe_call G_law_draw (hr.mono (by omega)) (by rfl) D_law_draw.g D_law_draw.fn.kp D_law_draw.b .nil pass0 (pa_cons (pv 0) (pa_cons pe_int pa_nil))) (fun _ _ => rfl))))
          pss_nil)
      (pss_cons
        (ps_set (i := 1) sc_law_label.nd rfl (.inr rfl) pe_str)
      (pss_one
        (ps_ret (p_join pe_str (pe_lc (own := [("_law_k", 2)]) (g := (gName 2)) rfl sc_law_label.nd (pi_range1 (by rfl) T.n_range (pa_cons (pe_op op_add pe_int (pe_call G_law_draw (hr.mono (by omega)) (by rfl) D_law_draw.g D_law_draw.fn.kp D_law_draw.b .nil pass0 (pa_cons (pv 0) (pa_cons pe_int pa_nil)))) pa_nil)) (blkOk_by (own := [("_law_k", 2)]) (N := N_law_label) (sc := defScope s_law_label) (by decide +kernel)) (fun _ _ _ _ _ => (pg_name (i := 2) sc_law_label.nd rfl (.inl rfl))) (fun _ _ _ _ _ => pts_nil) (fun _ _ _ _ _ => (pe_ix ix_str (pv 1) (pe_call G_law_draw (hr.mono (by omega)) (by rfl) D_law_draw.g D_law_draw.fn.kp D_law_draw.b .nil pass0 (pa_cons (pv 0) (pa_cons pe_int pa_nil))) (fun _ _ => rfl)))))))))
      , ?_⟩
    rw [show L2.start N_law_label [V.ref d] = [some (.ref d), none, none] from rfl]
    refine w_seq ?_
    walk_at "x"
    refine w_draw D0 (by omega) (by decide) (by decide) fun r H1 hr1 D1 o1 => ?_
    walk_at "g"
    refine w_ite (fun h => ?_) (fun h => ?_)
    · walk_at "g"
      refine w_draw D1 (by omega) (by decide) (by decide) fun r2 H2 hr2 D2 o2 => ?_
      have hl : r2 < (Str.ofString "abcd").cps.toList.length := by
        have : (Str.ofString "abcd").cps.toList.length = 4 := by decide +kernel
        omega
      have ech : atI (Str.ofString "abcd").cps.toList (r2 : Int) = some (Str.ofString "abcd").cps.toList[r2] := atI_nat (List.getElem?_eq_getElem hl)
      walk_at "g"
      refine w_ixS (by decide +kernel) ech ?_
      walk_at "g"
      have k2 : Kp [d] H H2 := (o1.kp (by simp)).trans (o2.kp (by simp))
      refine q H2 _ (D2.mono (by omega)) k2 ((D0.kx D1 o1).trans (D1.kx D2 o2)).t ⟨Nat.le_refl 1, (show (1 : Nat) ≤ 8 by decide), fun ch hch => ?_⟩
      have hm : (Str.ofString "abcd").cps.toList[r2] ∈ (Str.ofString "abcd").cps.toList := List.getElem_mem hl
      have e : ch = (Str.ofString "abcd").cps.toList[r2] := by simpa using hch
      rw [← e] at hm
      have hsub : ∀ x ∈ (Str.ofString "abcd").cps.toList, x ∈ LTR.cps.toList := by decide +kernel
      exact hsub ch hm
    · walk_at "g"
      refine w_draw D1 (by omega) (by decide) (by decide) fun r2 H2 hr2 D2 o2 => ?_
      obtain ⟨⟨dx2, ed2⟩, _⟩ := D2.at
      walk_at "g"
      refine lcp_gen (walk_range (lo := 0) (n := (1 + (r2 : Int)).toNat)) [d] (fun i y _ => ∃ ch : Nat, y = .str ⟨#[ch]⟩ ∧ ch ∈ LTR.cps.toList) (fun i H' => Deck H' d c (n + 2 + i)) (by omega) (fun _ _ _ _ _ h => h) (fun D hD i H1' o z => z.mut (D2.ne1 hD).1 (D2.ne1 hD).2) (fun _ _ _ _ => trivial) D2 ?_ (by intro b hb; have e : b = d := (by simpa using hb); subst e; exact ⟨_, ed2⟩) ?_
      · rintro i x H3 H4 R hi k3 t3 D3 ⟨rfl, rfl⟩ hR
        refine w_name ⟨rfl, ?_⟩
        walk_at "g"
        refine w_draw D3 (by unfold MOSTD at *; omega) (by decide) (by decide) fun r4 H5 hr4 D5 o5 => ?_
        obtain ⟨⟨dx3, ed3⟩, _⟩ := D3.at
        have hl : r4 < LTR.cps.toList.length := by
          have : LTR.cps.toList.length = 26 := by decide +kernel
          omega
        have ech : atI LTR.cps.toList (r4 : Int) = some LTR.cps.toList[r4] := atI_nat (List.getElem?_eq_getElem hl)
        walk_at "g"
        refine w_ixS (by decide +kernel) ech ?_
        exact hR _ _ ⟨_, rfl, List.getElem_mem hl⟩ (o5.kp (by simp)) (KT.off o5 ed3) D5
      · intro L H3 ys hyl hyp hL k3 t3 D3 eL
        obtain ⟨zs, hzs, hzc⟩ := chs_of (S := LTR.cps.toList) (ys := ys) fun y hy => by
          obtain ⟨i, hi, e⟩ := List.getElem_of_mem hy
          exact hyp i y (by rw [List.getElem?_eq_getElem hi, e])
        have hzl : zs.length = (1 + (r2 : Int)).toNat := by rw [← hyl, hzs]; simp
        subst hzs
        walk_at "g"
        refine w_joinL (.of eL) ?_ ?_
        · rw [List.map_map, List.length_map]
          have := chs_sum zs
          show (zs.map fun ch => ((⟨#[ch]⟩ : Str)).length).sum + zs.length * 0 ≤ _
          omega
        · have ec := join_cps (zs.map fun ch => (⟨#[ch]⟩ : Str))
          rw [chs_flat] at ec
          have hlen : (Txt.join (Str.ofString "") (zs.map fun ch => (⟨#[ch]⟩ : Str))).length = zs.length := by
            show (Txt.join (Str.ofString "") (zs.map fun ch => (⟨#[ch]⟩ : Str))).cps.size = _
            rw [← Array.length_toList, ec]
          have k03 := ((o1.kp (M := [d]) (by simp)).trans ((o2.kp (by simp)).trans k3))
          refine q H3 _ (D3.mono (by omega)) k03 (D0.kxK D3 k03).t ⟨by omega, by omega, fun ch hch => ?_⟩
          rw [ec] at hch
          exact hzc ch hch
end
/-! ### drawn numbers, rows, pairs, pieces -/
theorem RowN.of {z : Str} (h : LineOk z) : RowN z := ⟨h.1, fun c hc => by
  have hs : ∀ x ∈ SG.cps.toList, 32 ≤ x ∧ x ≤ 126 ∧ x ≠ 37 := by decide +kernel
  exact hs c (h.2 c hc)⟩
theorem pick_of {α : Type} (C : V → α → Prop) : ∀ {ys : List V}, (∀ y ∈ ys, ∃ a, C y a) → ∃ as : List (V × α), ys = as.map (·.1) ∧ ∀ q ∈ as, C q.1 q.2 := by
  intro ys
  induction ys with
  | nil => intro _; exact ⟨[], rfl, by simp⟩
  | cons y ys ih =>
    intro h
    obtain ⟨a, ha⟩ := h y (by simp)
    obtain ⟨as, rfl, hs⟩ := ih fun y hy => h y (by simp [hy])
    exact ⟨(y, a) :: as, rfl, fun q hq => by
      rcases List.mem_cons.mp hq with rfl | hq
      · exact ha
      · exact hs q hq⟩
theorem nums_of {p : Nat → Prop} {ys : List V} (h : ∀ y ∈ ys, ∃ m : Nat, y = nV m ∧ p m) : ∃ ns : List Nat, ys = ns.map nV ∧ ∀ n ∈ ns, p n := by
  obtain ⟨as, rfl, h2⟩ := pick_of (fun y m => y = nV m ∧ p m) h
  refine ⟨as.map (·.2), ?_, fun n hn => ?_⟩
  · rw [List.map_map]
    exact List.map_congr_left fun q hq => (h2 q hq).1
  · obtain ⟨q, hq, rfl⟩ := List.mem_map.mp hn
    exact (h2 q hq).2
theorem mem_at {α : Type} {ys : List α} {p : α → Prop} (h : ∀ (i : Nat) y, ys[i]? = some y → p y) : ∀ y ∈ ys, p y := fun y hy => by
  obtain ⟨i, hi, e⟩ := List.getElem_of_mem hy
  exact h i y (by rw [List.getElem?_eq_getElem hi, e])
/-- a comprehension that draws -/
theorem lcp_dk {σ : L2.St} {H : Hp} {Q : VK} {J : It} {n : Nat} {Y : Nat → Hp → V → Hp → Prop} (w : Walk J n (fun _ => True) Y) {g : TG} {te : TE} {vs : List Nat} {d c : Addr} {n0 : Nat} (D0 : Deck H d c n0) (st : Nat) (P : V → Hp → Prop) (hz : n ≤ 1000000)
    (mono : ∀ y H1 H2, KT H1 H2 → P y H1 → P y H2)
    (hs : ∀ i x H1 H2 (R : V → Hp → Prop), i < n → KX d H H1 → Deck H1 d c (n0 + st * i) → Y i H1 x H2 → (∀ y H4, P y H4 → KX d H1 H4 → Deck H4 d c (n0 + st * i + st) → R y H4) → g x (wipe σ vs) H2 fun σ2 H3 => wipe σ2 vs = wipe σ vs ∧ te σ2 H3 R)
    (hd : ∀ D H' ys, ys.length = n → (∀ y ∈ ys, P y H') → H D = none → KX d H H' → Deck H' d c (n0 + st * n) → H' D = some (.lst ys) → Q (.ref D) H') : LcP J g tYes te vs Q σ H := by
  obtain ⟨⟨dx, ed⟩, _⟩ := D0.at
  refine lcp_gen w [d] (fun _ y H => P y H) (fun i H' => Deck H' d c (n0 + st * i)) hz (fun _ y H1 H2 k p => mono y H1 H2 k p) (fun D hD i H1' o z => z.mut (D0.ne1 hD).1 (D0.ne1 hD).2) (fun _ _ _ _ => trivial) D0 ?_ (by intro b hb; have e : b = d := (by simpa using hb); subst e; exact ⟨_, ed⟩) ?_
  · intro i x H1 H2 R hi k1 t1 D1 y hR
    refine hs i x H1 H2 R hi (D0.kxK D1 k1) D1 y fun z H4 pz x4 D4 => hR z H4 pz x4.p x4.t (by rw [show n0 + st * (i + 1) = n0 + st * i + st from by rw [Nat.mul_add, Nat.mul_one, Nat.add_assoc]]; exact D4)
  · intro D H' ys hl hp hD k t D1 e
    exact hd D H' ys hl (mem_at hp) hD (D0.kxK D1 k) D1 e
def spLInt : Sp := fun vs H Q _ => ∃ (d c : Addr) (n : Nat), vs = [.ref d] ∧ Deck H d c n ∧ n + 2 ≤ MOSTD ∧ ∀ H' (i : Nat), i ≤ TOP → Deck H' d c (n + 2) → KX d H H' → Q (nV i) H'
def spLInts : Sp := fun vs H Q _ => ∃ (d c : Addr) (n : Nat), vs = [.ref d] ∧ Deck H d c n ∧ n + 10 ≤ MOSTD ∧ ∀ H' t (ns : List Nat), Deck H' d c (n + 10) → KX d H H' → H' t = some (.tup (ns.map nV)) → ns.length ≤ 4 → (∀ m ∈ ns, m ≤ TOP) → Q (.ref t) H'
def spLLeaf : Sp := fun vs H Q _ => ∃ (d c : Addr) (n low : Nat), vs = [.ref d, nV low] ∧ Deck H d c n ∧ n + 2000 ≤ MOSTD ∧ low ≤ 1 ∧ ∀ H' t (rs : List Str), Deck H' d c (n + 2000) → KX d H H' → H' t = some (.tup (rs.map V.str)) → RowsN rs → low ≤ rs.length → Q (.ref t) H'
def spLPairs : Sp := fun vs H Q _ => ∃ (d c : Addr) (n : Nat), vs = [.ref d] ∧ Deck H d c n ∧ n + 60 ≤ MOSTD ∧
  ∀ H' t (as : List (Addr × (Str × Nat))), Deck H' d c (n + 60) → KX d H H' → H' t = some (.tup (as.map fun q => .ref q.1)) → (∀ q ∈ as, H' q.1 = some (.tup [.str q.2.1, nV q.2.2])) → as.length ≤ 3 → as.Pairwise (fun x y => txLt x.2.1 y.2.1) → (∀ q ∈ as, LabOk q.2.1 ∧ q.2.2 ≤ TOP) → Q (.ref t) H'
def spLMarks : Sp := fun vs H Q _ => ∃ (d c : Addr) (n : Nat), vs = [.ref d] ∧ Deck H d c n ∧ n + 60 ≤ MOSTD ∧
  ∀ H' t (as : List (V × El)), Deck H' d c (n + 60) → KX d H H' → H' t = some (.tup (as.map (·.1))) → (∀ q ∈ as, ElAt H' q.1 q.2 ∧ q.2.ok ∧ q.2.kd = .pair) → as.length ≤ 3 → Q (.ref t) H'
def spLPieces : Sp := fun vs H Q _ => ∃ (d c : Addr) (n : Nat), vs = [.ref d] ∧ Deck H d c n ∧ n + 7000 ≤ MOSTD ∧
  ∀ H' t (as : List (V × El)), Deck H' d c (n + 7000) → KX d H H' → H' t = some (.tup (as.map (·.1))) → (∀ q ∈ as, ElAt H' q.1 q.2 ∧ q.2.ok ∧ q.2.kd = .piece) → as.length ≤ 3 → Q (.ref t) H'
section
variable {P : Program} {w : World} {K : PySem.W.Frag} {mg : Str → Option Value} {base : Heap}
theorem ok_lint {f fM fD : Addr} {fd fdM fdD : FuncData} (T : Txt K mg) (F : Fun K "_law_int" "_law_int" s_law_int f fd) (D_law_mixed : Df K mg "_law_mixed" s_law_mixed ["_law_cell", "_law_turn"] fM fdM) (D_law_draw : Df K mg "_law_draw" s_law_draw ["_law_deck_here", "_law_many"] fD fdD) : FnOk P w K mg base CX0 3 f fd ["_law_deck_here"] spLInt := by
  have G_law_draw : FnOk P w K mg base CX0 2 fD fdD ["_law_deck_here", "_law_many"] spDraw := ok_draw T D_law_draw.fn D_law_mixed
  refine F.ok sc_law_int (fun vs H Q E h => ?_) (fun cdv A outer s H vs Q E hr h => ?_)
  · obtain ⟨d, c, n, rfl, _⟩ := h
    rfl
  · obtain ⟨d, c, n, rfl, D0, hn, q⟩ := h
    refine ⟨_,
      (pss_cons
        (ps_set (i := 1) sc_law_int.nd rfl (.inl rfl) (pe_call G_law_draw (hr.mono (by omega)) (by rfl) D_law_draw.g D_law_draw.fn.kp D_law_draw.b .nil pass0 (pa_cons (pv 0) (pa_cons pe_int pa_nil))))
      (pss_cons
        (ps_if (pt_cmpR op_eq (pv 1) pe_int (nomark _))
          (pss_one
            (ps_ret (pe_op op_sub (pe_op op_pow pe_int pe_int) (pe_call G_law_draw (hr.mono (by omega)) (by rfl) D_law_draw.g D_law_draw.fn.kp D_law_draw.b .nil pass0 (pa_cons (pv 0) (pa_cons pe_int pa_nil))))))
          pss_nil)
      (pss_one
        (ps_ret (pe_call G_law_draw (hr.mono (by omega)) (by rfl) D_law_draw.g D_law_draw.fn.kp D_law_draw.b .nil pass0 (pa_cons (pv 0) (pa_cons (pe_ix (r := rIxL K) ix_list (pe_lst (pa_cons pe_int (pa_cons pe_int (pa_cons pe_int (pa_cons (pe_op op_add (pe_op op_pow pe_int pe_int) pe_int) pa_nil))))) (pe_op op_sub (pv 1) pe_int) (fun _ _ => rfl)) pa_nil)))))))
      , ?_⟩
    rw [show L2.start N_law_int [V.ref d] = [some (.ref d), none] from rfl]
    refine w_seq ?_
    walk_at "x"
    refine w_draw D0 (by omega) (by decide) (by decide) fun r H1 hr1 D1 o1 => ?_
    have hr5 : r < 5 := by omega
    have x1 := D0.kx D1 o1
    walk_at "g"
    refine w_seq ?_
    walk_at "g"
    refine w_ite (fun h => ?_) (fun h => ?_)
    · walk_at "g"
      refine w_draw D1 (by omega) (by decide) (by decide) fun r2 H2 hr2 D2 o2 => ?_
      walk_at "g"
      have e : V.int (10 ^ Int.toNat 18 - (r2 : Int)) = nV (TOP - r2) := by
        have e1 : (10 : Int) ^ Int.toNat 18 = 1000000000000000000 := by decide +kernel
        rw [e1]
        show V.int _ = V.int _
        congr 1
        unfold TOP
        omega
      rw [e]
      exact q H2 _ (by unfold TOP; omega) D2 (x1.trans (D1.kx D2 o2))
    · walk_at "g"
      refine w_new fun L H2 hL e2 k2 => ?_
      have D2 : Deck H2 d c (n + 1) := D1.kp (M := []) (Kp.of k2) (by simp) (by simp)
      have hat : ∃ m : Nat, atI [V.int 2, V.int 10, V.int 400, V.int (10 ^ Int.toNat 18 + 1)] ((r : Int) - 1) = some (nV m) ∧ 0 < m ∧ m ≤ TOP + 1 := by
        rcases (show r = 1 ∨ r = 2 ∨ r = 3 ∨ r = 4 by omega) with rfl | rfl | rfl | rfl
        · exact ⟨2, rfl, by decide, by decide⟩
        · exact ⟨10, rfl, by decide, by decide⟩
        · exact ⟨400, rfl, by decide, by decide⟩
        · exact ⟨1000000000000000001, by decide +kernel, by decide, by decide⟩
      obtain ⟨m, hat, m0, m1⟩ := hat
      walk_at "g"
      refine w_draw D2 (by omega) (by omega) (by unfold TOP at m1; omega) fun r3 H3 hr3 D3 o3 => ?_
      exact q H3 r3 (by omega) D3 ((x1.trans (KX.of k2)).trans (D2.kx D3 o3))
theorem ok_lints {f fM fD fI : Addr} {fd fdM fdD fdI : FuncData} (T : Txt K mg) (F : Fun K "_law_ints" "_law_ints" s_law_ints f fd) (D_law_mixed : Df K mg "_law_mixed" s_law_mixed ["_law_cell", "_law_turn"] fM fdM) (D_law_draw : Df K mg "_law_draw" s_law_draw ["_law_deck_here", "_law_many"] fD fdD) (D_law_int : Df K mg "_law_int" s_law_int ["_law_deck_here"] fI fdI) : FnOk P w K mg base CX0 4 f fd ["_law_deck_here"] spLInts := by
  have G_law_draw : FnOk P w K mg base CX0 2 fD fdD ["_law_deck_here", "_law_many"] spDraw := ok_draw T D_law_draw.fn D_law_mixed
  have G_law_int : FnOk P w K mg base CX0 3 fI fdI ["_law_deck_here"] spLInt := ok_lint T D_law_int.fn D_law_mixed D_law_draw
  refine F.ok sc_law_ints (fun vs H Q E h => ?_) (fun cdv A outer s H vs Q E hr h => ?_)
  · obtain ⟨d, c, n, rfl, _⟩ := h
    rfl
  · obtain ⟨d, c, n, rfl, D0, hn, q⟩ := h
    refine ⟨_,
      (pss_one
        (ps_ret (pe_callTy (r := rTupOf K) c_tupOf (by rfl) T.n_tuple (by decide +kernel) (pa_cons (pe_lc (own := [("_law_k", 1)]) (g := (gName 1)) rfl sc_law_ints.nd (pi_range1 (by rfl) T.n_range (pa_cons (pe_call G_law_draw (hr.mono (by omega)) (by rfl) D_law_draw.g D_law_draw.fn.kp D_law_draw.b .nil pass0 (pa_cons (pv 0) (pa_cons pe_int pa_nil))) pa_nil)) (blkOk_by (own := [("_law_k", 1)]) (N := N_law_ints) (sc := defScope s_law_ints) (by decide +kernel)) (fun _ _ _ _ _ => (pg_name (i := 1) sc_law_ints.nd rfl (.inl rfl))) (fun _ _ _ _ _ => pts_nil) (fun _ _ _ _ _ => (pe_call G_law_int (hr.mono (by omega)) (by rfl) D_law_int.g D_law_int.fn.kp D_law_int.b .nil pass0 (pa_cons (pv 0) pa_nil)))) pa_nil))))
      , ?_⟩
    rw [show L2.start N_law_ints [V.ref d] = [some (.ref d), none] from rfl]
    walk_at "x"
    refine w_draw D0 (by omega) (by decide) (by decide) fun r H1 hr1 D1 o1 => ?_
    have hr5 : r < 5 := by omega
    have x1 := D0.kx D1 o1
    walk_at "g"
    refine lcp_dk (walk_range (lo := 0) (n := (r : Int).toNat)) D1 2 (fun y _ => ∃ m : Nat, y = nV m ∧ m ≤ TOP) (by omega) (fun _ _ _ _ h => h) ?_ ?_
    · rintro i x H3 H4 R hi x3 D3 ⟨rfl, rfl⟩ hR
      refine w_name ⟨rfl, ?_⟩
      walk_at "g"
      refine ⟨d, c, _, rfl, D3, by omega, fun H5 m hm D5 x5 => ?_⟩
      exact hR _ _ ⟨m, rfl, hm⟩ x5 D5
    · intro L H3 ys hyl hyp hL x3 D3 eL
      obtain ⟨ns, rfl, hns⟩ := nums_of hyp
      rw [List.length_map] at hyl
      walk_at "g"
      refine w_tupL (.of eL) fun t H4 ht e4 k4 => ?_
      exact q H4 t ns ((D3.kp (M := []) (Kp.of k4) (by simp) (by simp)).mono (by omega)) ((x1.trans x3).trans (KX.of k4)) e4 (by omega) hns
theorem ok_lleaf {f fM fD fT : Addr} {fd fdM fdD fdT : FuncData} (T : Txt K mg) (F : Fun K "_law_leaf_rows" "_law_leaf_rows" s_law_leaf_rows f fd) (D_law_mixed : Df K mg "_law_mixed" s_law_mixed ["_law_cell", "_law_turn"] fM fdM) (D_law_draw : Df K mg "_law_draw" s_law_draw ["_law_deck_here", "_law_many"] fD fdD) (D_law_text : Df K mg "_law_text" s_law_text ["_law_deck_here", "_law_size"] fT fdT) : FnOk P w K mg base CX0 4 f fd ["_law_deck_here", "_law_low"] spLLeaf := by
  have G_law_draw : FnOk P w K mg base CX0 2 fD fdD ["_law_deck_here", "_law_many"] spDraw := ok_draw T D_law_draw.fn D_law_mixed
  have G_law_text : FnOk P w K mg base CX0 3 fT fdT ["_law_deck_here", "_law_size"] spText := ok_text T D_law_text.fn D_law_mixed D_law_draw
  refine F.ok sc_law_leaf_rows (fun vs H Q E h => ?_) (fun cdv A outer s H vs Q E hr h => ?_)
  · obtain ⟨d, c, n, low, rfl, _⟩ := h
    rfl
  · obtain ⟨d, c, n, low, rfl, D0, hn, hlow, q⟩ := h
    refine ⟨_,
      (pss_cons
        (ps_if (pt_cmpR op_eq (pe_call G_law_draw (hr.mono (by omega)) (by rfl) D_law_draw.g D_law_draw.fn.kp D_law_draw.b .nil pass0 (pa_cons (pv 0) (pa_cons pe_int pa_nil))) pe_int (nomark _))
          (pss_one
            (ps_ret (pe_callTy (r := rTupOf K) c_tupOf (by rfl) T.n_tuple (by decide +kernel) (pa_cons (pe_lc (own := [("_law_k", 2)]) (g := (gName 2)) rfl sc_law_leaf_rows.nd (pi_range1 (by rfl) T.n_range (pa_cons (pe_op op_add pe_int (pe_call G_law_draw (hr.mono (by omega)) (by rfl) D_law_draw.g D_law_draw.fn.kp D_law_draw.b .nil pass0 (pa_cons (pv 0) (pa_cons pe_int pa_nil)))) pa_nil)) (blkOk_by (own := [("_law_k", 2)]) (N := N_law_leaf_rows) (sc := defScope s_law_leaf_rows) (by decide +kernel)) (fun _ _ _ _ _ => (pg_name (i := 2) sc_law_leaf_rows.nd rfl (.inl rfl))) (fun _ _ _ _ _ => pts_nil) (fun _ _ _ _ _ => (pe_call G_law_text (hr.mono (by omega)) (by rfl) D_law_text.g D_law_text.fn.kp D_law_text.b .nil pass0 (pa_cons (pv 0) (pa_cons pe_int pa_nil))))) pa_nil))))
          pss_nil)
      (pss_cons
        (ps_if (pt_cmpR op_eq (pe_call G_law_draw (hr.mono (by omega)) (by rfl) D_law_draw.g D_law_draw.fn.kp D_law_draw.b .nil pass0 (pa_cons (pv 0) (pa_cons pe_int pa_nil))) pe_int (nomark _))
          (pss_one
            (ps_ret (pe_tup (pa_cons (pe_call G_law_text (hr.mono (by omega)) (by rfl) D_law_text.g D_law_text.fn.kp D_law_text.b .nil pass0 (pa_cons (pv 0) (pa_cons pe_int pa_nil))) (pa_cons (p_join pe_str (pe_lc (own := [("_law_k", 2)]) (g := (gName 2)) rfl sc_law_leaf_rows.nd (pi_range1 (by rfl) T.n_range (pa_cons (pe_op op_add pe_int (pe_call G_law_draw (hr.mono (by omega)) (by rfl) D_law_draw.g D_law_draw.fn.kp D_law_draw.b .nil pass0 (pa_cons (pv 0) (pa_cons pe_int pa_nil)))) pa_nil)) (blkOk_by (own := [("_law_k", 2)]) (N := N_law_leaf_rows) (sc := defScope s_law_leaf_rows) (by decide +kernel)) (fun _ _ _ _ _ => (pg_name (i := 2) sc_law_leaf_rows.nd rfl (.inl rfl))) (fun _ _ _ _ _ => pts_nil) (fun _ _ _ _ _ => (pe_ix ix_str pe_str (pe_call G_law_draw (hr.mono (by omega)) (by rfl) D_law_draw.g D_law_draw.fn.kp D_law_draw.b .nil pass0 (pa_cons (pv 0) (pa_cons pe_int pa_nil))) (fun _ _ => rfl))))) pa_nil)))))
          pss_nil)
      (pss_one
        (ps_ret (pe_callTy (r := rTupOf K) c_tupOf (by rfl) T.n_tuple (by decide +kernel) (pa_cons (pe_lc (own := [("_law_k", 2)]) (g := (gName 2)) rfl sc_law_leaf_rows.nd (pi_range1 (by rfl) T.n_range (pa_cons (pe_op op_add (pv 1) (pe_call G_law_draw (hr.mono (by omega)) (by rfl) D_law_draw.g D_law_draw.fn.kp D_law_draw.b .nil pass0 (pa_cons (pv 0) (pa_cons pe_int pa_nil)))) pa_nil)) (blkOk_by (own := [("_law_k", 2)]) (N := N_law_leaf_rows) (sc := defScope s_law_leaf_rows) (by decide +kernel)) (fun _ _ _ _ _ => (pg_name (i := 2) sc_law_leaf_rows.nd rfl (.inl rfl))) (fun _ _ _ _ _ => pts_nil) (fun _ _ _ _ _ => (pe_call G_law_text (hr.mono (by omega)) (by rfl) D_law_text.g D_law_text.fn.kp D_law_text.b .nil pass0 (pa_cons (pv 0) (pa_cons pe_int pa_nil))))) pa_nil))))))
      , ?_⟩
    rw [show L2.start N_law_leaf_rows [V.ref d, nV low] = [some (.ref d), some (nV low), none] from rfl]
    refine w_seq ?_
    walk_at "x"
    refine w_draw D0 (by omega) (by decide) (by decide) fun r H1 hr1 D1 o1 => ?_
    have x1 := D0.kx D1 o1
    walk_at "g"
    refine w_ite (fun h => ?_) (fun h => ?_)
    · walk_at "g"
      refine w_draw D1 (by omega) (by decide) (by decide) fun r2 H2 hr2 D2 o2 => ?_
      have x2 := x1.trans (D1.kx D2 o2)
      have h3 : r2 < 3 := by omega
      walk_at "g"
      refine lcp_dk (walk_range (lo := 0) (n := (38 + (r2 : Int)).toNat)) D2 42 (fun y _ => ∃ z : Str, y = .str z ∧ RowN z) (by omega) (fun _ _ _ _ h => h) ?_ ?_
      · rintro i x H3 H4 R hi x3 D3 ⟨rfl, rfl⟩ hR
        refine w_name ⟨rfl, ?_⟩
        walk_at "g"
        refine ⟨d, c, _, 2, rfl, D3, by omega, by omega, fun H5 z D5 k5 t5 hz => ?_⟩
        exact hR _ _ ⟨z, rfl, RowN.of hz⟩ (D3.kxK D5 k5) D5
      · intro L H3 ys hyl hyp hL x3 D3 eL
        obtain ⟨zs, rfl, hzs⟩ := strs_of hyp
        rw [List.length_map] at hyl
        walk_at "g"
        refine w_tupL (.of eL) fun t H4 ht e4 k4 => ?_
        exact q H4 t zs ((D3.kp (M := []) (Kp.of k4) (by simp) (by simp)).mono (by omega)) ((x2.trans x3).trans (KX.of k4)) e4 ⟨by omega, hzs⟩ (by omega)
    · walk_at "g"
      refine w_seq ?_
      walk_at "g"
      refine w_draw D1 (by omega) (by decide) (by decide) fun r2 H2 hr2 D2 o2 => ?_
      have x2 := x1.trans (D1.kx D2 o2)
      walk_at "g"
      refine w_ite (fun h => ?_) (fun h => ?_)
      · walk_at "g"
        refine ⟨d, c, _, 2, rfl, D2, by omega, by omega, fun H3 z3 D3 k3 t3 hz3 => ?_⟩
        have x3 := x2.trans (D2.kxK D3 k3)
        walk_at "g"
        refine w_draw D3 (by omega) (by decide) (by decide) fun r4 H4 hr4 D4 o4 => ?_
        have x4 := x3.trans (D3.kx D4 o4)
        have h43 : r4 < 3 := by omega
        walk_at "g"
        refine lcp_dk (walk_range (lo := 0) (n := (38 + (r4 : Int)).toNat)) D4 1 (fun y _ => ∃ ch : Nat, y = .str ⟨#[ch]⟩ ∧ ch ∈ (Str.ofString "a b~").cps.toList) (by omega) (fun _ _ _ _ h => h) ?_ ?_
        · rintro i x H5 H6 R hi x5 D5 ⟨rfl, rfl⟩ hR
          refine w_name ⟨rfl, ?_⟩
          walk_at "g"
          refine w_draw D5 (by omega) (by decide) (by decide) fun r6 H7 hr6 D7 o7 => ?_
          have hl : r6 < (Str.ofString "a b~").cps.toList.length := by
            have : (Str.ofString "a b~").cps.toList.length = 4 := by decide +kernel
            omega
          have ech : atI (Str.ofString "a b~").cps.toList (r6 : Int) = some (Str.ofString "a b~").cps.toList[r6] := atI_nat (List.getElem?_eq_getElem hl)
          walk_at "g"
          refine w_ixS (by decide +kernel) ech ?_
          exact hR _ _ ⟨_, rfl, List.getElem_mem hl⟩ (D5.kx D7 o7) D7
        · intro L H5 ys hyl hyp hL x5 D5 eL
          obtain ⟨zs, hzs, hzc⟩ := chs_of (S := (Str.ofString "a b~").cps.toList) (ys := ys) hyp
          have hzl : zs.length = (38 + (r4 : Int)).toNat := by rw [← hyl, hzs]; simp
          subst hzs
          walk_at "g"
          refine w_joinL (.of eL) ?_ ?_
          · rw [List.map_map, List.length_map]
            have := chs_sum zs
            show (zs.map fun ch => ((⟨#[ch]⟩ : Str)).length).sum + zs.length * 0 ≤ _
            omega
          · have ec := join_cps (zs.map fun ch => (⟨#[ch]⟩ : Str))
            rw [chs_flat] at ec
            walk_at "g"
            refine w_new fun t H6 ht e6 k6 => ?_
            refine q H6 t [z3, Txt.join (Str.ofString "") (zs.map fun ch => (⟨#[ch]⟩ : Str))] ((D5.kp (M := []) (Kp.of k6) (by simp) (by simp)).mono (by omega)) ((x4.trans x5).trans (KX.of k6)) e6 ⟨(show 2 ≤ 40 by decide), fun z hz => ?_⟩ (by show low ≤ 2; omega)
            rcases (by simpa using hz : z = z3 ∨ z = _) with rfl | rfl
            · exact RowN.of hz3
            · have hlen : (Txt.join (Str.ofString "") (zs.map fun ch => (⟨#[ch]⟩ : Str))).length = zs.length := by
                show (Txt.join (Str.ofString "") (zs.map fun ch => (⟨#[ch]⟩ : Str))).cps.size = _
                rw [← Array.length_toList, ec]
              refine ⟨by omega, fun ch hch => ?_⟩
              rw [ec] at hch
              have hsub : ∀ x ∈ (Str.ofString "a b~").cps.toList, 32 ≤ x ∧ x ≤ 126 ∧ x ≠ 37 := by decide +kernel
              exact hsub ch (hzc ch hch)
      · walk_at "g"
        refine w_draw D2 (by omega) (by decide) (by decide) fun r3 H3 hr3 D3 o3 => ?_
        have x3 := x2.trans (D2.kx D3 o3)
        have h3 : r3 < 4 := by omega
        walk_at "g"
        refine lcp_dk (walk_range (lo := 0) (n := ((low : Int) + (r3 : Int)).toNat)) D3 42 (fun y _ => ∃ z : Str, y = .str z ∧ RowN z) (by omega) (fun _ _ _ _ h => h) ?_ ?_
        · rintro i x H4 H5 R hi x4 D4 ⟨rfl, rfl⟩ hR
          refine w_name ⟨rfl, ?_⟩
          walk_at "g"
          refine ⟨d, c, _, 6, rfl, D4, by omega, by omega, fun H6 z D6 k6 t6 hz => ?_⟩
          exact hR _ _ ⟨z, rfl, RowN.of hz⟩ (D4.kxK D6 k6) D6
        · intro L H4 ys hyl hyp hL x4 D4 eL
          obtain ⟨zs, rfl, hzs⟩ := strs_of hyp
          rw [List.length_map] at hyl
          walk_at "g"
          refine w_tupL (.of eL) fun t H5 ht e5 k5 => ?_
          exact q H5 t zs ((D4.kp (M := []) (Kp.of k5) (by simp) (by simp)).mono (by omega)) ((x3.trans x4).trans (KX.of k5)) e5 ⟨by omega, hzs⟩ (by omega)
theorem ok_lpairs {f fM fD fL fI : Addr} {fd fdM fdD fdL fdI : FuncData} (T : Txt K mg) (F : Fun K "_law_pairs" "_law_pairs" s_law_pairs f fd) (D_law_mixed : Df K mg "_law_mixed" s_law_mixed ["_law_cell", "_law_turn"] fM fdM) (D_law_draw : Df K mg "_law_draw" s_law_draw ["_law_deck_here", "_law_many"] fD fdD) (D_law_label : Df K mg "_law_label" s_law_label ["_law_deck_here"] fL fdL) (D_law_int : Df K mg "_law_int" s_law_int ["_law_deck_here"] fI fdI) : FnOk P w K mg base CX0 4 f fd ["_law_deck_here"] spLPairs := by
  have G_law_draw : FnOk P w K mg base CX0 2 fD fdD ["_law_deck_here", "_law_many"] spDraw := ok_draw T D_law_draw.fn D_law_mixed
  have G_law_label : FnOk P w K mg base CX0 3 fL fdL ["_law_deck_here"] spLabel := ok_label T D_law_label.fn D_law_mixed D_law_draw
  have G_law_int : FnOk P w K mg base CX0 3 fI fdI ["_law_deck_here"] spLInt := ok_lint T D_law_int.fn D_law_mixed D_law_draw
  refine F.ok sc_law_pairs (fun vs H Q E h => ?_) (fun cdv A outer s H vs Q E hr h => ?_)
  · obtain ⟨d, c, n, rfl, _⟩ := h
    rfl
  · obtain ⟨d, c, n, rfl, D0, hn, q⟩ := h
    have hu := hu_of hr
    refine ⟨_,
      (pss_cons
        (ps_set (i := 1) sc_law_pairs.nd rfl (.inl rfl) pe_dnewK)
      (pss_cons
        (ps_for PassesOwn.never rfl (pi_range1 (by rfl) T.n_range (pa_cons (pe_call G_law_draw (hr.mono (by omega)) (by rfl) D_law_draw.g D_law_draw.fn.kp D_law_draw.b .nil pass0 (pa_cons (pv 0) (pa_cons pe_int pa_nil))) pa_nil)) (pg_name (i := 2) sc_law_pairs.nd rfl (.inl rfl))
          (pss_one
            (ps_dput hu (pv 1) (pe_call G_law_label (hr.mono (by omega)) (by rfl) D_law_label.g D_law_label.fn.kp D_law_label.b .nil pass0 (pa_cons (pv 0) pa_nil)) (pe_call G_law_int (hr.mono (by omega)) (by rfl) D_law_int.g D_law_int.fn.kp D_law_int.b .nil pass0 (pa_cons (pv 0) pa_nil)) rfl)))
      (pss_one
        (ps_ret (pe_callTy (r := rTupOf K) c_tupOf (by rfl) T.n_tuple (by decide +kernel) (pa_cons (pe_callB (r := rSortI) (c_sortI rfl hr.units) (by rfl) T.n_sorted (by decide +kernel) (pa_cons (pe_bm0 PySem.F.plainAttrs_dict PySem.F.slot_dict_items PySem.F.type_dict_items mt_itemsK (pv 1)) pa_nil)) pa_nil))))))
      , ?_⟩
    rw [show L2.start N_law_pairs [V.ref d] = [some (.ref d), none, none] from rfl]
    walk_at "x"
    refine w_new fun e H1 he e1 k1 => ?_
    have D1 : Deck H1 d c n := D0.kp (M := []) (Kp.of k1) (by simp) (by simp)
    obtain ⟨ed, ec⟩ := D0.ne1 he
    walk_at "g"
    refine w_draw D1 (by omega) (by decide) (by decide) fun many H2 hmany D2 o2 => ?_
    walk_at "g"
    try refine w_rng1' (by omega) (by omega) ?_
    refine lp_range (fun i σ H' => ∃ (y : Option V) (qs : List (Str × Int)), σ = [some (.ref d), some (.ref e), y] ∧ Deck H' d c (n + 1 + 14 * i) ∧ KX d H H' ∧ H' e = some (.dK (kvTI qs)) ∧ qs.length ≤ i ∧ (qs.map (·.1)).Nodup ∧ ∀ q ∈ qs, LabOk q.1 ∧ ∃ m : Nat, q.2 = m ∧ m ≤ TOP) ⟨_, [], rfl, D2, (KX.of k1).trans (D1.kx D2 o2), o2.get ed e1, by simp, by simp, by simp⟩ ?_ ?_
    · rintro i σ H3 hi ⟨y, qs, rfl, D3, x3, e3, hql, hnd, hqs⟩
      have hi3 : i < 3 := by omega
      walk_at "g"
      refine ⟨d, c, _, rfl, D3, by omega, fun H4 m hm D4 x4 => ?_⟩
      have e4 := x4.p _ _ (by simpa using ed) e3
      walk_at "g"
      refine ⟨d, c, _, rfl, D4, by omega, fun H5 z D5 k5 t5 hz => ?_⟩
      have e5 := k5 _ _ (by simpa using ed) e4
      have x5 := (x3.trans x4).trans (D4.kxK D5 k5)
      walk_at "g"
      refine w_dputS e5 (by unfold kvTI; rw [List.length_map]; exact small1kl (by omega)) fun H6 e6 o6 => ?_
      rw [putTI_kv] at e6
      walk_at "g"
      refine ⟨_, _, rfl, (D5.kp (M := [e]) (o6.kp (by simp)) (by simpa using ed.symm) (by simpa using ec.symm)).mono (by omega), x5.offN o6 he, e6, by have := putTI_len (qs := qs) (z := z) (v := (m : Int)); omega, putTI_nd hnd, fun q' hq' => ?_⟩
      rcases putTI_mem hq' with h | h
      · exact hqs q' h
      · rw [h]
        exact ⟨hz, m, rfl, hm⟩
    · rintro σ H3 ⟨y, qs, rfl, D3, x3, e3, hql, hnd, hqs⟩
      walk_at "g"
      refine w_bm0D ?_
      walk_at "g"
      refine w_tyDK e3 ?_
      refine w_itemsK e3 fun v H4 hv4 e4 k4 => ?_
      walk_at "g"
      refine w_sortI e4 (k4 _ _ e3) hnd fun H5 p ts k5 hp5 e5 hts hperm hsrt => ?_
      walk_at "g"
      refine w_tupL (.of e5) fun t H6 ht6 e6 k6 => ?_
      have k36 := Same.trans k4 (Same.trans k5 k6)
      have hval : ∀ b ∈ ts, LabOk b.2.1 ∧ ∃ m : Nat, b.2.2 = m ∧ m ≤ TOP := fun b hb => hqs b.2 (hperm.mem_iff.mp (List.mem_map_of_mem hb))
      refine q H6 t (ts.map fun b => (b.1, b.2.1, b.2.2.toNat)) ((D3.kp (M := []) (Kp.of k36) (by simp) (by simp)).mono (by omega)) (x3.trans (KX.of k36)) (by rw [e6, List.map_map]; rfl) (fun q' hq' => ?_) ?_ ?_ (fun q' hq' => ?_)
      · obtain ⟨b, hb, rfl⟩ := List.mem_map.mp hq'
        obtain ⟨_, m, em, _⟩ := hval b hb
        have := k6 _ _ (hts b hb)
        show H6 b.1 = some (.tup [.str b.2.1, .int ((b.2.2.toNat : Nat) : Int)])
        rw [this, em]
        rfl
      · have h1 := hperm.length_eq
        rw [List.length_map] at h1
        rw [List.length_map]
        omega
      · rw [List.pairwise_map]
        exact hsrt
      · obtain ⟨b, hb, rfl⟩ := List.mem_map.mp hq'
        obtain ⟨g1, m, em, hm⟩ := hval b hb
        exact ⟨g1, by show b.2.2.toNat ≤ TOP; rw [em]; exact hm⟩
theorem ok_lmarks {f fM fD fL fI : Addr} {fd fdM fdD fdL fdI : FuncData} (T : Txt K mg) (F : Fun K "_law_marks" "_law_marks" s_law_marks f fd) (D_law_mixed : Df K mg "_law_mixed" s_law_mixed ["_law_cell", "_law_turn"] fM fdM) (D_law_draw : Df K mg "_law_draw" s_law_draw ["_law_deck_here", "_law_many"] fD fdD) (D_law_label : Df K mg "_law_label" s_law_label ["_law_deck_here"] fL fdL) (D_law_int : Df K mg "_law_int" s_law_int ["_law_deck_here"] fI fdI) : FnOk P w K mg base CX0 4 f fd ["_law_deck_here"] spLMarks := by
  have G_law_draw : FnOk P w K mg base CX0 2 fD fdD ["_law_deck_here", "_law_many"] spDraw := ok_draw T D_law_draw.fn D_law_mixed
  have G_law_label : FnOk P w K mg base CX0 3 fL fdL ["_law_deck_here"] spLabel := ok_label T D_law_label.fn D_law_mixed D_law_draw
  have G_law_int : FnOk P w K mg base CX0 3 fI fdI ["_law_deck_here"] spLInt := ok_lint T D_law_int.fn D_law_mixed D_law_draw
  refine F.ok sc_law_marks (fun vs H Q E h => ?_) (fun cdv A outer s H vs Q E hr h => ?_)
  · obtain ⟨d, c, n, rfl, _⟩ := h
    rfl
  · obtain ⟨d, c, n, rfl, D0, hn, q⟩ := h
    refine ⟨_,
      (pss_one
        (ps_ret (pe_callTy (r := rTupOf K) c_tupOf (by rfl) T.n_tuple (by decide +kernel) (pa_cons (pe_lc (own := [("_law_k", 1)]) (g := (gName 1)) rfl sc_law_marks.nd (pi_range1 (by rfl) T.n_range (pa_cons (pe_call G_law_draw (hr.mono (by omega)) (by rfl) D_law_draw.g D_law_draw.fn.kp D_law_draw.b .nil pass0 (pa_cons (pv 0) (pa_cons pe_int pa_nil))) pa_nil)) (blkOk_by (own := [("_law_k", 1)]) (N := N_law_marks) (sc := defScope s_law_marks) (by decide +kernel)) (fun _ _ _ _ _ => (pg_name (i := 1) sc_law_marks.nd rfl (.inl rfl))) (fun _ _ _ _ _ => pts_nil) (fun _ _ _ _ _ => (pe_tup (pa_cons (pe_call G_law_label (hr.mono (by omega)) (by rfl) D_law_label.g D_law_label.fn.kp D_law_label.b .nil pass0 (pa_cons (pv 0) pa_nil)) (pa_cons (pe_call G_law_int (hr.mono (by omega)) (by rfl) D_law_int.g D_law_int.fn.kp D_law_int.b .nil pass0 (pa_cons (pv 0) pa_nil)) pa_nil))))) pa_nil))))
      , ?_⟩
    rw [show L2.start N_law_marks [V.ref d] = [some (.ref d), none] from rfl]
    walk_at "x"
    refine w_draw D0 (by omega) (by decide) (by decide) fun r H1 hr1 D1 o1 => ?_
    have hr4 : r < 4 := by omega
    have x1 := D0.kx D1 o1
    walk_at "g"
    refine lcp_dk (walk_range (lo := 0) (n := (r : Int).toNat)) D1 14 (fun y H' => ∃ e : El, ElAt H' y e ∧ e.ok ∧ e.kd = .pair) (by omega) (fun y H1 H2 k ⟨e, h1, h2, h3⟩ => ⟨e, h1.kt k, h2, h3⟩) ?_ ?_
    · rintro i x H3 H4 R hi x3 D3 ⟨rfl, rfl⟩ hR
      refine w_name ⟨rfl, ?_⟩
      walk_at "g"
      refine ⟨d, c, _, rfl, D3, by omega, fun H5 z D5 k5 t5 hz => ?_⟩
      walk_at "g"
      refine ⟨d, c, _, rfl, D5, by omega, fun H6 m hm D6 x6 => ?_⟩
      walk_at "g"
      refine w_new fun t H7 ht e7 k7 => ?_
      exact hR _ _ ⟨.pair z m, ⟨t, rfl, e7⟩, ⟨hz, hm⟩, rfl⟩ (((D3.kxK D5 k5).trans x6).trans (KX.of k7)) ((D6.kp (M := []) (Kp.of k7) (by simp) (by simp)).mono (by omega))
    · intro L H3 ys hyl hyp hL x3 D3 eL
      obtain ⟨as, rfl, has⟩ := pick_of (fun y e => ElAt H3 y e ∧ e.ok ∧ e.kd = .pair) hyp
      rw [List.length_map] at hyl
      walk_at "g"
      refine w_tupL (.of eL) fun t H4 ht e4 k4 => ?_
      exact q H4 t as ((D3.kp (M := []) (Kp.of k4) (by simp) (by simp)).mono (by omega)) ((x1.trans x3).trans (KX.of k4)) e4 (fun q' hq' => ⟨(has q' hq').1.kt (KT.of k4), (has q' hq').2⟩) (by omega)
theorem ok_lpieces {f fM fD fR fT fI : Addr} {fd fdM fdD fdR fdT fdI : FuncData} (T : Txt K mg) (F : Fun K "_law_pieces" "_law_pieces" s_law_pieces f fd) (D_law_mixed : Df K mg "_law_mixed" s_law_mixed ["_law_cell", "_law_turn"] fM fdM) (D_law_draw : Df K mg "_law_draw" s_law_draw ["_law_deck_here", "_law_many"] fD fdD) (D_law_text : Df K mg "_law_text" s_law_text ["_law_deck_here", "_law_size"] fT fdT) (D_law_leaf_rows : Df K mg "_law_leaf_rows" s_law_leaf_rows ["_law_deck_here", "_law_low"] fR fdR) (D_law_int : Df K mg "_law_int" s_law_int ["_law_deck_here"] fI fdI) : FnOk P w K mg base CX0 5 f fd ["_law_deck_here"] spLPieces := by
  have G_law_draw : FnOk P w K mg base CX0 2 fD fdD ["_law_deck_here", "_law_many"] spDraw := ok_draw T D_law_draw.fn D_law_mixed
  have G_law_leaf_rows : FnOk P w K mg base CX0 4 fR fdR ["_law_deck_here", "_law_low"] spLLeaf := ok_lleaf T D_law_leaf_rows.fn D_law_mixed D_law_draw D_law_text
  have G_law_int : FnOk P w K mg base CX0 3 fI fdI ["_law_deck_here"] spLInt := ok_lint T D_law_int.fn D_law_mixed D_law_draw
  refine F.ok sc_law_pieces (fun vs H Q E h => ?_) (fun cdv A outer s H vs Q E hr h => ?_)
  · obtain ⟨d, c, n, rfl, _⟩ := h
    rfl
  · obtain ⟨d, c, n, rfl, D0, hn, q⟩ := h
    refine ⟨_,
      (pss_cons
        (ps_set (i := 1) sc_law_pieces.nd rfl (.inl rfl) (pe_lst pa_nil))
      (pss_cons
        (ps_for PassesOwn.never rfl (pi_range1 (by rfl) T.n_range (pa_cons (pe_call G_law_draw (hr.mono (by omega)) (by rfl) D_law_draw.g D_law_draw.fn.kp D_law_draw.b .nil pass0 (pa_cons (pv 0) (pa_cons pe_int pa_nil))) pa_nil)) (pg_name (i := 2) sc_law_pieces.nd rfl (.inl rfl))
          (pss_one
            (ps_if (pt_cmpR op_eq (pe_call G_law_draw (hr.mono (by omega)) (by rfl) D_law_draw.g D_law_draw.fn.kp D_law_draw.b .nil pass0 (pa_cons (pv 0) (pa_cons pe_int pa_nil))) pe_int (nomark _))
              (pss_one
                (ps_expr (pe_bm PySem.F.plainAttrs_list PySem.F.slot_list_append PySem.F.type_list_append mt_append (pv 1) (pa_cons (pe_tup (pa_cons pe_str (pa_cons (pe_call G_law_int (hr.mono (by omega)) (by rfl) D_law_int.g D_law_int.fn.kp D_law_int.b .nil pass0 (pa_cons (pv 0) pa_nil)) (pa_cons (pe_callB (c_max2 rfl) (by rfl) T.n_max (by decide +kernel) (pa_cons pe_int (pa_cons (pe_call G_law_int (hr.mono (by omega)) (by rfl) D_law_int.g D_law_int.fn.kp D_law_int.b .nil pass0 (pa_cons (pv 0) pa_nil)) pa_nil))) pa_nil)))) pa_nil))))
              (pss_one
                (ps_expr (pe_bm PySem.F.plainAttrs_list PySem.F.slot_list_append PySem.F.type_list_append mt_append (pv 1) (pa_cons (pe_tup (pa_cons pe_str (pa_cons (pe_call G_law_leaf_rows (hr.mono (by omega)) (by rfl) D_law_leaf_rows.g D_law_leaf_rows.fn.kp D_law_leaf_rows.b .nil pass0 (pa_cons (pv 0) (pa_cons pe_int pa_nil))) pa_nil))) pa_nil)))))))
      (pss_one
        (ps_ret (pe_callTy (r := rTupOf K) c_tupOf (by rfl) T.n_tuple (by decide +kernel) (pa_cons (pv 1) pa_nil))))))
      , ?_⟩
    rw [show L2.start N_law_pieces [V.ref d] = [some (.ref d), none, none] from rfl]
    walk_at "x"
    refine w_new fun l H1 hl e1 k1 => ?_
    have D1 : Deck H1 d c n := D0.kp (M := []) (Kp.of k1) (by simp) (by simp)
    obtain ⟨ld, lc⟩ := D0.ne1 hl
    walk_at "g"
    refine w_draw D1 (by omega) (by decide) (by decide) fun many H2 hmany D2 o2 => ?_
    walk_at "g"
    try refine w_rng1' (by omega) (by omega) ?_
    refine lp_range (fun i σ H' => ∃ (y : Option V) (as : List (V × El)), σ = [some (.ref d), some (.ref l), y] ∧ Deck H' d c (n + 1 + 2001 * i) ∧ KX d H H' ∧ H' l = some (.lst (as.map (·.1))) ∧ as.length ≤ i ∧ ∀ q ∈ as, ElAt H' q.1 q.2 ∧ q.2.ok ∧ q.2.kd = .piece) ⟨_, [], rfl, D2, (KX.of k1).trans (D1.kx D2 o2), o2.get ld e1, by simp, by simp⟩ ?_ ?_
    · rintro i σ H3 hi ⟨y, as, rfl, D3, x3, e3, hal, has⟩
      have hi3 : i < 3 := by omega
      have fin : ∀ {H4 H5 H6 : Hp} {t : Addr} {e : El} {y : Option V}, KX d H3 H4 → Deck H4 d c (n + 1 + 2001 * (i + 1)) → Same H4 H5 → ElAt H5 (.ref t) e → e.ok → e.kd = .piece → H6 l = some (.lst (as.map (·.1) ++ [.ref t])) → Off l H5 H6 → ∃ (y' : Option V) (as' : List (V × El)), [some (.ref d), some (.ref l), y] = [some (.ref d), some (.ref l), y'] ∧ Deck H6 d c (n + 1 + 2001 * (i + 1)) ∧ KX d H H6 ∧ H6 l = some (.lst (as'.map (·.1))) ∧ as'.length ≤ i + 1 ∧ ∀ q ∈ as', ElAt H6 q.1 q.2 ∧ q.2.ok ∧ q.2.kd = .piece := fun {H4 H5 H6 t e y} x4 D4 k5 he hok hkd e6 o6 => by
        have e5 : H5 l = some (.lst (as.map (·.1))) := k5 _ _ (x4.p _ _ (by simpa using ld) e3)
        have t6 : KT H5 H6 := KT.offN o6 e5
        refine ⟨y, as ++ [(.ref t, e)], rfl, (D4.kp (M := []) (Kp.of k5) (by simp) (by simp)).kp (M := [l]) (o6.kp (by simp)) (by simpa using ld.symm) (by simpa using lc.symm), ((x3.trans x4).trans (KX.of k5)).offN o6 hl, by rw [e6, List.map_append]; rfl, by rw [List.length_append]; show as.length + 1 ≤ _; omega, fun q' hq' => ?_⟩
        rcases List.mem_append.mp hq' with h | h
        · obtain ⟨g1, g2⟩ := has q' h
          exact ⟨((g1.kt x4.t).kt (KT.of k5)).kt t6, g2⟩
        · have e : q' = (.ref t, e) := by simpa using h
          rw [e]
          exact ⟨he.kt t6, hok, hkd⟩
      walk_at "g"
      refine w_draw D3 (by omega) (by decide) (by decide) fun r H4 hr4 D4 o4 => ?_
      have x4 := D3.kx D4 o4
      have el4 := x4.p _ _ (by simpa using ld) e3
      walk_at "g"
      refine w_ite (fun h => ?_) (fun h => ?_)
      · walk_at "g"
        refine ⟨d, c, _, rfl, D4, by omega, fun H5 m hm D5 x5 => ?_⟩
        walk_at "g"
        refine ⟨d, c, _, rfl, D5, by omega, fun H6 m2 hm2 D6 x6 => ?_⟩
        walk_at "g"
        have emx : V.int (if (m2 : Int) > 1 then (m2 : Int) else 1) = nV (max 1 m2) := by
          show V.int _ = V.int _
          congr 1
          split <;> omega
        rw [emx]
        refine w_new fun t H7 ht e7 k7 => ?_
        have x6' := (x4.trans x5).trans x6
        have el7 := k7 _ _ (x6'.p _ _ (by simpa using ld) e3)
        walk_at "g"
        refine w_app el7 (by rw [List.length_map]; exact small1kl (by omega)) fun H8 e8 o8 => ?_
        walk_at "g"
        exact fin x6' (D6.mono (by omega)) k7 (e := .take m (max 1 m2)) ⟨t, rfl, e7⟩ ⟨hm, by unfold TOP at *; omega, by omega⟩ rfl e8 o8
      · walk_at "g"
        refine ⟨d, c, _, 1, rfl, D4, by omega, by omega, fun H5 r5 rs D5 x5 e5 hrs hl1 => ?_⟩
        walk_at "g"
        refine w_new fun t H7 ht e7 k7 => ?_
        have x6' := x4.trans x5
        have el7 := k7 _ _ (x6'.p _ _ (by simpa using ld) e3)
        walk_at "g"
        refine w_app el7 (by rw [List.length_map]; exact small1kl (by omega)) fun H8 e8 o8 => ?_
        walk_at "g"
        exact fin x6' (D5.mono (by omega)) k7 (e := .put rs) ⟨t, r5, rfl, e7, k7 _ _ e5⟩ ⟨hrs, hl1⟩ rfl e8 o8
    · rintro σ H3 ⟨y, as, rfl, D3, x3, e3, hal, has⟩
      walk_at "g"
      refine w_tupL (.of e3) fun t H4 ht e4 k4 => ?_
      exact q H4 t as ((D3.kp (M := []) (Kp.of k4) (by simp) (by simp)).mono (by omega)) (x3.trans (KX.of k4)) e4 (fun q' hq' => ⟨(has q' hq').1.kt (KT.of k4), (has q' hq').2⟩) (by omega)
end
/-! ### drawn packs and rows -/
def spLPack : Sp := fun vs H Q _ => ∃ (d c : Addr) (n r : Nat), vs = [.ref d, nV r] ∧ Deck H d c n ∧ n + 8000 ≤ MOSTD ∧ r ≤ 3 ∧ ∀ H' v p, Deck H' d c (n + 8000) → KX d H H' → PkAt H' v p → p.ok → Q v H'
def spLRow : Sp := fun vs H Q _ => ∃ (d c : Addr) (n r : Nat), vs = [.ref d, nV r] ∧ Deck H d c n ∧ n + 9000 ≤ MOSTD ∧ r ≤ 12 ∧ ∀ H' t i rw as, Deck H' d c (n + 9000) → KX d H H' → RowAt H' t i rw as → Q (.ref t) H'
theorem Deck.nx {H H' : Hp} {d c : Addr} {n m : Nat} (D : Deck H d c n) (k : Same H H') (h : n ≤ m) : Deck H' d c m := (D.kp (M := []) (Kp.of k) (by simp) (by simp)).mono h
/-- no form ahead of i is met -/
def ahead (i : Nat) (rw : Str) (n : Nat) : Bool := (FORM.take i).all fun f => decide (n ≠ f.2.length) || decide (rw ≠ f.1)
theorem Fits.of {i : Nat} {rw : Str} {as : List Ar} {ks : List KK} (h1 : FORM[i]? = some (rw, ks)) (h2 : as.length = ks.length) (h3 : ahead i rw as.length = true) (h4 : ∀ (j : Nat) (k : KK) (a : Ar), ks[j]? = some k → as[j]? = some a → fit k a) : Fits i rw as := by
  refine ⟨⟨ks, h1, h2, h4⟩, fun j f hj hf => .inl ?_⟩
  have h5 := List.all_eq_true.mp h3 f (List.mem_of_getElem? (i := j) (by rw [List.getElem?_take, if_pos hj]; exact hf))
  rcases Bool.or_eq_true _ _ |>.mp h5 with h | h
  · exact .inl (of_decide_eq_true h)
  · exact .inr (of_decide_eq_true h)
theorem fit0 : ∀ (j : Nat) (k : KK) (a : Ar), ([] : List KK)[j]? = some k → ([] : List Ar)[j]? = some a → fit k a := fun j k a h => (by cases h)
theorem fitC {k : KK} {a : Ar} {ks : List KK} {as : List Ar} (h : fit k a) (h2 : ∀ (j : Nat) (k : KK) (a : Ar), ks[j]? = some k → as[j]? = some a → fit k a) : ∀ (j : Nat) (k' : KK) (a' : Ar), (k :: ks)[j]? = some k' → (a :: as)[j]? = some a' → fit k' a'
  | 0, _, _, e1, e2 => by cases e1; cases e2; exact h
  | j + 1, k', a', e1, e2 => h2 j k' a' e1 e2
theorem fitInts (ns : List Nat) : fit .ints (.lst (ns.map El.int)) := ⟨.int, rfl, fun e he => by
  obtain ⟨n, _, rfl⟩ := List.mem_map.mp he
  rfl⟩
theorem fitInt (n : Nat) : fit .int (.one (.int n)) := rfl
def Good (H : Hp) (v : V) (a : Ar) : Prop := ArAt H v a ∧ a.ok
theorem Good.kt {H H' : Hp} {v : V} {a : Ar} (h : Good H v a) (k : KT H H') : Good H' v a := ⟨h.1.kt k, h.2⟩
theorem goodInt {H : Hp} {n : Nat} (h : n ≤ TOP) : Good H (nV n) (.one (.int n)) := ⟨rfl, h⟩
theorem goodInts {H : Hp} {t : Addr} {ns : List Nat} (e : H t = some (.tup (ns.map nV))) (h1 : ns.length ≤ 4) (h2 : ∀ m ∈ ns, m ≤ TOP) : Good H (.ref t) (.lst (ns.map El.int)) := by
  refine ⟨⟨t, ns.map fun n => (nV n, El.int n), rfl, by rw [e, List.map_map]; rfl, by rw [List.map_map]; rfl, fun q hq => ?_⟩, by rw [List.length_map]; omega, fun x hx => ?_⟩
  · obtain ⟨n, _, rfl⟩ := List.mem_map.mp hq
    rfl
  · obtain ⟨n, hn, rfl⟩ := List.mem_map.mp hx
    exact h2 n hn
theorem goodEls {H : Hp} {t : Addr} {as : List (V × El)} {k : Kd} (e : H t = some (.tup (as.map (·.1)))) (h1 : as.length ≤ 4) (h2 : ∀ q ∈ as, ElAt H q.1 q.2 ∧ q.2.ok ∧ q.2.kd = k) : Good H (.ref t) (.lst (as.map (·.2))) := by
  refine ⟨⟨t, as, rfl, e, rfl, fun q hq => (h2 q hq).1⟩, by rw [List.length_map]; omega, fun x hx => ?_⟩
  obtain ⟨q, hq, rfl⟩ := List.mem_map.mp hx
  exact (h2 q hq).2.1
theorem fitEls {k : KK} {d : Kd} {as : List (V × El)} (hk : k.each = some d) (h : ∀ q ∈ as, q.2.kd = d) : fit k (.lst (as.map (·.2))) := ⟨d, hk, fun e he => by
  obtain ⟨q, hq, rfl⟩ := List.mem_map.mp he
  exact h q hq⟩
theorem RowAt.mk0 {H : Hp} {t : Addr} {i : Nat} {rw : Str} (as : List (V × Ar)) (e : H t = some (.tup (.str rw :: as.map (·.1)))) (h : ∀ q ∈ as, Good H q.1 q.2) (f : Fits i rw (as.map (·.2))) : RowAt H t i rw as := ⟨e, h, f⟩
theorem nat_ints {ns : List Nat} : ∀ {ys : List Int}, (∀ y ∈ ys, ∃ m : Nat, y = (m : Int) ∧ m ∈ ns) → ∃ ms : List Nat, ys = ms.map (fun n : Nat => (n : Int)) ∧ ∀ m ∈ ms, m ∈ ns
  | [], _ => ⟨[], rfl, by simp⟩
  | y :: ys, hys => by
    obtain ⟨m, rfl, hm⟩ := hys y (by simp)
    obtain ⟨ms, rfl, hms⟩ := nat_ints fun y hy => hys y (List.mem_cons_of_mem _ hy)
    exact ⟨m :: ms, rfl, fun x hx => by
      rcases List.mem_cons.mp hx with rfl | hx
      · exact hm
      · exact hms x hx⟩
theorem nodup_le : ∀ (ks vs : List Int), ks.Nodup → (∀ x ∈ ks, x ∈ vs) → ks.length ≤ vs.length
  | [], _, _, _ => Nat.zero_le _
  | k :: ks, vs, h, hs => by
    rw [List.nodup_cons] at h
    have hk := hs k (by simp)
    have ih := nodup_le ks (vs.erase k) h.2 fun x hx => (List.mem_erase_of_ne (fun z => h.1 (by rw [← z]; exact hx))).mpr (hs x (by simp [hx]))
    rw [List.length_erase_of_mem hk] at ih
    have : 0 < vs.length := List.length_pos_of_mem hk
    rw [List.length_cons]
    omega
structure FoundAt (H : Hp) (f : Addr) (ks : List Int) : Prop where
  at' : ∃ fk, H f = some (.dK fk) ∧ fk.map (·.1) = ks.map (Sum.inl : Int → Key)
  nd : ks.Nodup
theorem nat_nodup_le (xs ys : List Nat) (nd : xs.Nodup) (h : ∀ x ∈ xs, x ∈ ys) : xs.length ≤ ys.length := by
  have := nodup_le (xs.map fun n : Nat => (n : Int)) (ys.map fun n : Nat => (n : Int)) (by
    unfold List.Nodup at *
    rw [List.pairwise_map]
    exact nd.imp fun {a b} h z => h (by omega)) fun x hx => by
    obtain ⟨y, hy, rfl⟩ := List.mem_map.mp hx
    exact List.mem_map.mpr ⟨y, h y hy, rfl⟩
  simpa using this
section
variable {P : Program} {w : World} {K : PySem.W.Frag} {mg : Str → Option Value} {base : Heap}
theorem ok_lpack {f fM fD fR fT fI fJ fL fP fG : Addr} {fd fdM fdD fdR fdT fdI fdJ fdL fdP fdG : FuncData} (T : Txt K mg) (F : Fun K "_law_pack" "_law_pack" s_law_pack f fd) (D_law_mixed : Df K mg "_law_mixed" s_law_mixed ["_law_cell", "_law_turn"] fM fdM) (D_law_draw : Df K mg "_law_draw" s_law_draw ["_law_deck_here", "_law_many"] fD fdD) (D_law_text : Df K mg "_law_text" s_law_text ["_law_deck_here", "_law_size"] fT fdT) (D_law_leaf_rows : Df K mg "_law_leaf_rows" s_law_leaf_rows ["_law_deck_here", "_law_low"] fR fdR) (D_law_int : Df K mg "_law_int" s_law_int ["_law_deck_here"] fI fdI) (D_law_ints : Df K mg "_law_ints" s_law_ints ["_law_deck_here"] fJ fdJ) (D_law_label : Df K mg "_law_label" s_law_label ["_law_deck_here"] fL fdL) (D_law_pairs : Df K mg "_law_pairs" s_law_pairs ["_law_deck_here"] fP fdP) (D_law_pieces : Df K mg "_law_pieces" s_law_pieces ["_law_deck_here"] fG fdG) : FnOk P w K mg base CX0 6 f fd ["_law_deck_here", "_law_turn"] spLPack := by
  have G_law_leaf_rows : FnOk P w K mg base CX0 4 fR fdR ["_law_deck_here", "_law_low"] spLLeaf := ok_lleaf T D_law_leaf_rows.fn D_law_mixed D_law_draw D_law_text
  have G_law_int : FnOk P w K mg base CX0 3 fI fdI ["_law_deck_here"] spLInt := ok_lint T D_law_int.fn D_law_mixed D_law_draw
  have G_law_ints : FnOk P w K mg base CX0 4 fJ fdJ ["_law_deck_here"] spLInts := ok_lints T D_law_ints.fn D_law_mixed D_law_draw D_law_int
  have G_law_pairs : FnOk P w K mg base CX0 4 fP fdP ["_law_deck_here"] spLPairs := ok_lpairs T D_law_pairs.fn D_law_mixed D_law_draw D_law_label D_law_int
  have G_law_pieces : FnOk P w K mg base CX0 5 fG fdG ["_law_deck_here"] spLPieces := ok_lpieces T D_law_pieces.fn D_law_mixed D_law_draw D_law_text D_law_leaf_rows D_law_int
  refine F.ok sc_law_pack (fun vs H Q E h => ?_) (fun cdv A outer s H vs Q E hr h => ?_)
  · obtain ⟨d, c, n, r, rfl, _⟩ := h
    rfl
  · obtain ⟨d, c, n, r, rfl, D0, hn, hr3, q⟩ := h
    refine ⟨_,
      (pss_cons
        (ps_if (pt_cmpR op_eq (pv 1) pe_int (nomark _))
          (pss_one
            (ps_ret (pe_tup (pa_cons (pe_call G_law_int (hr.mono (by omega)) (by rfl) D_law_int.g D_law_int.fn.kp D_law_int.b .nil pass0 (pa_cons (pv 0) pa_nil)) (pa_cons pe_str (pa_cons (pe_tup (pa_cons pe_str (pa_cons (pe_call G_law_leaf_rows (hr.mono (by omega)) (by rfl) D_law_leaf_rows.g D_law_leaf_rows.fn.kp D_law_leaf_rows.b .nil pass0 (pa_cons (pv 0) (pa_cons pe_int pa_nil))) pa_nil))) pa_nil))))))
          pss_nil)
      (pss_cons
        (ps_if (pt_cmpR op_eq (pv 1) pe_int (nomark _))
          (pss_one
            (ps_ret (pe_tup (pa_cons (pe_call G_law_int (hr.mono (by omega)) (by rfl) D_law_int.g D_law_int.fn.kp D_law_int.b .nil pass0 (pa_cons (pv 0) pa_nil)) (pa_cons pe_str (pa_cons (pe_tup (pa_cons pe_str (pa_cons (pe_call G_law_pairs (hr.mono (by omega)) (by rfl) D_law_pairs.g D_law_pairs.fn.kp D_law_pairs.b .nil pass0 (pa_cons (pv 0) pa_nil)) pa_nil))) pa_nil))))))
          pss_nil)
      (pss_cons
        (ps_if (pt_cmpR op_eq (pv 1) pe_int (nomark _))
          (pss_cons
            (ps_set (i := 2) sc_law_pack.nd rfl (.inl rfl) (pe_callTy (r := rTupOf K) c_tupOf (by rfl) T.n_tuple (by decide +kernel) (pa_cons (pe_callB (r := rSortS w) (c_sortS rfl) (by rfl) T.n_sorted (by decide +kernel) (pa_cons (pe_callTy (r := rSetT K w) (c_setT rfl) (by rfl) T.n_set (by decide +kernel) (pa_cons (pe_call G_law_ints (hr.mono (by omega)) (by rfl) D_law_ints.g D_law_ints.fn.kp D_law_ints.b .nil pass0 (pa_cons (pv 0) pa_nil)) pa_nil)) pa_nil)) pa_nil)))
          (pss_one
            (ps_ret (pe_tup (pa_cons (pe_call G_law_int (hr.mono (by omega)) (by rfl) D_law_int.g D_law_int.fn.kp D_law_int.b .nil pass0 (pa_cons (pv 0) pa_nil)) (pa_cons pe_str (pa_cons (pe_tup (pa_cons pe_str (pa_cons (pv 2) (pa_cons (pe_call G_law_int (hr.mono (by omega)) (by rfl) D_law_int.g D_law_int.fn.kp D_law_int.b .nil pass0 (pa_cons (pv 0) pa_nil)) (pa_cons (pe_call G_law_int (hr.mono (by omega)) (by rfl) D_law_int.g D_law_int.fn.kp D_law_int.b .nil pass0 (pa_cons (pv 0) pa_nil)) pa_nil))))) pa_nil)))))))
          pss_nil)
      (pss_one
        (ps_ret (pe_tup (pa_cons (pe_call G_law_int (hr.mono (by omega)) (by rfl) D_law_int.g D_law_int.fn.kp D_law_int.b .nil pass0 (pa_cons (pv 0) pa_nil)) (pa_cons pe_str (pa_cons (pe_call G_law_int (hr.mono (by omega)) (by rfl) D_law_int.g D_law_int.fn.kp D_law_int.b .nil pass0 (pa_cons (pv 0) pa_nil)) (pa_cons (pe_call G_law_pieces (hr.mono (by omega)) (by rfl) D_law_pieces.g D_law_pieces.fn.kp D_law_pieces.b .nil pass0 (pa_cons (pv 0) pa_nil)) pa_nil))))))))))
      , ?_⟩
    rw [show L2.start N_law_pack [V.ref d, nV r] = [some (.ref d), some (nV r), none] from rfl]
    refine w_seq ?_
    walk_at "x"
    refine w_ite (fun h => ?_) (fun h => ?_)
    · walk_at "g"
      refine ⟨d, c, _, rfl, D0, by omega, fun H1 m hm D1 x1 => ?_⟩
      walk_at "g"
      refine ⟨d, c, _, 0, rfl, D1, by omega, by omega, fun H2 t rs D2 x2 e2 hrs _ => ?_⟩
      walk_at "g"
      refine w_new fun u H3 hu e3 k3 => ?_
      walk_at "g"
      refine w_new fun v H4 hv e4 k4 => ?_
      exact q H4 _ (.plain m (.leaf rs)) (D2.nx (Same.trans k3 k4) (by omega)) ((x1.trans x2).trans (KX.of (Same.trans k3 k4))) ⟨v, _, rfl, e4, u, t, rfl, k4 _ _ e3, k4 _ _ (k3 _ _ e2)⟩ ⟨hm, hrs⟩
    · walk_at "g"
      refine w_seq ?_
      walk_at "g"
      refine w_ite (fun h => ?_) (fun h => ?_)
      · walk_at "g"
        refine ⟨d, c, _, rfl, D0, by omega, fun H1 m hm D1 x1 => ?_⟩
        walk_at "g"
        refine ⟨d, c, _, rfl, D1, by omega, fun H2 t as D2 x2 e2 has hal hup hok => ?_⟩
        walk_at "g"
        refine w_new fun u H3 hu e3 k3 => ?_
        walk_at "g"
        refine w_new fun v H4 hv e4 k4 => ?_
        refine q H4 _ (.plain m (.tree (as.map (·.2)))) (D2.nx (Same.trans k3 k4) (by omega)) ((x1.trans x2).trans (KX.of (Same.trans k3 k4))) ⟨v, _, rfl, e4, u, t, as, rfl, k4 _ _ e3, k4 _ _ (k3 _ _ e2), rfl, fun q' hq' => k4 _ _ (k3 _ _ (has q' hq'))⟩ ⟨hm, by rw [List.length_map]; omega, fun q' hq' => ?_, ?_⟩
        · obtain ⟨p, hp, rfl⟩ := List.mem_map.mp hq'
          exact hok p hp
        · rw [List.map_map, List.pairwise_map]
          exact hup
      · walk_at "g"
        refine w_seq ?_
        walk_at "g"
        refine w_ite (fun h => ?_) (fun h => ?_)
        · walk_at "g"
          refine ⟨d, c, _, rfl, D0, by omega, fun H1 t ns D1 x1 e1 hnl hns => ?_⟩
          walk_at "g"
          refine w_setOfT (ns := ns.map fun n : Nat => (n : Int)) (.of (by rw [e1, List.map_map]; rfl)) (by rw [List.length_map]; omega) fun p cn H2 hp hcn e2 k2 => ?_
          rw [List.length_map] at hcn
          walk_at "g"
          refine w_sortS e2 (by omega) fun ys l H3 hup hmem hl e3 k3 => ?_
          walk_at "g"
          refine w_tupL (.of e3) fun t2 H4 ht2 e4 k4 => ?_
          have k14 := Same.trans k2 (Same.trans k3 k4)
          have hys : ∀ y ∈ ys, ∃ m : Nat, y = (m : Int) ∧ m ∈ ns := fun y hy => by
            have := of_decide_eq_true ((hmem y).mp hy)
            obtain ⟨m, hm, e⟩ := List.mem_map.mp this
            exact ⟨m, e.symm, hm⟩
          obtain ⟨ms, rfl, hms⟩ := nat_ints hys
          have hup2 : ms.Pairwise (· < ·) := by
            rw [List.pairwise_map] at hup
            exact hup.imp fun h => by omega
          have hml : ms.length ≤ 4 := by
            have := nat_nodup_le ms ns (hup2.imp (fun h => Nat.ne_of_lt h)) hms
            omega
          have D4 := D1.nx k14 (Nat.le_refl _)
          walk_at "g"
          refine ⟨d, c, _, rfl, D4, by omega, fun H5 m5 hm5 D5 x5 => ?_⟩
          walk_at "g"
          refine ⟨d, c, _, rfl, D5, by omega, fun H6 m6 hm6 D6 x6 => ?_⟩
          walk_at "g"
          refine ⟨d, c, _, rfl, D6, by omega, fun H7 m7 hm7 D7 x7 => ?_⟩
          walk_at "g"
          refine w_new fun u H8 hu e8 k8 => ?_
          walk_at "g"
          refine w_new fun v H9 hv e9 k9 => ?_
          have x47 := (x5.trans x6).trans x7
          have e47 := k9 _ _ (k8 _ _ (x47.t _ _ e4))
          rw [List.map_map] at e47
          exact q H9 _ (.plain m5 (.ver ms m6 m7)) (D7.nx (Same.trans k8 k9) (by omega)) (((x1.trans (KX.of k14)).trans x47).trans (KX.of (Same.trans k8 k9))) ⟨v, _, rfl, e9, u, t2, rfl, k9 _ _ e8, e47⟩ ⟨hm5, hml, hup2, fun x hx => hns x (hms x hx), hm6, hm7⟩
        · walk_at "g"
          refine ⟨d, c, _, rfl, D0, by omega, fun H1 m hm D1 x1 => ?_⟩
          walk_at "g"
          refine ⟨d, c, _, rfl, D1, by omega, fun H2 m2 hm2 D2 x2 => ?_⟩
          walk_at "g"
          refine ⟨d, c, _, rfl, D2, by omega, fun H3 t as D3 x3 e3 has hal => ?_⟩
          walk_at "g"
          refine w_new fun v H4 hv e4 k4 => ?_
          refine q H4 _ (.over m m2 (as.map (·.2))) (D3.nx k4 (by omega)) (((x1.trans x2).trans x3).trans (KX.of k4)) ⟨v, t, as, rfl, e4, k4 _ _ e3, rfl, fun q' hq' => (has q' hq').1.kt (KT.of k4)⟩ ⟨hm, hm2, by rw [List.length_map]; omega, fun x hx => ?_⟩
          obtain ⟨q', hq', rfl⟩ := List.mem_map.mp hx
          exact (has q' hq').2
theorem ok_lrow {f fM fD fR fT fI fJ fL fP fG fK fH : Addr} {fd fdM fdD fdR fdT fdI fdJ fdL fdP fdG fdK fdH : FuncData} (T : Txt K mg) (F : Fun K "_law_row" "_law_row" s_law_row f fd) (D_law_mixed : Df K mg "_law_mixed" s_law_mixed ["_law_cell", "_law_turn"] fM fdM) (D_law_draw : Df K mg "_law_draw" s_law_draw ["_law_deck_here", "_law_many"] fD fdD) (D_law_text : Df K mg "_law_text" s_law_text ["_law_deck_here", "_law_size"] fT fdT) (D_law_leaf_rows : Df K mg "_law_leaf_rows" s_law_leaf_rows ["_law_deck_here", "_law_low"] fR fdR) (D_law_int : Df K mg "_law_int" s_law_int ["_law_deck_here"] fI fdI) (D_law_ints : Df K mg "_law_ints" s_law_ints ["_law_deck_here"] fJ fdJ) (D_law_label : Df K mg "_law_label" s_law_label ["_law_deck_here"] fL fdL) (D_law_pairs : Df K mg "_law_pairs" s_law_pairs ["_law_deck_here"] fP fdP) (D_law_marks : Df K mg "_law_marks" s_law_marks ["_law_deck_here"] fK fdK) (D_law_pieces : Df K mg "_law_pieces" s_law_pieces ["_law_deck_here"] fG fdG) (D_law_pack : Df K mg "_law_pack" s_law_pack ["_law_deck_here", "_law_turn"] fH fdH) : FnOk P w K mg base CX0 7 f fd ["_law_deck_here", "_law_turn"] spLRow := by
  have G_law_draw : FnOk P w K mg base CX0 2 fD fdD ["_law_deck_here", "_law_many"] spDraw := ok_draw T D_law_draw.fn D_law_mixed
  have G_law_label : FnOk P w K mg base CX0 3 fL fdL ["_law_deck_here"] spLabel := ok_label T D_law_label.fn D_law_mixed D_law_draw
  have G_law_int : FnOk P w K mg base CX0 3 fI fdI ["_law_deck_here"] spLInt := ok_lint T D_law_int.fn D_law_mixed D_law_draw
  have G_law_ints : FnOk P w K mg base CX0 4 fJ fdJ ["_law_deck_here"] spLInts := ok_lints T D_law_ints.fn D_law_mixed D_law_draw D_law_int
  have G_law_marks : FnOk P w K mg base CX0 4 fK fdK ["_law_deck_here"] spLMarks := ok_lmarks T D_law_marks.fn D_law_mixed D_law_draw D_law_label D_law_int
  have G_law_pack : FnOk P w K mg base CX0 6 fH fdH ["_law_deck_here", "_law_turn"] spLPack := ok_lpack T D_law_pack.fn D_law_mixed D_law_draw D_law_text D_law_leaf_rows D_law_int D_law_ints D_law_label D_law_pairs D_law_pieces
  refine F.ok sc_law_row (fun vs H Q E h => ?_) (fun cdv A outer s H vs Q E hr h => ?_)
  · obtain ⟨d, c, n, r, rfl, _⟩ := h
    rfl
  · obtain ⟨d, c, n, r, rfl, D0, hn, hr12, q⟩ := h
    refine ⟨_,
      (pss_cons
        (ps_if (pt_cmpR op_eq (pv 1) pe_int (nomark _))
          (pss_one
            (ps_ret (pe_tup (pa_cons (pe_ix (r := rIxL K) ix_list (pe_lst (pa_cons pe_str (pa_cons pe_str pa_nil))) (pe_call G_law_draw (hr.mono (by omega)) (by rfl) D_law_draw.g D_law_draw.fn.kp D_law_draw.b .nil pass0 (pa_cons (pv 0) (pa_cons pe_int pa_nil))) (fun _ _ => rfl)) pa_nil))))
          pss_nil)
      (pss_cons
        (ps_if (pt_cmpR op_eq (pv 1) pe_int (nomark _))
          (pss_one
            (ps_ret (pe_tup (pa_cons pe_str (pa_cons (pe_call G_law_ints (hr.mono (by omega)) (by rfl) D_law_ints.g D_law_ints.fn.kp D_law_ints.b .nil pass0 (pa_cons (pv 0) pa_nil)) pa_nil)))))
          pss_nil)
      (pss_cons
        (ps_if (pt_cmpR op_eq (pv 1) pe_int (nomark _))
          (pss_one
            (ps_ret (pe_tup (pa_cons pe_str (pa_cons (pe_callTy (r := rTupOf K) c_tupOf (by rfl) T.n_tuple (by decide +kernel) (pa_cons (pe_lc (own := [("_law_k", 5)]) (g := (gName 5)) rfl sc_law_row.nd (pi_range1 (by rfl) T.n_range (pa_cons (pe_call G_law_draw (hr.mono (by omega)) (by rfl) D_law_draw.g D_law_draw.fn.kp D_law_draw.b .nil pass0 (pa_cons (pv 0) (pa_cons pe_int pa_nil))) pa_nil)) (blkOk_by (own := [("_law_k", 5)]) (N := N_law_row) (sc := defScope s_law_row) (by decide +kernel)) (fun _ _ _ _ _ => (pg_name (i := 5) sc_law_row.nd rfl (.inl rfl))) (fun _ _ _ _ _ => pts_nil) (fun _ _ _ _ _ => (pe_cmpR op_eq (pe_call G_law_draw (hr.mono (by omega)) (by rfl) D_law_draw.g D_law_draw.fn.kp D_law_draw.b .nil pass0 (pa_cons (pv 0) (pa_cons pe_int pa_nil))) pe_int (nomark _)))) pa_nil)) pa_nil)))))
          pss_nil)
      (pss_cons
        (ps_if (pt_cmpR op_eq (pv 1) pe_int (nomark _))
          (pss_cons
            (ps_set (i := 2) sc_law_row.nd rfl (.inl rfl) (pe_callTy (r := rTupOf K) c_tupOf (by rfl) T.n_tuple (by decide +kernel) (pa_cons (pe_lc (own := [("_law_k", 5)]) (g := (gName 5)) rfl sc_law_row.nd (pi_range1 (by rfl) T.n_range (pa_cons (pe_call G_law_draw (hr.mono (by omega)) (by rfl) D_law_draw.g D_law_draw.fn.kp D_law_draw.b .nil pass0 (pa_cons (pv 0) (pa_cons pe_int pa_nil))) pa_nil)) (blkOk_by (own := [("_law_k", 5)]) (N := N_law_row) (sc := defScope s_law_row) (by decide +kernel)) (fun _ _ _ _ _ => (pg_name (i := 5) sc_law_row.nd rfl (.inl rfl))) (fun _ _ _ _ _ => pts_nil) (fun _ _ _ _ _ => (pe_call G_law_label (hr.mono (by omega)) (by rfl) D_law_label.g D_law_label.fn.kp D_law_label.b .nil pass0 (pa_cons (pv 0) pa_nil)))) pa_nil)))
          (pss_cons
            (ps_set (i := 3) sc_law_row.nd rfl (.inl rfl) (pe_call G_law_ints (hr.mono (by omega)) (by rfl) D_law_ints.g D_law_ints.fn.kp D_law_ints.b .nil pass0 (pa_cons (pv 0) pa_nil)))
          (pss_cons
            (ps_set (i := 4) sc_law_row.nd rfl (.inl rfl) (pe_call G_law_int (hr.mono (by omega)) (by rfl) D_law_int.g D_law_int.fn.kp D_law_int.b .nil pass0 (pa_cons (pv 0) pa_nil)))
          (pss_one
            (ps_ret (pe_tup (pa_cons pe_str (pa_cons (pv 3) (pa_cons (pv 4) (pa_cons (pv 2) (pa_cons (pe_call G_law_ints (hr.mono (by omega)) (by rfl) D_law_ints.g D_law_ints.fn.kp D_law_ints.b .nil pass0 (pa_cons (pv 0) pa_nil)) (pa_cons (pe_cmpR op_eq (pe_call G_law_draw (hr.mono (by omega)) (by rfl) D_law_draw.g D_law_draw.fn.kp D_law_draw.b .nil pass0 (pa_cons (pv 0) (pa_cons pe_int pa_nil))) pe_int (nomark _)) (pa_cons (pe_call G_law_ints (hr.mono (by omega)) (by rfl) D_law_ints.g D_law_ints.fn.kp D_law_ints.b .nil pass0 (pa_cons (pv 0) pa_nil)) pa_nil)))))))))))))
          pss_nil)
      (pss_cons
        (ps_if (pt_cmpR op_eq (pv 1) pe_int (nomark _))
          (pss_one
            (ps_ret (pe_tup (pa_cons pe_str (pa_cons (pe_call G_law_ints (hr.mono (by omega)) (by rfl) D_law_ints.g D_law_ints.fn.kp D_law_ints.b .nil pass0 (pa_cons (pv 0) pa_nil)) (pa_cons (pe_call G_law_ints (hr.mono (by omega)) (by rfl) D_law_ints.g D_law_ints.fn.kp D_law_ints.b .nil pass0 (pa_cons (pv 0) pa_nil)) pa_nil))))))
          pss_nil)
      (pss_cons
        (ps_if (pt_cmpR op_eq (pv 1) pe_int (nomark _))
          (pss_one
            (ps_ret (pe_tup (pa_cons pe_str (pa_cons (pe_call G_law_int (hr.mono (by omega)) (by rfl) D_law_int.g D_law_int.fn.kp D_law_int.b .nil pass0 (pa_cons (pv 0) pa_nil)) pa_nil)))))
          pss_nil)
      (pss_cons
        (ps_if (pt_cmpR op_eq (pv 1) pe_int (nomark _))
          (pss_one
            (ps_ret (pe_tup (pa_cons pe_str (pa_cons (pe_call G_law_marks (hr.mono (by omega)) (by rfl) D_law_marks.g D_law_marks.fn.kp D_law_marks.b .nil pass0 (pa_cons (pv 0) pa_nil)) (pa_cons (pe_call G_law_ints (hr.mono (by omega)) (by rfl) D_law_ints.g D_law_ints.fn.kp D_law_ints.b .nil pass0 (pa_cons (pv 0) pa_nil)) (pa_cons (pe_call G_law_int (hr.mono (by omega)) (by rfl) D_law_int.g D_law_int.fn.kp D_law_int.b .nil pass0 (pa_cons (pv 0) pa_nil)) pa_nil)))))))
          pss_nil)
      (pss_cons
        (ps_if (pt_cmpR op_eq (pv 1) pe_int (nomark _))
          (pss_one
            (ps_ret (pe_tup (pa_cons pe_str (pa_cons (pe_call G_law_ints (hr.mono (by omega)) (by rfl) D_law_ints.g D_law_ints.fn.kp D_law_ints.b .nil pass0 (pa_cons (pv 0) pa_nil)) (pa_cons (pe_call G_law_ints (hr.mono (by omega)) (by rfl) D_law_ints.g D_law_ints.fn.kp D_law_ints.b .nil pass0 (pa_cons (pv 0) pa_nil)) (pa_cons (pe_call G_law_ints (hr.mono (by omega)) (by rfl) D_law_ints.g D_law_ints.fn.kp D_law_ints.b .nil pass0 (pa_cons (pv 0) pa_nil)) pa_nil)))))))
          pss_nil)
      (pss_cons
        (ps_if (pt_cmpR op_eq (pv 1) pe_int (nomark _))
          (pss_one
            (ps_ret (pe_tup (pa_cons pe_str (pa_cons (pe_call G_law_int (hr.mono (by omega)) (by rfl) D_law_int.g D_law_int.fn.kp D_law_int.b .nil pass0 (pa_cons (pv 0) pa_nil)) (pa_cons (pe_call G_law_int (hr.mono (by omega)) (by rfl) D_law_int.g D_law_int.fn.kp D_law_int.b .nil pass0 (pa_cons (pv 0) pa_nil)) pa_nil))))))
          pss_nil)
      (pss_one
        (ps_ret (pe_tup (pa_cons pe_str (pa_cons (pe_call G_law_int (hr.mono (by omega)) (by rfl) D_law_int.g D_law_int.fn.kp D_law_int.b .nil pass0 (pa_cons (pv 0) pa_nil)) (pa_cons (pe_call G_law_pack (hr.mono (by omega)) (by rfl) D_law_pack.g D_law_pack.fn.kp D_law_pack.b .nil pass0 (pa_cons (pv 0) (pa_cons (pe_op op_sub (pv 1) pe_int) pa_nil))) pa_nil)))))))))))))))
      , ?_⟩
    rw [show L2.start N_law_row [V.ref d, nV r] = [some (.ref d), some (nV r), none, none, none, none] from rfl]
    refine w_seq ?_
    walk_at "x"
    refine w_ite (fun h => ?_) (fun h => ?_)
    · walk_at "g"
      refine w_new fun L H1 hL e1 k1 => ?_
      walk_at "g"
      refine w_draw (D0.nx k1 (Nat.le_refl _)) (by omega) (by decide) (by decide) fun r2 H2 hr2 D2 o2 => ?_
      have e2 := o2.get (D0.ne1 hL).1 e1
      obtain ⟨wd, hat, hw⟩ : ∃ wd : Str, atI [V.str (Str.ofString "hello"), V.str (Str.ofString "done")] (r2 : Int) = some (.str wd) ∧ (wd = "hello" ∨ wd = "done") := by
        rcases (show r2 = 0 ∨ r2 = 1 by omega) with rfl | rfl
        · exact ⟨_, rfl, .inl rfl⟩
        · exact ⟨_, rfl, .inr rfl⟩
      walk_at "g"
      refine w_new fun t H3 ht e3 k3 => ?_
      have x3 := ((KX.of k1).trans ((D0.nx k1 (Nat.le_refl _)).kx D2 o2)).trans (KX.of k3)
      rcases hw with rfl | rfl
      · exact q H3 t 0 _ [] (D2.nx k3 (by omega)) x3 ⟨e3, by simp, Fits.of (ks := []) rfl rfl rfl fit0⟩
      · exact q H3 t 6 _ [] (D2.nx k3 (by omega)) x3 ⟨e3, by simp, Fits.of (ks := []) rfl rfl (by decide +kernel) fit0⟩
    walk_at "g"
    refine w_seq ?_
    walk_at "g"
    refine w_ite (fun h => ?_) (fun h => ?_)
    · walk_at "g"
      refine ⟨d, c, _, rfl, D0, by omega, fun H1 t1 ns D1 x1 e1 hl1 hs1 => ?_⟩
      walk_at "g"
      refine w_new fun t H2 ht e2 k2 => ?_
      exact q H2 t 1 _ [(_, .lst (ns.map El.int))] (D1.nx k2 (by omega)) (x1.trans (KX.of k2)) (.mk0 _ e2 (by
        simp only [List.mem_cons, List.not_mem_nil, or_false, forall_eq]
        exact (goodInts e1 hl1 hs1).kt (KT.of k2)) (Fits.of (ks := [.ints]) rfl rfl (show ahead 1 "have" 1 = true by decide +kernel) (fitC (fitInts ns) fit0)))
    walk_at "g"
    refine w_seq ?_
    walk_at "g"
    refine w_ite (fun h => ?_) (fun h => ?_)
    · walk_at "g"
      refine w_draw D0 (by omega) (by decide) (by decide) fun r1 H1 hr1 D1 o1 => ?_
      have hr5 : r1 < 5 := by omega
      have x1 := D0.kx D1 o1
      walk_at "g"
      refine lcp_dk (walk_range (lo := 0) (n := (r1 : Int).toNat)) D1 1 (fun y _ => ∃ b : Bool, y = .bl b) (by omega) (fun _ _ _ _ h => h) ?_ ?_
      · rintro i x H3 H4 R hi x3 D3 ⟨rfl, rfl⟩ hR
        refine w_name ⟨rfl, ?_⟩
        walk_at "g"
        refine w_draw D3 (by omega) (by decide) (by decide) fun r5 H5 hr5 D5 o5 => ?_
        walk_at "g"
        exact hR _ _ ⟨_, rfl⟩ (D3.kx D5 o5) D5
      · intro L H3 ys hyl hyp hL x3 D3 eL
        obtain ⟨as, rfl, has⟩ := pick_of (fun y (b : Bool) => y = .bl b) hyp
        rw [List.length_map] at hyl
        walk_at "g"
        refine w_tupL (.of eL) fun t1 H4 ht1 e4 k4 => ?_
        walk_at "g"
        refine w_new fun t H5 ht e5 k5 => ?_
        have x5 := (x1.trans x3).trans (KX.of (Same.trans k4 k5))
        have g1 : Good H5 (.ref t1) (.lst ((as.map fun q => (q.1, El.tr q.2)).map (·.2))) := goodEls (k := .tr) (by rw [k5 _ _ e4, List.map_map]; rfl) (by rw [List.length_map]; omega) fun q' hq' => by
          obtain ⟨p, hp, rfl⟩ := List.mem_map.mp hq'
          exact ⟨has p hp, trivial, rfl⟩
        have f1 : fit .truths (.lst ((as.map fun q => (q.1, El.tr q.2)).map (·.2))) := fitEls rfl fun q' hq' => by
          obtain ⟨p, hp, rfl⟩ := List.mem_map.mp hq'
          rfl
        refine q H5 t (if as = [] then 1 else 2) "have" [(_, .lst ((as.map fun q => (q.1, El.tr q.2)).map (·.2)))] (D3.nx (Same.trans k4 k5) (by omega)) x5 (.mk0 _ e5 (by
          simp only [List.mem_cons, List.not_mem_nil, or_false, forall_eq]
          exact g1) ?_)
        by_cases has0 : as = []
        · rw [if_pos has0, has0]
          exact Fits.of (ks := [.ints]) rfl rfl (show ahead 1 "have" 1 = true by decide +kernel) (fitC ⟨.int, rfl, by simp⟩ fit0)
        · rw [if_neg has0]
          refine ⟨⟨[.truths], rfl, rfl, fitC f1 fit0⟩, fun j f hj hf => ?_⟩
          rcases (show j = 0 ∨ j = 1 by omega) with rfl | rfl
          · cases hf
            exact .inl (.inl (by show 1 ≠ 0; decide))
          · cases hf
            refine .inr ⟨.ints, _, rfl, rfl, rfl, _, rfl, fun z => has0 ?_, fun e he => ?_⟩
            · cases as with
              | nil => rfl
              | cons _ _ => cases z
            · obtain ⟨q', hq', rfl⟩ := List.mem_map.mp he
              obtain ⟨p, hp, rfl⟩ := List.mem_map.mp hq'
              rfl
    walk_at "g"
    refine w_seq ?_
    walk_at "g"
    refine w_ite (fun h => ?_) (fun h => ?_)
    · walk_at "g"
      refine w_draw D0 (by omega) (by decide) (by decide) fun r1 H1 hr1 D1 o1 => ?_
      have hr4 : r1 < 4 := by omega
      have x1 := D0.kx D1 o1
      walk_at "g"
      refine lcp_dk (walk_range (lo := 0) (n := (r1 : Int).toNat)) D1 12 (fun y _ => ∃ z : Str, y = .str z ∧ LabOk z) (by omega) (fun _ _ _ _ h => h) ?_ ?_
      · rintro i x H3 H4 R hi x3 D3 ⟨rfl, rfl⟩ hR
        refine w_name ⟨rfl, ?_⟩
        walk_at "g"
        refine ⟨d, c, _, rfl, D3, by omega, fun H5 z D5 k5 t5 hz => ?_⟩
        exact hR _ _ ⟨_, rfl, hz⟩ (D3.kxK D5 k5) D5
      · intro L H3 ys hyl hyp hL x3 D3 eL
        obtain ⟨zs, rfl, hzs⟩ := strs_of hyp
        rw [List.length_map] at hyl
        walk_at "g"
        refine w_tupL (.of eL) fun t1 H4 ht1 e4 k4 => ?_
        have D4 := D3.nx k4 (Nat.le_refl _)
        walk_at "g"
        refine ⟨d, c, _, rfl, D4, by omega, fun H5 t5 ns5 D5 x5 e5 hl5 hs5 => ?_⟩
        walk_at "g"
        refine ⟨d, c, _, rfl, D5, by omega, fun H6 m6 hm6 D6 x6 => ?_⟩
        walk_at "g"
        refine ⟨d, c, _, rfl, D6, by omega, fun H7 t7 ns7 D7 x7 e7 hl7 hs7 => ?_⟩
        walk_at "g"
        refine w_draw D7 (by omega) (by decide) (by decide) fun r8 H8 hr8 D8 o8 => ?_
        have x8 := D7.kx D8 o8
        walk_at "g"
        refine ⟨d, c, _, rfl, D8, by omega, fun H9 t9 ns9 D9 x9 e9 hl9 hs9 => ?_⟩
        walk_at "g"
        refine w_new fun t H10 ht e10 k10 => ?_
        have t10 := KT.of k10
        have t89 := (x8.t.trans x9.t).trans t10
        have g1 : Good H10 (.ref t1) (.lst ((zs.map fun z => (V.str z, El.lab z)).map (·.2))) := (goodEls (H := H4) (k := .lab) (by rw [e4, List.map_map]; rfl) (by rw [List.length_map]; omega) fun q' hq' => by
          obtain ⟨z, hz, rfl⟩ := List.mem_map.mp hq'
          exact ⟨rfl, hzs z hz, rfl⟩).kt (((x5.t.trans x6.t).trans x7.t).trans t89)
        have f1 : fit .labels (.lst ((zs.map fun z => (V.str z, El.lab z)).map (·.2))) := fitEls rfl fun q' hq' => by
          obtain ⟨p, hp, rfl⟩ := List.mem_map.mp hq'
          rfl
        refine q H10 t 3 "want" [(_, .lst (ns5.map El.int)), (_, .one (.int m6)), (_, .lst ((zs.map fun z => (V.str z, El.lab z)).map (·.2))), (_, .lst (ns7.map El.int)), (_, .one (.tr (decide ((r8 : Int) = 1)))), (_, .lst (ns9.map El.int))] (D9.nx k10 (by omega)) ((((((x1.trans x3).trans (KX.of k4)).trans x5).trans x6).trans ((x7.trans x8).trans x9)).trans (KX.of k10)) (.mk0 _ e10 (by
          simp only [List.mem_cons, List.not_mem_nil, or_false]
          rintro q' (rfl | rfl | rfl | rfl | rfl | rfl)
          · exact (goodInts e5 hl5 hs5).kt ((x6.t.trans x7.t).trans t89)
          · exact goodInt hm6
          · exact g1
          · exact (goodInts e7 hl7 hs7).kt t89
          · exact ⟨rfl, trivial⟩
          · exact (goodInts e9 hl9 hs9).kt t10) (Fits.of (ks := [.ints, .int, .labels, .ints, .truth, .ints]) rfl rfl (show ahead 3 "want" 6 = true by decide +kernel) (fitC (fitInts _) (fitC (fitInt _) (fitC f1 (fitC (fitInts _) (fitC rfl (fitC (fitInts _) fit0))))))))
    walk_at "g"
    refine w_seq ?_
    walk_at "g"
    refine w_ite (fun h => ?_) (fun h => ?_)
    · walk_at "g"
      refine ⟨d, c, _, rfl, D0, by omega, fun H1 t1 ns D1 x1 e1 hl1 hs1 => ?_⟩
      walk_at "g"
      refine ⟨d, c, _, rfl, D1, by omega, fun H2 t2 ns2 D2 x2 e2 hl2 hs2 => ?_⟩
      walk_at "g"
      refine w_new fun t H3 ht e3 k3 => ?_
      exact q H3 t 4 _ [(_, .lst (ns.map El.int)), (_, .lst (ns2.map El.int))] (D2.nx k3 (by omega)) ((x1.trans x2).trans (KX.of k3)) (.mk0 _ e3 (by
        simp only [List.mem_cons, List.not_mem_nil, or_false]
        rintro q' (rfl | rfl)
        · exact (goodInts e1 hl1 hs1).kt (x2.t.trans (KT.of k3))
        · exact (goodInts e2 hl2 hs2).kt (KT.of k3)) (Fits.of (ks := [.ints, .ints]) rfl rfl (show ahead 4 "lack" 2 = true by decide +kernel) (fitC (fitInts _) (fitC (fitInts _) fit0))))
    walk_at "g"
    refine w_seq ?_
    walk_at "g"
    refine w_ite (fun h => ?_) (fun h => ?_)
    · walk_at "g"
      refine ⟨d, c, _, rfl, D0, by omega, fun H1 m1 hm1 D1 x1 => ?_⟩
      walk_at "g"
      refine w_new fun t H3 ht e3 k3 => ?_
      exact q H3 t 5 _ [(_, .one (.int m1))] (D1.nx k3 (by omega)) (x1.trans (KX.of k3)) (.mk0 _ e3 (by
        simp only [List.mem_cons, List.not_mem_nil, or_false, forall_eq]
        exact goodInt hm1) (Fits.of (ks := [.int]) rfl rfl (show ahead 5 "row" 1 = true by decide +kernel) (fitC (fitInt _) fit0)))
    walk_at "g"
    refine w_seq ?_
    walk_at "g"
    refine w_ite (fun h => ?_) (fun h => ?_)
    · walk_at "g"
      refine ⟨d, c, _, rfl, D0, by omega, fun H1 t1 as D1 x1 e1 has hal => ?_⟩
      walk_at "g"
      refine ⟨d, c, _, rfl, D1, by omega, fun H2 t2 ns2 D2 x2 e2 hl2 hs2 => ?_⟩
      walk_at "g"
      refine ⟨d, c, _, rfl, D2, by omega, fun H3 m3 hm3 D3 x3 => ?_⟩
      walk_at "g"
      refine w_new fun t H4 ht e4 k4 => ?_
      exact q H4 t 7 _ [(_, .lst (as.map (·.2))), (_, .lst (ns2.map El.int)), (_, .one (.int m3))] (D3.nx k4 (by omega)) (((x1.trans x2).trans x3).trans (KX.of k4)) (.mk0 _ e4 (by
        simp only [List.mem_cons, List.not_mem_nil, or_false]
        rintro q' (rfl | rfl | rfl)
        · exact (goodEls e1 (by omega) has).kt ((x2.t.trans x3.t).trans (KT.of k4))
        · exact (goodInts e2 hl2 hs2).kt (x3.t.trans (KT.of k4))
        · exact goodInt hm3) (Fits.of (ks := [.marks, .ints, .int]) rfl rfl (show ahead 7 "house" 3 = true by decide +kernel) (fitC (fitEls rfl fun q' hq' => (has q' hq').2.2) (fitC (fitInts _) (fitC (fitInt _) fit0)))))
    walk_at "g"
    refine w_seq ?_
    walk_at "g"
    refine w_ite (fun h => ?_) (fun h => ?_)
    · walk_at "g"
      refine ⟨d, c, _, rfl, D0, by omega, fun H1 t1 ns D1 x1 e1 hl1 hs1 => ?_⟩
      walk_at "g"
      refine ⟨d, c, _, rfl, D1, by omega, fun H2 t2 ns2 D2 x2 e2 hl2 hs2 => ?_⟩
      walk_at "g"
      refine ⟨d, c, _, rfl, D2, by omega, fun H3 t3 ns3 D3 x3 e3 hl3 hs3 => ?_⟩
      walk_at "g"
      refine w_new fun t H4 ht e4 k4 => ?_
      exact q H4 t 8 _ [(_, .lst (ns.map El.int)), (_, .lst (ns2.map El.int)), (_, .lst (ns3.map El.int))] (D3.nx k4 (by omega)) (((x1.trans x2).trans x3).trans (KX.of k4)) (.mk0 _ e4 (by
        simp only [List.mem_cons, List.not_mem_nil, or_false]
        rintro q' (rfl | rfl | rfl)
        · exact (goodInts e1 hl1 hs1).kt ((x2.t.trans x3.t).trans (KT.of k4))
        · exact (goodInts e2 hl2 hs2).kt (x3.t.trans (KT.of k4))
        · exact (goodInts e3 hl3 hs3).kt (KT.of k4)) (Fits.of (ks := [.ints, .ints, .ints]) rfl rfl (show ahead 8 "bill" 3 = true by decide +kernel) (fitC (fitInts _) (fitC (fitInts _) (fitC (fitInts _) fit0)))))
    walk_at "g"
    refine w_seq ?_
    walk_at "g"
    refine w_ite (fun h => ?_) (fun h => ?_)
    · walk_at "g"
      refine ⟨d, c, _, rfl, D0, by omega, fun H1 m1 hm1 D1 x1 => ?_⟩
      walk_at "g"
      refine ⟨d, c, _, rfl, D1, by omega, fun H2 m2 hm2 D2 x2 => ?_⟩
      walk_at "g"
      refine w_new fun t H3 ht e3 k3 => ?_
      exact q H3 t 9 _ [(_, .one (.int m1)), (_, .one (.int m2))] (D2.nx k3 (by omega)) ((x1.trans x2).trans (KX.of k3)) (.mk0 _ e3 (by
        simp only [List.mem_cons, List.not_mem_nil, or_false]
        rintro q' (rfl | rfl)
        · exact goodInt hm1
        · exact goodInt hm2) (Fits.of (ks := [.int, .int]) rfl rfl (show ahead 9 "pack" 2 = true by decide +kernel) (fitC (fitInt _) (fitC (fitInt _) fit0))))
    walk_at "g"
    refine ⟨d, c, _, rfl, D0, by omega, fun H1 m1 hm1 D1 x1 => ?_⟩
    walk_at "g"
    refine ⟨d, c, _, r - 9, (by show [V.ref d, V.int ((r : Int) - 9)] = [V.ref d, V.int ((r - 9 : Nat) : Int)]; rw [show ((r - 9 : Nat) : Int) = (r : Int) - 9 by omega]), D1, by omega, by omega, fun H2 v p D2 x2 hp hpok => ?_⟩
    walk_at "g"
    refine w_new fun t H3 ht e3 k3 => ?_
    exact q H3 t 10 _ [(_, .one (.int m1)), (_, .pk p)] (D2.nx k3 (by omega)) ((x1.trans x2).trans (KX.of k3)) (.mk0 _ e3 (by
      simp only [List.mem_cons, List.not_mem_nil, or_false]
      rintro q' (rfl | rfl)
      · exact goodInt hm1
      · exact ⟨PkAt.kt hp (KT.of k3), hpok⟩) (Fits.of (ks := [.int, .pack]) rfl rfl (show ahead 10 "row" 2 = true by decide +kernel) (fitC (fitInt _) (fitC rfl fit0))))
end
/-! ### the law's own words -/
theorem fnok_neverN {P : Program} {w : World} {K : PySem.W.Frag} {mg : Str → Option Value} {base : Heap} {CX : CXT} {k : Nat} {f : Addr} {fd : FuncData} {ps : List Str} : FnOk P w K mg base CX k f fd ps (fun _ _ _ _ => False) := ⟨fun _ _ _ _ h => h.elim, fun _ _ _ _ _ _ _ _ _ _ _ _ _ h => h.elim⟩
def plainA : Ar → Prop
  | .one e => e.kd = .int ∨ e.kd = .tr ∨ e.kd = .lab
  | .lst es => ∀ e ∈ es, e.kd ≠ .piece
  | .pk _ => False
def Ar.ok2 : Ar → Prop
  | .one e => e.ok
  | .lst es => es.length ≤ 60 ∧ ∀ e ∈ es, e.ok
  | .pk p => p.ok
def GoodW (H : Hp) (v : V) (a : Ar) : Prop := ArAt H v a ∧ a.ok2
theorem Good.w {H : Hp} {v : V} {a : Ar} (h : Good H v a) : GoodW H v a := ⟨h.1, by
  cases a with
  | one e => exact h.2
  | lst es => exact ⟨Nat.le_trans h.2.1 (by decide), h.2.2⟩
  | pk p => exact h.2⟩
theorem GoodW.kt {H H' : Hp} {v : V} {a : Ar} (h : GoodW H v a) (k : KT H H') : GoodW H' v a := ⟨h.1.kt k, h.2⟩
def spLW (C : Ar → Prop) : Sp := fun vs H Q _ => ∃ (v : V) (a : Ar), vs = [v] ∧ GoodW H v a ∧ plainA a ∧ C a ∧ ∀ H' l, Same H H' → H l = none → H' l = some (.lst (a.w.map V.str)) → Q (.ref l) H'
def oneA : Ar → Prop
  | .one _ => True
  | _ => False
theorem w_catN {l b : Addr} {xs zs : List Str} {H : Hp} {Q : VK} (h1 : H l = some (.lst (xs.map V.str))) (h2 : H b = some (.lst (zs.map V.str))) (hz : xs.length + zs.length ≤ 200000) (h : ∀ p H1, H p = none → H1 p = some (.lst ((xs ++ zs).map V.str)) → Same H H1 → Q (.ref p) H1) : rCat (.ref l) (.ref b) H Q :=
  w_cat h1 h2 (by rw [List.length_map, List.length_map]; exact Nat.le_of_lt (small5 hz)) fun p H1 hp e k => h p H1 hp (by rw [e, List.map_append]) k
section
variable {P : Program} {w : World} {K : PySem.W.Frag} {mg : Str → Option Value} {base : Heap}
theorem words_step {f : Addr} {fd : FuncData} {k : Nat} {sp : Sp} {C : Ar → Prop} (T : Txt K mg) (D_law_words : Df K mg "_law_words" s_law_words ["_law_thing"] f fd) (G_law_words : FnOk P w K mg base CX0 k f fd ["_law_thing"] sp)
    (hsp : ∀ a, C a → (oneA a) ∨ ∀ vs H Q E, spLW oneA vs H Q E → sp (vs ++ []) H Q E) : FnOk P w K mg base CX0 (k + 1) f fd ["_law_thing"] (spLW C) := by
  refine D_law_words.fn.ok sc_law_words (fun vs H Q E h => ?_) (fun cdv A outer s H vs Q E hr h => ?_)
  · obtain ⟨v, a, rfl, _⟩ := h
    rfl
  · obtain ⟨v, a, rfl, ⟨ha, hok⟩, hpl, hC, q⟩ := h
    refine ⟨_,
      (pss_cons
        (ps_if (pt_val (pe_callB (r := rIsi K) call_isi (by rfl) T.n_isinstance (by decide +kernel) (pa_cons (pv 0) (pa_cons (pe_bltn (v := .ty "bool") (u := .type "bool") (by rfl) T.n_bool (by decide +kernel) rfl) pa_nil))))
          (pss_one
            (ps_ret (pe_lst (pa_cons (pe_ix (r := rIxL K) ix_list (pe_lst (pa_cons pe_str (pa_cons pe_str pa_nil))) (pe_callTy (r := rInt1) call_int1 (by rfl) T.n_int (by decide +kernel) (pa_cons (pv 0) pa_nil)) (fun _ _ => rfl)) pa_nil))))
          pss_nil)
      (pss_cons
        (ps_if (pt_val (pe_callB (r := rIsi K) call_isi (by rfl) T.n_isinstance (by decide +kernel) (pa_cons (pv 0) (pa_cons (pe_bltn (v := .ty "int") (u := .type "int") (by rfl) T.n_int (by decide +kernel) rfl) pa_nil))))
          (pss_one
            (ps_ret (pe_lst (pa_cons (pe_callTy (r := rStrI) call_str_int (by rfl) T.n_str (by decide +kernel) (pa_cons (pv 0) pa_nil)) pa_nil))))
          pss_nil)
      (pss_cons
        (ps_if (pt_val (pe_callB (r := rIsi K) call_isi (by rfl) T.n_isinstance (by decide +kernel) (pa_cons (pv 0) (pa_cons (pe_bltn (v := .ty "str") (u := .type "str") (by rfl) T.n_str (by decide +kernel) rfl) pa_nil))))
          (pss_one
            (ps_ret (pe_lst (pa_cons (pv 0) pa_nil))))
          pss_nil)
      (pss_cons
        (ps_set (i := 1) sc_law_words.nd rfl (.inl rfl) (pe_lst (pa_cons pe_str pa_nil)))
      (pss_cons
        (ps_for PassesOwn.never rfl (pi_tup (pv 0)) (pg_name (i := 2) sc_law_words.nd rfl (.inl rfl))
          (pss_one
            (ps_if (pt_val (pe_callB (r := rIsi K) call_isi (by rfl) T.n_isinstance (by decide +kernel) (pa_cons (pv 2) (pa_cons (pe_bltn (v := .ty "tuple") (u := .type "tuple") (by rfl) T.n_tuple (by decide +kernel) rfl) pa_nil))))
              (pss_one
                (ps_set (i := 1) sc_law_words.nd rfl (.inl rfl) (pe_op op_cat (pv 1) (pe_lst (pa_cons (pe_ix (r := rIxT K) ix_tup (pv 2) pe_int (fun _ _ => rfl)) (pa_cons (pe_callTy (r := rStrI) call_str_int (by rfl) T.n_str (by decide +kernel) (pa_cons (pe_ix (r := rIxT K) ix_tup (pv 2) pe_int (fun _ _ => rfl)) pa_nil)) pa_nil))))))
              (pss_one
                (ps_set (i := 1) sc_law_words.nd rfl (.inl rfl) (pe_op op_cat (pv 1) (pe_call G_law_words (hr.mono (by omega)) (by rfl) D_law_words.g D_law_words.fn.kp D_law_words.b .nil pass0 (pa_cons (pv 2) pa_nil))))))))
      (pss_one
        (ps_ret (pe_op op_cat (pv 1) (pe_lst (pa_cons pe_str pa_nil))))))))))
      , ?_⟩
    rw [show L2.start N_law_words [v] = [some v, none, none] from rfl]
    refine w_seq ?_
    cases a with
    | one e =>
      cases e with
      | int n =>
        obtain rfl : v = nV n := ha
        walk_at "x"
        refine w_seq ?_
        walk_at "g"
        refine w_strN hok ?_
        walk_at "g"
        refine w_new fun l H1 hl e1 k1 => ?_
        exact q H1 l k1 hl e1
      | tr b =>
        obtain rfl : v = .bl b := ha
        walk_at "x"
        refine w_new fun l0 H1 hl0 e1 k1 => ?_
        have hat : atI [V.str (Str.ofString "no"), V.str (Str.ofString "yes")] (if b then 1 else 0) = some (.str (if b then "yes" else "no")) := by cases b <;> rfl
        walk_at "g"
        refine w_int1b ?_
        walk_at "g"
        refine w_new fun l H2 hl e2 k2 => ?_
        exact q H2 l (Same.trans k1 k2) (k1.free hl) (by rw [e2]; rfl)
      | lab z =>
        obtain rfl : v = .str z := ha
        walk_at "x"
        refine w_seq ?_
        walk_at "g"
        refine w_seq ?_
        walk_at "g"
        refine w_new fun l H1 hl e1 k1 => ?_
        exact q H1 l k1 hl e1
      | pair z n => rcases hpl with h | h | h <;> cases h
      | take a b => rcases hpl with h | h | h <;> cases h
      | put rs => rcases hpl with h | h | h <;> cases h
    | lst es =>
      rcases hsp _ hC with h | hsp
      · cases h
      obtain ⟨t, as, rfl, et, rfl, has⟩ := ha
      have hal : as.length ≤ 60 := by
        have := hok.1
        rw [List.length_map] at this
        exact this
      walk_at "x"
      refine w_seq ?_
      walk_at "g"
      refine w_seq ?_
      walk_at "g"
      refine w_new fun l0 H1 hl0 e1 k1 => ?_
      have et1 := k1 _ _ et
      walk_at "g"
      refine lp_tup (xs := as.map (·.1)) (fun i σ H' => ∃ (l : Addr) (y : Option V), σ = [some (.ref t), some (.ref l), y] ∧ Same H H' ∧ H l = none ∧ H' l = some (.lst ((OP :: ((as.take i).map (·.2)).flatMap El.w).map V.str))) ⟨l0, _, rfl, k1, hl0, e1⟩ (fun i σ H' _ ⟨_, _, _, k', _⟩ => .of (k' _ _ et)) ?_ ?_
      · rintro i x σ H2 hx ⟨l, y, rfl, k2, hl, e2⟩
        obtain ⟨p, hp, rfl⟩ := map_at hx
        have hpm := List.mem_of_getElem? hp
        have hpat := (has p hpm).kt (KT.of k2)
        have hpok := hok.2 p.2 (List.mem_map.mpr ⟨p, hpm, rfl⟩)
        have hpk := hpl p.2 (List.mem_map.mpr ⟨p, hpm, rfl⟩)
        have hlen := fw_len ((as.take i).map (·.2))
        rw [List.length_map, List.length_take] at hlen
        have hw3 := El.w_len p.2
        have nxt : ∀ {H4 : Hp} {l2 : Addr} {x : V}, Same H2 H4 → H2 l2 = none → H4 l2 = some (.lst (((OP :: ((as.take i).map (·.2)).flatMap El.w) ++ p.2.w).map V.str)) → ∃ (l : Addr) (y : Option V), [some (.ref t), some (.ref l2), some x] = [some (.ref t), some (.ref l), y] ∧ Same H H4 ∧ H l = none ∧ H4 l = some (.lst ((OP :: ((as.take (i + 1)).map (·.2)).flatMap El.w).map V.str)) := fun {H4 l2 x} k4 hl2 e4 => ⟨l2, _, rfl, Same.trans k2 k4, k2.free hl2, by
          rw [e4, List.take_add_one, hp, List.map_append (l₁ := as.take i), List.flatMap_append]
          simp⟩
        obtain ⟨pv, pe⟩ := p
        refine w_name ?_
        walk_at "g"
        cases pe with
        | pair z n =>
          obtain ⟨t2, rfl, et2⟩ := hpat
          have at0 : atI [V.str z, nV n] 0 = some (.str z) := rfl
          have at1 : atI [V.str z, nV n] 1 = some (nV n) := rfl
          walk_at "g"
          refine w_strN hpok.2 ?_
          walk_at "g"
          refine w_new fun l3 H3 hl3 e3 k3 => ?_
          refine w_catN (k3 _ _ e2) (zs := [z, iS n]) e3 (by simp only [List.length_cons, List.length_nil]; omega) fun l4 H4 hl4 e4 k4 => ?_
          walk_at "g"
          exact nxt (Same.trans k3 k4) (k3.free hl4) e4
        | int n =>
          obtain rfl : pv = nV n := hpat
          walk_at "g"
          refine hsp _ _ _ _ ⟨_, .one (.int n), rfl, ⟨rfl, hpok⟩, .inl rfl, trivial, fun H3 l3 k3 hl3 e3 => ?_⟩
          refine w_catN (k3 _ _ e2) e3 (by show _ + [iS n].length ≤ _; simp only [List.length_cons, List.length_nil]; omega) fun l4 H4 hl4 e4 k4 => ?_
          walk_at "g"
          exact nxt (Same.trans k3 k4) (k3.free hl4) e4
        | tr b =>
          obtain rfl : pv = .bl b := hpat
          walk_at "g"
          refine hsp _ _ _ _ ⟨_, .one (.tr b), rfl, ⟨rfl, hpok⟩, .inr (.inl rfl), trivial, fun H3 l3 k3 hl3 e3 => ?_⟩
          refine w_catN (k3 _ _ e2) e3 (by show _ + [if b then ("yes" : Str) else "no"].length ≤ _; simp only [List.length_cons, List.length_nil]; omega) fun l4 H4 hl4 e4 k4 => ?_
          walk_at "g"
          exact nxt (Same.trans k3 k4) (k3.free hl4) e4
        | lab z =>
          obtain rfl : pv = .str z := hpat
          walk_at "g"
          refine hsp _ _ _ _ ⟨_, .one (.lab z), rfl, ⟨rfl, hpok⟩, .inr (.inr rfl), trivial, fun H3 l3 k3 hl3 e3 => ?_⟩
          refine w_catN (k3 _ _ e2) e3 (by show _ + [z].length ≤ _; simp only [List.length_cons, List.length_nil]; omega) fun l4 H4 hl4 e4 k4 => ?_
          walk_at "g"
          exact nxt (Same.trans k3 k4) (k3.free hl4) e4
        | take a b => exact absurd rfl hpk
        | put rs => exact absurd rfl hpk
      · rintro σ H2 ⟨l, y, rfl, k2, hl, e2⟩
        rw [List.length_map, List.take_length] at e2
        have hlen := fw_len (as.map (·.2))
        rw [List.length_map] at hlen
        walk_at "g"
        refine w_new fun l3 H3 hl3 e3 k3 => ?_
        refine w_catN (k3 _ _ e2) (zs := [CP]) e3 (by simp only [List.length_cons, List.length_nil]; omega) fun l4 H4 hl4 e4 k4 => ?_
        exact q H4 l4 (Same.trans k2 (Same.trans k3 k4)) (k2.free (k3.free hl4)) e4
    | pk p => cases hpl
theorem ok_words {f : Addr} {fd : FuncData} (T : Txt K mg) (D_law_words : Df K mg "_law_words" s_law_words ["_law_thing"] f fd) : FnOk P w K mg base CX0 2 f fd ["_law_thing"] (spLW fun _ => True) :=
  words_step T D_law_words (words_step (C := oneA) (k := 0) T D_law_words fnok_neverN fun a h => .inl h) fun a _ => .inr fun vs H Q E h => by rw [List.append_nil]; exact h
end
/-! ### the law's own writing -/
def spLPackW : Sp := fun vs H Q _ => ∃ (v : V) (l : Addr) (p : Pk) (ls : List Str), vs = [v, .ref l] ∧ PkAt H v p ∧ p.ok ∧ H l = some (.lst (ls.map V.str)) ∧ ls.length ≤ 30000 ∧ ∀ H' u, H u = none → Kp [l] H H' → KT H H' → H' l = some (.lst ((ls ++ p.l).map V.str)) → H' u = some (.lst (p.w.map V.str)) → Q (.ref u) H'
def spLWritten : Sp := fun vs H Q _ => ∃ t i rw as, vs = [.ref t] ∧ RowAt H t i rw as ∧ ∀ H', Same H H' → Q (.str (txt rw (as.map (·.2)))) H'
theorem ne_of_none' {H : Hp} {a b : Addr} {o : HO} (e : H b = some o) (h : H a = none) : a ≠ b := (ne_of_none e h).symm
theorem w_extNT {K : PySem.W.Frag} {l b : Addr} {xs zs : List Str} {H : Hp} {Q : VK} (h1 : H l = some (.lst (xs.map V.str))) (h2 : H b = some (.tup (zs.map V.str))) (hz : xs.length + zs.length ≤ 200000) (h : ∀ H1, H1 l = some (.lst ((xs ++ zs).map V.str)) → Off l H H1 → Q .non H1) : rExtT K (.ref l) [.ref b] H Q :=
  w_extT h1 h2 (by rw [List.length_map, List.length_map]; exact Nat.le_of_lt (small5 hz)) fun H1 e o => h H1 (by rw [e, List.map_append]) o
theorem Cn.parts {H : Hp} {x : V} {c : Cn} (h : CnAt H x c) (ok : c.ok) : (∃ rs, c = .leaf rs) ∨ ∃ (t : Addr) (wd : Str) (qs : List (V × Ar)), x = .ref t ∧ wd ≠ "leaf" ∧ H t = some (.tup (.str wd :: qs.map (·.1))) ∧ (∀ q ∈ qs, GoodW H q.1 q.2 ∧ plainA q.2) ∧ c.w = wd :: qs.flatMap (fun q => q.2.w) ∧ c.l = [] ∧ qs.length ≤ 3 ∧ (∀ q ∈ qs, q.2.w.length ≤ 200) := by
  cases c with
  | leaf rs => exact .inl ⟨rs, rfl⟩
  | tree ps =>
    obtain ⟨t, r, as, rfl, et, er, rfl, has⟩ := h
    have hl := ok.1
    rw [List.length_map] at hl
    refine .inr ⟨t, "tree", [(.ref r, .lst ((as.map (·.2)).map pEl))], rfl, by decide, et, ?_, by simp [Cn.w, Ar.w], rfl, (show 1 ≤ 3 by decide), ?_⟩
    · rintro q hq
      have e : q = (.ref r, .lst ((as.map (·.2)).map pEl)) := by simpa using hq
      subst e
      refine ⟨⟨⟨r, as.map fun q => (.ref q.1, pEl q.2), rfl, by rw [er, List.map_map]; rfl, by rw [List.map_map, List.map_map]; rfl, fun q hq => ?_⟩, by rw [List.length_map, List.length_map]; omega, fun e he => ?_⟩, fun e he => ?_⟩
      · obtain ⟨p, hp, rfl⟩ := List.mem_map.mp hq
        exact ⟨p.1, rfl, has p hp⟩
      · obtain ⟨p, hp, rfl⟩ := List.mem_map.mp he
        exact ok.2.1 p hp
      · obtain ⟨p, hp, rfl⟩ := List.mem_map.mp he
        exact fun z => nomatch z
    · rintro q hq
      have e : q = (.ref r, .lst ((as.map (·.2)).map pEl)) := by simpa using hq
      subst e
      have h1 := lwE_len ((as.map (·.2)).map pEl)
      rw [List.length_map, List.length_map] at h1
      show (lwE ((as.map (·.2)).map pEl)).length ≤ 200
      omega
  | ver ns a b =>
    obtain ⟨t, r, rfl, et, er⟩ := h
    refine .inr ⟨t, "version", [(.ref r, .lst (ns.map El.int)), (nV a, .one (.int a)), (nV b, .one (.int b))], rfl, by decide, et, ?_, by simp [Cn.w, Ar.w, El.w], rfl, (show 3 ≤ 3 by decide), ?_⟩
    · simp only [List.mem_cons, List.not_mem_nil, or_false]
      rintro q (rfl | rfl | rfl)
      · exact ⟨(goodInts er ok.1 ok.2.2.1).w, fun e he => by
          obtain ⟨n, _, rfl⟩ := List.mem_map.mp he
          exact fun z => nomatch z⟩
      · exact ⟨(goodInt ok.2.2.2.1).w, .inl rfl⟩
      · exact ⟨(goodInt ok.2.2.2.2).w, .inl rfl⟩
    · simp only [List.mem_cons, List.not_mem_nil, or_false]
      rintro q (rfl | rfl | rfl)
      · have h1 := lwE_len (ns.map El.int)
        rw [List.length_map] at h1
        have := ok.1
        show (lwE (ns.map El.int)).length ≤ 200
        omega
      · show 1 ≤ 200
        decide
      · show 1 ≤ 200
        decide
section
variable {P : Program} {w : World} {K : PySem.W.Frag} {mg : Str → Option Value} {base : Heap}
theorem ok_lpackw {f fW : Addr} {fd fdW : FuncData} (T : Txt K mg) (F : Fun K "_law_pack_words" "_law_pack_words" s_law_pack_words f fd) (D_law_words : Df K mg "_law_words" s_law_words ["_law_thing"] fW fdW) : FnOk P w K mg base CX0 3 f fd ["_law_row_here", "_law_lines"] spLPackW := by
  have G_law_words : FnOk P w K mg base CX0 2 fW fdW ["_law_thing"] (spLW fun _ => True) := ok_words T D_law_words
  refine F.ok sc_law_pack_words (fun vs H Q E h => ?_) (fun cdv A outer s H vs Q E hr h => ?_)
  · obtain ⟨v, l, p, ls, rfl, _⟩ := h
    rfl
  · obtain ⟨v, l, p, ls, rfl, hp, hok, el, hll, q⟩ := h
    refine ⟨_,
      (pss_cons
        (ps_set (i := 2) sc_law_pack_words.nd rfl (.inl rfl) (pe_lst (pa_cons (pe_callTy (r := rStrI) call_str_int (by rfl) T.n_str (by decide +kernel) (pa_cons (pe_ix (r := rIxT K) ix_tup (pv 0) pe_int (fun _ _ => rfl)) pa_nil)) (pa_cons (pe_ix (r := rIxT K) ix_tup (pv 0) pe_int (fun _ _ => rfl)) pa_nil))))
      (pss_cons
        (ps_if (pt_cmpR op_eq (pe_ix (r := rIxT K) ix_tup (pv 0) pe_int (fun _ _ => rfl)) pe_str (nomark _))
          (pss_cons
            (ps_set (i := 2) sc_law_pack_words.nd rfl (.inl rfl) (pe_op op_cat (pv 2) (pe_lst (pa_cons (pe_callTy (r := rStrI) call_str_int (by rfl) T.n_str (by decide +kernel) (pa_cons (pe_ix (r := rIxT K) ix_tup (pv 0) pe_int (fun _ _ => rfl)) pa_nil)) (pa_cons pe_str pa_nil)))))
          (pss_cons
            (ps_for PassesOwn.never rfl (pi_tup (pe_ix (r := rIxT K) ix_tup (pv 0) pe_int (fun _ _ => rfl))) (pg_name (i := 3) sc_law_pack_words.nd rfl (.inl rfl))
              (pss_one
                (ps_if (pt_cmpR op_eq (pe_ix (r := rIxT K) ix_tup (pv 3) pe_int (fun _ _ => rfl)) pe_str (nomark _))
                  (pss_one
                    (ps_set (i := 2) sc_law_pack_words.nd rfl (.inl rfl) (pe_op op_cat (pv 2) (pe_lst (pa_cons pe_str (pa_cons (pe_callTy (r := rStrI) call_str_int (by rfl) T.n_str (by decide +kernel) (pa_cons (pe_ix (r := rIxT K) ix_tup (pv 3) pe_int (fun _ _ => rfl)) pa_nil)) (pa_cons (pe_callTy (r := rStrI) call_str_int (by rfl) T.n_str (by decide +kernel) (pa_cons (pe_ix (r := rIxT K) ix_tup (pv 3) pe_int (fun _ _ => rfl)) pa_nil)) pa_nil)))))))
                  (pss_cons
                    (ps_set (i := 2) sc_law_pack_words.nd rfl (.inl rfl) (pe_op op_cat (pv 2) (pe_lst (pa_cons pe_str (pa_cons (pe_callTy (r := rStrI) call_str_int (by rfl) T.n_str (by decide +kernel) (pa_cons (pe_callB (r := rLen K) c_len (by rfl) T.n_len (by decide +kernel) (pa_cons (pe_ix (r := rIxT K) ix_tup (pv 3) pe_int (fun _ _ => rfl)) pa_nil)) pa_nil)) pa_nil)))))
                  (pss_one
                    (ps_expr (pe_bm PySem.F.plainAttrs_list PySem.F.slot_list_extend PySem.F.type_list_extend mt_extT (pv 1) (pa_cons (pe_ix (r := rIxT K) ix_tup (pv 3) pe_int (fun _ _ => rfl)) pa_nil))))))))
          (pss_one
            (ps_ret (pe_op op_cat (pv 2) (pe_lst (pa_cons pe_str pa_nil)))))))
          pss_nil)
      (pss_cons
        (ps_expr (pe_bm PySem.F.plainAttrs_list PySem.F.slot_list_append PySem.F.type_list_append mt_append (pv 2) (pa_cons (pe_ix (r := rIxT K) ix_tup (pe_ix (r := rIxT K) ix_tup (pv 0) pe_int (fun _ _ => rfl)) pe_int (fun _ _ => rfl)) pa_nil)))
      (pss_cons
        (ps_if (pt_cmpR op_eq (pe_ix (r := rIxT K) ix_tup (pe_ix (r := rIxT K) ix_tup (pv 0) pe_int (fun _ _ => rfl)) pe_int (fun _ _ => rfl)) pe_str (nomark _))
          (pss_cons
            (ps_expr (pe_bm PySem.F.plainAttrs_list PySem.F.slot_list_extend PySem.F.type_list_extend mt_extT (pv 1) (pa_cons (pe_ix (r := rIxT K) ix_tup (pe_ix (r := rIxT K) ix_tup (pv 0) pe_int (fun _ _ => rfl)) pe_int (fun _ _ => rfl)) pa_nil)))
          (pss_one
            (ps_ret (pe_op op_cat (pv 2) (pe_lst (pa_cons (pe_callTy (r := rStrI) call_str_int (by rfl) T.n_str (by decide +kernel) (pa_cons (pe_callB (r := rLen K) c_len (by rfl) T.n_len (by decide +kernel) (pa_cons (pe_ix (r := rIxT K) ix_tup (pe_ix (r := rIxT K) ix_tup (pv 0) pe_int (fun _ _ => rfl)) pe_int (fun _ _ => rfl)) pa_nil)) pa_nil)) pa_nil))))))
          pss_nil)
      (pss_cons
        (ps_for PassesOwn.never rfl (pi_tup (pe_slice sl_tupA (pe_ix (r := rIxT K) ix_tup (pv 0) pe_int (fun _ _ => rfl)) (po_some pe_int) po_none)) (pg_name (i := 4) sc_law_pack_words.nd rfl (.inl rfl))
          (pss_one
            (ps_set (i := 2) sc_law_pack_words.nd rfl (.inl rfl) (pe_op op_cat (pv 2) (pe_call G_law_words (hr.mono (by omega)) (by rfl) D_law_words.g D_law_words.fn.kp D_law_words.b .nil pass0 (pa_cons (pv 4) pa_nil))))))
      (pss_one
        (ps_ret (pv 2))))))))
      , ?_⟩
    rw [show L2.start N_law_pack_words [v, V.ref l] = [some v, some (.ref l), none, none, none] from rfl]
    cases p with
    | over n m es =>
      obtain ⟨t, r, as, rfl, et, er, rfl, has⟩ := hp
      obtain ⟨hn, hm, hes, hpk⟩ := hok
      rw [List.length_map] at hes
      have at0 : atI [nV n, V.str (Str.ofString "over"), nV m, V.ref r] 0 = some (nV n) := rfl
      have at1 : atI [nV n, V.str (Str.ofString "over"), nV m, V.ref r] 1 = some (.str (Str.ofString "over")) := rfl
      have at2 : atI [nV n, V.str (Str.ofString "over"), nV m, V.ref r] 2 = some (nV m) := rfl
      have at3 : atI [nV n, V.str (Str.ofString "over"), nV m, V.ref r] 3 = some (.ref r) := rfl
      walk_at "x"
      refine w_strN hn ?_
      walk_at "g"
      refine w_new fun u1 H1 hu1 e1 k1 => ?_
      have et1 := k1 _ _ et
      walk_at "g"
      refine w_seq ?_
      walk_at "g"
      rw [if_pos (by decide)]
      walk_at "g"
      refine w_strN hm ?_
      walk_at "g"
      refine w_new fun u2 H2 hu2 e2 k2 => ?_
      have k02 := Same.trans k1 k2
      refine w_catN (xs := [iS n, OVR]) (k2 _ _ e1) (zs := [iS m, OP]) e2 (show 4 ≤ 200000 by decide) fun u3 H3 hu3 e3 k3 => ?_
      have k03 := Same.trans k02 k3
      have et3 := k03 _ _ et
      have er3 := k03 _ _ er
      walk_at "g"
      refine lp_tup (xs := as.map (·.1)) (fun i σ H' => ∃ (u : Addr) (y : Option V), σ = [some (.ref t), some (.ref l), some (.ref u), y, none] ∧ Kp [l] H H' ∧ KT H H' ∧ H u = none ∧ H' u = some (.lst ((iS n :: OVR :: iS m :: OP :: ((as.take i).map (·.2)).flatMap El.w).map V.str)) ∧ H' l = some (.lst ((ls ++ ((as.take i).map (·.2)).flatMap El.l).map V.str))) ⟨u3, _, rfl, Kp.of k03, KT.of k03, k02.free hu3, e3, by rw [k03 _ _ el]; simp⟩ (fun i σ H' _ ⟨_, _, _, _, k', _⟩ => .of (k' _ _ er)) ?_ ?_
      · rintro i x σ H4 hx ⟨u, y, rfl, k4, t4, hu, e4, el4⟩
        obtain ⟨p, hp, rfl⟩ := map_at hx
        have hpm := List.mem_of_getElem? hp
        have hpat := (has p hpm).kt t4
        have hpok := hpk p.2 (List.mem_map.mpr ⟨p, hpm, rfl⟩)
        have hil : i < as.length := (List.getElem?_eq_some_iff.mp hp).1
        have hlen := fw_len ((as.take i).map (·.2))
        rw [List.length_map, List.length_take] at hlen
        have hlenl := fl_len ((as.take i).map (·.2)) (fun e he => by
          obtain ⟨q', hq', rfl⟩ := List.mem_map.mp he
          exact (hpk q'.2 (List.mem_map.mpr ⟨q', List.mem_of_mem_take hq', rfl⟩)).1)
        rw [List.length_map, List.length_take] at hlenl
        have hul : u ≠ l := ne_of_none' el hu
        have nxt : ∀ {H6 : Hp} {u2 : Addr} {x : V}, Kp [l] H4 H6 → KT H4 H6 → H4 u2 = none → H6 u2 = some (.lst (((iS n :: OVR :: iS m :: OP :: ((as.take i).map (·.2)).flatMap El.w) ++ p.2.w).map V.str)) → H6 l = some (.lst ((ls ++ ((as.take i).map (·.2)).flatMap El.l ++ p.2.l).map V.str)) → ∃ (u : Addr) (y : Option V), [some (.ref t), some (.ref l), some (.ref u2), some x, none] = [some (.ref t), some (.ref l), some (.ref u), y, none] ∧ Kp [l] H H6 ∧ KT H H6 ∧ H u = none ∧ H6 u = some (.lst ((iS n :: OVR :: iS m :: OP :: ((as.take (i + 1)).map (·.2)).flatMap El.w).map V.str)) ∧ H6 l = some (.lst ((ls ++ ((as.take (i + 1)).map (·.2)).flatMap El.l).map V.str)) := fun {H6 u2 x} k6 t6 hu2 e6 el6 => by
          have hu20 : H u2 = none := by
            cases e : H u2 with
            | none => rfl
            | some o =>
              by_cases hl2 : u2 = l
              · rw [hl2, el4] at hu2
                cases hu2
              · rw [k4 _ _ (by simpa using hl2) e] at hu2
                cases hu2
          refine ⟨u2, _, rfl, k4.trans k6, t4.trans t6, hu20, ?_, ?_⟩
          · rw [e6, List.take_add_one, hp, List.map_append (l₁ := as.take i), List.flatMap_append]
            simp
          · rw [el6, List.take_add_one, hp, List.map_append (l₁ := as.take i), List.flatMap_append]
            simp
        obtain ⟨pv, pe⟩ := p
        refine w_name ?_
        walk_at "g"
        cases pe with
        | take a b =>
          obtain ⟨t2, rfl, et2⟩ := hpat
          have bt0 : atI [V.str (Str.ofString "take"), nV a, nV b] 0 = some (.str (Str.ofString "take")) := rfl
          have bt1 : atI [V.str (Str.ofString "take"), nV a, nV b] 1 = some (nV a) := rfl
          have bt2 : atI [V.str (Str.ofString "take"), nV a, nV b] 2 = some (nV b) := rfl
          walk_at "g"
          rw [if_pos (by decide)]
          walk_at "g"
          refine w_strN hpok.1.1 ?_
          walk_at "g"
          refine w_strN hpok.1.2.1 ?_
          walk_at "g"
          refine w_new fun l3 H5 hl3 e5 k5 => ?_
          refine w_catN (k5 _ _ e4) (zs := ["take", iS a, iS b]) e5 (by simp only [List.length_cons, List.length_nil]; omega) fun l4 H6 hl4 e6 k6 => ?_
          walk_at "g"
          have k46 := Same.trans k5 k6
          exact nxt (Kp.of k46) (KT.of k46) (k5.free hl4) e6 (by rw [k46 _ _ el4]; simp [El.l])
        | put rs =>
          obtain ⟨t2, r2, rfl, et2, er2⟩ := hpat
          have bt0 : atI [V.str (Str.ofString "put"), V.ref r2] 0 = some (.str (Str.ofString "put")) := rfl
          have bt1 : atI [V.str (Str.ofString "put"), V.ref r2] 1 = some (.ref r2) := rfl
          have hrl : rs.length ≤ 40 := hpok.1.1.1
          walk_at "g"
          rw [if_neg (by decide)]
          walk_at "g"
          refine w_strN (n := (rs.map V.str).length) (by rw [List.length_map]; exact Nat.le_trans hrl (by decide)) ?_
          rw [List.length_map]
          walk_at "g"
          refine w_new fun l3 H5 hl3 e5 k5 => ?_
          refine w_catN (k5 _ _ e4) (zs := ["put", iS rs.length]) e5 (by simp only [List.length_cons, List.length_nil]; omega) fun l4 H6 hl4 e6 k6 => ?_
          have k46 := Same.trans k5 k6
          have et6 := k46 _ _ et2
          have er6 := k46 _ _ er2
          have el6 := k46 _ _ el4
          walk_at "g"
          refine w_extNT el6 er6 (by rw [List.length_append]; omega) fun H7 e7 o7 => ?_
          walk_at "g"
          have hl4l : l4 ≠ l := ne_of_none' (k5 _ _ el4) hl4
          exact nxt ((Kp.of k46).trans (o7.kp (by simp))) ((KT.of k46).trans (KT.offN o7 el6)) (k5.free hl4) (o7.get hl4l e6) e7
        | int _ => exact absurd hpok.2 (fun z => nomatch z)
        | tr _ => exact absurd hpok.2 (fun z => nomatch z)
        | lab _ => exact absurd hpok.2 (fun z => nomatch z)
        | pair _ _ => exact absurd hpok.2 (fun z => nomatch z)
      · rintro σ H4 ⟨u, y, rfl, k4, t4, hu, e4, el4⟩
        rw [List.length_map, List.take_length] at e4 el4
        have hlen := fw_len (as.map (·.2))
        rw [List.length_map] at hlen
        walk_at "g"
        refine w_new fun l3 H5 hl3 e5 k5 => ?_
        refine w_catN (k5 _ _ e4) (zs := [CP]) e5 (by simp only [List.length_cons, List.length_nil]; omega) fun l4 H6 hl4 e6 k6 => ?_
        have k46 := Same.trans k5 k6
        have hl40 : H l4 = none := by
          have hl4' := k5.free hl4
          cases e : H l4 with
          | none => rfl
          | some o =>
            by_cases hl2 : l4 = l
            · rw [hl2, el4] at hl4'
              cases hl4'
            · rw [k4 _ _ (by simpa using hl2) e] at hl4'
              cases hl4'
        exact q H6 l4 hl40 (k4.trans (Kp.of k46)) (t4.trans (KT.of k46)) (k46 _ _ el4) (by rw [e6]; simp [Pk.w, lwE])
    | plain n c =>
      obtain ⟨t, x, rfl, et, hc⟩ := hp
      obtain ⟨hn, hcok⟩ := hok
      have at0 : atI [nV n, V.str (Str.ofString "plain"), x] 0 = some (nV n) := rfl
      have at1 : atI [nV n, V.str (Str.ofString "plain"), x] 1 = some (.str (Str.ofString "plain")) := rfl
      have at2 : atI [nV n, V.str (Str.ofString "plain"), x] 2 = some x := rfl
      walk_at "x"
      refine w_strN hn ?_
      walk_at "g"
      refine w_new fun u1 H1 hu1 e1 k1 => ?_
      have et1 := k1 _ _ et
      have el1 := k1 _ _ el
      walk_at "g"
      refine w_seq ?_
      walk_at "g"
      rw [if_neg (by decide)]
      walk_at "g"
      have hul : u1 ≠ l := ne_of_none' el hu1
      rcases Cn.parts hc hcok with ⟨rs, rfl⟩ | ⟨tc, wd, qs, rfl, hwd, etc, hqs, hcw, hcl, hql, hqw⟩
      · obtain ⟨tc, r, rfl, etc, er⟩ := hc
        have etc1 := k1 _ _ etc
        have er1 := k1 _ _ er
        have ct0 : atI [V.str (Str.ofString "leaf"), V.ref r] 0 = some (.str (Str.ofString "leaf")) := rfl
        have ct1 : atI [V.str (Str.ofString "leaf"), V.ref r] 1 = some (.ref r) := rfl
        have hrl : rs.length ≤ 40 := hcok.1
        walk_at "g"
        refine w_app e1 (show 2 < sizeLine by decide) fun H2 e2 o2 => ?_
        have et2 := o2.get (ne_of et1 e1 (fun z => nomatch z)) et1
        have etc2 := o2.get (ne_of etc1 e1 (fun z => nomatch z)) etc1
        have er2 := o2.get (ne_of er1 e1 (fun z => nomatch z)) er1
        have el2 := o2.get hul.symm el1
        walk_at "g"
        refine w_seq ?_
        walk_at "g"
        rw [if_pos (by decide)]
        walk_at "g"
        refine w_extNT el2 er2 (by omega) fun H3 e3 o3 => ?_
        have et3 := o3.get (ne_of et2 el2 (fun z => nomatch z)) et2
        have etc3 := o3.get (ne_of etc2 el2 (fun z => nomatch z)) etc2
        have er3 := o3.get (ne_of er2 el2 (fun z => nomatch z)) er2
        have eu3 := o3.get hul e2
        walk_at "g"
        refine w_strN (n := (rs.map V.str).length) (by rw [List.length_map]; exact Nat.le_trans hrl (by decide)) ?_
        rw [List.length_map]
        walk_at "g"
        refine w_new fun u4 H4 hu4 e4 k4 => ?_
        refine w_catN (k4 _ _ (show H3 u1 = some (.lst ([iS n, PLAIN, ("leaf" : Str)].map V.str)) from eu3)) (zs := [iS rs.length]) e4 (by simp only [List.length_cons, List.length_nil]; omega) fun u5 H5 hu5 e5 k5 => ?_
        have kp : Kp [u1, l] H1 H5 := ((o2.kp (by simp)).trans (o3.kp (by simp))).trans (Kp.of (Same.trans k4 k5))
        have kt : KT H H5 := (((KT.of k1).trans (KT.offN o2 e1)).trans (KT.offN o3 el2)).trans (KT.of (Same.trans k4 k5))
        have kpl : Kp [l] H H5 := fun b o hb e => kp b o (by
          simp only [List.mem_cons, List.not_mem_nil, or_false, not_or]
          exact ⟨ne_of_none e hu1, by simpa using hb⟩) (k1 _ _ e)
        have hu50 : H u5 = none := by
          cases e : H u5 with
          | none => rfl
          | some o =>
            have hu5' := k4.free hu5
            by_cases hb : u5 = l
            · rw [hb, e3] at hu5'
              cases hu5'
            · rw [((o2.kp (M := [u1, l]) (by simp)).trans (o3.kp (by simp))) u5 o (by
                simp only [List.mem_cons, List.not_mem_nil, or_false, not_or]
                exact ⟨ne_of_none e hu1, hb⟩) (k1 _ _ e)] at hu5'
              cases hu5'
        exact q H5 u5 hu50 kpl kt (by rw [(Same.trans k4 k5) _ _ e3]; rfl) (by rw [e5]; rfl)
      · have etc1 := k1 _ _ etc
        have ct0 : atI (V.str wd :: qs.map (·.1)) 0 = some (.str wd) := atI_nat (j := 0) rfl
        walk_at "g"
        refine w_app e1 (show 2 < sizeLine by decide) fun H2 e2 o2 => ?_
        have et2 := o2.get (ne_of et1 e1 (fun z => nomatch z)) et1
        have etc2 := o2.get (ne_of etc1 e1 (fun z => nomatch z)) etc1
        have el2 := o2.get hul.symm el1
        walk_at "g"
        refine w_seq ?_
        walk_at "g"
        rw [decide_eq_false hwd, if_neg (by decide)]
        walk_at "g"
        refine w_slAt etc2 fun p3 H3 ep3 k3 => ?_
        rw [cut1] at ep3
        have ep3 : H3 p3 = some (.tup (qs.map (·.1))) := ep3
        have k02 : Kp [u1] H1 H3 := (o2.kp (by simp)).trans (Kp.of k3)
        have t02 : KT H H3 := ((KT.of k1).trans (KT.offN o2 e1)).trans (KT.of k3)
        have kp0 : Same H H3 := fun b o e => k02 _ _ (by simpa using ne_of_none e hu1) (k1 _ _ e)
        walk_at "g"
        refine lp_tup (xs := qs.map (·.1)) (fun i σ H' => ∃ (u : Addr) (y : Option V), σ = [some (.ref t), some (.ref l), some (.ref u), none, y] ∧ Same H H' ∧ H' p3 = some (.tup (qs.map (·.1))) ∧ H u = none ∧ H' u = some (.lst ((iS n :: PLAIN :: wd :: (qs.take i).flatMap fun q => q.2.w).map V.str))) ⟨u1, _, rfl, kp0, ep3, hu1, k3 _ _ e2⟩ (fun i σ H' _ ⟨_, _, _, _, e', _⟩ => .of e') ?_ ?_
        · rintro i x σ H4 hx ⟨u, y, rfl, k4, e4, hu, eu4⟩
          obtain ⟨p, hp, rfl⟩ := map_at hx
          have hpm := List.mem_of_getElem? hp
          have hil : i < qs.length := (List.getElem?_eq_some_iff.mp hp).1
          have hw1 := hqw p hpm
          have hlen : ((qs.take i).flatMap fun q => q.2.w).length ≤ 200 * 3 := by
            have h1 : ∀ ps : List (V × Ar), (∀ q ∈ ps, q.2.w.length ≤ 200) → (ps.flatMap fun q => q.2.w).length ≤ 200 * ps.length := by
              intro ps
              induction ps with
              | nil => intro _; exact Nat.le_refl _
              | cons a ps ih =>
                intro h
                rw [List.flatMap_cons, List.length_append, List.length_cons]
                have := h a (by simp)
                have := ih fun q hq => h q (List.mem_cons_of_mem _ hq)
                omega
            have h2 := h1 (qs.take i) fun q hq => hqw q (List.mem_of_mem_take hq)
            rw [List.length_take] at h2
            omega
          refine w_name ?_
          walk_at "g"
          refine ⟨p.1, p.2, rfl, (hqs p hpm).1.kt (KT.of k4), (hqs p hpm).2, trivial, fun H5 l5 k5 hl5 e5 => ?_⟩
          walk_at "g"
          refine w_catN (k5 _ _ eu4) e5 (by simp only [List.length_cons]; omega) fun u6 H6 hu6 e6 k6 => ?_
          walk_at "g"
          have k46 := Same.trans k5 k6
          refine ⟨u6, _, rfl, Same.trans k4 k46, k46 _ _ e4, k4.free (k5.free hu6), ?_⟩
          rw [e6, List.take_add_one, hp, List.flatMap_append]
          simp
        · rintro σ H4 ⟨u, y, rfl, k4, e4, hu, eu4⟩
          rw [List.length_map, List.take_length] at eu4
          walk_at "g"
          exact q H4 u hu (Kp.of k4) (KT.of k4) (by rw [k4 _ _ el, show (Pk.plain n c).l = c.l from rfl, hcl, List.append_nil]) (by rw [eu4, show (Pk.plain n c).w = iS n :: PLAIN :: c.w from rfl, hcw])
end
/-! ### what the law writes and what is refused -/
theorem FORM_pack : ∀ f ∈ FORM, ∀ j ∈ List.range f.2.length, (f.2[j]? = some .pack ↔ (f.1 = "row" ∧ j = 1)) := by decide +kernel
theorem Fits.kind {i : Nat} {rw : Str} {as : List Ar} (h : Fits i rw as) {j : Nat} {a : Ar} (hj : as[j]? = some a) : (rw = "row" ∧ j = 1 ∧ ∃ p, a = .pk p) ∨ (¬ (rw = "row" ∧ j = 1) ∧ plainA a) := by
  obtain ⟨⟨ks, hf, hl, hfit⟩, _⟩ := h
  have hja := (List.getElem?_eq_some_iff.mp hj).1
  have hk : ks[j]? = some (ks[j]'(by omega)) := List.getElem?_eq_getElem (by omega)
  have ht := FORM_pack _ (List.mem_of_getElem? hf) j (List.mem_range.mpr (show j < ks.length by omega))
  have hft := hfit j _ a hk hj
  generalize ks[j]'(by omega) = k at hk hft
  by_cases hp : k = .pack
  · subst hp
    obtain ⟨h1, h2⟩ := ht.mp hk
    refine .inl ⟨h1, h2, ?_⟩
    cases a with
    | one e => cases hft
    | lst es => obtain ⟨d, h, _⟩ := hft; cases h
    | pk p => exact ⟨p, rfl⟩
  · refine .inr ⟨fun z => hp ?_, ?_⟩
    · have := ht.mpr z
      rw [show (rw, ks).2[j]? = some k from hk] at this
      exact Option.some.inj this
    · cases a with
      | one e =>
        have hft : k.one = some e.kd := hft
        cases k <;> first | (cases hft; done) | skip
        · exact .inl (Option.some.inj hft).symm
        · exact .inr (.inl (Option.some.inj hft).symm)
      | lst es =>
        obtain ⟨d, hd, hall⟩ := hft
        intro e he z
        have := hall e he
        rw [z] at this
        subst this
        cases k <;> cases hd
      | pk p => exact absurd hft hp
theorem plainA_l {a : Ar} (h : plainA a) : a.l = [] := by
  cases a with
  | one e => rcases h with h | h | h <;> (cases e <;> first | rfl | cases h)
  | lst es =>
    show llE es = []
    unfold llE
    induction es with
    | nil => rfl
    | cons e es ih =>
      rw [List.flatMap_cons, ih fun x hx => h x (List.mem_cons_of_mem _ hx), List.append_nil]
      have := h e (by simp)
      cases e <;> first | rfl | exact absurd rfl this
  | pk p => cases h
section
variable {P : Program} {w : World} {K : PySem.W.Frag} {mg : Str → Option Value} {base : Heap}
theorem ok_lwritten {f fW fP : Addr} {fd fdW fdP : FuncData} (T : Txt K mg) (F : Fun K "_law_written" "_law_written" s_law_written f fd) (D_law_words : Df K mg "_law_words" s_law_words ["_law_thing"] fW fdW) (D_law_pack_words : Df K mg "_law_pack_words" s_law_pack_words ["_law_row_here", "_law_lines"] fP fdP) : FnOk P w K mg base CX0 4 f fd ["_law_row_here"] spLWritten := by
  have G_law_words : FnOk P w K mg base CX0 2 fW fdW ["_law_thing"] (spLW fun _ => True) := ok_words T D_law_words
  have G_law_pack_words : FnOk P w K mg base CX0 3 fP fdP ["_law_row_here", "_law_lines"] spLPackW := ok_lpackw T D_law_pack_words.fn D_law_words
  refine F.ok sc_law_written (fun vs H Q E h => ?_) (fun cdv A outer s H vs Q E hr h => ?_)
  · obtain ⟨t, i, rw', as, rfl, _⟩ := h
    rfl
  · obtain ⟨t, fi, rw', as, rfl, hR, q⟩ := h
    refine ⟨_,
      (pss_cons
        (ps_set (i := 1) sc_law_written.nd rfl (.inl rfl) (pe_lst (pa_cons (pe_ix (r := rIxT K) ix_tup (pv 0) pe_int (fun _ _ => rfl)) pa_nil)))
      (pss_cons
        (ps_set (i := 2) sc_law_written.nd rfl (.inl rfl) (pe_lst pa_nil))
      (pss_cons
        (ps_for PassesOwn.never rfl (pi_range2 (by rfl) T.n_range (pa_cons pe_int (pa_cons (pe_callB (r := rLen K) c_len (by rfl) T.n_len (by decide +kernel) (pa_cons (pv 0) pa_nil)) pa_nil))) (pg_name (i := 3) sc_law_written.nd rfl (.inl rfl))
          (pss_one
            (ps_if (PW.pt (pw_and (pt_cmpR op_eq (pe_ix (r := rIxT K) ix_tup (pv 0) pe_int (fun _ _ => rfl)) pe_str (nomark _)) (pw_and1 (pt_cmpR op_eq (pv 3) pe_int (nomark _)))))
              (pss_one
                (ps_set (i := 1) sc_law_written.nd rfl (.inl rfl) (pe_op op_cat (pv 1) (pe_call G_law_pack_words (hr.mono (by omega)) (by rfl) D_law_pack_words.g D_law_pack_words.fn.kp D_law_pack_words.b .nil pass0 (pa_cons (pe_ix (r := rIxT K) ix_tup (pv 0) pe_int (fun _ _ => rfl)) (pa_cons (pv 2) pa_nil))))))
              (pss_one
                (ps_set (i := 1) sc_law_written.nd rfl (.inl rfl) (pe_op op_cat (pv 1) (pe_call G_law_words (hr.mono (by omega)) (by rfl) D_law_words.g D_law_words.fn.kp D_law_words.b .nil pass0 (pa_cons (pe_ix (r := rIxT K) ix_tup (pv 0) (pv 3) (fun _ _ => rfl)) pa_nil))))))))
      (pss_one
        (ps_ret (p_join pe_str (pe_op op_cat (pe_lst (pa_cons (p_join pe_str (pv 1)) pa_nil)) (pv 2))))))))
      , ?_⟩
    rw [show L2.start N_law_written [V.ref t] = [some (.ref t), none, none, none] from rfl]
    obtain ⟨et, has, hfits⟩ := hR
    have hok2 : ∀ x ∈ as.map (·.2), x.ok := fun x hx => by
      obtain ⟨q', hq', rfl⟩ := List.mem_map.mp hx
      exact (has q' hq').2
    obtain ⟨hal, hrw⟩ : as.length ≤ 10 ∧ rw'.length ≤ 100 := by
      obtain ⟨⟨ks, hf, hl, _⟩, _⟩ := hfits
      have := FORM_le _ (List.mem_of_getElem? hf)
      rw [List.length_map] at hl
      have h2 : ks.length ≤ 6 ∧ rw'.length ≤ 100 := this
      exact ⟨by omega, h2.2⟩
    have at0 : atI (V.str rw' :: as.map (·.1)) 0 = some (.str rw') := atI_nat (j := 0) rfl
    walk_at "x"
    refine w_new fun a H1 ha e1 k1 => ?_
    walk_at "g"
    refine w_new fun l H2 hl e2 k2 => ?_
    have hl0 : H l = none := k1.free hl
    have et2 := k2 _ _ (k1 _ _ et)
    walk_at "g"
    try refine w_rng2' (by simp only [List.length_cons, List.length_map]; omega) ?_
    refine lp_range (fun i σ H' => ∃ (u : Addr) (y : Option V), σ = [some (.ref t), some (.ref u), some (.ref l), y] ∧ Kp [l] H2 H' ∧ KT H2 H' ∧ H u = none ∧ u ≠ l ∧ H' u = some (.lst ((rw' :: ((as.take i).map (·.2)).flatMap Ar.w).map V.str)) ∧ H' l = some (.lst ((((as.take i).map (·.2)).flatMap Ar.l).map V.str))) ⟨a, _, rfl, Kp.refl, KT.refl, ha, ne_of_none e1 hl, k2 _ _ e1, e2⟩ ?_ ?_
    · rintro i σ H3 hi ⟨u, y, rfl, k3, t3, hu, hul, eu, el⟩
      have hil : i < as.length := by
        simp only [List.length_cons, List.length_map] at hi
        omega
      obtain ⟨p, hp⟩ : ∃ p, as[i]? = some p := ⟨_, List.getElem?_eq_getElem hil⟩
      have et3 := t3 _ _ et2
      have atk : atI (V.str rw' :: as.map (·.1)) (1 + (i : Int)) = some p.1 := by
        have := atI_nat (xs := V.str rw' :: as.map (·.1)) (j := i + 1) (v := p.1) (by rw [List.getElem?_cons_succ, List.getElem?_map, hp]; rfl)
        rw [show (1 : Int) + (i : Int) = ((i + 1 : Nat) : Int) by omega]
        exact this
      have hkd := hfits.kind (j := i) (a := p.2) (by rw [List.getElem?_map, hp]; rfl)
      have hpm := List.mem_of_getElem? hp
      have t03 : KT H H3 := ((KT.of k1).trans (KT.of k2)).trans t3
      have hsum := Ar.sum_len ((as.take i).map (·.2)) (fun e he => by
        obtain ⟨q', hq', rfl⟩ := List.mem_map.mp he
        exact (has q' (List.mem_of_mem_take hq')).2)
      rw [List.length_map, List.length_take] at hsum
      have hw1 := Ar.w_len (has p hpm).2
      have nxt : ∀ {H6 : Hp} {u2 : Addr} {x : V}, Kp [l] H3 H6 → KT H3 H6 → H3 u2 = none → H6 u2 = some (.lst (((rw' :: ((as.take i).map (·.2)).flatMap Ar.w) ++ p.2.w).map V.str)) → H6 l = some (.lst ((((as.take i).map (·.2)).flatMap Ar.l ++ p.2.l).map V.str)) → ∃ (u : Addr) (y : Option V), [some (.ref t), some (.ref u2), some (.ref l), some x] = [some (.ref t), some (.ref u), some (.ref l), y] ∧ Kp [l] H2 H6 ∧ KT H2 H6 ∧ H u = none ∧ u ≠ l ∧ H6 u = some (.lst ((rw' :: ((as.take (i + 1)).map (·.2)).flatMap Ar.w).map V.str)) ∧ H6 l = some (.lst ((((as.take (i + 1)).map (·.2)).flatMap Ar.l).map V.str)) := fun {H6 u2 x} k6 t6 hu2 e6 el6 => by
        have hul2 : u2 ≠ l := ne_of_none' el hu2
        have hu20 : H u2 = none := by
          cases e : H u2 with
          | none => rfl
          | some o =>
            rw [k3 _ _ (by simpa using hul2) (k2 _ _ (k1 _ _ e))] at hu2
            cases hu2
        refine ⟨u2, _, rfl, k3.trans k6, t3.trans t6, hu20, hul2, ?_, ?_⟩
        · rw [e6, List.take_add_one, hp, List.map_append (l₁ := as.take i), List.flatMap_append]
          simp
        · rw [el6, List.take_add_one, hp, List.map_append (l₁ := as.take i), List.flatMap_append]
          simp
      walk_at "g"
      rcases hkd with ⟨hrow, rfl, pk, hpk⟩ | ⟨hne, hplain⟩
      · have at2 : atI (V.str rw' :: as.map (·.1)) 2 = some p.1 := atk
        rw [decide_eq_true hrow, if_pos rfl]
        walk_at "g"
        rw [decide_eq_true (show (1 : Int) + ((1 : Nat) : Int) = 2 by decide), if_pos rfl]
        walk_at "g"
        obtain ⟨pv, pa⟩ := p
        obtain rfl : pa = .pk pk := hpk
        refine ⟨pv, l, pk, _, rfl, ((has _ hpm).1.kt t03), (has _ hpm).2, el, by omega, fun H4 u4 hu4 k4 t4 el4 e4 => ?_⟩
        walk_at "g"
        refine w_catN (k4 _ _ (by simpa using hul) eu) e4 (by
          have : pk.w.length ≤ 200 := hw1.1
          simp only [List.length_cons]; omega) fun u5 H5 hu5 e5 k5 => ?_
        walk_at "g"
        have hu53 : H3 u5 = none := by
          cases e : H3 u5 with
          | none => rfl
          | some o =>
            by_cases hb : u5 = l
            · rw [hb, el4] at hu5
              cases hu5
            · rw [k4 _ _ (by simpa using hb) e] at hu5
              cases hu5
        exact nxt (k4.trans (Kp.of k5)) (t4.trans (KT.of k5)) hu53 e5 (k5 _ _ el4)
      · by_cases h1 : rw' = "row"
        · have hi1 : ¬ (1 : Int) + (i : Int) = 2 := fun z => hne ⟨h1, by omega⟩
          rw [decide_eq_true h1, if_pos rfl]
          walk_at "g"
          rw [decide_eq_false hi1, if_neg (by decide)]
          walk_at "g"
          refine ⟨p.1, p.2, rfl, ((has p hpm).1.kt t03 |> fun g => Good.w ⟨g, (has p hpm).2⟩), hplain, trivial, fun H4 l4 k4 hl4 e4 => ?_⟩
          walk_at "g"
          refine w_catN (k4 _ _ eu) e4 (by simp only [List.length_cons]; omega) fun u5 H5 hu5 e5 k5 => ?_
          walk_at "g"
          exact nxt (Kp.of (Same.trans k4 k5)) (KT.of (Same.trans k4 k5)) (k4.free hu5) e5 (by rw [(Same.trans k4 k5) _ _ el, plainA_l hplain, List.append_nil])
        · rw [decide_eq_false h1, if_neg (by decide)]
          walk_at "g"
          refine ⟨p.1, p.2, rfl, ((has p hpm).1.kt t03 |> fun g => Good.w ⟨g, (has p hpm).2⟩), hplain, trivial, fun H4 l4 k4 hl4 e4 => ?_⟩
          walk_at "g"
          refine w_catN (k4 _ _ eu) e4 (by simp only [List.length_cons]; omega) fun u5 H5 hu5 e5 k5 => ?_
          walk_at "g"
          exact nxt (Kp.of (Same.trans k4 k5)) (KT.of (Same.trans k4 k5)) (k4.free hu5) e5 (by rw [(Same.trans k4 k5) _ _ el, plainA_l hplain, List.append_nil])
    · rintro σ H3 ⟨u, y, rfl, k3, t3, hu, hul, eu, el⟩
      rw [show ((((V.str rw' :: as.map fun x => x.1).length : Nat) : Int) - 1).toNat = as.length by simp only [List.length_cons, List.length_map]; omega, List.take_length] at eu el
      obtain ⟨b1, b2⟩ := txt_fits (rw := rw') hok2 (by rw [List.length_map]; exact hal) hrw
      walk_at "g"
      refine w_joinL (.of eu) b1 ?_
      walk_at "g"
      refine w_new fun x1 H5 hx1 ex1 k5 => ?_
      have el5 := k5 _ _ el
      walk_at "g"
      refine w_cat ex1 el5 ?_ fun p2 H6 hp2 ep2 k6 => ?_
      · have := Ar.sum_len (as.map (·.2)) hok2
        rw [List.length_map] at this
        rw [List.length_map]
        simp only [List.length_cons, List.length_nil]
        exact Nat.le_of_lt (small5 (by omega))
      · refine w_joinL (ys := Txt.join SPS (rw' :: (as.map (·.2)).flatMap Ar.w) :: (as.map (·.2)).flatMap Ar.l) (.of (by rw [ep2]; rfl)) b2 ?_
        exact q H6 fun b o e => k6 _ _ (k5 _ _ (k3 b o (by simpa using ne_of_none e hl0) (k2 _ _ (k1 _ _ e))))
end
/-! ### reading, as a function on the words and lines that are left -/
def ZRO : Str := "0"
def dgB (c : Nat) : Bool := decide (c ∈ (Str.ofString "0123456789").cps.toList)
def numV (z : Str) : Nat := PySem.NumText.digitsVal z.cps.toList
def numB (z : Str) : Bool := decide (1 ≤ z.length) && decide (z.length ≤ 19) && z.cps.toList.all dgB && (decide (z = ZRO) || decide (z.cps.toList.head? ≠ some 48)) && decide (numV z ≤ TOP)
def labB (z : Str) : Bool := decide (1 ≤ z.length) && decide (z.length ≤ 8) && z.cps.toList.all fun c => decide (c ∈ (Str.ofString "abcdefghijklmnopqrstuvwxyz").cps.toList)
def rowB (z : Str) : Bool := decide (z.length ≤ 40) && z.cps.toList.all fun c => decide (32 ≤ c) && decide (c ≤ 126) && decide (c ≠ 37)
theorem labB_iff {z : Str} : labB z = true ↔ LabOk z := by
  unfold labB LabOk
  simp only [Bool.and_eq_true, decide_eq_true_eq, List.all_eq_true, and_assoc]
theorem rowB_iff {z : Str} : rowB z = true ↔ RowN z := by
  unfold rowB RowN
  simp only [Bool.and_eq_true, decide_eq_true_eq, List.all_eq_true, and_assoc]
def rdInt : List Str → Option (Nat × List Str)
  | w :: W => if numB w = true then some (numV w, W) else none
  | [] => none
def rdTr : List Str → Option (Bool × List Str)
  | w :: W => if w = "yes" then some (true, W) else if w = "no" then some (false, W) else none
  | [] => none
def rdLab : List Str → Option (Str × List Str)
  | w :: W => if labB w = true then some (w, W) else none
  | [] => none
def rdLines (many : Nat) (L : List Str) : Option (List Str × List Str) := if (many ≤ 40 ∧ many ≤ L.length) ∧ (L.take many).all rowB = true then some (L.take many, L.drop many) else none
def rdEl : Kd → List Str → List Str → Option (El × List Str × List Str)
  | .int, W, L => (rdInt W).map fun x => (.int x.1, x.2, L)
  | .tr, W, L => (rdTr W).map fun x => (.tr x.1, x.2, L)
  | .lab, W, L => (rdLab W).map fun x => (.lab x.1, x.2, L)
  | .pair, W, L => (rdLab W).bind fun x => (rdInt x.2).map fun y => (.pair x.1 y.1, y.2, L)
  | .piece, [], _ => none
  | .piece, w :: W, L => (rdInt W).bind fun x => if w = "take" then (rdInt x.2).bind fun y => if 0 < y.1 then some (.take x.1 y.1, y.2, L) else none else if w = "put" ∧ 0 < x.1 then (rdLines x.1 L).map fun y => (.put y.1, x.2, y.2) else none
def rdMany (rd : List Str → List Str → Option (El × List Str × List Str)) : Nat → List Str → List Str → Option (List El × List Str × List Str)
  | 0, W, L => if W.head? = some CP then some ([], W.tail, L) else none
  | m + 1, W, L => if W.head? = some CP then some ([], W.tail, L) else (rd W L).bind fun x => (rdMany rd m x.2.1 x.2.2).map fun y => (x.1 :: y.1, y.2)
def rdList (k : Kd) (m : Nat) (W L : List Str) : Option (List El × List Str × List Str) := if W.head? = some OP then rdMany (rdEl k) m W.tail L else none
def risS (zs : List Str) : Bool := decide (zs.Pairwise fun a b => a.cps.toList < b.cps.toList)
def risN (ns : List Nat) : Bool := decide (ns.Pairwise (· < ·))
def El.p : El → Str × Nat
  | .pair z n => (z, n)
  | _ => ("", 0)
def El.n : El → Nat
  | .int n => n
  | _ => 0
def rdCn : List Str → List Str → Option (Cn × List Str × List Str)
  | [], _ => none
  | w :: W, L => if w = "leaf" then (rdInt W).bind fun x => (rdLines x.1 L).map fun y => (.leaf y.1, x.2, y.2) else
    if w = "tree" then (rdList .pair 20 W L).bind fun x => if risS ((x.1.map El.p).map (·.1)) = true then some (.tree (x.1.map El.p), x.2) else none else
    if w = "version" then (rdList .int 4 W L).bind fun x => if risN (x.1.map El.n) = true then (rdInt x.2.1).bind fun y => (rdInt y.2).map fun z => (.ver (x.1.map El.n) y.1 z.1, z.2, x.2.2) else none else none
def rdPk (W L : List Str) : Option (Pk × List Str × List Str) := (rdInt W).bind fun x => match x.2 with
  | [] => none
  | w :: W1 => if w = PLAIN then (rdCn W1 L).map fun y => (.plain x.1 y.1, y.2) else if w = OVR then (rdInt W1).bind fun y => (rdList .piece 40 y.2 L).map fun z => (.over x.1 y.1 z.1, z.2) else none
def rdAr : KK → List Str → List Str → Option (Ar × List Str × List Str)
  | .ints, W, L => (rdList .int 400 W L).map fun x => (.lst x.1, x.2)
  | .truths, W, L => (rdList .tr 400 W L).map fun x => (.lst x.1, x.2)
  | .labels, W, L => (rdList .lab 400 W L).map fun x => (.lst x.1, x.2)
  | .marks, W, L => (rdList .pair 400 W L).map fun x => (.lst x.1, x.2)
  | .int, W, L => (rdEl .int W L).map fun x => (.one x.1, x.2)
  | .truth, W, L => (rdEl .tr W L).map fun x => (.one x.1, x.2)
  | .pack, W, L => (rdPk W L).map fun x => (.pk x.1, x.2)
def rdArs : List KK → List Str → List Str → Option (List Ar × List Str × List Str)
  | [], W, L => some ([], W, L)
  | k :: ks, W, L => (rdAr k W L).bind fun x => (rdArs ks x.2.1 x.2.2).map fun y => (x.1 :: y.1, y.2)
def rdBy (f : Str × List KK) (W L : List Str) : Option (List Ar) := if W.head? = some f.1 then (rdArs f.2 W.tail L).bind fun x => if x.2 = ([], []) then some x.1 else none else none
def rdRow (W L : List Str) : Option (Str × List Ar) := FORM.findSome? fun f => (rdBy f W L).map fun as => (f.1, as)
/-! ### what is written is read -/
theorem iS_cps (n : Nat) : (iS n).cps.toList = (Nat.toDigits 10 n).map Char.toNat := by
  show (Str.ofString (toString n)).cps.toList = _
  rw [Str.ofString_eq_toList]
  show (toString n).toList.map Char.toNat = _
  rw [show toString n = n.repr from rfl, Nat.toList_repr]
theorem numV_iS (n : Nat) : numV (iS n) = n := by
  unfold numV
  rw [iS_cps]
  exact PySem.W.KIN.val_back n
theorem dig_head (n : Nat) (h0 : 0 < n) : ((Nat.toDigits 10 n).map Char.toNat).head? ≠ some 48 := by
  induction n using Nat.strongRecOn with
  | _ n ih =>
    by_cases h : n < 10
    · rw [Nat.toDigits_of_lt_base h]
      show some (Nat.digitChar n).toNat ≠ some 48
      rw [Nat.toNat_digitChar_of_lt_ten h]
      intro e
      have := Option.some.inj e
      omega
    · rw [Nat.toDigits_of_base_le (by decide) (by omega), List.map_append]
      have h1 := ih (n / 10) (Nat.div_lt_self (by omega) (by decide)) (by omega)
      cases e : (Nat.toDigits 10 (n / 10)).map Char.toNat with
      | nil =>
        exfalso
        have := Nat.length_toDigits_pos (b := 10) (n := n / 10)
        rw [← List.length_map (f := Char.toNat), e] at this
        simp at this
      | cons c r =>
        rw [e] at h1
        exact h1
theorem dig_ok {c : Nat} (h : 48 ≤ c ∧ c ≤ 57) : dgB c = true := by
  have key : ∀ d : Nat, d < 10 → dgB (48 + d) = true := by decide +kernel
  have := key (c - 48) (by omega)
  rwa [show 48 + (c - 48) = c by omega] at this
theorem numB_iS {n : Nat} (h : n ≤ TOP) : numB (iS n) = true := by
  have hl : (iS n).length = (Nat.toDigits 10 n).length := by
    show (iS n).cps.size = _
    rw [← Array.length_toList, iS_cps, List.length_map]
  unfold numB
  simp only [Bool.and_eq_true, Bool.or_eq_true, decide_eq_true_eq, List.all_eq_true]
  refine ⟨⟨⟨⟨by rw [hl]; exact Nat.length_toDigits_pos, iS_len h⟩, fun c hc => ?_⟩, ?_⟩, by rw [numV_iS]; exact h⟩
  · rw [iS_cps] at hc
    obtain ⟨ch, hch, rfl⟩ := List.mem_map.mp hc
    exact dig_ok (PyProof.Rows.digit_range (Nat.isDigit_of_mem_toDigits (by decide) (by decide) hch))
  · by_cases h0 : n = 0
    · subst h0
      exact .inl (by decide +kernel)
    · refine .inr ?_
      rw [iS_cps]
      exact dig_head n (by omega)
theorem rdInt_c (w : Str) (W : List Str) : rdInt (w :: W) = if numB w = true then some (numV w, W) else none := rfl
theorem rdTr_c (w : Str) (W : List Str) : rdTr (w :: W) = if w = "yes" then some (true, W) else if w = "no" then some (false, W) else none := rfl
theorem rdLab_c (w : Str) (W : List Str) : rdLab (w :: W) = if labB w = true then some (w, W) else none := rfl
theorem rdMany_p (rd : List Str → List Str → Option (El × List Str × List Str)) (m : Nat) (W L : List Str) : rdMany rd m (CP :: W) L = some ([], W, L) := by
  cases m with
  | zero => exact if_pos rfl
  | succ m => exact if_pos rfl
theorem rdInt_w {n : Nat} (h : n ≤ TOP) (W : List Str) : rdInt (iS n :: W) = some (n, W) := by
  rw [rdInt_c, if_pos (numB_iS h), numV_iS]
theorem rdLines_w {rs : List Str} (h : RowsN rs) (L : List Str) : rdLines rs.length (rs ++ L) = some (rs, L) := by
  unfold rdLines
  rw [if_pos ⟨⟨h.1, by rw [List.length_append]; omega⟩, by
    rw [List.take_left]
    exact List.all_eq_true.mpr fun z hz => rowB_iff.mpr (h.2 z hz)⟩, List.take_left, List.drop_left]
theorem rdEl_tr (W L : List Str) : rdEl .tr W L = (rdTr W).map fun x => (.tr x.1, x.2, L) := by
  simp only [rdEl]
theorem rdEl_w {e : El} (h : e.ok) (W L : List Str) : rdEl e.kd (e.w ++ W) (e.l ++ L) = some (e, W, L) := by
  cases e with
  | int n =>
    show (rdInt (iS n :: W)).map _ = _
    rw [rdInt_w h]
    rfl
  | tr b =>
    cases b with
    | true =>
      have e : (El.tr true).w = [("yes" : Str)] := by simp [El.w]
      rw [e]
      show rdEl .tr (("yes" : Str) :: W) ([] ++ L) = _
      rw [rdEl_tr]
      rw [rdTr_c, if_pos rfl]
      rfl
    | false =>
      have e : (El.tr false).w = [("no" : Str)] := by simp [El.w]
      rw [e]
      show rdEl .tr (("no" : Str) :: W) ([] ++ L) = _
      rw [rdEl_tr]
      rw [rdTr_c, if_neg (by decide), if_pos rfl]
      rfl
  | lab z =>
    show (rdLab (z :: W)).map _ = _
    rw [rdLab_c, if_pos (labB_iff.mpr h)]
    rfl
  | pair z n =>
    show (rdLab (z :: iS n :: W)).bind _ = _
    rw [rdLab_c, if_pos (labB_iff.mpr h.1)]
    show (rdInt (iS n :: W)).map _ = _
    rw [rdInt_w h.2]
    rfl
  | take a b =>
    show (rdInt (iS a :: iS b :: W)).bind _ = _
    rw [rdInt_w h.1, Option.bind_some, if_pos rfl]
    show (rdInt (iS b :: W)).bind _ = _
    rw [rdInt_w h.2.1]
    show (if 0 < b then _ else _) = _
    rw [if_pos h.2.2]
    rfl
  | put rs =>
    show (rdInt (iS rs.length :: W)).bind _ = _
    rw [rdInt_w (Nat.le_trans h.1.1 (by decide)), Option.bind_some, if_neg (by decide), if_pos ⟨rfl, h.2⟩]
    show (rdLines rs.length (rs ++ L)).map _ = _
    rw [rdLines_w h.1]
    rfl
theorem iS_ne {n : Nat} {s : Str} (h : numB s = false) (hn : n ≤ TOP) : iS n ≠ s := fun e => by
  have := numB_iS hn
  rw [e, h] at this
  cases this
theorem lab_ne {z s : Str} (h : labB s = false) (hz : LabOk z) : z ≠ s := fun e => by
  have := labB_iff.mpr hz
  rw [e, h] at this
  cases this
theorem El.head {e : El} (h : e.ok) (W : List Str) : (e.w ++ W).head? ≠ some CP ∧ e.w ≠ [] := by
  have key : ∀ {s : Str} {r : List Str}, s ≠ CP → ((s :: r) ++ W).head? ≠ some CP ∧ s :: r ≠ [] := fun hs => ⟨fun e => hs (Option.some.inj e), fun z => nomatch z⟩
  cases e with
  | int n => exact key (iS_ne (by decide +kernel) h)
  | tr b =>
    cases b with
    | true =>
      have e : (El.tr true).w = [("yes" : Str)] := by simp [El.w]
      rw [e]
      exact key (by decide)
    | false =>
      have e : (El.tr false).w = [("no" : Str)] := by simp [El.w]
      rw [e]
      exact key (by decide)
  | lab z => exact key (lab_ne (by decide +kernel) h)
  | pair z n => exact key (lab_ne (by decide +kernel) h.1)
  | take a b => exact key (by decide)
  | put rs => exact key (by decide)
theorem rdMany_w {k : Kd} (W L : List Str) : ∀ (es : List El) (m : Nat), (∀ e ∈ es, e.ok ∧ e.kd = k) → es.length ≤ m → rdMany (rdEl k) m (es.flatMap El.w ++ CP :: W) (es.flatMap El.l ++ L) = some (es, W, L)
  | [], m, _, _ => rdMany_p _ m W L
  | e :: es, 0, _, h => absurd h (by simp)
  | e :: es, m + 1, hs, h => by
    obtain ⟨ok, hk⟩ := hs e (by simp)
    rw [List.flatMap_cons, List.flatMap_cons, List.append_assoc, List.append_assoc]
    show (if (e.w ++ (es.flatMap El.w ++ CP :: W)).head? = some CP then _ else _) = _
    rw [if_neg (El.head ok _).1, ← hk, rdEl_w ok]
    show (rdMany (rdEl e.kd) m (es.flatMap El.w ++ CP :: W) (es.flatMap El.l ++ L)).map _ = _
    rw [rdMany_w W L es m (fun x hx => ⟨(hs x (List.mem_cons_of_mem _ hx)).1, by rw [hk]; exact (hs x (List.mem_cons_of_mem _ hx)).2⟩) (by simpa using h)]
    rfl
theorem rdList_w {k : Kd} {es : List El} {m : Nat} (h : ∀ e ∈ es, e.ok ∧ e.kd = k) (hm : es.length ≤ m) (W L : List Str) : rdList k m (lwE es ++ W) (llE es ++ L) = some (es, W, L) := by
  unfold rdList lwE llE
  rw [List.cons_append, if_pos (show (OP :: ((es.flatMap El.w ++ [CP]) ++ W)).head? = some OP from rfl)]
  show rdMany (rdEl k) m ((es.flatMap El.w ++ [CP]) ++ W) (es.flatMap El.l ++ L) = _
  rw [List.append_assoc]
  exact rdMany_w W L es m h hm
theorem pEl_p (ps : List (Str × Nat)) : (ps.map pEl).map El.p = ps := by
  rw [List.map_map]
  exact (List.map_congr_left fun q _ => rfl).trans (List.map_id _)
theorem int_n (ns : List Nat) : (ns.map El.int).map El.n = ns := by
  rw [List.map_map]
  exact (List.map_congr_left fun q _ => rfl).trans (List.map_id _)
theorem rdCn_c (w : Str) (W L : List Str) : rdCn (w :: W) L = if w = "leaf" then (rdInt W).bind fun x => (rdLines x.1 L).map fun y => (.leaf y.1, x.2, y.2) else
    if w = "tree" then (rdList .pair 20 W L).bind fun x => if risS ((x.1.map El.p).map (·.1)) = true then some (.tree (x.1.map El.p), x.2) else none else
    if w = "version" then (rdList .int 4 W L).bind fun x => if risN (x.1.map El.n) = true then (rdInt x.2.1).bind fun y => (rdInt y.2).map fun z => (.ver (x.1.map El.n) y.1 z.1, z.2, x.2.2) else none else none := rfl
theorem rdCn_w {c : Cn} (h : c.ok) (W L : List Str) : rdCn (c.w ++ W) (c.l ++ L) = some (c, W, L) := by
  cases c with
  | leaf rs =>
    show rdCn (("leaf" : Str) :: iS rs.length :: W) (rs ++ L) = _
    rw [rdCn_c, if_pos rfl]
    rw [rdInt_w (Nat.le_trans h.1 (by decide))]
    show (rdLines rs.length (rs ++ L)).map _ = _
    rw [rdLines_w h]
    rfl
  | tree ps =>
    show rdCn (("tree" : Str) :: (lwE (ps.map pEl) ++ W)) ([] ++ L) = _
    rw [rdCn_c, if_neg (by decide), if_pos rfl]
    have := rdList_w (k := .pair) (es := ps.map pEl) (m := 20) (fun e he => by
      obtain ⟨q, hq, rfl⟩ := List.mem_map.mp he
      exact ⟨h.2.1 q hq, rfl⟩) (by rw [List.length_map]; exact h.1) W L
    rw [llE_pair] at this
    show (rdList .pair 20 (lwE (ps.map pEl) ++ W) ([] ++ L)).bind _ = _
    rw [this]
    show (if risS (((ps.map pEl).map El.p).map (·.1)) = true then _ else _) = _
    rw [pEl_p, if_pos (show risS (ps.map (·.1)) = true from decide_eq_true h.2.2)]
  | ver ns a b =>
    show rdCn (("version" : Str) :: ((lwE (ns.map El.int) ++ [iS a, iS b]) ++ W)) ([] ++ L) = _
    rw [rdCn_c, if_neg (by decide), if_neg (by decide), if_pos rfl]
    have := rdList_w (k := .int) (es := ns.map El.int) (m := 4) (fun e he => by
      obtain ⟨q, hq, rfl⟩ := List.mem_map.mp he
      exact ⟨h.2.2.1 q hq, rfl⟩) (by rw [List.length_map]; exact h.1) (iS a :: iS b :: W) L
    rw [llE_int] at this
    show (rdList .int 4 ((lwE (ns.map El.int) ++ [iS a, iS b]) ++ W) ([] ++ L)).bind _ = _
    rw [List.append_assoc]
    show (rdList .int 4 (lwE (ns.map El.int) ++ (iS a :: iS b :: W)) ([] ++ L)).bind _ = _
    rw [this]
    show (if risN ((ns.map El.int).map El.n) = true then _ else _) = _
    rw [int_n, if_pos (show risN ns = true from decide_eq_true h.2.1)]
    show (rdInt (iS a :: iS b :: W)).bind _ = _
    rw [rdInt_w h.2.2.2.1]
    show (rdInt (iS b :: W)).map _ = _
    rw [rdInt_w h.2.2.2.2]
    rfl
theorem rdPk_w {p : Pk} (h : p.ok) (W L : List Str) : rdPk (p.w ++ W) (p.l ++ L) = some (p, W, L) := by
  cases p with
  | plain n c =>
    show (rdInt (iS n :: PLAIN :: (c.w ++ W))).bind _ = _
    rw [rdInt_w h.1, Option.bind_some]
    dsimp only
    rw [if_pos rfl]
    show (rdCn (c.w ++ W) (c.l ++ L)).map _ = _
    rw [rdCn_w h.2]
    rfl
  | over n m es =>
    show (rdInt (iS n :: OVR :: iS m :: (lwE es ++ W))).bind _ = _
    rw [rdInt_w h.1, Option.bind_some]
    dsimp only
    rw [if_neg (by decide), if_pos rfl]
    show (rdInt (iS m :: (lwE es ++ W))).bind _ = _
    rw [rdInt_w h.2.1]
    show (rdList .piece 40 (lwE es ++ W) (llE es ++ L)).map _ = _
    rw [rdList_w h.2.2.2 h.2.2.1]
    rfl
theorem rdAr_w {k : KK} {a : Ar} (ok : a.ok) (hf : fit k a) (W L : List Str) : rdAr k (a.w ++ W) (a.l ++ L) = some (a, W, L) := by
  cases a with
  | one e =>
    have hf : k.one = some e.kd := hf
    have h1 := rdEl_w (e := e) ok W L
    cases k <;> first | (cases hf; done) | skip
    · rw [← Option.some.inj hf] at h1
      show (rdEl .int (e.w ++ W) (e.l ++ L)).map _ = _
      rw [h1]; rfl
    · rw [← Option.some.inj hf] at h1
      show (rdEl .tr (e.w ++ W) (e.l ++ L)).map _ = _
      rw [h1]; rfl
  | lst es =>
    obtain ⟨d, hd, hk⟩ := hf
    have h1 := rdList_w (k := d) (es := es) (m := 400) (fun e he => ⟨ok.2 e he, hk e he⟩) (Nat.le_trans ok.1 (by decide)) W L
    cases k <;> first | (cases hd; done) | skip
    · cases hd
      show (rdList .int 400 (lwE es ++ W) (llE es ++ L)).map _ = _
      rw [h1]; rfl
    · cases hd
      show (rdList .tr 400 (lwE es ++ W) (llE es ++ L)).map _ = _
      rw [h1]; rfl
    · cases hd
      show (rdList .lab 400 (lwE es ++ W) (llE es ++ L)).map _ = _
      rw [h1]; rfl
    · cases hd
      show (rdList .pair 400 (lwE es ++ W) (llE es ++ L)).map _ = _
      rw [h1]; rfl
  | pk p =>
    have hf : k = .pack := hf
    subst hf
    show (rdPk (p.w ++ W) (p.l ++ L)).map _ = _
    rw [rdPk_w ok]; rfl
theorem rdArs_w (W L : List Str) : ∀ (as : List Ar) (ks : List KK), (∀ a ∈ as, a.ok) → as.length = ks.length → (∀ (j : Nat) (k : KK) (a : Ar), ks[j]? = some k → as[j]? = some a → fit k a) → rdArs ks (as.flatMap Ar.w ++ W) (as.flatMap Ar.l ++ L) = some (as, W, L)
  | [], [], _, _, _ => rfl
  | [], _ :: _, _, h, _ => nomatch h
  | _ :: _, [], _, h, _ => nomatch h
  | a :: as, k :: ks, ok, hl, hf => by
    rw [List.flatMap_cons, List.flatMap_cons, List.append_assoc, List.append_assoc]
    unfold rdArs
    rw [rdAr_w (ok a (by simp)) (hf 0 k a rfl rfl)]
    show (rdArs ks (as.flatMap Ar.w ++ W) (as.flatMap Ar.l ++ L)).map _ = _
    rw [rdArs_w W L as ks (fun x hx => ok x (List.mem_cons_of_mem _ hx)) (by simpa using hl) fun j k a h1 h2 => hf (j + 1) k a h1 h2]
    rfl
/-! ### what is not read -/
theorem FORM_same : ∀ i ∈ List.range 11, ∀ j ∈ List.range 11, i ≠ j → (FORM[i]?.map (·.1)) = (FORM[j]?.map (·.1)) → (i = 1 ∧ j = 2) ∨ (i = 2 ∧ j = 1) ∨ (i = 5 ∧ j = 10) ∨ (i = 10 ∧ j = 5) := by decide +kernel
theorem rdBy_word {f : Str × List KK} {w : Str} {W L : List Str} (h : w ≠ f.1) : rdBy f (w :: W) L = none := by
  unfold rdBy
  rw [if_neg (show ¬ (w :: W).head? = some f.1 from fun e => h (Option.some.inj e))]
theorem rdBy_c {w : Str} {ks : List KK} {W L : List Str} : rdBy (w, ks) (w :: W) L = (rdArs ks W L).bind fun x => if x.2 = ([], []) then some x.1 else none := by
  unfold rdBy
  rw [if_pos (show (w :: W).head? = some w from rfl)]
  rfl
theorem fit_ints {a : Ar} {d : Kd} {k : KK} (hk : k.each = some d) (h : fit k a) : ∃ es, a = .lst es ∧ ∀ e ∈ es, e.kd = d := by
  cases a with
  | one e =>
    have h : k.one = some e.kd := h
    cases k <;> first | (cases hk; done) | (cases h; done)
  | lst es =>
    obtain ⟨d', hd, hall⟩ := h
    rw [hk] at hd
    cases hd
    exact ⟨es, rfl, hall⟩
  | pk p =>
    have h : k = .pack := h
    subst h
    cases hk
theorem rdMany_bad {rd : List Str → List Str → Option (El × List Str × List Str)} {m : Nat} {W L : List Str} (h1 : W.head? ≠ some CP) (h2 : rd W L = none) : rdMany rd m W L = none := by
  cases m with
  | zero => exact if_neg h1
  | succ m =>
    show (if W.head? = some CP then _ else (rd W L).bind _) = none
    rw [if_neg h1, h2]
    rfl
theorem rdMany_badC {k : Kd} {m : Nat} {w : Str} {R L : List Str} (h1 : w ≠ CP) (h2 : rdEl k (w :: R) L = none) : rdMany (rdEl k) m (w :: R) L = none := rdMany_bad (show ¬ (w :: R).head? = some CP from fun e => h1 (Option.some.inj e)) h2
theorem pk_w_ne (p : Pk) : p.w ≠ [] := by
  cases p <;> exact fun z => nomatch z
theorem one_of {α : Type} {l : List α} (h : l.length = 1) : ∃ a, l = [a] := List.length_eq_one_iff.mp h
theorem two_of {α : Type} {l : List α} (h : l.length = 2) : ∃ a b, l = [a, b] := by
  match l, h with
  | [a, b], _ => exact ⟨a, b, rfl⟩
theorem rdBy_other {i j : Nat} {rw : Str} {as : List Ar} {f : Str × List KK} {X Y : List Str} (F : Fits i rw as) (ok : ∀ a ∈ as, a.ok) (hj : FORM[j]? = some f) (hji : j ≠ i) (hX : rdPk X Y = none) (hne : j < i ∨ (X, Y) ≠ ([], [])) :
    rdBy f (rw :: (as.flatMap Ar.w ++ X)) (as.flatMap Ar.l ++ Y) = none := by
  by_cases hw : rw = f.1
  case neg => exact rdBy_word hw
  obtain ⟨⟨ks, hi, hl, hfit⟩, hbef⟩ := F
  obtain ⟨fw, fk⟩ := f
  have hw : rw = fw := hw
  subst hw
  have hi11 : i < 11 := (List.getElem?_eq_some_iff.mp hi).1
  have hj11 : j < 11 := (List.getElem?_eq_some_iff.mp hj).1
  rw [rdBy_c]
  rcases FORM_same i (List.mem_range.mpr hi11) j (List.mem_range.mpr hj11) (fun z => hji z.symm) (by rw [hi, hj]; rfl) with ⟨rfl, rfl⟩ | ⟨rfl, rfl⟩ | ⟨rfl, rfl⟩ | ⟨rfl, rfl⟩
  · -- numbers read as truths
    cases hi; cases hj
    obtain ⟨a, rfl⟩ := one_of hl
    obtain ⟨es, rfl, hes⟩ := fit_ints (k := .ints) rfl (hfit 0 _ _ rfl rfl)
    have oke := (ok _ (List.mem_singleton.mpr rfl)).2
    cases es with
    | nil =>
      have h1 := rdAr_w (k := .truths) (a := .lst []) (ok _ (List.mem_singleton.mpr rfl)) ⟨.tr, rfl, by simp⟩ X Y
      rw [show ([Ar.lst []].flatMap Ar.w) = (Ar.lst []).w from by simp, show ([Ar.lst []].flatMap Ar.l) = (Ar.lst []).l from by simp]
      show (((rdAr .truths ((Ar.lst []).w ++ X) ((Ar.lst []).l ++ Y)).bind _).bind _) = none
      rw [h1]
      show (if (X, Y) = ([], []) then _ else none) = none
      rw [if_neg (hne.elim (fun z => absurd z (by decide)) id)]
    | cons e es =>
      have hk := hes e (by simp)
      have hok := oke e (by simp)
      cases e with
      | int n =>
        have h1 : rdAr .truths (([Ar.lst (.int n :: es)].flatMap Ar.w) ++ X) (([Ar.lst (.int n :: es)].flatMap Ar.l) ++ Y) = none := by
          have hb : ∀ R L', rdMany (rdEl .tr) 400 (iS n :: R) L' = none := fun R L' => rdMany_badC (iS_ne (by decide +kernel) hok) (by
            rw [rdEl_tr, rdTr_c, if_neg (iS_ne (by decide +kernel) hok), if_neg (iS_ne (by decide +kernel) hok)]
            rfl)
          show (rdMany (rdEl .tr) 400 (iS n :: _) _).map _ = none
          rw [hb]
          rfl
        show ((rdAr .truths _ _).bind _).bind _ = none
        rw [h1]
        rfl
      | tr b => cases hk
      | lab z => cases hk
      | pair z n => cases hk
      | take a b => cases hk
      | put rs => cases hk
  · -- truths read as numbers
    cases hi; cases hj
    obtain ⟨a, rfl⟩ := one_of hl
    obtain ⟨es, rfl, hes⟩ := fit_ints (k := .truths) rfl (hfit 0 _ _ rfl rfl)
    cases es with
    | nil =>
      exfalso
      rcases hbef 1 _ (by decide) rfl with h | ⟨k, a, e1, e2, _, es, e3, hne', _⟩
      · rcases h with h | h
        · exact h rfl
        · exact h rfl
      · cases e1
        cases e3
        exact hne' rfl
    | cons e es =>
      have hk := hes e (by simp)
      cases e with
      | tr b =>
        have h1 : rdAr .ints (([Ar.lst (.tr b :: es)].flatMap Ar.w) ++ X) (([Ar.lst (.tr b :: es)].flatMap Ar.l) ++ Y) = none := by
          obtain ⟨s, es1, hs1, hs2⟩ : ∃ s : Str, (El.tr b).w = [s] ∧ numB s = false ∧ s ≠ CP := by
            cases b with
            | true => exact ⟨"yes", by simp [El.w], by decide +kernel, by decide⟩
            | false => exact ⟨"no", by simp [El.w], by decide +kernel, by decide⟩
          have e0 : ([Ar.lst (.tr b :: es)].flatMap Ar.w) ++ X = OP :: s :: ((es.flatMap El.w ++ [CP]) ++ X) := by
            simp [Ar.w, lwE, es1]
          rw [e0]
          have hb : ∀ R L', rdMany (rdEl .int) 400 (s :: R) L' = none := fun R L' => rdMany_badC hs2 (by
            show (rdInt (s :: R)).map _ = none
            rw [rdInt_c, hs1]
            rfl)
          show (rdMany (rdEl .int) 400 (s :: _) _).map _ = none
          rw [hb]
          rfl
        show ((rdAr .ints _ _).bind _).bind _ = none
        rw [h1]
        rfl
      | int n => cases hk
      | lab z => cases hk
      | pair z n => cases hk
      | take a b => cases hk
      | put rs => cases hk
  · -- a number read as a number and a pack row
    cases hi; cases hj
    obtain ⟨a, rfl⟩ := one_of hl
    have h1 := rdAr_w (k := .int) (ok _ (List.mem_singleton.mpr rfl)) (hfit 0 _ _ rfl rfl) X Y
    rw [show ([a].flatMap Ar.w) = a.w from by simp, show ([a].flatMap Ar.l) = a.l from by simp]
    show ((rdAr .int (a.w ++ X) (a.l ++ Y)).bind _).bind _ = none
    rw [h1]
    show (((rdPk X Y).map _).bind _ |>.map _ |>.bind _) = none
    rw [hX]
    rfl
  · -- a number and a pack row read as a number
    cases hi; cases hj
    obtain ⟨a, b, rfl⟩ := two_of hl
    have hb := hfit 1 _ _ rfl rfl
    obtain ⟨p, rfl⟩ : ∃ p, b = .pk p := by
      cases b with
      | one e => cases hb
      | lst es => obtain ⟨d, h, _⟩ := hb; cases h
      | pk p => exact ⟨p, rfl⟩
    have h1 := rdAr_w (k := .int) (ok _ (by simp)) (hfit 0 _ _ rfl rfl) (p.w ++ X) (p.l ++ Y)
    rw [show ([a, .pk p].flatMap Ar.w) ++ X = a.w ++ (p.w ++ X) from by simp [Ar.w], show ([a, .pk p].flatMap Ar.l) ++ Y = a.l ++ (p.l ++ Y) from by simp [Ar.l]]
    show ((rdAr .int _ _).bind _).bind _ = none
    rw [h1]
    show (if (p.w ++ X, p.l ++ Y) = ([], []) then _ else none) = none
    rw [if_neg (fun e => pk_w_ne p (List.append_eq_nil_iff.mp (congrArg Prod.fst e)).1)]
theorem rdBy_self {i : Nat} {rw : Str} {as : List Ar} {f : Str × List KK} {X Y : List Str} (F : Fits i rw as) (ok : ∀ a ∈ as, a.ok) (hj : FORM[i]? = some f) :
    rdBy f (rw :: (as.flatMap Ar.w ++ X)) (as.flatMap Ar.l ++ Y) = if (X, Y) = ([], []) then some as else none := by
  obtain ⟨⟨ks, hi, hl, hfit⟩, _⟩ := F
  rw [hi] at hj
  cases hj
  rw [rdBy_c, rdArs_w X Y as ks ok hl hfit]
  rfl
theorem find_at {α β : Type} {g : α → Option β} {y : β} : ∀ {l : List α} {i : Nat} {x : α}, l[i]? = some x → g x = some y → (∀ j z, j < i → l[j]? = some z → g z = none) → l.findSome? g = some y
  | [], _, _, h, _, _ => by cases h
  | a :: l, 0, x, h, hx, _ => by
    cases h
    rw [List.findSome?_cons, hx]
  | a :: l, i + 1, x, h, hx, hb => by
    rw [List.findSome?_cons, hb 0 a (by omega) rfl]
    exact find_at (i := i) h hx fun j z hj hz => hb (j + 1) z (by omega) hz
/-- what is written is read as it is -/
theorem rdRow_w {i : Nat} {rw : Str} {as : List Ar} (F : Fits i rw as) (ok : ∀ a ∈ as, a.ok) : rdRow (rw :: as.flatMap Ar.w) (as.flatMap Ar.l) = some (rw, as) := by
  obtain ⟨⟨ks, hi, hl, hfit⟩, hbef⟩ := id F
  refine find_at hi ?_ fun j z hj hz => ?_
  · have := rdBy_self (X := []) (Y := []) F ok hi
    rw [List.append_nil, List.append_nil, if_pos rfl] at this
    rw [this]
    rfl
  · have := rdBy_other (X := []) (Y := []) F ok hz (by omega) rfl (.inl hj)
    rw [List.append_nil, List.append_nil] at this
    rw [this]
    rfl
theorem rdRow_none {W L : List Str} (h : ∀ f ∈ FORM, rdBy f W L = none) : rdRow W L = none := by
  unfold rdRow
  rw [List.findSome?_eq_none_iff]
  intro f hf
  rw [h f hf]
  rfl
theorem FORM_blank : ∀ f ∈ FORM, ("" : Str) ≠ f.1 := by decide
theorem rdRow_blank (W L : List Str) : rdRow ("" :: W) L = none := rdRow_none fun f hf => rdBy_word (FORM_blank f hf)
/-- with more behind it nothing is read -/
theorem rdRow_more {i : Nat} {rw : Str} {as : List Ar} {X Y : List Str} (F : Fits i rw as) (ok : ∀ a ∈ as, a.ok) (hX : rdPk X Y = none) (hne : (X, Y) ≠ ([], [])) : rdRow (rw :: (as.flatMap Ar.w ++ X)) (as.flatMap Ar.l ++ Y) = none := by
  refine rdRow_none fun f hf => ?_
  obtain ⟨j, hj, e⟩ := List.getElem_of_mem hf
  have hj' : FORM[j]? = some f := by rw [List.getElem?_eq_getElem hj, e]
  by_cases hji : j = i
  · subst hji
    rw [rdBy_self F ok hj', if_neg hne]
  · exact rdBy_other F ok hj' hji hX (.inr hne)
/-! ### the desk -/
structure DeskO (CD : Addr) (H : Hp) (d dd a l : Addr) (ws ls : List Str) (p q : Nat) : Prop where
  ob : H d = some (.ins CD dd [("words", .ref a), ("lines", .ref l), ("word_place", nV p), ("line_place", nV q)])
  ea : H a = some (.lst (ws.map V.str))
  el : H l = some (.lst (ls.map V.str))
  hp : p ≤ ws.length
  hq : q ≤ ls.length
  hw : ws.length ≤ 1000000
  hl : ls.length ≤ 1000000
  sw : ∀ z ∈ ws, z.length ≤ 1000000
  sl : ∀ z ∈ ls, z.length ≤ 1000000
def DeskAt (CD : Addr) (H : Hp) (d : Addr) (al : Addr × Addr) (W L : List Str) : Prop := ∃ dd ws ls p q, DeskO CD H d dd al.1 al.2 ws ls p q ∧ W = ws.drop p ∧ L = ls.drop q
theorem DeskO.ne {CD : Addr} {H : Hp} {d dd a l : Addr} {ws ls : List Str} {p q : Nat} (h : DeskO CD H d dd a l ws ls p q) : a ≠ d ∧ l ≠ d := ⟨ne_of h.ea h.ob (fun z => nomatch z), ne_of h.el h.ob (fun z => nomatch z)⟩
theorem DeskO.same {CD : Addr} {H H' : Hp} {d dd a l : Addr} {ws ls : List Str} {p q : Nat} (h : DeskO CD H d dd a l ws ls p q) (k : Same H H') : DeskO CD H' d dd a l ws ls p q := ⟨k _ _ h.ob, k _ _ h.ea, k _ _ h.el, h.hp, h.hq, h.hw, h.hl, h.sw, h.sl⟩
theorem DeskAt.same {CD : Addr} {H H' : Hp} {d : Addr} {al : Addr × Addr} {W L : List Str} (h : DeskAt CD H d al W L) (k : Same H H') : DeskAt CD H' d al W L := by
  obtain ⟨dd, ws, ls, p, q, D, e1, e2⟩ := h
  exact ⟨dd, ws, ls, p, q, D.same k, e1, e2⟩
theorem DeskAt.kp {CD : Addr} {H H' : Hp} {d : Addr} {al : Addr × Addr} {M : List Addr} {W L : List Str} (h : DeskAt CD H d al W L) (k : Kp M H H') (hM : ∀ b ∈ M, (∃ xs, H b = some (.lst xs) ∧ ∀ ys : List Str, xs ≠ ys.map V.str) ∨ H b = none) : DeskAt CD H' d al W L := by
  obtain ⟨dd, ws, ls, p, q, D, e1, e2⟩ := h
  refine ⟨dd, ws, ls, p, q, ⟨k _ _ (fun z => ?_) D.ob, k _ _ (fun z => ?_) D.ea, k _ _ (fun z => ?_) D.el, D.hp, D.hq, D.hw, D.hl, D.sw, D.sl⟩, e1, e2⟩
  · rcases hM _ z with ⟨xs, e, _⟩ | e <;> (rw [D.ob] at e; cases e)
  · rcases hM _ z with ⟨xs, e, h⟩ | e
    · rw [D.ea] at e
      cases e
      exact h _ rfl
    · rw [D.ea] at e
      cases e
  · rcases hM _ z with ⟨xs, e, h⟩ | e
    · rw [D.el] at e
      cases e
      exact h _ rfl
    · rw [D.el] at e
      cases e
theorem DeskAt.ins {CD : Addr} {H : Hp} {d : Addr} {al : Addr × Addr} {W L : List Str} (h : DeskAt CD H d al W L) : ∃ dd x1 x2 x3 x4, H d = some (.ins CD dd [("words", x1), ("lines", x2), ("word_place", x3), ("line_place", x4)]) := by
  obtain ⟨dd, ws, ls, p, q, D, _⟩ := h
  exact ⟨dd, _, _, _, _, D.ob⟩
theorem KT.ins {a : Addr} {H H1 : Hp} {C dx : Addr} {fs : List (Str × V)} (k : Kp [a] H H1) (e : H a = some (.ins C dx fs)) : KT H H1 :=
  ⟨fun b ys h => k _ _ (by simpa using ne_of h e (fun z => nomatch z)) h, fun b u ys h => k _ _ (by simpa using ne_of h e (fun z => nomatch z)) h⟩
theorem drop_nil {α : Type} {l : List α} {p : Nat} (h : l.drop p = []) : l.length ≤ p := by simpa using h
theorem sizeN {n : Nat} (h : n ≤ 1000000) : n + 2 ≤ sizeLine := Nat.le_trans (show n + 2 ≤ 1000002 by omega) (by decide)
theorem part_le (y : Str) : ∀ (ps : List Str), ∀ p ∈ ps, p.length ≤ (Str.join y ps).length
  | [], _, h => nomatch h
  | [a], p, h => by
    rw [List.mem_singleton.mp h]
    exact Nat.le_refl _
  | a :: b :: r, p, h => by
    have e : (Str.join y (a :: b :: r)).length = a.length + y.length + (Str.join y (b :: r)).length := by
      show (a.cps ++ y.cps ++ (Str.join y (b :: r)).cps).size = _
      rw [Array.size_append, Array.size_append]
      rfl
    rcases List.mem_cons.mp h with rfl | h
    · omega
    · have := part_le y (b :: r) p h
      omega
theorem split_part (z y : Str) : ∀ p ∈ Txt.split z y, p.length ≤ z.length := fun p hp => by
  have := part_le y _ p hp
  rwa [StrLaws.join_split] at this
theorem split_ne (z y : Str) : ∃ h t, Txt.split z y = h :: t := by
  have := (PyProof.Rows.fact_split z y).1
  cases e : Txt.split z y with
  | nil => rw [e] at this; simp at this
  | cons h t => exact ⟨h, t, rfl⟩
def wrd (z : Str) : List Str := Txt.split ((Txt.split z NLS).headD "") SPS
def lns (z : Str) : List Str := (Txt.split z NLS).tail
def spDeskInit (CD : Addr) : Sp := fun vs H Q _ => ∃ (d dd : Addr) (z : Str), vs = [.ref d, .str z] ∧ H d = some (.ins CD dd []) ∧ z.length ≤ 990000 ∧ ∀ H' al, DeskAt CD H' d al (wrd z) (lns z) → Kp [d] H H' → Q .non H'
def spNextW (C CD : Addr) : Sp := fun vs H Q E => ∃ (d : Addr) (al : Addr × Addr) (W L : List Str), vs = [.ref d] ∧ DeskAt CD H d al W L ∧ (∀ w W' H', W = w :: W' → DeskAt CD H' d al W' L → Kp [d] H H' → w.length ≤ 1000000 → Q (.str w) H') ∧ (W = [] → E (.ref C) none H)
def spDNeed (C CD : Addr) : Sp := fun vs H Q E => ∃ (d : Addr) (z : Str) (al : Addr × Addr) (W L : List Str), vs = [.ref d, .str z] ∧ DeskAt CD H d al W L ∧ (∀ W' H', W = z :: W' → DeskAt CD H' d al W' L → Kp [d] H H' → Q .non H') ∧ (W.head? ≠ some z → ∀ H', Kp [d] H H' → E (.ref C) none H')
def spIsNext (CD : Addr) : Sp := fun vs H Q _ => ∃ (d : Addr) (z : Str) (al : Addr × Addr) (W L : List Str), vs = [.ref d, .str z] ∧ DeskAt CD H d al W L ∧ Q (.bl (decide (W.head? = some z))) H
def spIsDone (CD : Addr) : Sp := fun vs H Q _ => ∃ (d : Addr) (al : Addr × Addr) (W L : List Str), vs = [.ref d] ∧ DeskAt CD H d al W L ∧ Q (.bl (decide ((W, L) = ([], [])))) H
def spNextL (C CD : Addr) : Sp := fun vs H Q E => ∃ (d : Addr) (many : Nat) (al : Addr × Addr) (W L : List Str), vs = [.ref d, nV many] ∧ DeskAt CD H d al W L ∧ (∀ rs L' H' t, rdLines many L = some (rs, L') → DeskAt CD H' d al W L' → Kp [d] H H' → H' t = some (.tup (rs.map V.str)) → Q (.ref t) H') ∧ (rdLines many L = none → ∀ H', Kp [d] H H' → E (.ref C) none H')
section
variable {P : Program} {w : World} {K : PySem.W.Frag} {mg : Str → Option Value} {base : Heap} {CD : Addr}
theorem w_fldAugL {σ : L2.St} {H : Hp} {nx bk ct : L2.St → Hp → Prop} {rt : VK} {ta tv : TE} {f : Str} {u : TS} {rd : V → V → Hp → VK → Prop} (h : sFldAug K ta tv rd f ⟨u ⟨nx, rt, bk, ct⟩, rt, bk, ct⟩ σ H) : tSeq (sFldAug K ta tv rd f) u ⟨nx, rt, bk, ct⟩ σ H := h
theorem ok_deskinit {f : Addr} {fd : FuncData} (T : Txt K mg) (F : Fun K "__init__" "Desk.__init__" s_Desk___init__ f fd) (K_Desk : Kl K mg "Desk" CD ["words", "lines", "word_place", "line_place"]) : FnOk P w K mg base CX0 1 f fd ["self", "text"] (spDeskInit CD) := by
  have cl := K_Desk.cl
  have n1 := K_Desk.na "words" (by simp)
  have n2 := K_Desk.na "lines" (by simp)
  have n3 := K_Desk.na "word_place" (by simp)
  have n4 := K_Desk.na "line_place" (by simp)
  refine F.ok sc_Desk___init__ (fun vs H Q E h => ?_) (fun cdv A outer s H vs Q E hr h => ?_)
  · obtain ⟨d, dd, z, rfl, _⟩ := h
    rfl
  · obtain ⟨d, dd, z, rfl, hd, hz, q⟩ := h
    refine ⟨_,
      (pss_cons
        (ps_asg (p_split (pv 1) pe_str) (pg_starL (j := 1) rfl (pgs_cons (pg_name (i := 2) sc_Desk___init__.nd rfl (.inl rfl)) (pgs_star (pg_name (i := 3) sc_Desk___init__.nd rfl (.inl rfl)) pgs_nil))))
      (pss_cons
        (ps_fld (pv 0) (p_split (pv 2) pe_str) rfl)
      (pss_cons
        (ps_fld (pv 0) (pv 3) rfl)
      (pss_cons
        (ps_fld (pv 0) pe_int rfl)
      (pss_one
        (ps_fld (pv 0) pe_int rfl))))))
      , ?_⟩
    rw [show L2.start N_Desk___init__ [V.ref d, V.str z] = [some (.ref d), some (.str z), none, none] from rfl]
    obtain ⟨h0, t0, e0⟩ := split_ne z NLS
    have hh0 : h0.length ≤ z.length := split_part z NLS h0 (by rw [e0]; simp)
    walk_at "x"
    refine w_split (by decide) (sizeN (by omega)) fun p1 H1 hp1 e1 k1 => ?_
    rw [show Txt.split z (Str.ofString "\n") = h0 :: t0 from e0] at e1
    refine w_gstarL (.of e1) (by simp) fun l H2 hl e2 k2 => ?_
    have hd2 := k2 _ _ (k1 _ _ hd)
    have e2 : H2 l = some (.lst (t0.map V.str)) := e2
    refine w_gcons (w_name (w_gcons (w_name (w_gnil ?_))))
    walk_at "g"
    refine w_split (by decide) (sizeN (by omega)) fun a H3 ha e3 k3 => ?_
    have hd3 := k3 _ _ hd2
    have e23 := k3 _ _ e2
    have hal : a ≠ l := (ne_of_none e2 ha).symm
    have had : a ≠ d := ne_of e3 hd3 (fun z => nomatch z)
    have hld : l ≠ d := ne_of e23 hd3 (fun z => nomatch z)
    walk_at "g"
    refine w_fldS' hd3 cl n1 (by decide) fun H4 o4 f4 => ?_
    walk_at "g"
    refine w_fldS' o4 cl n2 (show (1 : Nat) < 1000 by decide) fun H5 o5 f5 => ?_
    walk_at "g"
    refine w_fldS' o5 cl n3 (show (2 : Nat) < 1000 by decide) fun H6 o6 f6 => ?_
    walk_at "g"
    refine w_fldS' o6 cl n4 (show (3 : Nat) < 1000 by decide) fun H7 o7 f7 => ?_
    have keep : ∀ {b : Addr} {o : HO}, b ≠ d → H3 b = some o → H7 b = some o := fun hb e => f7.get hb (f6.get hb (f5.get hb (f4.get hb e)))
    have eW : wrd z = Txt.split h0 (Str.ofString " ") := by
      unfold wrd
      rw [e0]
      rfl
    have eL : lns z = t0 := by
      unfold lns
      rw [e0]
      rfl
    have hsz := (PyProof.Rows.fact_split h0 (Str.ofString " ")).2
    have hsz2 := (PyProof.Rows.fact_split z NLS).2
    rw [e0, List.length_cons] at hsz2
    refine q H7 (a, l) ⟨dd, _, t0, 0, 0, ⟨o7, keep had e3, keep hld e23, Nat.zero_le _, Nat.zero_le _, by omega, by omega, fun y hy => ?_, fun y hy => ?_⟩, by rw [eW]; rfl, by rw [eL]; rfl⟩ fun b o hb e => ?_
    · have := split_part h0 _ y hy
      omega
    · have := split_part z NLS y (by rw [e0]; exact List.mem_cons_of_mem _ hy)
      omega
    · exact keep (by simpa using hb) (k3 _ _ (k2 _ _ (k1 _ _ e)))
theorem ok_nextw {C_NoText f : Addr} {fd : FuncData} (T : Txt K mg) (F : Fun K "next_word" "Desk.next_word" s_Desk_next_word f fd) (X_NoText : Exn K mg "NoText" C_NoText) (K_Desk : Kl K mg "Desk" CD ["words", "lines", "word_place", "line_place"]) : FnOk P w K mg base (L2.CX P w) 1 f fd ["self"] (spNextW C_NoText CD) := by
  have cl := K_Desk.cl
  have n1 := K_Desk.na "words" (by simp)
  have n3 := K_Desk.na "word_place" (by simp)
  refine F.okX sc_Desk_next_word (fun vs H Q E h => ?_) (fun cdv A outer s H vs Q E hr h => ?_)
  · obtain ⟨d, al, W, L, rfl, _⟩ := h
    rfl
  · obtain ⟨d, ⟨a, l⟩, W, L, rfl, ⟨dd, ws, ls, p, qq, D, rfl, rfl⟩, q1, q2⟩ := h
    have ob := D.ob
    have ea := D.ea
    refine ⟨_,
      (pss_cons
        (ps_if (pt_cmpR op_ge (pe_fldK (K := K) rfl (pv 0) rfl) (pe_callB (r := rLen K) c_len (by rfl) T.n_len (by decide +kernel) (pa_cons (pe_fldK (K := K) rfl (pv 0) rfl) pa_nil)) (nomark _))
          (pss_one
            (ps_raise rfl (takes_of rfl rfl rfl rfl) (pmk_own0 PySem.F.excBase_ValueError X_NoText.x X_NoText.g X_NoText.k (raises_own X_NoText.b X_NoText.t) rfl)))
          pss_nil)
      (pss_cons
        (ps_fldaug (pv 0) pe_int in_add)
      (pss_one
        (ps_ret (pe_ix (r := rIxL K) ix_list (pe_fldK (K := K) rfl (pv 0) rfl) (pe_op op_sub (pe_fldK (K := K) rfl (pv 0) rfl) pe_int) (fun _ _ => rfl))))))
      , ?_⟩
    rw [show L2.start N_Desk_next_word [V.ref d] = [some (.ref d)] from rfl]
    refine w_seq ?_
    walk_at "x"
    refine w_ite (fun h => ?_) (fun h => ?_)
    · walk_at "g"
      exact q2 (List.drop_eq_nil_of_le (by rw [List.length_map] at h; omega))
    · have hp : p < ws.length := by rw [List.length_map] at h; omega
      have hws : ws[p]? = some ws[p] := List.getElem?_eq_getElem hp
      walk_at "g"
      refine w_fldAugL ?_
      unfold sFldAug
      walk_at "g"
      refine ⟨d, CD, dd, _, nV p, rfl, ob, cl, n3, rfl, ?_⟩
      walk_at "g"
      refine ⟨(p : Int), 1, rfl, rfl, dd, _, ob, (show (4 : Nat) < 1000 by decide), ?_⟩
      walk_at "g"
      generalize hH1 : upd H d _ = H1
      have ob1 : H1 d = some (.ins CD dd [("words", .ref a), ("lines", .ref l), ("word_place", nV (p + 1)), ("line_place", nV qq)]) := by
        rw [← hH1]
        exact upd_same
      have off : Off d H H1 := fun b hb => by rw [← hH1]; exact upd_ne hb
      have ea1 := off.get D.ne.1 ea
      have el1 := off.get D.ne.2 D.el
      have hat : atI (ws.map V.str) (((p + 1 : Nat) : Int) - 1) = some (.str ws[p]) := by
        rw [show ((p + 1 : Nat) : Int) - 1 = (p : Int) by omega]
        exact atI_nat (by rw [List.getElem?_map, hws]; rfl)
      walk_at "g"
      exact q1 ws[p] (ws.drop (p + 1)) H1 (List.drop_eq_getElem_cons hp) ⟨dd, ws, ls, p + 1, qq, ⟨ob1, ea1, el1, hp, D.hq, D.hw, D.hl, D.sw, D.sl⟩, rfl, rfl⟩ (off.kp (by simp)) (D.sw _ (List.getElem_mem hp))
theorem ok_dneed {C_NoText f fN : Addr} {fd fdN : FuncData} (T : Txt K mg) (F : Fun K "need" "Desk.need" s_Desk_need f fd) (X_NoText : Exn K mg "NoText" C_NoText) (K_Desk : Kl K mg "Desk" CD ["words", "lines", "word_place", "line_place"]) (D_Desk_next_word : DfM K CD "next_word" "Desk.next_word" s_Desk_next_word ["self"] fN fdN) : FnOk P w K mg base (L2.CX P w) 2 f fd ["self", "word"] (spDNeed C_NoText CD) := by
  have G_Desk_next_word : FnOk P w K mg base (L2.CX P w) 1 fN fdN ["self"] (spNextW C_NoText CD) := ok_nextw T D_Desk_next_word.fn X_NoText K_Desk
  refine F.okX sc_Desk_need (fun vs H Q E h => ?_) (fun cdv A outer s H vs Q E hr h => ?_)
  · obtain ⟨d, z, al, W, L, rfl, _⟩ := h
    rfl
  · obtain ⟨d, z, al, W, L, rfl, D, q1, q2⟩ := h
    obtain ⟨dd, x1, x2, x3, x4, ob⟩ := D.ins
    refine ⟨_,
      (pss_one
        (ps_if (pt_cmpR op_ne (pe_meth0 (pv 0) K_Desk.cl D_Desk_next_word.m G_Desk_next_word (hr.mono (by omega)) D_Desk_next_word.b .nil (passes_call (takes_of rfl rfl rfl rfl) (fun _ _ _ _ h => h))) (pv 1) (nomark _))
          (pss_one
            (ps_raise rfl (takes_of rfl rfl rfl rfl) (pmk_own0 PySem.F.excBase_ValueError X_NoText.x X_NoText.g X_NoText.k (raises_own X_NoText.b X_NoText.t) rfl)))
          pss_nil))
      , ?_⟩
    rw [show L2.start N_Desk_need [V.ref d, V.str z] = [some (.ref d), some (.str z)] from rfl]
    walk_at "x"
    refine ⟨d, al, W, L, rfl, D, fun w' W' H1 e D1 k1 hw1 => ?_, fun e => ?_⟩
    · walk_at "g"
      by_cases hz : w' = z
      · subst hz
        rw [decide_eq_true rfl, if_neg (by decide)]
        walk_at "g"
        exact q1 W' H1 e D1 k1
      · rw [decide_eq_false hz, if_pos (by decide)]
        walk_at "g"
        exact q2 (by rw [e]; exact fun h => hz (Option.some.inj h)) H1 k1
    · exact q2 (by rw [e]; exact fun h => nomatch h) H Kp.refl
theorem ok_isnext {f : Addr} {fd : FuncData} (T : Txt K mg) (F : Fun K "is_next" "Desk.is_next" s_Desk_is_next f fd) (K_Desk : Kl K mg "Desk" CD ["words", "lines", "word_place", "line_place"]) : FnOk P w K mg base CX0 1 f fd ["self", "word"] (spIsNext CD) := by
  have cl := K_Desk.cl
  have n1 := K_Desk.na "words" (by simp)
  have n3 := K_Desk.na "word_place" (by simp)
  refine F.ok sc_Desk_is_next (fun vs H Q E h => ?_) (fun cdv A outer s H vs Q E hr h => ?_)
  · obtain ⟨d, z, al, W, L, rfl, _⟩ := h
    rfl
  · obtain ⟨d, z, ⟨a, l⟩, W, L, rfl, ⟨dd, ws, ls, p, qq, D, rfl, rfl⟩, q⟩ := h
    have ob := D.ob
    have ea := D.ea
    refine ⟨_,
      (pss_one
        (ps_ret (pe_and (pe_cmpR op_lt (pe_fldK (K := K) rfl (pv 0) rfl) (pe_callB (r := rLen K) c_len (by rfl) T.n_len (by decide +kernel) (pa_cons (pe_fldK (K := K) rfl (pv 0) rfl) pa_nil)) (nomark _)) (pe_one (pe_cmpR op_eq (pe_ix (r := rIxL K) ix_list (pe_fldK (K := K) rfl (pv 0) rfl) (pe_fldK (K := K) rfl (pv 0) rfl) (fun _ _ => rfl)) (pv 1) (nomark _))))))
      , ?_⟩
    rw [show L2.start N_Desk_is_next [V.ref d, V.str z] = [some (.ref d), some (.str z)] from rfl]
    walk_at "x"
    by_cases hp : p < ws.length
    · have hws : ws[p]? = some ws[p] := List.getElem?_eq_getElem hp
      have hat : atI (ws.map V.str) (p : Int) = some (.str ws[p]) := atI_nat (by rw [List.getElem?_map, hws]; rfl)
      rw [decide_eq_true (show (p : Int) < (((ws.map V.str).length : Nat) : Int) by rw [List.length_map]; omega)]
      walk_at "g"
      rw [List.drop_eq_getElem_cons hp] at q
      have e : decide ((ws[p] :: ws.drop (p + 1)).head? = some z) = decide (ws[p] = z) := decide_eq_decide.mpr ⟨fun e => Option.some.inj e, fun e => by rw [e]; rfl⟩
      rw [e] at q
      exact q
    · rw [decide_eq_false (show ¬ (p : Int) < (((ws.map V.str).length : Nat) : Int) by rw [List.length_map]; omega)]
      walk_at "g"
      rw [List.drop_eq_nil_of_le (by omega)] at q
      exact q
theorem ok_isdone {f : Addr} {fd : FuncData} (T : Txt K mg) (F : Fun K "is_done" "Desk.is_done" s_Desk_is_done f fd) (K_Desk : Kl K mg "Desk" CD ["words", "lines", "word_place", "line_place"]) : FnOk P w K mg base CX0 1 f fd ["self"] (spIsDone CD) := by
  have cl := K_Desk.cl
  have n1 := K_Desk.na "words" (by simp)
  have n2 := K_Desk.na "lines" (by simp)
  have n3 := K_Desk.na "word_place" (by simp)
  have n4 := K_Desk.na "line_place" (by simp)
  refine F.ok sc_Desk_is_done (fun vs H Q E h => ?_) (fun cdv A outer s H vs Q E hr h => ?_)
  · obtain ⟨d, al, W, L, rfl, _⟩ := h
    rfl
  · obtain ⟨d, ⟨a, l⟩, W, L, rfl, ⟨dd, ws, ls, p, qq, D, rfl, rfl⟩, q⟩ := h
    have ob := D.ob
    have ea := D.ea
    have el := D.el
    have hp := D.hp
    have hq := D.hq
    refine ⟨_,
      (pss_one
        (ps_ret (pe_and (pe_cmpR op_eq (pe_fldK (K := K) rfl (pv 0) rfl) (pe_callB (r := rLen K) c_len (by rfl) T.n_len (by decide +kernel) (pa_cons (pe_fldK (K := K) rfl (pv 0) rfl) pa_nil)) (nomark _)) (pe_one (pe_cmpR op_eq (pe_fldK (K := K) rfl (pv 0) rfl) (pe_callB (r := rLen K) c_len (by rfl) T.n_len (by decide +kernel) (pa_cons (pe_fldK (K := K) rfl (pv 0) rfl) pa_nil)) (nomark _))))))
      , ?_⟩
    rw [show L2.start N_Desk_is_done [V.ref d] = [some (.ref d)] from rfl]
    walk_at "x"
    by_cases h1 : p = ws.length
    · rw [decide_eq_true (show (p : Int) = (((ws.map V.str).length : Nat) : Int) by rw [List.length_map]; omega)]
      walk_at "g"
      have e : decide ((ws.drop p, ls.drop qq) = ([], [])) = decide ((qq : Int) = (((ls.map V.str).length : Nat) : Int)) := by
        rw [List.length_map]
        refine decide_eq_decide.mpr ⟨fun e => ?_, fun e => ?_⟩
        · have := drop_nil (congrArg Prod.snd e)
          omega
        · rw [List.drop_eq_nil_of_le (by omega), List.drop_eq_nil_of_le (by omega)]
      rw [e] at q
      exact q
    · rw [decide_eq_false (show ¬ (p : Int) = (((ws.map V.str).length : Nat) : Int) by rw [List.length_map]; omega)]
      walk_at "g"
      rw [decide_eq_false (fun e => h1 (by have := drop_nil (congrArg Prod.fst e); omega))] at q
      exact q
end
/-! ### looks at any text -/
def spLabB : Sp := fun vs H Q _ => ∃ z : Str, vs = [.str z] ∧ z.length ≤ 1000000 ∧ ∀ H', Same H H' → Q (.bl (labB z)) H'
def spRowB : Sp := fun vs H Q _ => ∃ z : Str, vs = [.str z] ∧ z.length ≤ 1000000 ∧ ∀ H', Same H H' → Q (.bl (rowB z)) H'
def spRowsB : Sp := fun vs H Q _ => ∃ (r : Addr) (rs : List Str), vs = [.ref r] ∧ H r = some (.tup (rs.map V.str)) ∧ rs.length ≤ 40 ∧ (∀ z ∈ rs, z.length ≤ 1000000) ∧ ∀ H', Same H H' → Q (.bl (rs.all rowB)) H'
theorem size200 {n : Nat} (h : n ≤ 1000000) : n ≤ sizeLine := Nat.le_trans h (by decide)
section
variable {P : Program} {w : World} {K : PySem.W.Frag} {mg : Str → Option Value} {base : Heap} {CD : Addr}
theorem ok_labb {f : Addr} {fd : FuncData} (T : Txt K mg) (F : Fun K "is_label" "is_label" s_is_label f fd) : FnOk P w K mg base CX0 1 f fd ["thing"] spLabB := by
  obtain ⟨tk_LETTERS, g_LETTERS⟩ := T.g_LETTERS
  refine F.ok sc_is_label (fun vs H Q E h => ?_) (fun cdv A outer s H vs Q E hr h => ?_)
  · obtain ⟨z, rfl, _⟩ := h
    rfl
  · obtain ⟨z, rfl, hz, q⟩ := h
    refine ⟨_,
      (pss_cons
        (ps_if (PW.pt (pw_or (pt_not (pt_val (pe_callB (r := rIsi K) call_isi (by rfl) T.n_isinstance (by decide +kernel) (pa_cons (pv 0) (pa_cons (pe_bltn (v := .ty "str") (u := .type "str") (by rfl) T.n_str (by decide +kernel) rfl) pa_nil))))) (pw_or1 (pt_not (pt_chain op_le op_le pe_int (pe_callB c_lenS (by rfl) T.n_len (by decide +kernel) (pa_cons (pv 0) pa_nil)) pe_int)))))
          (pss_one
            (ps_ret pe_bl))
          pss_nil)
      (pss_one
        (ps_ret (pe_callB (r := rAll K) (cr_all rfl) (by rfl) T.n_all (by decide +kernel) (pa_cons (pe_lc (own := [("sign", 1)]) (g := (gName 1)) rfl sc_is_label.nd (pi_str (pv 0)) (blkOk_by (own := [("sign", 1)]) (N := N_is_label) (sc := defScope s_is_label) (by decide +kernel)) (fun _ _ _ _ _ => (pg_name (i := 1) sc_is_label.nd rfl (.inl rfl))) (fun _ _ _ _ _ => pts_nil) (fun _ _ _ _ _ => (pe_cmpR o_inS (pv 1) (pe_glob (v := .str "abcdefghijklmnopqrstuvwxyz") rfl g_LETTERS ⟨_, rfl⟩) rfl))) pa_nil)))))
      , ?_⟩
    rw [show L2.start N_is_label [V.str z] = [some (.str z), none] from rfl]
    refine w_seq ?_
    walk_at "x"
    refine w_lenS (size200 hz) ?_
    walk_at "g"
    by_cases h1 : 1 ≤ z.length ∧ z.length ≤ 8
    · rw [decide_eq_true (show (1 : Int) ≤ (z.length : Int) by omega), if_pos rfl]
      walk_at "g"
      rw [decide_eq_true (show (z.length : Int) ≤ 8 by omega)]
      walk_at "g"
      refine lcp_map (walk_str z) [] ((z.cps.toList.map fun c => decide (c ∈ (Str.ofString "abcdefghijklmnopqrstuvwxyz").cps.toList)).map V.bl) (by simp) (by show z.length ≤ 1000000; omega) (fun _ _ => trivial) ?_ (by simp) ?_
      · rintro i x H1 H2 R hi k1 ⟨rfl, c, hc, rfl⟩ hR
        have hc' : z.cps.toList[i]? = some c := by rw [Array.getElem?_toList]; exact hc
        refine w_name ⟨rfl, ?_⟩
        walk_at "g"
        refine hR _ _ ?_ Kp.refl
        rw [List.getElem?_map, List.getElem?_map, hc']
        rfl
      · intro L H1 hL k1 eL
        walk_at "g"
        have e : labB z = ((z.cps.toList.map fun c => decide (c ∈ (Str.ofString "abcdefghijklmnopqrstuvwxyz").cps.toList)).all id) := by
          unfold labB
          rw [decide_eq_true h1.1, decide_eq_true h1.2, List.all_map]
          rfl
        have := q _ k1.same
        rw [e] at this
        exact this
    · have e : labB z = false := by
        unfold labB
        rcases Nat.lt_or_ge z.length 1 with h | h
        · rw [decide_eq_false (show ¬ 1 ≤ z.length by omega)]
          rfl
        · rw [decide_eq_false (show ¬ z.length ≤ 8 from fun x => h1 ⟨h, x⟩), Bool.and_false]
          rfl
      have q' := q H (fun _ _ z => z)
      rw [e] at q'
      by_cases h2 : 1 ≤ z.length
      · rw [decide_eq_true (show (1 : Int) ≤ (z.length : Int) by omega), if_pos rfl]
        walk_at "g"
        rw [decide_eq_false (show ¬ (z.length : Int) ≤ 8 from fun x => h1 ⟨h2, by omega⟩)]
        walk_at "g"
        exact q'
      · rw [decide_eq_false (show ¬ (1 : Int) ≤ (z.length : Int) by omega), if_neg (by decide)]
        walk_at "g"
        exact q'
theorem ok_rowb {f : Addr} {fd : FuncData} (T : Txt K mg) (F : Fun K "is_row" "is_row" s_is_row f fd) : FnOk P w K mg base CX0 1 f fd ["thing"] spRowB := by
  refine F.ok sc_is_row (fun vs H Q E h => ?_) (fun cdv A outer s H vs Q E hr h => ?_)
  · obtain ⟨z, rfl, _⟩ := h
    rfl
  · obtain ⟨z, rfl, hz, q⟩ := h
    refine ⟨_,
      (pss_cons
        (ps_if (PW.pt (pw_or (pt_not (pt_val (pe_callB (r := rIsi K) call_isi (by rfl) T.n_isinstance (by decide +kernel) (pa_cons (pv 0) (pa_cons (pe_bltn (v := .ty "str") (u := .type "str") (by rfl) T.n_str (by decide +kernel) rfl) pa_nil))))) (pw_or1 (pt_cmpR op_gt (pe_callB c_lenS (by rfl) T.n_len (by decide +kernel) (pa_cons (pv 0) pa_nil)) pe_int (nomark _)))))
          (pss_one
            (ps_ret pe_bl))
          pss_nil)
      (pss_one
        (ps_ret (pe_callB (r := rAll K) (cr_all rfl) (by rfl) T.n_all (by decide +kernel) (pa_cons (pe_lc (own := [("sign", 1)]) (g := (gName 1)) rfl sc_is_row.nd (pi_str (pv 0)) (blkOk_by (own := [("sign", 1)]) (N := N_is_row) (sc := defScope s_is_row) (by decide +kernel)) (fun _ _ _ _ _ => (pg_name (i := 1) sc_is_row.nd rfl (.inl rfl))) (fun _ _ _ _ _ => pts_nil) (fun _ _ _ _ _ => (pe_and (pe_chain op_le_str op_le_str pe_str (pv 1) pe_str) (pe_one (pe_cmpR op_ne (pe_callB call_ord (by rfl) T.n_ord (by decide +kernel) (pa_cons (pv 1) pa_nil)) pe_int (nomark _)))))) pa_nil)))))
      , ?_⟩
    rw [show L2.start N_is_row [V.str z] = [some (.str z), none] from rfl]
    refine w_seq ?_
    walk_at "x"
    refine w_lenS (size200 hz) ?_
    walk_at "g"
    by_cases h40 : z.length ≤ 40
    · rw [decide_eq_false (show ¬ (40 : Int) < z.length by omega), if_neg (by decide)]
      walk_at "g"
      refine lcp_map (walk_str z) [] ((z.cps.toList.map fun c => decide (32 ≤ c) && decide (c ≤ 126) && decide (c ≠ 37)).map V.bl) (by simp) (by show z.length ≤ 1000000; omega) (fun _ _ => trivial) ?_ (by simp) ?_
      · rintro i x H1 H2 R hi k1 ⟨rfl, c, hc, rfl⟩ hR
        have hc' : z.cps.toList[i]? = some c := by rw [Array.getElem?_toList]; exact hc
        have fin : ∀ b : Bool, b = (decide (32 ≤ c) && decide (c ≤ 126) && decide (c ≠ 37)) → ((z.cps.toList.map fun c => decide (32 ≤ c) && decide (c ≤ 126) && decide (c ≠ 37)).map V.bl)[i]? = some (.bl b) := fun b e => by
          rw [List.getElem?_map, List.getElem?_map, hc', e]
          rfl
        refine w_name ⟨rfl, ?_⟩
        have e1 : decide (((⟨#[c]⟩ : Str)).cps.toList < (Str.ofString " ").cps.toList) = !decide (32 ≤ c) := by
          by_cases h : 32 ≤ c
          · rw [decide_eq_true h]
            refine decide_eq_false fun h => ?_
            have h : [c] < [32] := h
            cases h with
            | rel h => omega
            | cons h => cases h
          · rw [decide_eq_false h]
            exact decide_eq_true (show [c] < [32] from .rel (by omega))
        have e2 : decide ((Str.ofString "~").cps.toList < ((⟨#[c]⟩ : Str)).cps.toList) = !decide (c ≤ 126) := by
          by_cases h : c ≤ 126
          · rw [decide_eq_true h]
            refine decide_eq_false fun h => ?_
            have h : [126] < [c] := h
            cases h with
            | rel h => omega
            | cons h => cases h
          · rw [decide_eq_false h]
            exact decide_eq_true (show [126] < [c] from .rel (by omega))
        walk_at "g"
        refine ⟨_, _, rfl, rfl, _, rfl, ?_⟩
        rw [e1]
        by_cases c1 : 32 ≤ c
        · rw [decide_eq_true c1, if_pos (show (!(!true)) = true from rfl)]
          walk_at "g"
          refine ⟨_, _, rfl, rfl, ?_⟩
          rw [e2]
          by_cases c2 : c ≤ 126
          · rw [decide_eq_true c2]
            refine ⟨true, rfl, ?_⟩
            rw [if_pos rfl]
            walk_at "g"
            refine ⟨_, rfl, rfl, ?_⟩
            have e3 : (⟨#[c]⟩ : Str).cps.getD 0 0 = c := rfl
            rw [e3]
            walk_at "g"
            refine hR _ _ (fin _ ?_) Kp.refl
            rw [decide_eq_true c1, decide_eq_true c2]
            show (!decide ((c : Int) = 37)) = decide (c ≠ 37)
            by_cases c3 : c = 37
            · rw [decide_eq_true (show (c : Int) = 37 by omega), decide_eq_false (show ¬ c ≠ 37 from fun h => h c3)]
              rfl
            · rw [decide_eq_false (show ¬ (c : Int) = 37 by omega), decide_eq_true c3]
              rfl
          · rw [decide_eq_false c2]
            refine ⟨false, rfl, ?_⟩
            rw [if_neg (by decide)]
            refine hR _ _ (fin _ ?_) Kp.refl
            rw [decide_eq_false c2, Bool.and_false]
            rfl
        · rw [decide_eq_false c1, if_neg (by decide)]
          refine ⟨false, rfl, ?_⟩
          rw [if_neg (by decide)]
          refine hR _ _ (fin _ ?_) Kp.refl
          rw [decide_eq_false c1]
          rfl
      · intro L H1 hL k1 eL
        walk_at "g"
        have e : rowB z = ((z.cps.toList.map fun c => decide (32 ≤ c) && decide (c ≤ 126) && decide (c ≠ 37)).all id) := by
          unfold rowB
          rw [decide_eq_true h40, List.all_map]
          rfl
        have := q _ k1.same
        rw [e] at this
        exact this
    · rw [decide_eq_true (show (40 : Int) < z.length by omega), if_pos rfl]
      walk_at "g"
      have e : rowB z = false := by
        unfold rowB
        rw [decide_eq_false h40]
        rfl
      have q' := q H (fun _ _ z => z)
      rw [e] at q'
      exact q'
theorem ok_rowsb {f fR : Addr} {fd fdR : FuncData} (T : Txt K mg) (F : Fun K "are_rows" "are_rows" s_are_rows f fd) (D_is_row : Df K mg "is_row" s_is_row ["thing"] fR fdR) : FnOk P w K mg base CX0 2 f fd ["thing"] spRowsB := by
  obtain ⟨tk_ROWS, g_ROWS⟩ := T.g_ROWS
  have G_is_row : FnOk P w K mg base CX0 1 fR fdR ["thing"] spRowB := ok_rowb T D_is_row.fn
  refine F.ok sc_are_rows (fun vs H Q E h => ?_) (fun cdv A outer s H vs Q E hr h => ?_)
  · obtain ⟨r, rows, rfl, _⟩ := h
    rfl
  · obtain ⟨r, rows, rfl, hr0, hl, hz, q⟩ := h
    refine ⟨_,
      (pss_one
        (ps_ret (pe_and (pe_callB (r := rIsi K) call_isi (by rfl) T.n_isinstance (by decide +kernel) (pa_cons (pv 0) (pa_cons (pe_bltn (v := .ty "tuple") (u := .type "tuple") (by rfl) T.n_tuple (by decide +kernel) rfl) pa_nil))) (pe_and (pe_cmpR op_le (pe_callB (r := rLen K) c_len (by rfl) T.n_len (by decide +kernel) (pa_cons (pv 0) pa_nil)) (pe_glob (v := .int 40) rfl g_ROWS ⟨_, rfl⟩) (nomark _)) (pe_one (pe_callB (r := rAll K) (cr_all rfl) (by rfl) T.n_all (by decide +kernel) (pa_cons (pe_lc (own := [("row", 1)]) (g := (gName 1)) rfl sc_are_rows.nd (pi_tup (pv 0)) (blkOk_by (own := [("row", 1)]) (N := N_are_rows) (sc := defScope s_are_rows) (by decide +kernel)) (fun _ _ _ _ _ => (pg_name (i := 1) sc_are_rows.nd rfl (.inl rfl))) (fun _ _ _ _ _ => pts_nil) (fun _ _ _ _ _ => (pe_call G_is_row (hr.mono (by omega)) (by rfl) D_is_row.g D_is_row.fn.kp D_is_row.b .nil pass0 (pa_cons (pv 1) pa_nil)))) pa_nil)))))))
      , ?_⟩
    rw [show L2.start N_are_rows [V.ref r] = [some (.ref r), none] from rfl]
    walk_at "x"
    rw [decide_eq_true (show (((rows.map V.str).length : Nat) : Int) ≤ 40 by rw [List.length_map]; omega)]
    walk_at "g"
    refine lcp_map (walk_tup (K := K) (a := r) (xs := rows.map V.str)) [] ((rows.map rowB).map V.bl) (by simp) (by rw [List.length_map]; omega) (fun H' k => .of (k _ _ (by simp) hr0)) ?_ (by simp) ?_
    · rintro i x H1 H2 R hi k1 ⟨rfl, hx⟩ hR
      obtain ⟨z, hz', rfl⟩ := map_at hx
      have hzo := hz z (List.mem_of_getElem? hz')
      refine w_name ⟨rfl, ?_⟩
      walk_at "g"
      refine ⟨z, rfl, hzo, fun H3 k3 => ?_⟩
      refine hR _ _ ?_ (Kp.of k3)
      rw [List.getElem?_map, List.getElem?_map, hz']
      rfl
    · intro L H1 hL k1 eL
      walk_at "g"
      have := q _ k1.same
      rw [show rows.all rowB = (rows.map rowB).all id by rw [List.all_map]; rfl] at this
      exact this
theorem sIx_nat {n e : Nat} {j : Nat} (hj : j ≤ n) : HT.sIx n e (some (j : Int)) = j := by
  show (if (j : Int) < 0 then ((j : Int) + (n : Int)).toNat else min (j : Int).toNat n) = j
  rw [if_neg (by omega)]
  omega
theorem cut_mid {ls : List Str} {qq many : Nat} (h : qq + many ≤ ls.length) : cutV (ls.map V.str) (some (qq : Int)) (some ((qq : Int) + (many : Int))) = ((ls.drop qq).take many).map V.str := by
  unfold cutV
  have e1 : HT.sIx (ls.map V.str).length 0 (some (qq : Int)) = qq := sIx_nat (by rw [List.length_map]; omega)
  have e2 : HT.sIx (ls.map V.str).length (ls.map V.str).length (some ((qq + many : Nat) : Int)) = qq + many := sIx_nat (by rw [List.length_map]; exact h)
  rw [show ((qq : Int) + (many : Int)) = ((qq + many : Nat) : Int) by omega, e1, e2, ← List.map_drop, ← List.map_take, show qq + many - qq = many by omega]
theorem ok_nextl {C_NoText f fA fR : Addr} {fd fdA fdR : FuncData} (T : Txt K mg) (F : Fun K "next_lines" "Desk.next_lines" s_Desk_next_lines f fd) (X_NoText : Exn K mg "NoText" C_NoText) (K_Desk : Kl K mg "Desk" CD ["words", "lines", "word_place", "line_place"]) (D_is_row : Df K mg "is_row" s_is_row ["thing"] fR fdR) (D_are_rows : Df K mg "are_rows" s_are_rows ["thing"] fA fdA) : FnOk P w K mg base (L2.CX P w) 3 f fd ["self", "many"] (spNextL C_NoText CD) := by
  obtain ⟨tk_ROWS, g_ROWS⟩ := T.g_ROWS
  have G_are_rows : FnOk P w K mg base CX0 2 fA fdA ["thing"] spRowsB := ok_rowsb T D_are_rows.fn D_is_row
  have cl := K_Desk.cl
  have n2 := K_Desk.na "lines" (by simp)
  have n4 := K_Desk.na "line_place" (by simp)
  refine F.okX sc_Desk_next_lines (fun vs H Q E h => ?_) (fun cdv A outer s H vs Q E hr h => ?_)
  · obtain ⟨d, many, al, W, L, rfl, _⟩ := h
    rfl
  · obtain ⟨d, many, ⟨a, l⟩, W, L, rfl, ⟨dd, ws, ls, p, qq, D, rfl, rfl⟩, q1, q2⟩ := h
    have ob := D.ob
    have el := D.el
    have hql := D.hq
    refine ⟨_,
      (pss_cons
        (ps_if (PW.pt (pw_or (pt_cmpR op_gt (pv 1) (pe_glob (v := .int 40) rfl g_ROWS ⟨_, rfl⟩) (nomark _)) (pw_or1 (pt_cmpR op_gt (pe_op op_add (pe_fldK (K := K) rfl (pv 0) rfl) (pv 1)) (pe_callB (r := rLen K) c_len (by rfl) T.n_len (by decide +kernel) (pa_cons (pe_fldK (K := K) rfl (pv 0) rfl) pa_nil)) (nomark _)))))
          (pss_one
            (ps_raise rfl (takes_of rfl rfl rfl rfl) (pmk_own0 PySem.F.excBase_ValueError X_NoText.x X_NoText.g X_NoText.k (raises_own X_NoText.b X_NoText.t) rfl)))
          pss_nil)
      (pss_cons
        (ps_set (i := 2) sc_Desk_next_lines.nd rfl (.inl rfl) (pe_callTy (r := rTupOf K) c_tupOf (by rfl) T.n_tuple (by decide +kernel) (pa_cons (pe_slice sl_list (pe_fldK (K := K) rfl (pv 0) rfl) (po_some (pe_fldK (K := K) rfl (pv 0) rfl)) (po_some (pe_op op_add (pe_fldK (K := K) rfl (pv 0) rfl) (pv 1)))) pa_nil)))
      (pss_cons
        (ps_fldaug (pv 0) (pv 1) in_add)
      (pss_cons
        (ps_if (pt_not (pt_val (pe_call G_are_rows (hr.mono (by omega)) (by rfl) D_are_rows.g D_are_rows.fn.kp D_are_rows.b .nil pass0 (pa_cons (pv 2) pa_nil))))
          (pss_one
            (ps_raise rfl (takes_of rfl rfl rfl rfl) (pmk_own0 PySem.F.excBase_ValueError X_NoText.x X_NoText.g X_NoText.k (raises_own X_NoText.b X_NoText.t) rfl)))
          pss_nil)
      (pss_one
        (ps_ret (pv 2)))))))
      , ?_⟩
    rw [show L2.start N_Desk_next_lines [V.ref d, nV many] = [some (.ref d), some (nV many), none] from rfl]
    have hbad : ¬ (many ≤ 40 ∧ many ≤ (ls.drop qq).length) → rdLines many (ls.drop qq) = none := fun h => by
      unfold rdLines
      exact if_neg fun z => h z.1
    refine w_seq ?_
    walk_at "x"
    by_cases h40 : many ≤ 40
    · rw [decide_eq_false (show ¬ (40 : Int) < (many : Int) by omega), if_neg (by decide)]
      walk_at "g"
      by_cases hm : qq + many ≤ ls.length
      · rw [decide_eq_false (show ¬ (((ls.map V.str).length : Nat) : Int) < (qq : Int) + (many : Int) by rw [List.length_map]; omega), if_neg (by decide)]
        walk_at "g"
        refine w_slL (.of el) fun p1 H1 hp1 e1 k1 => ?_
        rw [cut_mid hm] at e1
        walk_at "g"
        refine w_tupL (.of e1) fun t H2 ht e2 k2 => ?_
        have k02 := Same.trans k1 k2
        have ob2 := k02 _ _ ob
        walk_at "g"
        refine w_fldAugL ?_
        unfold sFldAug
        walk_at "g"
        refine ⟨d, CD, dd, _, nV qq, rfl, ob2, cl, n4, rfl, ?_⟩
        walk_at "g"
        refine ⟨(qq : Int), (many : Int), rfl, rfl, dd, _, ob2, (show (4 : Nat) < 1000 by decide), ?_⟩
        walk_at "g"
        generalize hH3 : upd H2 d _ = H3
        have ob3 : H3 d = some (.ins CD dd [("words", .ref a), ("lines", .ref l), ("word_place", nV p), ("line_place", nV (qq + many))]) := by
          rw [← hH3]
          exact upd_same
        have off : Off d H2 H3 := fun b hb => by rw [← hH3]; exact upd_ne hb
        have ea3 := off.get D.ne.1 (k02 _ _ D.ea)
        have el3 := off.get D.ne.2 (k02 _ _ el)
        have et3 := off.get (ne_of e2 ob2 (fun z => nomatch z)) e2
        have kd : Kp [d] H H3 := (Kp.of k02).trans (off.kp (by simp))
        have hsz : ∀ z ∈ (ls.drop qq).take many, z.length ≤ 1000000 := fun z hz => D.sl z (List.mem_of_mem_drop (List.mem_of_mem_take hz))
        walk_at "g"
        refine w_seq ?_
        walk_at "g"
        refine ⟨t, _, rfl, et3, by rw [List.length_take]; omega, hsz, fun H4 k4 => ?_⟩
        by_cases hr : ((ls.drop qq).take many).all rowB = true
        · rw [hr]
          walk_at "g"
          refine q1 ((ls.drop qq).take many) (ls.drop (qq + many)) H4 t ?_ (DeskAt.same (al := (a, l)) ⟨dd, ws, ls, p, qq + many, ⟨ob3, ea3, el3, D.hp, hm, D.hw, D.hl, D.sw, D.sl⟩, rfl, rfl⟩ k4) (kd.trans (Kp.of k4)) (k4 _ _ et3)
          unfold rdLines
          rw [if_pos ⟨⟨h40, by rw [List.length_drop]; omega⟩, hr⟩, List.drop_drop]
        · rw [Bool.eq_false_iff.mpr hr]
          walk_at "g"
          refine q2 ?_ H4 (kd.trans (Kp.of k4))
          unfold rdLines
          exact if_neg fun z => hr z.2
      · rw [decide_eq_true (show (((ls.map V.str).length : Nat) : Int) < (qq : Int) + (many : Int) by rw [List.length_map]; omega), if_pos rfl]
        walk_at "g"
        exact q2 (hbad fun z => hm (by have := z.2; rw [List.length_drop] at this; omega)) H Kp.refl
    · rw [decide_eq_true (show (40 : Int) < (many : Int) by omega), if_pos rfl]
      walk_at "g"
      exact q2 (hbad fun z => h40 z.1) H Kp.refl
end
/-! ### numbers, truths, labels, pairs, pieces -/
def spGetE (C CD : Addr) (k : Kd) : Sp := fun vs H Q E => ∃ (d : Addr) (al : Addr × Addr) (W L : List Str), vs = [.ref d] ∧ DeskAt CD H d al W L ∧ (∀ e W' L' H' v, rdEl k W L = some (e, W', L') → DeskAt CD H' d al W' L' → Kp [d] H H' → ElAt H' v e → Q v H') ∧ (rdEl k W L = none → ∀ H', Kp [d] H H' → E (.ref C) none H')
def spGInt (C CD : Addr) : Sp := fun vs H Q E => ∃ (d : Addr) (al : Addr × Addr) (W L : List Str), vs = [.ref d] ∧ DeskAt CD H d al W L ∧ (∀ n W' H', rdInt W = some (n, W') → DeskAt CD H' d al W' L → Kp [d] H H' → Q (nV n) H') ∧ (rdInt W = none → ∀ H', Kp [d] H H' → E (.ref C) none H')
theorem numB_parts {z : Str} : numB z = true ↔ ((1 ≤ z.length ∧ z.length ≤ 19) ∧ z.cps.toList.all dgB = true) ∧ (z = ZRO ∨ z.cps.toList.head? ≠ some 48) ∧ numV z ≤ TOP := by
  unfold numB
  simp only [Bool.and_eq_true, Bool.or_eq_true, decide_eq_true_eq, and_assoc]
theorem dgB_iff {c : Nat} (h : dgB c = true) : 48 ≤ c ∧ c ≤ 57 := by
  have hm := of_decide_eq_true h
  have key : ∀ x ∈ (Str.ofString "0123456789").cps.toList, 48 ≤ x ∧ x ≤ 57 := by decide +kernel
  exact key c hm
theorem num_text {z : Str} (h1 : 1 ≤ z.length) (h2 : z.length ≤ 19) (h3 : z.cps.toList.all dgB = true) : PySem.intText? z = some ((numV z : Nat) : Int) := by
  refine PySem.intText_digits (fun c hc => dgB_iff (List.all_eq_true.mp h3 c hc)) (fun e => ?_) (by omega)
  have : z.length = 0 := by
    show z.cps.size = 0
    rw [← Array.length_toList, e]
    rfl
  omega
section
variable {P : Program} {w : World} {K : PySem.W.Frag} {mg : Str → Option Value} {base : Heap} {CD : Addr}
theorem ok_gint0 {C_NoText f fN fW : Addr} {fd fdN fdW : FuncData} (T : Txt K mg) (F : Fun K "get_int" "get_int" s_get_int f fd) (X_NoText : Exn K mg "NoText" C_NoText) (K_Desk : Kl K mg "Desk" CD ["words", "lines", "word_place", "line_place"]) (D_Desk_next_word : DfM K CD "next_word" "Desk.next_word" s_Desk_next_word ["self"] fW fdW) (D_need : Df K mg "need" s_need ["good"] fN fdN) : FnOk P w K mg base (L2.CX P w) 2 f fd ["desk"] (spGInt C_NoText CD) := by
  obtain ⟨tk_FIGURES, g_FIGURES⟩ := T.g_FIGURES
  obtain ⟨tk_GREATEST, g_GREATEST⟩ := T.g_GREATEST
  have G_Desk_next_word : FnOk P w K mg base (L2.CX P w) 1 fW fdW ["self"] (spNextW C_NoText CD) := ok_nextw T D_Desk_next_word.fn X_NoText K_Desk
  have G_need : FnOk P w K mg base (L2.CX P w) 1 fN fdN ["good"] (spNeed C_NoText) := ok_need T D_need.fn X_NoText
  refine F.okX sc_get_int (fun vs H Q E h => ?_) (fun cdv A outer s H vs Q E hr h => ?_)
  · obtain ⟨d, al, W, L, rfl, _⟩ := h
    rfl
  · obtain ⟨d, al, W, L, rfl, D, q1, q2⟩ := h
    obtain ⟨dd, x1, x2, x3, x4, ob⟩ := D.ins
    refine ⟨_,
      (pss_cons
        (ps_set (i := 1) sc_get_int.nd rfl (.inl rfl) (pe_meth0 (pv 0) K_Desk.cl D_Desk_next_word.m G_Desk_next_word (hr.mono (by omega)) D_Desk_next_word.b .nil (passes_call (takes_of rfl rfl rfl rfl) (fun _ _ _ _ h => h))))
      (pss_cons
        (ps_expr (pe_call G_need (hr.mono (by omega)) (by rfl) D_need.g D_need.fn.kp D_need.b .nil (passes_call (takes_of rfl rfl rfl rfl) (fun _ _ _ _ h => h)) (pa_cons (pe_and (pe_chain op_le op_le pe_int (pe_callB c_lenS (by rfl) T.n_len (by decide +kernel) (pa_cons (pv 1) pa_nil)) pe_int) (pe_one (pe_callB (r := rAll K) (cr_all rfl) (by rfl) T.n_all (by decide +kernel) (pa_cons (pe_lc (own := [("sign", 2)]) (g := (gName 2)) rfl sc_get_int.nd (pi_str (pv 1)) (blkOk_by (own := [("sign", 2)]) (N := N_get_int) (sc := defScope s_get_int) (by decide +kernel)) (fun _ _ _ _ _ => (pg_name (i := 2) sc_get_int.nd rfl (.inl rfl))) (fun _ _ _ _ _ => pts_nil) (fun _ _ _ _ _ => (pe_cmpR o_inS (pv 2) (pe_glob (v := .str "0123456789") rfl g_FIGURES ⟨_, rfl⟩) rfl))) pa_nil)))) pa_nil)))
      (pss_cons
        (ps_expr (pe_call G_need (hr.mono (by omega)) (by rfl) D_need.g D_need.fn.kp D_need.b .nil (passes_call (takes_of rfl rfl rfl rfl) (fun _ _ _ _ h => h)) (pa_cons (pe_or (pe_cmpR op_eq (pv 1) pe_str (nomark _)) (pe_one (pe_cmpR op_ne (pe_ix ix_str (pv 1) pe_int (fun _ _ => rfl)) pe_str (nomark _)))) pa_nil)))
      (pss_cons
        (ps_expr (pe_call G_need (hr.mono (by omega)) (by rfl) D_need.g D_need.fn.kp D_need.b .nil (passes_call (takes_of rfl rfl rfl rfl) (fun _ _ _ _ h => h)) (pa_cons (pe_cmpR op_le (pe_callTy (r := rIntS) c_intS (by rfl) T.n_int (by decide +kernel) (pa_cons (pv 1) pa_nil)) (pe_glob (v := .int 1000000000000000000) rfl g_GREATEST ⟨_, rfl⟩) (nomark _)) pa_nil)))
      (pss_one
        (ps_ret (pe_callTy (r := rIntS) c_intS (by rfl) T.n_int (by decide +kernel) (pa_cons (pv 1) pa_nil))))))))
      , ?_⟩
    rw [show L2.start N_get_int [V.ref d] = [some (.ref d), none, none] from rfl]
    walk_at "x"
    refine ⟨d, al, W, L, rfl, D, fun z W' H1 e D1 k1 hz => ?_, fun e => q2 (by rw [e]; rfl) H Kp.refl⟩
    subst e
    have bad : numB z = false → rdInt (z :: W') = none := fun h => by rw [rdInt_c, h]; rfl
    walk_at "g"
    refine w_lenS (size200 hz) ?_
    walk_at "g"
    by_cases h1 : 1 ≤ z.length ∧ z.length ≤ 19
    · rw [decide_eq_true (show (1 : Int) ≤ (z.length : Int) by omega), if_pos rfl]
      walk_at "g"
      rw [decide_eq_true (show (z.length : Int) ≤ 19 by omega)]
      walk_at "g"
      refine lcp_map (walk_str z) [] ((z.cps.toList.map dgB).map V.bl) (by simp) (by show z.length ≤ 1000000; omega) (fun _ _ => trivial) ?_ (by simp) ?_
      · rintro i x H2 H3 R hi k2 ⟨rfl, c, hc, rfl⟩ hR
        have hc' : z.cps.toList[i]? = some c := by rw [Array.getElem?_toList]; exact hc
        refine w_name ⟨rfl, ?_⟩
        walk_at "g"
        refine hR _ _ ?_ Kp.refl
        rw [List.getElem?_map, List.getElem?_map, hc']
        rfl
      · intro Lc H2 hL k2 eL
        have D2 := D1.same k2.same
        have k02 : Kp [d] H H2 := k1.trans (Kp.of k2.same)
        walk_at "g"
        by_cases hd : z.cps.toList.all dgB = true
        · refine ⟨true, by rw [List.all_map]; exact congrArg (fun b => [V.bl b]) hd, fun _ => ?_, fun h => nomatch h⟩
          have hnt := num_text h1.1 h1.2 hd
          -- the third look and the end, where the second one is passed
          have fin : (z = ZRO ∨ z.cps.toList.head? ≠ some 48) → (tSeq (tDrop (tCall (spNeed C_NoText) [] E (tCons (tOp (rI0 fun i j => V.bl (decide (i ≤ j))) (tCB rIntS (tCons (tVar 1) tNil)) (tC (V.int 1000000000000000000))) tNil))) (tRet (tCB rIntS (tCons (tVar 1) tNil)))) { nx := fun x H' => Q V.non H', rt := Q } [some (V.ref d), some (V.str z), none] H2 := fun hz0 => by
            walk_at "g"
            refine w_intS hnt (by omega) ?_
            walk_at "g"
            by_cases ht : numV z ≤ TOP
            · refine ⟨true, by rw [decide_eq_true (show ((numV z : Nat) : Int) ≤ 1000000000000000000 by unfold TOP at ht; omega)]; rfl, fun _ => ?_, fun h => nomatch h⟩
              walk_at "g"
              refine w_intS hnt (by omega) ?_
              exact q1 (numV z) W' H2 (by rw [rdInt_c, if_pos (numB_parts.mpr ⟨⟨h1, hd⟩, hz0, ht⟩)]) D2 k02
            · refine ⟨false, by rw [decide_eq_false (show ¬ ((numV z : Nat) : Int) ≤ 1000000000000000000 by unfold TOP at ht; omega)]; rfl, (fun h => nomatch h), fun _ => ?_⟩
              exact q2 (bad (Bool.eq_false_iff.mpr fun h => ht (numB_parts.mp h).2.2)) H2 k02
          walk_at "g"
          by_cases hz0 : z = ZRO
          · rw [decide_eq_true (show z = Str.ofString "0" from hz0), if_pos rfl]
            walk_at "g"
            refine ⟨true, rfl, fun _ => ?_, fun h => nomatch h⟩
            exact fin (.inl hz0)
          · rw [decide_eq_false (show ¬ z = Str.ofString "0" from hz0), if_neg (by decide)]
            obtain ⟨c, r, ec⟩ : ∃ c r, z.cps.toList = c :: r := by
              cases e : z.cps.toList with
              | nil =>
                exfalso
                have : z.length = 0 := by
                  show z.cps.size = 0
                  rw [← Array.length_toList, e]
                  rfl
                omega
              | cons c r => exact ⟨c, r, rfl⟩
            have hat : atI z.cps.toList 0 = some c := by rw [ec]; exact atI_nat (j := 0) rfl
            walk_at "g"
            refine w_ixS (size200 hz) hat ?_
            walk_at "g"
            by_cases hc : c = 48
            · subst hc
              refine ⟨false, rfl, (fun h => nomatch h), fun _ => ?_⟩
              exact q2 (bad (Bool.eq_false_iff.mpr fun h => (numB_parts.mp h).2.1.elim hz0 fun h2 => h2 (by rw [ec]; rfl))) H2 k02
            · refine ⟨true, ?_, fun _ => ?_, fun h => nomatch h⟩
              · rw [decide_eq_false (show ¬ (⟨#[c]⟩ : Str) = Str.ofString "0" from fun e => hc (by
                  have := congrArg (fun s : Str => s.cps.toList) e
                  have h0 : (Str.ofString "0").cps.toList = [48] := by decide +kernel
                  rw [h0] at this
                  simpa using this))]
                rfl
              · exact fin (.inr (by rw [ec]; exact fun e => hc (Option.some.inj e)))
        · refine ⟨false, by rw [List.all_map]; exact congrArg (fun b => [V.bl b]) (Bool.eq_false_iff.mpr hd), (fun h => nomatch h), fun _ => ?_⟩
          exact q2 (bad (Bool.eq_false_iff.mpr fun h => hd (numB_parts.mp h).1.2)) H2 k02
    · have hb := bad (Bool.eq_false_iff.mpr fun h => h1 (numB_parts.mp h).1.1)
      by_cases h2 : 1 ≤ z.length
      · rw [decide_eq_true (show (1 : Int) ≤ (z.length : Int) by omega), if_pos rfl]
        walk_at "g"
        rw [decide_eq_false (show ¬ (z.length : Int) ≤ 19 from fun x => h1 ⟨h2, by omega⟩)]
        walk_at "g"
        refine ⟨false, rfl, (fun h => nomatch h), fun _ => ?_⟩
        exact q2 hb H1 k1
      · rw [decide_eq_false (show ¬ (1 : Int) ≤ (z.length : Int) by omega), if_neg (by decide)]
        walk_at "g"
        refine ⟨false, rfl, (fun h => nomatch h), fun _ => ?_⟩
        exact q2 hb H1 k1
theorem ok_gint {C_NoText f fN fW : Addr} {fd fdN fdW : FuncData} (T : Txt K mg) (F : Fun K "get_int" "get_int" s_get_int f fd) (X_NoText : Exn K mg "NoText" C_NoText) (K_Desk : Kl K mg "Desk" CD ["words", "lines", "word_place", "line_place"]) (D_Desk_next_word : DfM K CD "next_word" "Desk.next_word" s_Desk_next_word ["self"] fW fdW) (D_need : Df K mg "need" s_need ["good"] fN fdN) : FnOk P w K mg base (L2.CX P w) 2 f fd ["desk"] (spGetE C_NoText CD .int) :=
  (ok_gint0 T F X_NoText K_Desk D_Desk_next_word D_need).imp fun vs H Q E ⟨d, al, W, L, e, D, q1, q2⟩ => ⟨d, al, W, L, e, D, fun n W' H' h D' k => q1 (.int n) W' L H' _ (by show (rdInt W).map _ = _; rw [h]; rfl) D' k rfl, fun h H' k => q2 (by show (rdInt W).map _ = _; rw [h]; rfl) H' k⟩
theorem ok_gtruth {C_NoText f fN fW : Addr} {fd fdN fdW : FuncData} (T : Txt K mg) (F : Fun K "get_truth" "get_truth" s_get_truth f fd) (X_NoText : Exn K mg "NoText" C_NoText) (K_Desk : Kl K mg "Desk" CD ["words", "lines", "word_place", "line_place"]) (D_Desk_next_word : DfM K CD "next_word" "Desk.next_word" s_Desk_next_word ["self"] fW fdW) (D_need : Df K mg "need" s_need ["good"] fN fdN) : FnOk P w K mg base (L2.CX P w) 2 f fd ["desk"] (spGetE C_NoText CD .tr) := by
  have G_Desk_next_word : FnOk P w K mg base (L2.CX P w) 1 fW fdW ["self"] (spNextW C_NoText CD) := ok_nextw T D_Desk_next_word.fn X_NoText K_Desk
  have G_need : FnOk P w K mg base (L2.CX P w) 1 fN fdN ["good"] (spNeed C_NoText) := ok_need T D_need.fn X_NoText
  refine F.okX sc_get_truth (fun vs H Q E h => ?_) (fun cdv A outer s H vs Q E hr h => ?_)
  · obtain ⟨d, al, W, L, rfl, _⟩ := h
    rfl
  · obtain ⟨d, al, W, L, rfl, D, q1, q2⟩ := h
    obtain ⟨dd, x1, x2, x3, x4, ob⟩ := D.ins
    refine ⟨_,
      (pss_cons
        (ps_set (i := 1) sc_get_truth.nd rfl (.inl rfl) (pe_meth0 (pv 0) K_Desk.cl D_Desk_next_word.m G_Desk_next_word (hr.mono (by omega)) D_Desk_next_word.b .nil (passes_call (takes_of rfl rfl rfl rfl) (fun _ _ _ _ h => h))))
      (pss_cons
        (ps_expr (pe_call G_need (hr.mono (by omega)) (by rfl) D_need.g D_need.fn.kp D_need.b .nil (passes_call (takes_of rfl rfl rfl rfl) (fun _ _ _ _ h => h)) (pa_cons (pe_or (pe_cmpR op_eq (pv 1) pe_str (nomark _)) (pe_one (pe_cmpR op_eq (pv 1) pe_str (nomark _)))) pa_nil)))
      (pss_one
        (ps_ret (pe_cmpR op_eq (pv 1) pe_str (nomark _))))))
      , ?_⟩
    rw [show L2.start N_get_truth [V.ref d] = [some (.ref d), none] from rfl]
    walk_at "x"
    refine ⟨d, al, W, L, rfl, D, fun z W' H1 e D1 k1 hz => ?_, fun e => q2 (by rw [e]; rfl) H Kp.refl⟩
    subst e
    rw [rdEl_tr, rdTr_c] at q1 q2
    walk_at "g"
    by_cases h1 : z = "yes"
    · rw [if_pos h1] at q1
      rw [decide_eq_true h1, if_pos rfl]
      walk_at "g"
      refine ⟨true, rfl, fun _ => ?_, fun h => nomatch h⟩
      walk_at "g"
      rw [decide_eq_true h1]
      exact q1 (.tr true) W' L H1 _ rfl D1 k1 rfl
    · rw [if_neg h1] at q1 q2
      rw [decide_eq_false h1, if_neg (by decide)]
      walk_at "g"
      by_cases h2 : z = "no"
      · rw [if_pos h2] at q1
        refine ⟨true, by rw [decide_eq_true h2]; rfl, fun _ => ?_, fun h => nomatch h⟩
        walk_at "g"
        rw [decide_eq_false h1]
        exact q1 (.tr false) W' L H1 _ rfl D1 k1 rfl
      · rw [if_neg h2] at q2
        refine ⟨false, by rw [decide_eq_false h2]; rfl, (fun h => nomatch h), fun _ => ?_⟩
        exact q2 rfl H1 k1
theorem ok_glabel {C_NoText f fN fW fL : Addr} {fd fdN fdW fdL : FuncData} (T : Txt K mg) (F : Fun K "get_label" "get_label" s_get_label f fd) (X_NoText : Exn K mg "NoText" C_NoText) (K_Desk : Kl K mg "Desk" CD ["words", "lines", "word_place", "line_place"]) (D_Desk_next_word : DfM K CD "next_word" "Desk.next_word" s_Desk_next_word ["self"] fW fdW) (D_need : Df K mg "need" s_need ["good"] fN fdN) (D_is_label : Df K mg "is_label" s_is_label ["thing"] fL fdL) : FnOk P w K mg base (L2.CX P w) 2 f fd ["desk"] (spGetE C_NoText CD .lab) := by
  have G_Desk_next_word : FnOk P w K mg base (L2.CX P w) 1 fW fdW ["self"] (spNextW C_NoText CD) := ok_nextw T D_Desk_next_word.fn X_NoText K_Desk
  have G_need : FnOk P w K mg base (L2.CX P w) 1 fN fdN ["good"] (spNeed C_NoText) := ok_need T D_need.fn X_NoText
  have G_is_label : FnOk P w K mg base CX0 1 fL fdL ["thing"] spLabB := ok_labb T D_is_label.fn
  refine F.okX sc_get_label (fun vs H Q E h => ?_) (fun cdv A outer s H vs Q E hr h => ?_)
  · obtain ⟨d, al, W, L, rfl, _⟩ := h
    rfl
  · obtain ⟨d, al, W, L, rfl, D, q1, q2⟩ := h
    obtain ⟨dd, x1, x2, x3, x4, ob⟩ := D.ins
    refine ⟨_,
      (pss_cons
        (ps_set (i := 1) sc_get_label.nd rfl (.inl rfl) (pe_meth0 (pv 0) K_Desk.cl D_Desk_next_word.m G_Desk_next_word (hr.mono (by omega)) D_Desk_next_word.b .nil (passes_call (takes_of rfl rfl rfl rfl) (fun _ _ _ _ h => h))))
      (pss_cons
        (ps_expr (pe_call G_need (hr.mono (by omega)) (by rfl) D_need.g D_need.fn.kp D_need.b .nil (passes_call (takes_of rfl rfl rfl rfl) (fun _ _ _ _ h => h)) (pa_cons (pe_call G_is_label (hr.mono (by omega)) (by rfl) D_is_label.g D_is_label.fn.kp D_is_label.b .nil pass0 (pa_cons (pv 1) pa_nil)) pa_nil)))
      (pss_one
        (ps_ret (pv 1)))))
      , ?_⟩
    rw [show L2.start N_get_label [V.ref d] = [some (.ref d), none] from rfl]
    walk_at "x"
    refine ⟨d, al, W, L, rfl, D, fun z W' H1 e D1 k1 hz => ?_, fun e => q2 (by rw [e]; rfl) H Kp.refl⟩
    subst e
    walk_at "g"
    refine ⟨z, rfl, hz, fun H2 k2 => ?_⟩
    have D2 := D1.same k2
    have k02 := k1.trans (Kp.of k2)
    walk_at "g"
    refine ⟨labB z, rfl, fun h => ?_, fun h => ?_⟩
    · walk_at "g"
      exact q1 (.lab z) W' L H2 _ (by show (rdLab (z :: W')).map _ = _; rw [rdLab_c, if_pos h]; rfl) D2 k02 rfl
    · exact q2 (by show (rdLab (z :: W')).map _ = _; rw [rdLab_c, h]; rfl) H2 k02
theorem ok_gpair {C_NoText f fI fL : Addr} {fd fdI fdL : FuncData} (T : Txt K mg) (F : Fun K "get_pair" "get_pair" s_get_pair f fd) (D_get_label : Df K mg "get_label" s_get_label ["desk"] fL fdL) (G_get_label : FnOk P w K mg base (L2.CX P w) 2 fL fdL ["desk"] (spGetE C_NoText CD .lab)) (D_get_int : Df K mg "get_int" s_get_int ["desk"] fI fdI) (G_get_int : FnOk P w K mg base (L2.CX P w) 2 fI fdI ["desk"] (spGInt C_NoText CD)) : FnOk P w K mg base (L2.CX P w) 3 f fd ["desk"] (spGetE C_NoText CD .pair) := by
  refine F.okX sc_get_pair (fun vs H Q E h => ?_) (fun cdv A outer s H vs Q E hr h => ?_)
  · obtain ⟨d, al, W, L, rfl, _⟩ := h
    rfl
  · obtain ⟨d, al, W, L, rfl, D, q1, q2⟩ := h
    refine ⟨_,
      (pss_cons
        (ps_set (i := 1) sc_get_pair.nd rfl (.inl rfl) (pe_call G_get_label (hr.mono (by omega)) (by rfl) D_get_label.g D_get_label.fn.kp D_get_label.b .nil (passes_call (takes_of rfl rfl rfl rfl) (fun _ _ _ _ h => h)) (pa_cons (pv 0) pa_nil)))
      (pss_one
        (ps_ret (pe_tup (pa_cons (pv 1) (pa_cons (pe_call G_get_int (hr.mono (by omega)) (by rfl) D_get_int.g D_get_int.fn.kp D_get_int.b .nil (passes_call (takes_of rfl rfl rfl rfl) (fun _ _ _ _ h => h)) (pa_cons (pv 0) pa_nil)) pa_nil))))))
      , ?_⟩
    rw [show L2.start N_get_pair [V.ref d] = [some (.ref d), none] from rfl]
    walk_at "x"
    refine ⟨d, al, W, L, rfl, D, fun e W1 L1 H1 v e1 D1 k1 hv => ?_, fun e1 H1 k1 => ?_⟩
    · obtain ⟨⟨z, W1'⟩, e2, e3⟩ := Option.map_eq_some_iff.mp (show (rdLab W).map _ = _ from e1)
      cases e3
      obtain rfl : v = .str z := hv
      walk_at "g"
      refine ⟨d, al, W1', L, rfl, D1, fun n W2 H2 e4 D2 k2 => ?_, fun e4 H2 k2 => ?_⟩
      · walk_at "g"
        refine w_new fun t H3 ht e5 k3 => ?_
        exact q1 (.pair z n) W2 L H3 _ (by show (rdLab W).bind _ = _; rw [e2]; show (rdInt W1').map _ = _; rw [e4]; rfl) (D2.same k3) ((k1.trans k2).trans (Kp.of k3)) ⟨t, rfl, e5⟩
      · exact q2 (by show (rdLab W).bind _ = _; rw [e2]; show (rdInt W1').map _ = _; rw [e4]; rfl) H2 (k1.trans k2)
    · have e2 := Option.map_eq_none_iff.mp (show (rdLab W).map _ = none from e1)
      exact q2 (by show (rdLab W).bind _ = _; rw [e2]; rfl) H1 k1
theorem rdEl_pc (w : Str) (W L : List Str) : rdEl .piece (w :: W) L = (rdInt W).bind fun x => if w = "take" then (rdInt x.2).bind fun y => if 0 < y.1 then some (.take x.1 y.1, y.2, L) else none else if w = "put" ∧ 0 < x.1 then (rdLines x.1 L).map fun y => (.put y.1, x.2, y.2) else none := rfl
theorem ok_gpiece {C_NoText f fN fW fX fI : Addr} {fd fdN fdW fdX fdI : FuncData} (T : Txt K mg) (F : Fun K "get_piece" "get_piece" s_get_piece f fd) (X_NoText : Exn K mg "NoText" C_NoText) (K_Desk : Kl K mg "Desk" CD ["words", "lines", "word_place", "line_place"]) (D_Desk_next_word : DfM K CD "next_word" "Desk.next_word" s_Desk_next_word ["self"] fW fdW) (D_Desk_next_lines : DfM K CD "next_lines" "Desk.next_lines" s_Desk_next_lines ["self", "many"] fX fdX) (G_Desk_next_lines : FnOk P w K mg base (L2.CX P w) 3 fX fdX ["self", "many"] (spNextL C_NoText CD)) (D_need : Df K mg "need" s_need ["good"] fN fdN) (D_get_int : Df K mg "get_int" s_get_int ["desk"] fI fdI) (G_get_int : FnOk P w K mg base (L2.CX P w) 2 fI fdI ["desk"] (spGInt C_NoText CD)) : FnOk P w K mg base (L2.CX P w) 4 f fd ["desk"] (spGetE C_NoText CD .piece) := by
  have G_Desk_next_word : FnOk P w K mg base (L2.CX P w) 1 fW fdW ["self"] (spNextW C_NoText CD) := ok_nextw T D_Desk_next_word.fn X_NoText K_Desk
  have G_need : FnOk P w K mg base (L2.CX P w) 1 fN fdN ["good"] (spNeed C_NoText) := ok_need T D_need.fn X_NoText
  refine F.okX sc_get_piece (fun vs H Q E h => ?_) (fun cdv A outer s H vs Q E hr h => ?_)
  · obtain ⟨d, al, W, L, rfl, _⟩ := h
    rfl
  · obtain ⟨d, al, W, L, rfl, D, q1, q2⟩ := h
    obtain ⟨dd, x1, x2, x3, x4, ob⟩ := D.ins
    refine ⟨_,
      (pss_cons
        (ps_set (i := 1) sc_get_piece.nd rfl (.inl rfl) (pe_meth0 (pv 0) K_Desk.cl D_Desk_next_word.m G_Desk_next_word (hr.mono (by omega)) D_Desk_next_word.b .nil (passes_call (takes_of rfl rfl rfl rfl) (fun _ _ _ _ h => h))))
      (pss_cons
        (ps_set (i := 2) sc_get_piece.nd rfl (.inl rfl) (pe_call G_get_int (hr.mono (by omega)) (by rfl) D_get_int.g D_get_int.fn.kp D_get_int.b .nil (passes_call (takes_of rfl rfl rfl rfl) (fun _ _ _ _ h => h)) (pa_cons (pv 0) pa_nil)))
      (pss_cons
        (ps_if (pt_cmpR op_eq (pv 1) pe_str (nomark _))
          (pss_cons
            (ps_set (i := 3) sc_get_piece.nd rfl (.inl rfl) (pe_call G_get_int (hr.mono (by omega)) (by rfl) D_get_int.g D_get_int.fn.kp D_get_int.b .nil (passes_call (takes_of rfl rfl rfl rfl) (fun _ _ _ _ h => h)) (pa_cons (pv 0) pa_nil)))
          (pss_cons
            (ps_expr (pe_call G_need (hr.mono (by omega)) (by rfl) D_need.g D_need.fn.kp D_need.b .nil (passes_call (takes_of rfl rfl rfl rfl) (fun _ _ _ _ h => h)) (pa_cons (pe_cmpR op_gt (pv 3) pe_int (nomark _)) pa_nil)))
          (pss_one
            (ps_ret (pe_tup (pa_cons pe_str (pa_cons (pv 2) (pa_cons (pv 3) pa_nil))))))))
          pss_nil)
      (pss_cons
        (ps_expr (pe_call G_need (hr.mono (by omega)) (by rfl) D_need.g D_need.fn.kp D_need.b .nil (passes_call (takes_of rfl rfl rfl rfl) (fun _ _ _ _ h => h)) (pa_cons (pe_and (pe_cmpR op_eq (pv 1) pe_str (nomark _)) (pe_one (pe_cmpR op_gt (pv 2) pe_int (nomark _)))) pa_nil)))
      (pss_one
        (ps_ret (pe_tup (pa_cons pe_str (pa_cons (pe_meth (pv 0) K_Desk.cl D_Desk_next_lines.m G_Desk_next_lines (hr.mono (by omega)) D_Desk_next_lines.b .nil (passes_call (takes_of rfl rfl rfl rfl) (fun _ _ _ _ h => h)) (pa_cons (pv 2) pa_nil)) pa_nil)))))))))
      , ?_⟩
    rw [show L2.start N_get_piece [V.ref d] = [some (.ref d), none, none, none] from rfl]
    walk_at "x"
    refine ⟨d, al, W, L, rfl, D, fun z W' H1 e D1 k1 hz => ?_, fun e => q2 (by rw [e]; rfl) H Kp.refl⟩
    subst e
    rw [rdEl_pc] at q1 q2
    walk_at "g"
    refine ⟨d, al, W', L, rfl, D1, fun n W2 H2 e2 D2 k2 => ?_, fun e2 H2 k2 => q2 (by rw [e2]; rfl) H2 (k1.trans k2)⟩
    rw [e2, Option.bind_some] at q1 q2
    have k02 := k1.trans k2
    obtain ⟨dd2, y1, y2, y3, y4, ob2⟩ := D2.ins
    walk_at "g"
    refine w_seq ?_
    walk_at "g"
    by_cases ht : z = "take"
    · rw [if_pos ht] at q1 q2
      rw [decide_eq_true ht, if_pos rfl]
      walk_at "g"
      refine ⟨d, al, W2, L, rfl, D2, fun m W3 H3 e3 D3 k3 => ?_, fun e3 H3 k3 => q2 (by show (rdInt W2).bind _ = none; rw [e3]; rfl) H3 (k02.trans k3)⟩
      have e3' : rdInt (n, W2).2 = some (m, W3) := e3
      rw [e3', Option.bind_some] at q1 q2
      walk_at "g"
      by_cases hm : 0 < m
      · rw [if_pos hm] at q1
        refine ⟨true, by rw [decide_eq_true (show (0 : Int) < (m : Int) by omega)]; rfl, fun _ => ?_, fun h => nomatch h⟩
        walk_at "g"
        refine w_new fun t H4 ht4 e4 k4 => ?_
        exact q1 _ _ _ H4 _ rfl (D3.same k4) ((k02.trans k3).trans (Kp.of k4)) ⟨t, rfl, e4⟩
      · rw [if_neg hm] at q2
        refine ⟨false, by rw [decide_eq_false (show ¬ (0 : Int) < (m : Int) by omega)]; rfl, (fun h => nomatch h), fun _ => ?_⟩
        exact q2 rfl H3 (k02.trans k3)
    · rw [if_neg ht] at q1 q2
      rw [decide_eq_false ht, if_neg (by decide)]
      walk_at "g"
      by_cases hp : z = "put"
      · rw [decide_eq_true hp, if_pos rfl]
        walk_at "g"
        by_cases hn : 0 < n
        · rw [if_pos ⟨hp, hn⟩] at q1 q2
          refine ⟨true, by rw [decide_eq_true (show (0 : Int) < (n : Int) by omega)]; rfl, fun _ => ?_, fun h => nomatch h⟩
          walk_at "g"
          refine ⟨d, n, al, W2, L, rfl, D2, fun rs L3 H3 t e3 D3 k3 et => ?_, fun e3 H3 k3 => q2 (by show (rdLines n L).map _ = none; rw [e3]; rfl) H3 (k02.trans k3)⟩
          walk_at "g"
          refine w_new fun t4 H4 ht4 e4 k4 => ?_
          exact q1 (.put rs) W2 L3 H4 _ (by show (rdLines n L).map _ = _; rw [e3]; rfl) (D3.same k4) ((k02.trans k3).trans (Kp.of k4)) ⟨t4, t, rfl, e4, k4 _ _ et⟩
        · rw [if_neg (fun h => hn h.2)] at q2
          refine ⟨false, by rw [decide_eq_false (show ¬ (0 : Int) < (n : Int) by omega)]; rfl, (fun h => nomatch h), fun _ => ?_⟩
          exact q2 rfl H2 k02
      · rw [if_neg (fun h => hp h.1)] at q2
        rw [decide_eq_false hp, if_neg (by decide)]
        walk_at "g"
        refine ⟨false, rfl, (fun h => nomatch h), fun _ => ?_⟩
        exact q2 rfl H2 k02
end
/-! ### lists, contents, packs -/
def spGetL (P : Program) (w : World) (K : PySem.W.Frag) (mg : Str → Option Value) (base : Heap) (C CD : Addr) : Sp := fun vs H Q E => ∃ (d f : Addr) (m : Nat) (k : Kd) (al : Addr × Addr) (W L : List Str), vs = [.ref d, nV m, .ref f] ∧ KnF P w K mg base (L2.CX P w) 4 f (spGetE C CD k) ∧ m ≤ 400 ∧ DeskAt CD H d al W L ∧
  (∀ es W' L' H' t (as : List (V × El)), rdList k m W L = some (es, W', L') → DeskAt CD H' d al W' L' → Kp [d] H H' → H' t = some (.tup (as.map (·.1))) → as.map (·.2) = es → (∀ q ∈ as, ElAt H' q.1 q.2) → Q (.ref t) H') ∧ (rdList k m W L = none → ∀ H', Kp [d] H H' → E (.ref C) none H')
theorem rdMany_u (rd : List Str → List Str → Option (El × List Str × List Str)) (m : Nat) (W L : List Str) (h : W.head? ≠ some CP) : rdMany rd m W L = match m with | 0 => none | m + 1 => (rd W L).bind fun x => (rdMany rd m x.2.1 x.2.2).map fun y => (x.1 :: y.1, y.2) := by
  cases m with
  | zero => exact if_neg h
  | succ m => exact if_neg h
section
variable {P : Program} {w : World} {K : PySem.W.Frag} {mg : Str → Option Value} {base : Heap} {CD : Addr}
theorem ok_glist {C_NoText f fN fM fX : Addr} {fd fdN fdM fdX : FuncData} (T : Txt K mg) (F : Fun K "get_list" "get_list" s_get_list f fd) (X_NoText : Exn K mg "NoText" C_NoText) (K_Desk : Kl K mg "Desk" CD ["words", "lines", "word_place", "line_place"]) (D_Desk_need : DfM K CD "need" "Desk.need" s_Desk_need ["self", "word"] fM fdM) (G_Desk_need : FnOk P w K mg base (L2.CX P w) 2 fM fdM ["self", "word"] (spDNeed C_NoText CD)) (D_Desk_is_next : DfM K CD "is_next" "Desk.is_next" s_Desk_is_next ["self", "word"] fX fdX) (D_need : Df K mg "need" s_need ["good"] fN fdN) : FnOk P w K mg base (L2.CX P w) 5 f fd ["desk", "most", "each"] (spGetL P w K mg base C_NoText CD) := by
  have G_Desk_is_next : FnOk P w K mg base CX0 1 fX fdX ["self", "word"] (spIsNext CD) := ok_isnext T D_Desk_is_next.fn K_Desk
  have G_need : FnOk P w K mg base (L2.CX P w) 1 fN fdN ["good"] (spNeed C_NoText) := ok_need T D_need.fn X_NoText
  refine F.okX sc_get_list (fun vs H Q E h => ?_) (fun cdv A outer s H vs Q E hr h => ?_)
  · obtain ⟨d, f, m, k, al, W, L, rfl, _⟩ := h
    rfl
  · obtain ⟨d, fe, m, k, al, W, L, rfl, hf, hm, D, q1, q2⟩ := h
    obtain ⟨dd, x1, x2, x3, x4, ob⟩ := D.ins
    refine ⟨_,
      (pss_cons
        (ps_expr (pe_meth (pv 0) K_Desk.cl D_Desk_need.m G_Desk_need (hr.mono (by omega)) D_Desk_need.b .nil (passes_call (takes_of rfl rfl rfl rfl) (fun _ _ _ _ h => h)) (pa_cons pe_str pa_nil)))
      (pss_cons
        (ps_set (i := 3) sc_get_list.nd rfl (.inl rfl) (pe_lst pa_nil))
      (pss_cons
        (ps_while (passes_of rfl) (pt_not (pt_val (pe_meth (pv 0) K_Desk.cl D_Desk_is_next.m G_Desk_is_next (hr.mono (by omega)) D_Desk_is_next.b .nil pass0 (pa_cons pe_str pa_nil))))
          (pss_cons
            (ps_expr (pe_call G_need (hr.mono (by omega)) (by rfl) D_need.g D_need.fn.kp D_need.b .nil (passes_call (takes_of rfl rfl rfl rfl) (fun _ _ _ _ h => h)) (pa_cons (pe_cmpR op_lt (pe_callB (r := rLen K) c_len (by rfl) T.n_len (by decide +kernel) (pa_cons (pv 3) pa_nil)) (pv 1) (nomark _)) pa_nil)))
          (pss_one
            (ps_expr (pe_bm PySem.F.plainAttrs_list PySem.F.slot_list_append PySem.F.type_list_append mt_append (pv 3) (pa_cons (pe_callV (N := KnF P w K mg base (L2.CX P w) 4) (i := 2) (fun _ _ h => h) (hr.mono (by omega)) (by rfl) (by first | exact Or.inl rfl | exact Or.inr (Or.inl rfl) | exact Or.inr (Or.inr rfl)) (passes_call (takes_of rfl rfl rfl rfl) (fun _ _ _ _ h => h)) (pa_cons (pv 0) pa_nil)) pa_nil))))))
      (pss_cons
        (ps_expr (pe_meth (pv 0) K_Desk.cl D_Desk_need.m G_Desk_need (hr.mono (by omega)) D_Desk_need.b .nil (passes_call (takes_of rfl rfl rfl rfl) (fun _ _ _ _ h => h)) (pa_cons pe_str pa_nil)))
      (pss_one
        (ps_ret (pe_callTy (r := rTupOf K) c_tupOf (by rfl) T.n_tuple (by decide +kernel) (pa_cons (pv 3) pa_nil))))))))
      , ?_⟩
    rw [show L2.start N_get_list [V.ref d, nV m, V.ref fe] = [some (.ref d), some (nV m), some (.ref fe), none] from rfl]
    walk_at "x"
    refine ⟨d, OP, al, W, L, rfl, D, fun W1 H1 e1 D1 k1 => ?_, fun e1 H1 k1 => q2 (if_neg e1) H1 k1⟩
    subst e1
    have eM : rdList k m (OP :: W1) L = rdMany (rdEl k) m W1 L := if_pos rfl
    rw [eM] at q1 q2
    walk_at "g"
    refine w_new fun th H2 hth e2 k2 => ?_
    walk_at "g"
    have hth0 : th ≠ d := by
      obtain ⟨dd1, y1, y2, y3, y4, ob1⟩ := D1.ins
      exact (ne_of_none ob1 hth).symm
    have hna : al.1 ≠ th := by
      obtain ⟨_, _, _, _, _, D1o, _⟩ := D1
      exact ne_of_none D1o.ea hth
    have hnl : al.2 ≠ th := by
      obtain ⟨_, _, _, _, _, D1o, _⟩ := D1
      exact ne_of_none D1o.el hth
    have kp : ∀ {H' : Hp}, Kp [d, th] H2 H' → Kp [d] H H' := fun k3 b o hb e => k3 b o (by
      simp only [List.mem_cons, List.not_mem_nil, or_false, not_or]
      exact ⟨by simpa using hb, ne_of_none (k1 _ _ hb e) hth⟩) (k2 _ _ (k1 _ _ hb e))
    refine w_whileN (fun mm σ H' => ∃ (as : List (V × El)) (Wc Lc : List Str), σ = [some (.ref d), some (nV m), some (.ref fe), some (.ref th)] ∧ mm = m + 1 - as.length ∧ as.length ≤ m ∧ DeskAt CD H' d al Wc Lc ∧ Kp [d, th] H2 H' ∧ H' th = some (.lst (as.map (·.1))) ∧ (∀ q ∈ as, ElAt H' q.1 q.2) ∧ rdMany (rdEl k) m W1 L = (rdMany (rdEl k) (m - as.length) Wc Lc).map fun y => (as.map (·.2) ++ y.1, y.2)) (m + 1) ⟨[], W1, L, rfl, rfl, Nat.zero_le _, D1.same k2, Kp.refl, e2, by simp, by
      show _ = (rdMany (rdEl k) m W1 L).map _
      cases rdMany (rdEl k) m W1 L <;> rfl⟩ ?_
    rintro mm σ H3 ⟨as, Wc, Lc, rfl, rfl, hal, D3, k3, e3, has, eR⟩
    obtain ⟨dd3, y1, y2, y3, y4, ob3⟩ := D3.ins
    walk_at "g"
    refine ⟨d, CP, al, Wc, Lc, rfl, D3, ?_⟩
    walk_at "g"
    by_cases hcp : Wc.head? = some CP
    · rw [decide_eq_true hcp, if_neg (by decide)]
      obtain ⟨Wt, rfl⟩ : ∃ Wt, Wc = CP :: Wt := by
        cases Wc with
        | nil => cases hcp
        | cons x Wt =>
          cases hcp
          exact ⟨Wt, rfl⟩
      rw [rdMany_p] at eR
      walk_at "g"
      refine ⟨d, CP, al, CP :: Wt, Lc, rfl, D3, fun W4 H4 e4 D4 k4 => ?_, fun e4 => absurd rfl e4⟩
      cases e4
      have e44 := k4 _ _ (by simpa using hth0) e3
      have kk : KT H3 H4 := KT.ins k4 ob3
      walk_at "g"
      refine w_tupL (.of e44) fun t H5 ht e5 k5 => ?_
      exact q1 (as.map (·.2) ++ []) Wt Lc H5 t as (by rw [eR]; rfl) (D4.same k5) (kp ((k3.trans (k4.mono (by simp))).trans (Kp.of k5))) e5 (by rw [List.append_nil]) fun q' hq' => ((has q' hq').kt kk).kt (KT.of k5)
    · rw [decide_eq_false hcp, if_pos (by decide)]
      rw [rdMany_u _ _ _ _ hcp] at eR
      refine w_turn ?_
      walk_at "g"
      by_cases hlt : as.length < m
      · refine ⟨true, by rw [decide_eq_true (show (((as.map fun x => x.1).length : Nat) : Int) < (m : Int) by rw [List.length_map]; omega)]; rfl, fun _ => ?_, fun h => nomatch h⟩
        obtain ⟨r, hr⟩ : ∃ r, m - as.length = r + 1 := ⟨m - as.length - 1, by omega⟩
        rw [hr] at eR
        walk_at "g"
        refine w_callV rfl hf ?_
        walk_at "g"
        refine ⟨d, al, Wc, Lc, rfl, D3, fun e W4 L4 H4 v e4 D4 k4 hv => ?_, fun e4 H4 k4 => ?_⟩
        · have e44 := k4 _ _ (by simpa using hth0) e3
          have kk : KT H3 H4 := KT.ins k4 ob3
          obtain ⟨dd4, z1, z2, z3, z4, ob4⟩ := D4.ins
          walk_at "g"
          refine w_app e44 (by rw [List.length_map]; exact small5 (by omega)) fun H5 e5 o5 => ?_
          have kk5 : KT H4 H5 := KT.offN o5 e44
          have kd5 : Kp [th] H4 H5 := o5.kp (by simp)
          walk_at "g"
          refine ⟨m + 1 - (as.length + 1), by omega, as ++ [(v, e)], W4, L4, rfl, by rw [List.length_append]; rfl, by rw [List.length_append]; exact hlt, ?_, (k3.trans (k4.mono (by simp))).trans (kd5.mono (by simp)), by rw [e5, List.map_append]; rfl, fun q' hq' => ?_, ?_⟩
          · obtain ⟨dd4, ws4, ls4, p4, qq4, D40, w1, w2⟩ := D4
            refine ⟨dd4, ws4, ls4, p4, qq4, ⟨kd5 _ _ (by simpa using ne_of D40.ob e44 (fun z => nomatch z)) D40.ob, kd5 _ _ ?_ D40.ea, kd5 _ _ ?_ D40.el, D40.hp, D40.hq, D40.hw, D40.hl, D40.sw, D40.sl⟩, w1, w2⟩
            · exact by simpa using hna
            · exact by simpa using hnl
          · rcases List.mem_append.mp hq' with h | h
            · exact ((has q' h).kt kk).kt kk5
            · have e : q' = (v, e) := by simpa using h
              rw [e]
              exact hv.kt kk5
          · rw [eR, e4]
            show ((rdMany (rdEl k) r W4 L4).map _).map _ = _
            rw [show m - (as ++ [(v, e)]).length = r by rw [List.length_append]; show m - (as.length + 1) = r; omega, Option.map_map]
            congr 1
            funext y
            show ((as.map (·.2) ++ (e :: y.1)), y.2) = _
            rw [List.map_append, List.append_assoc]
            rfl
        · exact q2 (by rw [eR, e4]; rfl) H4 (kp (k3.trans (k4.mono (by simp))))
      · refine ⟨false, by rw [decide_eq_false (show ¬ (((as.map fun x => x.1).length : Nat) : Int) < (m : Int) by rw [List.length_map]; omega)]; rfl, (fun h => nomatch h), fun _ => ?_⟩
        rw [show m - as.length = 0 by omega] at eR
        exact q2 (by rw [eR]; rfl) H3 (kp k3)
end
/-! ### rising of any -/
def adjB {α : Type} (r : α → α → Bool) : List α → List Bool
  | a :: b :: t => r a b :: adjB r (b :: t)
  | _ => []
theorem adjB_len {α : Type} {r : α → α → Bool} : ∀ l : List α, (adjB r l).length = l.length - 1
  | [] => rfl
  | [_] => rfl
  | a :: b :: t => by
    show (adjB r (b :: t)).length + 1 = _
    rw [adjB_len (b :: t)]
    rfl
theorem adjB_at {α : Type} {r : α → α → Bool} : ∀ {l : List α} {i : Nat} {x y : α}, l[i]? = some x → l[i + 1]? = some y → (adjB r l)[i]? = some (r x y)
  | a :: b :: t, 0, x, y, h1, h2 => by cases h1; cases h2; rfl
  | a :: b :: t, i + 1, x, y, h1, h2 => adjB_at (l := b :: t) (i := i) h1 h2
  | [_], 0, _, _, _, h2 => by cases h2
  | [_], _ + 1, _, _, h1, _ => by cases h1
  | [], _, _, _, h1, _ => by cases h1
theorem adjB_all {α : Type} {R : α → α → Prop} {r : α → α → Bool} (hr : ∀ a b, r a b = true ↔ R a b) (tr : ∀ a b c, R a b → R b c → R a c) : ∀ l : List α, (adjB r l).all id = true ↔ l.Pairwise R
  | [] => by simp [adjB]
  | [_] => by simp [adjB]
  | a :: b :: t => by
    have ih := adjB_all hr tr (b :: t)
    show (r a b && (adjB r (b :: t)).all id) = true ↔ _
    rw [Bool.and_eq_true, hr, ih, List.pairwise_cons (a := a)]
    constructor
    · rintro ⟨h1, h2⟩
      refine ⟨fun x hx => ?_, h2⟩
      rcases List.mem_cons.mp hx with rfl | hx
      · exact h1
      · exact tr _ _ _ h1 ((List.pairwise_cons.mp h2).1 x hx)
    · rintro ⟨h1, h2⟩
      exact ⟨h1 b (by simp), h2⟩
def ltN (a b : Nat) : Bool := decide (a < b)
def ltS (a b : Str) : Bool := decide (a.cps.toList < b.cps.toList)
theorem risN_all (ns : List Nat) : (adjB ltN ns).all id = risN ns := by
  rw [Bool.eq_iff_iff, adjB_all (r := ltN) (R := (· < ·)) (fun a b => decide_eq_true_iff) (fun a b c => Nat.lt_trans)]
  unfold risN
  rw [decide_eq_true_iff]
theorem risS_all (zs : List Str) : (adjB ltS zs).all id = risS zs := by
  rw [Bool.eq_iff_iff, adjB_all (r := ltS) (R := fun a b : Str => a.cps.toList < b.cps.toList) (fun a b => decide_eq_true_iff) (fun a b c h1 h2 => List.lt_trans h1 h2)]
  unfold risS
  rw [decide_eq_true_iff]
def spRisTB : Sp := fun vs H Q _ => ∃ (t : Addr) (ns : List Nat), vs = [.ref t] ∧ H t = some (.tup (ns.map nV)) ∧ ns.length ≤ 1000 ∧ ∀ H', Same H H' → Q (.bl (risN ns)) H'
def spRisLB : Sp := fun vs H Q _ => ∃ (t : Addr) (zs : List Str), vs = [.ref t] ∧ H t = some (.lst (zs.map V.str)) ∧ zs.length ≤ 1000 ∧ ∀ H', Same H H' → Q (.bl (risS zs)) H'
section
variable {P : Program} {w : World} {K : PySem.W.Frag} {mg : Str → Option Value} {base : Heap} {CD : Addr}
theorem ok_risTB {f : Addr} {fd : FuncData} (T : Txt K mg) (F : Fun K "rises" "rises" s_rises f fd) : FnOk P w K mg base CX0 1 f fd ["things"] spRisTB := by
  refine F.ok sc_rises (fun vs H Q E h => ?_) (fun cdv A outer s H vs Q E hr h => ?_)
  · obtain ⟨t, ns, rfl, _⟩ := h
    rfl
  · obtain ⟨t, ns, rfl, et, hl, q⟩ := h
    refine ⟨_,
      (pss_one
        (ps_ret (pe_callB (r := rAll K) (cr_all rfl) (by rfl) T.n_all (by decide +kernel) (pa_cons (pe_lc (own := [("one", 1), ("other", 2)]) (g := (gTup K 2 (gCons (gName 1) (gCons (gName 2) gNil)))) rfl sc_rises.nd (RZ.pi_zipA (by rfl) T.n_zip (pa_cons (pv 0) (pa_cons (pe_slice sl_tupA (pv 0) (po_some pe_int) po_none) pa_nil))) (blkOk_by (own := [("one", 1), ("other", 2)]) (N := N_rises) (sc := defScope s_rises) (by decide +kernel)) (fun _ _ _ _ _ => (pg_tup rfl (pgs_cons (pg_name (i := 1) sc_rises.nd rfl (.inl rfl)) (pgs_cons (pg_name (i := 2) sc_rises.nd rfl (.inl rfl)) pgs_nil)))) (fun _ _ _ _ _ => pts_nil) (fun _ _ _ _ _ => (pe_cmpR op_lt (pv 1) (pv 2) (nomark _)))) pa_nil))))
      , ?_⟩
    rw [show L2.start N_rises [V.ref t] = [some (.ref t), none, none] from rfl]
    walk_at "x"
    refine w_slAt et fun p H1 ep k1 => ?_
    rw [cut1] at ep
    have et1 := k1 _ _ et
    walk_at "g"
    refine lcp_map (walk_zipT (K := K) (a := t) (b := p) (xs := ns.map nV) (ys := (ns.map nV).drop 1) (n := ns.length - 1) (by simp) (by simp) (.inr (by simp))) [] ((adjB ltN ns).map V.bl) (by rw [List.length_map, adjB_len]) (by omega) (fun H' k => ⟨.of (k _ _ (by simp) et1), .of (k _ _ (by simp) ep)⟩) ?_ (by simp) ?_
    · rintro i x H2 H3 R hi k2 ⟨T', x1, x2, rfl, hT, rfl, g1, g2⟩ hR
      obtain ⟨n1, h1, rfl⟩ := map_at g1
      rw [List.getElem?_drop, Nat.add_comm] at g2
      obtain ⟨n2, h2, rfl⟩ := map_at g2
      refine w_gtup (K := K) (xs := [nV n1, nV n2]) (.of upd_same) rfl (w_gcons (w_name (w_gcons (w_name (w_gnil ⟨rfl, ?_⟩)))))
      walk_at "g"
      refine hR _ _ ?_ (Kp.new hT)
      rw [List.getElem?_map, adjB_at h1 h2]
      show some (V.bl (decide (n1 < n2))) = _
      rw [show decide (n1 < n2) = decide ((n1 : Int) < (n2 : Int)) from decide_eq_decide.mpr (by omega)]
    · intro L H2 hL k2 eL
      walk_at "g"
      rw [risN_all]
      exact q _ (Same.trans k1 k2.same)
theorem ok_risLB {f : Addr} {fd : FuncData} (T : Txt K mg) (F : Fun K "rises" "rises" s_rises f fd) : FnOk P w K mg base CX0 1 f fd ["things"] spRisLB := by
  refine F.ok sc_rises (fun vs H Q E h => ?_) (fun cdv A outer s H vs Q E hr h => ?_)
  · obtain ⟨t, zs, rfl, _⟩ := h
    rfl
  · obtain ⟨t, zs, rfl, et, hl, q⟩ := h
    refine ⟨_,
      (pss_one
        (ps_ret (pe_callB (r := rAll K) (cr_all rfl) (by rfl) T.n_all (by decide +kernel) (pa_cons (pe_lc (own := [("one", 1), ("other", 2)]) (g := (gTup K 2 (gCons (gName 1) (gCons (gName 2) gNil)))) rfl sc_rises.nd (pi_zip (by rfl) T.n_zip (pa_cons (pv 0) (pa_cons (pe_slice sl_list (pv 0) (po_some pe_int) po_none) pa_nil))) (blkOk_by (own := [("one", 1), ("other", 2)]) (N := N_rises) (sc := defScope s_rises) (by decide +kernel)) (fun _ _ _ _ _ => (pg_tup rfl (pgs_cons (pg_name (i := 1) sc_rises.nd rfl (.inl rfl)) (pgs_cons (pg_name (i := 2) sc_rises.nd rfl (.inl rfl)) pgs_nil)))) (fun _ _ _ _ _ => pts_nil) (fun _ _ _ _ _ => (pe_cmpR o_ltS (pv 1) (pv 2) (nomark _)))) pa_nil))))
      , ?_⟩
    rw [show L2.start N_rises [V.ref t] = [some (.ref t), none, none] from rfl]
    walk_at "x"
    refine w_zipI ?_
    walk_at "g"
    refine w_slL (.of et) fun p H1 hp ep k1 => ?_
    rw [cut1] at ep
    have et1 := k1 _ _ et
    walk_at "g"
    refine ⟨t, p, zs.map V.str, (zs.map V.str).drop 1, rfl, .of et1, .of ep, ?_⟩
    refine lcp_map (walk_zipL (K := K) (a := t) (b := p) (xs := zs.map V.str) (ys := (zs.map V.str).drop 1) (n := zs.length - 1) (by simp) (by simp) (.inr (by simp))) [] ((adjB ltS zs).map V.bl) (by rw [List.length_map, adjB_len]) (by omega) (fun H' k => ⟨.of (k _ _ (by simp) et1), .of (k _ _ (by simp) ep)⟩) ?_ (by simp) ?_
    · rintro i x H2 H3 R hi k2 ⟨T', x1, x2, rfl, hT, rfl, g1, g2⟩ hR
      obtain ⟨n1, h1, rfl⟩ := map_at g1
      rw [List.getElem?_drop, Nat.add_comm] at g2
      obtain ⟨n2, h2, rfl⟩ := map_at g2
      refine w_gtup (K := K) (xs := [V.str n1, V.str n2]) (.of upd_same) rfl (w_gcons (w_name (w_gcons (w_name (w_gnil ⟨rfl, ?_⟩)))))
      walk_at "g"
      refine hR _ _ ?_ (Kp.new hT)
      rw [List.getElem?_map, adjB_at h1 h2]
      rfl
    · intro L H2 hL k2 eL
      walk_at "g"
      rw [risS_all]
      exact q _ (Same.trans k1 k2.same)
end
/-! ### contents and packs read -/
theorem rdEl_kd {k : Kd} {W L W' L' : List Str} {e : El} (h : rdEl k W L = some (e, W', L')) : e.kd = k := by
  cases k with
  | int =>
    obtain ⟨x, _, e2⟩ := Option.map_eq_some_iff.mp (show (rdInt W).map _ = _ from h)
    cases e2
    rfl
  | tr =>
    rw [rdEl_tr] at h
    obtain ⟨x, _, e2⟩ := Option.map_eq_some_iff.mp h
    cases e2
    rfl
  | lab =>
    obtain ⟨x, _, e2⟩ := Option.map_eq_some_iff.mp (show (rdLab W).map _ = _ from h)
    cases e2
    rfl
  | pair =>
    obtain ⟨x, _, e1⟩ := Option.bind_eq_some_iff.mp (show (rdLab W).bind _ = _ from h)
    obtain ⟨y, _, e2⟩ := Option.map_eq_some_iff.mp e1
    cases e2
    rfl
  | piece =>
    cases W with
    | nil => cases h
    | cons w W =>
      rw [rdEl_pc] at h
      obtain ⟨x, _, e1⟩ := Option.bind_eq_some_iff.mp h
      by_cases ht : w = "take"
      · rw [if_pos ht] at e1
        obtain ⟨y, _, e2⟩ := Option.bind_eq_some_iff.mp e1
        by_cases hy : 0 < y.1
        · rw [if_pos hy] at e2
          cases e2
          rfl
        · rw [if_neg hy] at e2
          cases e2
      · rw [if_neg ht] at e1
        by_cases hp : w = "put" ∧ 0 < x.1
        · rw [if_pos hp] at e1
          obtain ⟨y, _, e2⟩ := Option.map_eq_some_iff.mp e1
          cases e2
          rfl
        · rw [if_neg hp] at e1
          cases e1
theorem rdMany_kd {k : Kd} : ∀ {m : Nat} {W L W' L' : List Str} {es : List El}, rdMany (rdEl k) m W L = some (es, W', L') → ∀ e ∈ es, e.kd = k := by
  intro m
  induction m with
  | zero =>
    intro W L W' L' es h e he
    by_cases hc : W.head? = some CP
    · rw [show rdMany (rdEl k) 0 W L = some ([], W.tail, L) from if_pos hc] at h
      cases h
      cases he
    · rw [rdMany_u _ _ _ _ hc] at h
      cases h
  | succ m ih =>
    intro W L W' L' es h e he
    by_cases hc : W.head? = some CP
    · rw [show rdMany (rdEl k) (m + 1) W L = some ([], W.tail, L) from if_pos hc] at h
      cases h
      cases he
    · rw [rdMany_u _ _ _ _ hc] at h
      obtain ⟨x, h1, h2⟩ := Option.bind_eq_some_iff.mp h
      obtain ⟨⟨y1, yW, yL⟩, h3, h4⟩ := Option.map_eq_some_iff.mp h2
      cases h4
      rcases List.mem_cons.mp he with rfl | he
      · exact rdEl_kd h1
      · exact ih h3 e he
theorem rdList_kd {k : Kd} {m : Nat} {W L W' L' : List Str} {es : List El} (h : rdList k m W L = some (es, W', L')) : (∀ e ∈ es, e.kd = k) ∧ es.length ≤ m := by
  have key : ∀ {m : Nat} {W L W' L' : List Str} {es : List El}, rdMany (rdEl k) m W L = some (es, W', L') → es.length ≤ m := by
    intro m
    induction m with
    | zero =>
      intro W L W' L' es h
      by_cases hc : W.head? = some CP
      · rw [show rdMany (rdEl k) 0 W L = some ([], W.tail, L) from if_pos hc] at h
        cases h
        exact Nat.zero_le _
      · rw [rdMany_u _ _ _ _ hc] at h
        cases h
    | succ m ih =>
      intro W L W' L' es h
      by_cases hc : W.head? = some CP
      · rw [show rdMany (rdEl k) (m + 1) W L = some ([], W.tail, L) from if_pos hc] at h
        cases h
        exact Nat.zero_le _
      · rw [rdMany_u _ _ _ _ hc] at h
        obtain ⟨x, h1, h2⟩ := Option.bind_eq_some_iff.mp h
        obtain ⟨⟨y1, yW, yL⟩, h3, h4⟩ := Option.map_eq_some_iff.mp h2
        cases h4
        have := ih h3
        show y1.length + 1 ≤ m + 1
        omega
  unfold rdList at h
  by_cases hc : W.head? = some OP
  · rw [if_pos hc] at h
    exact ⟨rdMany_kd h, key h⟩
  · rw [if_neg hc] at h
    cases h
theorem pairs_of {H : Hp} : ∀ {as : List (V × El)}, (∀ q ∈ as, ElAt H q.1 q.2 ∧ q.2.kd = .pair) → ∃ bs : List (Addr × (Str × Nat)), as.map (·.1) = bs.map (fun q => V.ref q.1) ∧ (as.map (·.2)).map El.p = bs.map (·.2) ∧ ∀ b ∈ bs, H b.1 = some (.tup [.str b.2.1, nV b.2.2])
  | [], _ => ⟨[], rfl, rfl, by simp⟩
  | (v, e) :: as, h => by
    obtain ⟨bs, e1, e2, h3⟩ := pairs_of fun q hq => h q (List.mem_cons_of_mem _ hq)
    obtain ⟨he, hk⟩ := h (v, e) (by simp)
    cases e with
    | pair z n =>
      obtain ⟨t, ev, et⟩ := he
      refine ⟨(t, z, n) :: bs, ?_, ?_, fun b hb => ?_⟩
      · show v :: as.map (·.1) = .ref t :: bs.map _
        rw [e1]
        exact congrArg (· :: _) ev
      · show (z, n) :: (as.map (·.2)).map El.p = (z, n) :: bs.map (·.2)
        rw [e2]
      · rcases List.mem_cons.mp hb with rfl | hb
        · exact et
        · exact h3 b hb
    | int n => cases hk
    | tr b => cases hk
    | lab z => cases hk
    | take a b => cases hk
    | put rs => cases hk
theorem ints_of {H : Hp} : ∀ {as : List (V × El)}, (∀ q ∈ as, ElAt H q.1 q.2 ∧ q.2.kd = .int) → as.map (·.1) = ((as.map (·.2)).map El.n).map nV
  | [], _ => rfl
  | (v, e) :: as, h => by
    have ih := ints_of fun q hq => h q (List.mem_cons_of_mem _ hq)
    obtain ⟨he, hk⟩ := h (v, e) (by simp)
    cases e with
    | int n =>
      show v :: as.map (·.1) = nV n :: _
      rw [ih]
      exact congrArg (· :: _) he
    | pair z n => cases hk
    | tr b => cases hk
    | lab z => cases hk
    | take a b => cases hk
    | put rs => cases hk
def spGetC (C CD : Addr) : Sp := fun vs H Q E => ∃ (d : Addr) (al : Addr × Addr) (W L : List Str), vs = [.ref d] ∧ DeskAt CD H d al W L ∧ (∀ c W' L' H' v, rdCn W L = some (c, W', L') → DeskAt CD H' d al W' L' → Kp [d] H H' → CnAt H' v c → Q v H') ∧ (rdCn W L = none → ∀ H', Kp [d] H H' → E (.ref C) none H')
def spGetP (C CD : Addr) : Sp := fun vs H Q E => ∃ (d : Addr) (al : Addr × Addr) (W L : List Str), vs = [.ref d] ∧ DeskAt CD H d al W L ∧ (∀ p W' L' H' v, rdPk W L = some (p, W', L') → DeskAt CD H' d al W' L' → Kp [d] H H' → PkAt H' v p → Q v H') ∧ (rdPk W L = none → ∀ H', Kp [d] H H' → E (.ref C) none H')
theorem DeskAt.kt {CD : Addr} {H H' : Hp} {d : Addr} {al : Addr × Addr} {W L : List Str} (h : DeskAt CD H d al W L) (k : Kp [d] H H') : KT H H' := by
  obtain ⟨dd, x1, x2, x3, x4, ob⟩ := h.ins
  exact KT.ins k ob
section
variable {P : Program} {w : World} {K : PySem.W.Frag} {mg : Str → Option Value} {base : Heap} {CD : Addr}
theorem ok_gcont {C_NoText f fN fW fX fI fS fP fL : Addr} {fd fdN fdW fdX fdI fdS fdP fdL : FuncData} (T : Txt K mg) (F : Fun K "get_content" "get_content" s_get_content f fd) (X_NoText : Exn K mg "NoText" C_NoText) (K_Desk : Kl K mg "Desk" CD ["words", "lines", "word_place", "line_place"]) (D_Desk_next_word : DfM K CD "next_word" "Desk.next_word" s_Desk_next_word ["self"] fW fdW) (D_Desk_next_lines : DfM K CD "next_lines" "Desk.next_lines" s_Desk_next_lines ["self", "many"] fX fdX) (G_Desk_next_lines : FnOk P w K mg base (L2.CX P w) 3 fX fdX ["self", "many"] (spNextL C_NoText CD)) (D_need : Df K mg "need" s_need ["good"] fN fdN) (D_rises : Df K mg "rises" s_rises ["things"] fS fdS) (D_get_int : Df K mg "get_int" s_get_int ["desk"] fI fdI) (G_get_int : FnOk P w K mg base (L2.CX P w) 2 fI fdI ["desk"] (spGInt C_NoText CD)) (N_int : KnF P w K mg base (L2.CX P w) 4 fI (spGetE C_NoText CD .int)) (D_get_pair : Df K mg "get_pair" s_get_pair ["desk"] fP fdP) (N_pair : KnF P w K mg base (L2.CX P w) 4 fP (spGetE C_NoText CD .pair)) (D_get_list : Df K mg "get_list" s_get_list ["desk", "most", "each"] fL fdL) (G_get_list : FnOk P w K mg base (L2.CX P w) 5 fL fdL ["desk", "most", "each"] (spGetL P w K mg base C_NoText CD)) : FnOk P w K mg base (L2.CX P w) 6 f fd ["desk"] (spGetC C_NoText CD) := by
  have G_Desk_next_word : FnOk P w K mg base (L2.CX P w) 1 fW fdW ["self"] (spNextW C_NoText CD) := ok_nextw T D_Desk_next_word.fn X_NoText K_Desk
  have G_need : FnOk P w K mg base (L2.CX P w) 1 fN fdN ["good"] (spNeed C_NoText) := ok_need T D_need.fn X_NoText
  have G_rises : FnOk P w K mg base CX0 1 fS fdS ["things"] (fun vs H Q E => spRisTB vs H Q E ∨ spRisLB vs H Q E) := FnOk.or (ok_risTB T D_rises.fn) (ok_risLB T D_rises.fn)
  let f_get_int := fI
  let f_get_pair := fP
  refine F.okX sc_get_content (fun vs H Q E h => ?_) (fun cdv A outer s H vs Q E hr h => ?_)
  · obtain ⟨d, al, W, L, rfl, _⟩ := h
    rfl
  · obtain ⟨d, al, W, L, rfl, D, q1, q2⟩ := h
    obtain ⟨dd, x1, x2, x3, x4, ob⟩ := D.ins
    refine ⟨_,
      (pss_cons
        (ps_set (i := 1) sc_get_content.nd rfl (.inl rfl) (pe_meth0 (pv 0) K_Desk.cl D_Desk_next_word.m G_Desk_next_word (hr.mono (by omega)) D_Desk_next_word.b .nil (passes_call (takes_of rfl rfl rfl rfl) (fun _ _ _ _ h => h))))
      (pss_cons
        (ps_if (pt_cmpR op_eq (pv 1) pe_str (nomark _))
          (pss_cons
            (ps_set (i := 2) sc_get_content.nd rfl (.inl rfl) (pe_call G_get_int (hr.mono (by omega)) (by rfl) D_get_int.g D_get_int.fn.kp D_get_int.b .nil (passes_call (takes_of rfl rfl rfl rfl) (fun _ _ _ _ h => h)) (pa_cons (pv 0) pa_nil)))
          (pss_one
            (ps_ret (pe_tup (pa_cons pe_str (pa_cons (pe_meth (pv 0) K_Desk.cl D_Desk_next_lines.m G_Desk_next_lines (hr.mono (by omega)) D_Desk_next_lines.b .nil (passes_call (takes_of rfl rfl rfl rfl) (fun _ _ _ _ h => h)) (pa_cons (pv 2) pa_nil)) pa_nil))))))
          pss_nil)
      (pss_cons
        (ps_if (pt_cmpR op_eq (pv 1) pe_str (nomark _))
          (pss_cons
            (ps_set (i := 3) sc_get_content.nd rfl (.inl rfl) (pe_call G_get_list (hr.mono (by omega)) (by rfl) D_get_list.g D_get_list.fn.kp D_get_list.b .nil (passes_call (takes_of rfl rfl rfl rfl) (fun _ _ _ _ h => h)) (pa_cons (pv 0) (pa_cons pe_int (pa_cons (pe_glob (v := .ref f_get_pair) rfl D_get_pair.g rfl) pa_nil)))))
          (pss_cons
            (ps_expr (pe_call G_need (hr.mono (by omega)) (by rfl) D_need.g D_need.fn.kp D_need.b .nil (passes_call (takes_of rfl rfl rfl rfl) (fun _ _ _ _ h => h)) (pa_cons (pe_call G_rises (hr.mono (by omega)) (by rfl) D_rises.g D_rises.fn.kp D_rises.b .nil pass0 (pa_cons (pe_lc (own := [("label", 6), ("name", 7)]) (g := (gTup K 2 (gCons (gName 6) (gCons (gName 7) gNil)))) rfl sc_get_content.nd (pi_tup (pv 3)) (blkOk_by (own := [("label", 6), ("name", 7)]) (N := N_get_content) (sc := defScope s_get_content) (by decide +kernel)) (fun _ _ _ _ _ => (pg_tup rfl (pgs_cons (pg_name (i := 6) sc_get_content.nd rfl (.inl rfl)) (pgs_cons (pg_name (i := 7) sc_get_content.nd rfl (.inl rfl)) pgs_nil)))) (fun _ _ _ _ _ => pts_nil) (fun _ _ _ _ _ => (pv 6))) pa_nil)) pa_nil)))
          (pss_one
            (ps_ret (pe_tup (pa_cons pe_str (pa_cons (pv 3) pa_nil)))))))
          pss_nil)
      (pss_cons
        (ps_expr (pe_call G_need (hr.mono (by omega)) (by rfl) D_need.g D_need.fn.kp D_need.b .nil (passes_call (takes_of rfl rfl rfl rfl) (fun _ _ _ _ h => h)) (pa_cons (pe_cmpR op_eq (pv 1) pe_str (nomark _)) pa_nil)))
      (pss_cons
        (ps_set (i := 4) sc_get_content.nd rfl (.inl rfl) (pe_call G_get_list (hr.mono (by omega)) (by rfl) D_get_list.g D_get_list.fn.kp D_get_list.b .nil (passes_call (takes_of rfl rfl rfl rfl) (fun _ _ _ _ h => h)) (pa_cons (pv 0) (pa_cons pe_int (pa_cons (pe_glob (v := .ref f_get_int) rfl D_get_int.g rfl) pa_nil)))))
      (pss_cons
        (ps_expr (pe_call G_need (hr.mono (by omega)) (by rfl) D_need.g D_need.fn.kp D_need.b .nil (passes_call (takes_of rfl rfl rfl rfl) (fun _ _ _ _ h => h)) (pa_cons (pe_call G_rises (hr.mono (by omega)) (by rfl) D_rises.g D_rises.fn.kp D_rises.b .nil pass0 (pa_cons (pv 4) pa_nil)) pa_nil)))
      (pss_cons
        (ps_set (i := 5) sc_get_content.nd rfl (.inl rfl) (pe_call G_get_int (hr.mono (by omega)) (by rfl) D_get_int.g D_get_int.fn.kp D_get_int.b .nil (passes_call (takes_of rfl rfl rfl rfl) (fun _ _ _ _ h => h)) (pa_cons (pv 0) pa_nil)))
      (pss_one
        (ps_ret (pe_tup (pa_cons pe_str (pa_cons (pv 4) (pa_cons (pv 5) (pa_cons (pe_call G_get_int (hr.mono (by omega)) (by rfl) D_get_int.g D_get_int.fn.kp D_get_int.b .nil (passes_call (takes_of rfl rfl rfl rfl) (fun _ _ _ _ h => h)) (pa_cons (pv 0) pa_nil)) pa_nil))))))))))))))
      , ?_⟩
    rw [show L2.start N_get_content [V.ref d] = [some (.ref d), none, none, none, none, none, none, none] from rfl]
    walk_at "x"
    refine ⟨d, al, W, L, rfl, D, fun z W' H1 e D1 k1 hz => ?_, fun e => q2 (by rw [e]; rfl) H Kp.refl⟩
    subst e
    rw [rdCn_c] at q1 q2
    obtain ⟨dd1, y1, y2, y3, y4, ob1⟩ := D1.ins
    walk_at "g"
    refine w_seq ?_
    walk_at "g"
    by_cases h1 : z = "leaf"
    · rw [if_pos h1] at q1 q2
      rw [decide_eq_true h1, if_pos rfl]
      walk_at "g"
      refine ⟨d, al, W', L, rfl, D1, fun n W2 H2 e2 D2 k2 => ?_, fun e2 H2 k2 => q2 (by rw [e2]; rfl) H2 (k1.trans k2)⟩
      rw [e2, Option.bind_some] at q1 q2
      obtain ⟨dd2, u1, u2, u3, u4, ob2⟩ := D2.ins
      walk_at "g"
      refine ⟨d, n, al, W2, L, rfl, D2, fun rs L3 H3 t e3 D3 k3 et => ?_, fun e3 H3 k3 => q2 (by show (rdLines n L).map _ = none; rw [e3]; rfl) H3 ((k1.trans k2).trans k3)⟩
      walk_at "g"
      refine w_new fun t4 H4 ht4 e4 k4 => ?_
      exact q1 (.leaf rs) W2 L3 H4 _ (by show (rdLines n L).map _ = _; rw [e3]; rfl) (D3.same k4) (((k1.trans k2).trans k3).trans (Kp.of k4)) ⟨t4, t, rfl, e4, k4 _ _ et⟩
    rw [if_neg h1] at q1 q2
    rw [decide_eq_false h1, if_neg (by decide)]
    walk_at "g"
    refine w_seq ?_
    walk_at "g"
    by_cases h2 : z = "tree"
    · rw [if_pos h2] at q1 q2
      rw [decide_eq_true h2, if_pos rfl]
      walk_at "g"
      refine ⟨d, fP, 20, .pair, al, W', L, rfl, N_pair, by decide, D1, fun es W2 L2 H2 t as e2 D2 k2 et eas has => ?_, fun e2 H2 k2 => q2 (by rw [e2]; rfl) H2 (k1.trans k2)⟩
      rw [e2, Option.bind_some] at q1 q2
      subst eas
      obtain ⟨hkd, hlen⟩ := rdList_kd e2
      obtain ⟨bs, b1, b2, hbs⟩ := pairs_of (H := H2) (as := as) fun q' hq' => ⟨has q' hq', hkd _ (List.mem_map.mpr ⟨q', hq', rfl⟩)⟩
      have hbl : bs.length ≤ 20 := by
        have := congrArg List.length b1
        rw [List.length_map, List.length_map] at this
        rw [List.length_map] at hlen
        omega
      rw [b1] at et
      walk_at "g"
      refine lcp_map (walk_tup (K := K) (a := t) (xs := bs.map fun q => V.ref q.1)) [] ((bs.map fun q => q.2.1).map V.str) (by simp) (by rw [List.length_map]; omega) (fun H' k => .of (k _ _ (by simp) et)) ?_ (by simp) ?_
      · rintro i x H3 H4 R hi k3 ⟨rfl, hx⟩ hR
        obtain ⟨b, hb, rfl⟩ := map_at hx
        have hbt := k3 _ _ (by simp) (hbs b (List.mem_of_getElem? hb))
        refine w_gtup (K := K) (.of hbt) rfl (w_gcons (w_name (w_gcons (w_name (w_gnil ⟨rfl, ?_⟩)))))
        walk_at "g"
        refine hR _ _ ?_ Kp.refl
        rw [List.getElem?_map, List.getElem?_map, hb]
        rfl
      · intro Lc H3 hL k3 eL
        have D3 := D2.same k3.same
        walk_at "g"
        refine .inr ⟨Lc, bs.map fun q => q.2.1, rfl, eL, by rw [List.length_map]; omega, fun H4 k4 => ?_⟩
        have k24 := Same.trans k3.same k4
        have eris : risS ((((as.map (·.2)).map El.p)).map (·.1)) = risS (bs.map fun q => q.2.1) := by
          rw [b2, List.map_map]
          rfl
        walk_at "g"
        refine ⟨risS (bs.map fun q => q.2.1), rfl, fun hr => ?_, fun hr => ?_⟩
        · walk_at "g"
          refine w_new fun t5 H5 ht5 e5 k5 => ?_
          have k25 := Same.trans k24 k5
          refine q1 (.tree (bs.map (·.2))) W2 L2 H5 _ ?_ (D2.same k25) ((k1.trans k2).trans (Kp.of k25)) ⟨t5, t, bs, rfl, e5, k25 _ _ et, rfl, fun b hb => k25 _ _ (hbs b hb)⟩
          rw [if_pos (eris.trans hr)]
          show some (Cn.tree ((as.map (·.2)).map El.p), _) = _
          rw [b2]
        · refine q2 ?_ H4 ((k1.trans k2).trans (Kp.of k24))
          rw [if_neg (by rw [eris, hr]; decide)]
    rw [if_neg h2] at q1 q2
    rw [decide_eq_false h2, if_neg (by decide)]
    walk_at "g"
    by_cases h3 : z = "version"
    case neg =>
      rw [if_neg h3] at q2
      refine ⟨false, by rw [decide_eq_false h3]; rfl, (fun h => nomatch h), fun _ => ?_⟩
      exact q2 rfl H1 k1
    rw [if_pos h3] at q1 q2
    refine ⟨true, by rw [decide_eq_true h3]; rfl, fun _ => ?_, fun h => nomatch h⟩
    walk_at "g"
    refine ⟨d, fI, 4, .int, al, W', L, rfl, N_int, by decide, D1, fun es W2 L2 H2 t as e2 D2 k2 et eas has => ?_, fun e2 H2 k2 => q2 (by rw [e2]; rfl) H2 (k1.trans k2)⟩
    rw [e2, Option.bind_some] at q1 q2
    subst eas
    obtain ⟨hkd, hlen⟩ := rdList_kd e2
    have hints := ints_of (H := H2) (as := as) fun q' hq' => ⟨has q' hq', hkd _ (List.mem_map.mpr ⟨q', hq', rfl⟩)⟩
    rw [hints] at et
    have k02 := k1.trans k2
    walk_at "g"
    refine .inl ⟨t, _, rfl, et, by rw [List.length_map, List.length_map] at *; omega, fun H3 k3 => ?_⟩
    have D3 := D2.same k3
    have k03 := k02.trans (Kp.of k3)
    walk_at "g"
    refine ⟨risN ((as.map (·.2)).map El.n), rfl, fun hr => ?_, fun hr => ?_⟩
    · rw [if_pos hr] at q1 q2
      walk_at "g"
      refine ⟨d, al, W2, L2, rfl, D3, fun n W4 H4 e4 D4 k4 => ?_, fun e4 H4 k4 => q2 (by show (rdInt W2).bind _ = none; rw [e4]; rfl) H4 (k03.trans k4)⟩
      have e4' : rdInt (as.map (·.2), W2, L2).2.1 = some (n, W4) := e4
      rw [e4', Option.bind_some] at q1 q2
      walk_at "g"
      refine ⟨d, al, W4, L2, rfl, D4, fun m W5 H5 e5 D5 k5 => ?_, fun e5 H5 k5 => q2 (by show (rdInt W4).map _ = none; rw [e5]; rfl) H5 ((k03.trans k4).trans k5)⟩
      have et5 := (D4.kt k5) _ _ ((D3.kt k4) _ _ (k3 _ _ et))
      walk_at "g"
      refine w_new fun t6 H6 ht6 e6 k6 => ?_
      exact q1 (.ver ((as.map (·.2)).map El.n) n m) W5 L2 H6 _ (by show (rdInt W4).map _ = _; rw [e5]; rfl) (D5.same k6) (((k03.trans k4).trans k5).trans (Kp.of k6)) ⟨t6, t, rfl, e6, k6 _ _ et5⟩
    · rw [if_neg (by rw [hr]; decide)] at q2
      exact q2 rfl H3 k03
theorem rdPk_c {W L : List Str} {n : Nat} {w : Str} {W1 : List Str} (h : rdInt W = some (n, w :: W1)) : rdPk W L = if w = PLAIN then (rdCn W1 L).map fun y => (.plain n y.1, y.2) else if w = OVR then (rdInt W1).bind fun y => (rdList .piece 40 y.2 L).map fun z => (.over n y.1 z.1, z.2) else none := by
  unfold rdPk
  rw [h]
  rfl
theorem rdPk_n {W L : List Str} {n : Nat} (h : rdInt W = some (n, [])) : rdPk W L = none := by
  unfold rdPk
  rw [h]
  rfl
theorem ok_gpack {C_NoText f fN fW fI fC fP fL : Addr} {fd fdN fdW fdI fdC fdP fdL : FuncData} (T : Txt K mg) (F : Fun K "get_pack" "get_pack" s_get_pack f fd) (X_NoText : Exn K mg "NoText" C_NoText) (K_Desk : Kl K mg "Desk" CD ["words", "lines", "word_place", "line_place"]) (D_Desk_next_word : DfM K CD "next_word" "Desk.next_word" s_Desk_next_word ["self"] fW fdW) (D_need : Df K mg "need" s_need ["good"] fN fdN) (D_get_int : Df K mg "get_int" s_get_int ["desk"] fI fdI) (G_get_int : FnOk P w K mg base (L2.CX P w) 2 fI fdI ["desk"] (spGInt C_NoText CD)) (D_get_content : Df K mg "get_content" s_get_content ["desk"] fC fdC) (G_get_content : FnOk P w K mg base (L2.CX P w) 6 fC fdC ["desk"] (spGetC C_NoText CD)) (D_get_piece : Df K mg "get_piece" s_get_piece ["desk"] fP fdP) (N_piece : KnF P w K mg base (L2.CX P w) 4 fP (spGetE C_NoText CD .piece)) (D_get_list : Df K mg "get_list" s_get_list ["desk", "most", "each"] fL fdL) (G_get_list : FnOk P w K mg base (L2.CX P w) 5 fL fdL ["desk", "most", "each"] (spGetL P w K mg base C_NoText CD)) : FnOk P w K mg base (L2.CX P w) 7 f fd ["desk"] (spGetP C_NoText CD) := by
  obtain ⟨tk_ROWS, g_ROWS⟩ := T.g_ROWS
  have G_Desk_next_word : FnOk P w K mg base (L2.CX P w) 1 fW fdW ["self"] (spNextW C_NoText CD) := ok_nextw T D_Desk_next_word.fn X_NoText K_Desk
  have G_need : FnOk P w K mg base (L2.CX P w) 1 fN fdN ["good"] (spNeed C_NoText) := ok_need T D_need.fn X_NoText
  let f_get_piece := fP
  refine F.okX sc_get_pack (fun vs H Q E h => ?_) (fun cdv A outer s H vs Q E hr h => ?_)
  · obtain ⟨d, al, W, L, rfl, _⟩ := h
    rfl
  · obtain ⟨d, al, W, L, rfl, D, q1, q2⟩ := h
    refine ⟨_,
      (pss_cons
        (ps_set (i := 1) sc_get_pack.nd rfl (.inl rfl) (pe_call G_get_int (hr.mono (by omega)) (by rfl) D_get_int.g D_get_int.fn.kp D_get_int.b .nil (passes_call (takes_of rfl rfl rfl rfl) (fun _ _ _ _ h => h)) (pa_cons (pv 0) pa_nil)))
      (pss_cons
        (ps_set (i := 2) sc_get_pack.nd rfl (.inl rfl) (pe_meth0 (pv 0) K_Desk.cl D_Desk_next_word.m G_Desk_next_word (hr.mono (by omega)) D_Desk_next_word.b .nil (passes_call (takes_of rfl rfl rfl rfl) (fun _ _ _ _ h => h))))
      (pss_cons
        (ps_if (pt_cmpR op_eq (pv 2) pe_str (nomark _))
          (pss_one
            (ps_ret (pe_tup (pa_cons (pv 1) (pa_cons pe_str (pa_cons (pe_call G_get_content (hr.mono (by omega)) (by rfl) D_get_content.g D_get_content.fn.kp D_get_content.b .nil (passes_call (takes_of rfl rfl rfl rfl) (fun _ _ _ _ h => h)) (pa_cons (pv 0) pa_nil)) pa_nil))))))
          pss_nil)
      (pss_cons
        (ps_expr (pe_call G_need (hr.mono (by omega)) (by rfl) D_need.g D_need.fn.kp D_need.b .nil (passes_call (takes_of rfl rfl rfl rfl) (fun _ _ _ _ h => h)) (pa_cons (pe_cmpR op_eq (pv 2) pe_str (nomark _)) pa_nil)))
      (pss_cons
        (ps_set (i := 3) sc_get_pack.nd rfl (.inl rfl) (pe_call G_get_int (hr.mono (by omega)) (by rfl) D_get_int.g D_get_int.fn.kp D_get_int.b .nil (passes_call (takes_of rfl rfl rfl rfl) (fun _ _ _ _ h => h)) (pa_cons (pv 0) pa_nil)))
      (pss_one
        (ps_ret (pe_tup (pa_cons (pv 1) (pa_cons pe_str (pa_cons (pv 3) (pa_cons (pe_call G_get_list (hr.mono (by omega)) (by rfl) D_get_list.g D_get_list.fn.kp D_get_list.b .nil (passes_call (takes_of rfl rfl rfl rfl) (fun _ _ _ _ h => h)) (pa_cons (pv 0) (pa_cons (pe_glob (v := .int 40) rfl g_ROWS ⟨_, rfl⟩) (pa_cons (pe_glob (v := .ref f_get_piece) rfl D_get_piece.g rfl) pa_nil)))) pa_nil))))))))))))
      , ?_⟩
    rw [show L2.start N_get_pack [V.ref d] = [some (.ref d), none, none, none] from rfl]
    walk_at "x"
    refine ⟨d, al, W, L, rfl, D, fun n W1 H1 e1 D1 k1 => ?_, fun e1 H1 k1 => q2 (by unfold rdPk; rw [e1]; rfl) H1 k1⟩
    obtain ⟨dd1, y1, y2, y3, y4, ob1⟩ := D1.ins
    walk_at "g"
    refine ⟨d, al, W1, L, rfl, D1, fun z W2 H2 e2 D2 k2 hz => ?_, fun e2 => q2 (by rw [e2] at e1; exact rdPk_n e1) H1 k1⟩
    subst e2
    rw [rdPk_c e1] at q1 q2
    have k02 := k1.trans k2
    walk_at "g"
    refine w_seq ?_
    walk_at "g"
    by_cases h1 : z = PLAIN
    · rw [if_pos h1] at q1 q2
      rw [decide_eq_true (show z = Str.ofString "plain" from h1), if_pos rfl]
      walk_at "g"
      refine ⟨d, al, W2, L, rfl, D2, fun c W3 L3 H3 v e3 D3 k3 hc => ?_, fun e3 H3 k3 => q2 (by rw [e3]; rfl) H3 (k02.trans k3)⟩
      walk_at "g"
      refine w_new fun t4 H4 ht4 e4 k4 => ?_
      exact q1 (.plain n c) W3 L3 H4 _ (by rw [e3]; rfl) (D3.same k4) ((k02.trans k3).trans (Kp.of k4)) ⟨t4, v, rfl, e4, hc.kt (KT.of k4)⟩
    rw [if_neg h1] at q1 q2
    rw [decide_eq_false (show ¬ z = Str.ofString "plain" from h1), if_neg (by decide)]
    walk_at "g"
    by_cases h2 : z = OVR
    case neg =>
      rw [if_neg h2] at q2
      refine ⟨false, by rw [decide_eq_false (show ¬ z = Str.ofString "over" from h2)]; rfl, (fun h => nomatch h), fun _ => ?_⟩
      exact q2 rfl H2 k02
    rw [if_pos h2] at q1 q2
    refine ⟨true, by rw [decide_eq_true (show z = Str.ofString "over" from h2)]; rfl, fun _ => ?_, fun h => nomatch h⟩
    walk_at "g"
    refine ⟨d, al, W2, L, rfl, D2, fun m W3 H3 e3 D3 k3 => ?_, fun e3 H3 k3 => q2 (by rw [e3]; rfl) H3 (k02.trans k3)⟩
    rw [e3, Option.bind_some] at q1 q2
    walk_at "g"
    refine ⟨d, fP, 40, .piece, al, W3, L, rfl, N_piece, by decide, D3, fun es W4 L4 H4 t as e4 D4 k4 et eas has => ?_, fun e4 H4 k4 => q2 (by show (rdList .piece 40 W3 L).map _ = none; rw [e4]; rfl) H4 ((k02.trans k3).trans k4)⟩
    walk_at "g"
    refine w_new fun t5 H5 ht5 e5 k5 => ?_
    exact q1 (.over n m es) W4 L4 H5 _ (by show (rdList .piece 40 W3 L).map _ = _; rw [e4]; rfl) (D4.same k5) (((k02.trans k3).trans k4).trans (Kp.of k5)) ⟨t5, t, as, rfl, e5, k5 _ _ et, eas, fun q' hq' => (has q' hq').kt (KT.of k5)⟩
end
/-! ### rows read -/
def spRowBy (K : PySem.W.Frag) : Sp := fun vs H Q _ => ∃ (z wd : Str) (kt : Addr) (ks : List KK), vs = [.str z, .str wd, .ref kt] ∧ z.length ≤ 990000 ∧ (∀ H', SqT K H' kt (ks.map fun k => .str k.s)) ∧ ks.length ≤ 10 ∧
  (∀ as, rdBy (wd, ks) (wrd z) (lns z) = some as → ∀ H' t (as' : List (V × Ar)), Same H H' → H' t = some (.tup (.str wd :: as'.map (·.1))) → as'.map (·.2) = as → (∀ q ∈ as', ArAt H' q.1 q.2) → Q (.ref t) H') ∧ (rdBy (wd, ks) (wrd z) (lns z) = none → ∀ H', Same H H' → Q .non H')
theorem rdArs_c (k : KK) (ks : List KK) (W L : List Str) : rdArs (k :: ks) W L = (rdAr k W L).bind fun x => (rdArs ks x.2.1 x.2.2).map fun y => (x.1 :: y.1, y.2) := rfl
def spRowOf (C : Addr) : Sp := fun vs H Q E => ∃ z : Str, vs = [.str z] ∧ z.length ≤ 990000 ∧ (∀ rw as, rdRow (wrd z) (lns z) = some (rw, as) → ∀ H' t (as' : List (V × Ar)), Same H H' → H' t = some (.tup (.str rw :: as'.map (·.1))) → as'.map (·.2) = as → (∀ q ∈ as', ArAt H' q.1 q.2) → Q (.ref t) H') ∧ (rdRow (wrd z) (lns z) = none → ∀ H', Same H H' → E (.ref C) none H')
section
variable {P : Program} {w : World} {K : PySem.W.Frag} {mg : Str → Option Value} {base : Heap} {CD : Addr}
theorem ok_rowby {C_NoText f fIn fM fL fD fPi fPt fPk fPl fPp ka_GETS ka_GETS_EACH : Addr} {fd fdIn fdM fdL fdD : FuncData} (T : Txt K mg) (F : Fun K "row_by" "row_by" s_row_by f fd) (X_NoText : Exn K mg "NoText" C_NoText) (xm_NoText_NoText : PySem.W.exmOne K (.ref C_NoText) (.ref C_NoText) = some true) (K_Desk : Kl K mg "Desk" CD ["words", "lines", "word_place", "line_place"]) (M_Desk : Mk K CD fIn) (D_Desk___init__ : DfM K CD "__init__" "Desk.__init__" s_Desk___init__ ["self", "text"] fIn fdIn) (D_Desk_need : DfM K CD "need" "Desk.need" s_Desk_need ["self", "word"] fM fdM) (G_Desk_need : FnOk P w K mg base (L2.CX P w) 2 fM fdM ["self", "word"] (spDNeed C_NoText CD)) (D_Desk_is_done : DfM K CD "is_done" "Desk.is_done" s_Desk_is_done ["self"] fD fdD) (D_get_list : Df K mg "get_list" s_get_list ["desk", "most", "each"] fL fdL) (G_get_list : FnOk P w K mg base (L2.CX P w) 5 fL fdL ["desk", "most", "each"] (spGetL P w K mg base C_NoText CD))
    (g_GETS : mg "GETS" = some (.ref ka_GETS)) (d_GETS : KDict P w K ka_GETS [(Sum.inr "int", .ref fPi), (Sum.inr "truth", .ref fPt), (Sum.inr "pack row", .ref fPk)]) (g_GETS_EACH : mg "GETS_EACH" = some (.ref ka_GETS_EACH)) (d_GETS_EACH : KDict P w K ka_GETS_EACH [(Sum.inr "ints", .ref fPi), (Sum.inr "truths", .ref fPt), (Sum.inr "labels", .ref fPl), (Sum.inr "marks", .ref fPp)])
    (N_int : KnF P w K mg base (L2.CX P w) 4 fPi (spGetE C_NoText CD .int)) (N_tr : KnF P w K mg base (L2.CX P w) 4 fPt (spGetE C_NoText CD .tr)) (N_lab : KnF P w K mg base (L2.CX P w) 4 fPl (spGetE C_NoText CD .lab)) (N_pair : KnF P w K mg base (L2.CX P w) 4 fPp (spGetE C_NoText CD .pair))
    (M_int : KnF P w K mg base (L2.CX P w) 7 fPi (spGetE C_NoText CD .int)) (M_tr : KnF P w K mg base (L2.CX P w) 7 fPt (spGetE C_NoText CD .tr)) (M_pk : KnF P w K mg base (L2.CX P w) 7 fPk (spGetP C_NoText CD)) : FnOk P w K mg base CX0 8 f fd ["text", "word", "kinds"] (spRowBy K) := by
  obtain ⟨tk_MANY, g_MANY⟩ := T.g_MANY
  have G_Desk___init__ : FnOk P w K mg base CX0 1 fIn fdIn ["self", "text"] (spDeskInit CD) := ok_deskinit T D_Desk___init__.fn K_Desk
  have G_Desk_is_done : FnOk P w K mg base CX0 1 fD fdD ["self"] (spIsDone CD) := ok_isdone T D_Desk_is_done.fn K_Desk
  refine F.ok sc_row_by (fun vs H Q E h => ?_) (fun cdv A outer s H vs Q E hr h => ?_)
  · obtain ⟨z, wd, kt, ks, rfl, _⟩ := h
    rfl
  · obtain ⟨z, wd, kt, ks, rfl, hz, hkt, hkl, q1, q2⟩ := h
    have hk0 := hkt H
    refine ⟨_,
      (pss_cons
        (ps_set (i := 3) sc_row_by.nd rfl (.inl rfl) (pe_make M_Desk G_Desk___init__ (hr.mono (by omega)) (by rfl) K_Desk.g D_Desk___init__.b .nil pass0 (pa_cons (pv 0) pa_nil)))
      (pss_cons
        (ps_set (i := 4) sc_row_by.nd rfl (.inl rfl) (pe_lst (pa_cons (pv 1) pa_nil)))
      (pss_cons
        (p_try rfl rfl ⟨rfl, by decide, .inl X_NoText.g⟩ (fun W pn xe tk po =>
          (pss_cons
            (ps_expr (pe_methTS (pv 3) K_Desk.cl D_Desk_need.m G_Desk_need (hr.mono (by omega)) D_Desk_need.b (fun σ => passAt tk σ) (pa_cons (pv 1) pa_nil)))
          (pss_one
            (ps_for po rfl (pi_tupK (K := K) rfl (pv 2)) (pg_name (i := 5) sc_row_by.nd rfl (.inl rfl))
              (pss_one
                (ps_if (pt_cmp (pc_kin (N := KDict P w K) (fun _ _ h => h) (pv 5) (pe_glob (v := .ref ka_GETS_EACH) rfl g_GETS_EACH rfl)))
                  (pss_one
                    (ps_expr (pe_bmX (K := K) rfl (r := rAppend) PySem.F.plainAttrs_list PySem.F.slot_list_append PySem.F.type_list_append mt_append (pv 4) (pa_cons (pe_callS G_get_list (hr.mono (by omega)) (by rfl) D_get_list.g D_get_list.fn.kp D_get_list.b (fun σ => passAt tk σ) (pa_cons (pv 3) (pa_cons (pe_glob (v := .int 400) rfl g_MANY ⟨_, rfl⟩) (pa_cons (pe_kget (N := KDict P w K) (fun _ _ h => h) (pe_glob (v := .ref ka_GETS_EACH) rfl g_GETS_EACH rfl) (pv 5) (fun _ _ => rfl)) pa_nil)))) pa_nil))))
                  (pss_cons
                    (ps_set (i := 6) sc_row_by.nd rfl (.inl rfl) (pe_kget (N := KDict P w K) (fun _ _ h => h) (pe_glob (v := .ref ka_GETS) rfl g_GETS rfl) (pv 5) (fun _ _ => rfl)))
                  (pss_one
                    (ps_expr (pe_bmX (K := K) rfl (r := rAppend) PySem.F.plainAttrs_list PySem.F.slot_list_append PySem.F.type_list_append mt_append (pv 4) (pa_cons (pe_callVS (N := KnF P w K mg base (L2.CX P w) 7) (i := 6) (fun _ _ h => h) (hr.mono (by omega)) (by rfl) (by first | exact Or.inl rfl | exact Or.inr (Or.inl rfl) | exact Or.inr (Or.inr rfl)) (fun σ => passAt tk σ) (pa_cons (pv 3) pa_nil)) pa_nil)))))))))))
        (fun a oe cls d pn _ _ =>
          (pss_one
            (ps_ret pe_non))))
      (pss_cons
        (ps_if (pt_not (pt_val (pe_meth0 (pv 3) K_Desk.cl D_Desk_is_done.m G_Desk_is_done (hr.mono (by omega)) D_Desk_is_done.b .nil pass0)))
          (pss_one
            (ps_ret pe_non))
          pss_nil)
      (pss_one
        (ps_ret (pe_callTy (r := rTupOf K) c_tupOf (by rfl) T.n_tuple (by decide +kernel) (pa_cons (pv 4) pa_nil))))))))
      , ?_⟩
    rw [show L2.start N_row_by [V.str z, V.str wd, V.ref kt] = [some (.str z), some (.str wd), some (.ref kt), none, none, none, none] from rfl]
    walk_at "x"
    refine w_make' fun d dd H1 hd hdd hne e1 k1 => ?_
    refine ⟨d, dd, z, rfl, e1, hz, fun H2 al D2 k2 => ⟨rfl, ?_⟩⟩
    walk_at "g"
    refine w_new fun rw' H3 hrw er k3 => ?_
    have D3 := D2.same k3
    obtain ⟨dd3, y1, y2, y3, y4, ob3⟩ := D3.ins
    have hrd : rw' ≠ d := ne_of er ob3 (fun z => nomatch z)
    have hna : al.1 ≠ rw' := by
      obtain ⟨_, _, _, _, _, D1o, _⟩ := D2
      exact ne_of_none D1o.ea hrw
    have hnl : al.2 ≠ rw' := by
      obtain ⟨_, _, _, _, _, D1o, _⟩ := D2
      exact ne_of_none D1o.el hrw
    have hd0 : H d = none := hd
    have same : ∀ {H' : Hp}, Kp [d, rw'] H3 H' → Same H H' := fun k' b o e => k' b o (by
      simp only [List.mem_cons, List.not_mem_nil, or_false, not_or]
      exact ⟨ne_of_none e hd0, ne_of_none (k2 _ _ (by simpa using ne_of_none e hd0) (k1 _ _ e)) hrw⟩) (k3 _ _ (k2 _ _ (by simpa using ne_of_none e hd0) (k1 _ _ e)))
    walk_at "g"
    refine w_seq ?_
    refine w_try ?_
    walk_at "g"
    refine w_methS (K := K) ?_
    walk_at "g"
    refine ⟨d, dd3, _, rfl, ob3, rfl, ?_⟩
    walk_at "g"
    refine ⟨d, wd, al, wrd z, lns z, rfl, D3, fun W1 H4 eW D4 k4 => ?_, fun eW H4 k4 => ?_⟩
    case refine_2 =>
      refine ⟨true, xm_NoText_NoText, fun _ ea hea => ?_, fun z => nomatch z⟩
      walk_at "g"
      exact q2 (if_neg eW) H4 (same (k4.mono (by simp)))
    rw [eW] at q1 q2
    rw [rdBy_c] at q1 q2
    have er4 := k4 _ _ (by simpa using hrd) er
    walk_at "g"
    refine w_itT' (hkt H4) ?_
    refine lp_tup (xs := ks.map fun k => .str k.s) (fun i σ H' => ∃ (y5 y6 : Option V) (as : List (V × Ar)) (Wc Lc : List Str), σ = [some (.str z), some (.str wd), some (.ref kt), some (.ref d), some (.ref rw'), y5, y6] ∧ DeskAt CD H' d al Wc Lc ∧ Kp [d, rw'] H3 H' ∧ H' rw' = some (.lst (.str wd :: as.map (·.1))) ∧ (∀ q ∈ as, ArAt H' q.1 q.2) ∧ as.length = i ∧ rdArs ks W1 (lns z) = (rdArs (ks.drop i) Wc Lc).map fun y => (as.map (·.2) ++ y.1, y.2)) ⟨_, _, [], W1, lns z, rfl, D4, k4.mono (by simp), er4, by simp, rfl, by
      rw [List.drop_zero]
      cases rdArs ks W1 (lns z) <;> rfl⟩ (fun i σ H' _ _ => hkt H') ?_ ?_
    · rintro i x σ H5 hx ⟨y5, y6, as, Wc, Lc, rfl, Dc, kc, er3, has, hal, eR⟩
      obtain ⟨k, hk, rfl⟩ := map_at hx
      have hil : i < ks.length := (List.getElem?_eq_some_iff.mp hk).1
      have edrop : ks.drop i = k :: ks.drop (i + 1) := by
        rw [List.drop_eq_getElem_cons hil]
        congr 1
        rw [List.getElem?_eq_getElem hil] at hk
        exact Option.some.inj hk
      rw [edrop] at eR
      obtain ⟨dd5, w1, w2, w3, w4, ob5⟩ := Dc.ins
      have nxt : ∀ (a : Ar) (W4 L4 : List Str) (H6 : Hp) (v : V), rdAr k Wc Lc = some (a, W4, L4) → DeskAt CD H6 d al W4 L4 → Kp [d] H5 H6 → ArAt H6 v a → ∀ {z5 z6 : Option V} (H7 : Hp), H7 rw' = some (.lst ((.str wd :: as.map (·.1)) ++ [v])) → Off rw' H6 H7 → ∃ (y5 y6 : Option V) (as : List (V × Ar)) (Wc Lc : List Str), [some (.str z), some (.str wd), some (.ref kt), some (.ref d), some (.ref rw'), z5, z6] = [some (.str z), some (.str wd), some (.ref kt), some (.ref d), some (.ref rw'), y5, y6] ∧ DeskAt CD H7 d al Wc Lc ∧ Kp [d, rw'] H3 H7 ∧ H7 rw' = some (.lst (.str wd :: as.map (·.1))) ∧ (∀ q ∈ as, ArAt H7 q.1 q.2) ∧ as.length = i + 1 ∧ rdArs ks W1 (lns z) = (rdArs (ks.drop (i + 1)) Wc Lc).map fun y => (as.map (·.2) ++ y.1, y.2) := fun a W4 L4 H6 v e6 D6 k6 hv {z5 z6} H7 e7 o7 => by
        have er6 := k6 _ _ (by simpa using hrd) er3
        have t7 : KT H6 H7 := KT.offN o7 er6
        refine ⟨z5, z6, as ++ [(v, a)], W4, L4, rfl, ?_, (kc.trans (k6.mono (by simp))).trans (o7.kp (by simp)), by rw [e7, List.map_append]; rfl, fun q' hq' => ?_, by rw [List.length_append, hal]; rfl, ?_⟩
        · obtain ⟨dd6, ws6, ls6, p6, qq6, D60, w1, w2⟩ := D6
          exact ⟨dd6, ws6, ls6, p6, qq6, ⟨o7.get hrd.symm D60.ob, o7.get hna D60.ea, o7.get hnl D60.el, D60.hp, D60.hq, D60.hw, D60.hl, D60.sw, D60.sl⟩, w1, w2⟩
        · rcases List.mem_append.mp hq' with h | h
          · exact ((has q' h).kt (Dc.kt k6)).kt t7
          · have e : q' = (v, a) := by simpa using h
            rw [e]
            exact hv.kt t7
        · rw [eR, rdArs_c, e6, Option.bind_some, Option.map_map]
          congr 1
          funext y
          show (as.map (·.2) ++ (a :: y.1), y.2) = _
          rw [List.map_append, List.append_assoc]
          rfl
      have bad : rdAr k Wc Lc = none → ∀ H6, Kp [d] H5 H6 → Q .non H6 := fun e6 H6 k6 => q2 (by
        rw [eR, rdArs_c, e6]
        rfl) H6 (same (kc.trans (k6.mono (by simp))))
      refine w_name ?_
      walk_at "g"
      refine w_kin ?_
      walk_at "g"
      refine ⟨ka_GETS_EACH, _, Sum.inr k.s, rfl, d_GETS_EACH, rfl, _, rfl, ?_⟩
      cases k with
      | «ints» =>
        rw [if_pos (by rfl)]
        walk_at "g"
        refine w_kget ?_
        walk_at "g"
        refine ⟨ka_GETS_EACH, _, Sum.inr KK.ints.s, .ref fPi, rfl, d_GETS_EACH, rfl, rfl, ?_⟩
        walk_at "g"
        refine ⟨d, fPi, 400, .int, al, Wc, Lc, rfl, N_int, by decide, Dc, fun es W4 L4 H4 t as4 e4 D4 k4 et eas has4 => ?_, fun e4 H4 k4 => ?_⟩
        · have er4 := k4 _ _ (by simpa using hrd) er3
          walk_at "g"
          refine w_app er4 (by rw [List.length_cons, List.length_map]; exact small5 (by omega)) fun H5 e5 o5 => ?_
          walk_at "g"
          exact nxt (.lst es) W4 L4 H4 _ (by show (rdList .int 400 Wc Lc).map _ = _; rw [e4]; rfl) D4 k4 ⟨t, as4, rfl, et, eas, has4⟩ H5 e5 o5
        · refine ⟨true, xm_NoText_NoText, fun _ ea hea => ?_, fun z => nomatch z⟩
          walk_at "g"
          exact bad (by show (rdList .int 400 Wc Lc).map _ = _; rw [e4]; rfl) H4 k4
      | truths =>
        rw [if_pos (by rfl)]
        walk_at "g"
        refine w_kget ?_
        walk_at "g"
        refine ⟨ka_GETS_EACH, _, Sum.inr KK.truths.s, .ref fPt, rfl, d_GETS_EACH, rfl, rfl, ?_⟩
        walk_at "g"
        refine ⟨d, fPt, 400, .tr, al, Wc, Lc, rfl, N_tr, by decide, Dc, fun es W4 L4 H4 t as4 e4 D4 k4 et eas has4 => ?_, fun e4 H4 k4 => ?_⟩
        · have er4 := k4 _ _ (by simpa using hrd) er3
          walk_at "g"
          refine w_app er4 (by rw [List.length_cons, List.length_map]; exact small5 (by omega)) fun H5 e5 o5 => ?_
          walk_at "g"
          exact nxt (.lst es) W4 L4 H4 _ (by show (rdList .tr 400 Wc Lc).map _ = _; rw [e4]; rfl) D4 k4 ⟨t, as4, rfl, et, eas, has4⟩ H5 e5 o5
        · refine ⟨true, xm_NoText_NoText, fun _ ea hea => ?_, fun z => nomatch z⟩
          walk_at "g"
          exact bad (by show (rdList .tr 400 Wc Lc).map _ = _; rw [e4]; rfl) H4 k4
      | labels =>
        rw [if_pos (by rfl)]
        walk_at "g"
        refine w_kget ?_
        walk_at "g"
        refine ⟨ka_GETS_EACH, _, Sum.inr KK.labels.s, .ref fPl, rfl, d_GETS_EACH, rfl, rfl, ?_⟩
        walk_at "g"
        refine ⟨d, fPl, 400, .lab, al, Wc, Lc, rfl, N_lab, by decide, Dc, fun es W4 L4 H4 t as4 e4 D4 k4 et eas has4 => ?_, fun e4 H4 k4 => ?_⟩
        · have er4 := k4 _ _ (by simpa using hrd) er3
          walk_at "g"
          refine w_app er4 (by rw [List.length_cons, List.length_map]; exact small5 (by omega)) fun H5 e5 o5 => ?_
          walk_at "g"
          exact nxt (.lst es) W4 L4 H4 _ (by show (rdList .lab 400 Wc Lc).map _ = _; rw [e4]; rfl) D4 k4 ⟨t, as4, rfl, et, eas, has4⟩ H5 e5 o5
        · refine ⟨true, xm_NoText_NoText, fun _ ea hea => ?_, fun z => nomatch z⟩
          walk_at "g"
          exact bad (by show (rdList .lab 400 Wc Lc).map _ = _; rw [e4]; rfl) H4 k4
      | marks =>
        rw [if_pos (by rfl)]
        walk_at "g"
        refine w_kget ?_
        walk_at "g"
        refine ⟨ka_GETS_EACH, _, Sum.inr KK.marks.s, .ref fPp, rfl, d_GETS_EACH, rfl, rfl, ?_⟩
        walk_at "g"
        refine ⟨d, fPp, 400, .pair, al, Wc, Lc, rfl, N_pair, by decide, Dc, fun es W4 L4 H4 t as4 e4 D4 k4 et eas has4 => ?_, fun e4 H4 k4 => ?_⟩
        · have er4 := k4 _ _ (by simpa using hrd) er3
          walk_at "g"
          refine w_app er4 (by rw [List.length_cons, List.length_map]; exact small5 (by omega)) fun H5 e5 o5 => ?_
          walk_at "g"
          exact nxt (.lst es) W4 L4 H4 _ (by show (rdList .pair 400 Wc Lc).map _ = _; rw [e4]; rfl) D4 k4 ⟨t, as4, rfl, et, eas, has4⟩ H5 e5 o5
        · refine ⟨true, xm_NoText_NoText, fun _ ea hea => ?_, fun z => nomatch z⟩
          walk_at "g"
          exact bad (by show (rdList .pair 400 Wc Lc).map _ = _; rw [e4]; rfl) H4 k4
      | int =>
        refine ifNo rfl ?_
        walk_at "g"
        refine w_kget ?_
        walk_at "g"
        refine ⟨ka_GETS, _, Sum.inr KK.int.s, .ref fPi, rfl, d_GETS, rfl, rfl, ?_⟩
        walk_at "g"
        refine w_callVS rfl M_int ?_
        walk_at "g"
        refine ⟨d, al, Wc, Lc, rfl, Dc, fun e W4 L4 H4 v e4 D4 k4 hv => ?_, fun e4 H4 k4 => ?_⟩
        · have er4 := k4 _ _ (by simpa using hrd) er3
          walk_at "g"
          refine w_app er4 (by rw [List.length_cons, List.length_map]; exact small5 (by omega)) fun H5 e5 o5 => ?_
          walk_at "g"
          exact nxt (.one e) W4 L4 H4 _ (by show (rdEl .int Wc Lc).map _ = _; rw [e4]; rfl) D4 k4 hv H5 e5 o5
        · refine ⟨true, xm_NoText_NoText, fun _ ea hea => ?_, fun z => nomatch z⟩
          walk_at "g"
          exact bad (by show (rdEl .int Wc Lc).map _ = _; rw [e4]; rfl) H4 k4
      | truth =>
        refine ifNo rfl ?_
        walk_at "g"
        refine w_kget ?_
        walk_at "g"
        refine ⟨ka_GETS, _, Sum.inr KK.truth.s, .ref fPt, rfl, d_GETS, rfl, rfl, ?_⟩
        walk_at "g"
        refine w_callVS rfl M_tr ?_
        walk_at "g"
        refine ⟨d, al, Wc, Lc, rfl, Dc, fun e W4 L4 H4 v e4 D4 k4 hv => ?_, fun e4 H4 k4 => ?_⟩
        · have er4 := k4 _ _ (by simpa using hrd) er3
          walk_at "g"
          refine w_app er4 (by rw [List.length_cons, List.length_map]; exact small5 (by omega)) fun H5 e5 o5 => ?_
          walk_at "g"
          exact nxt (.one e) W4 L4 H4 _ (by show (rdEl .tr Wc Lc).map _ = _; rw [e4]; rfl) D4 k4 hv H5 e5 o5
        · refine ⟨true, xm_NoText_NoText, fun _ ea hea => ?_, fun z => nomatch z⟩
          walk_at "g"
          exact bad (by show (rdEl .tr Wc Lc).map _ = _; rw [e4]; rfl) H4 k4
      | pack =>
        refine ifNo rfl ?_
        walk_at "g"
        refine w_kget ?_
        walk_at "g"
        refine ⟨ka_GETS, _, Sum.inr KK.pack.s, .ref fPk, rfl, d_GETS, rfl, rfl, ?_⟩
        walk_at "g"
        refine w_callVS rfl M_pk ?_
        walk_at "g"
        refine ⟨d, al, Wc, Lc, rfl, Dc, fun e W4 L4 H4 v e4 D4 k4 hv => ?_, fun e4 H4 k4 => ?_⟩
        · have er4 := k4 _ _ (by simpa using hrd) er3
          walk_at "g"
          refine w_app er4 (by rw [List.length_cons, List.length_map]; exact small5 (by omega)) fun H5 e5 o5 => ?_
          walk_at "g"
          exact nxt (.pk e) W4 L4 H4 _ (by show (rdPk Wc Lc).map _ = _; rw [e4]; rfl) D4 k4 hv H5 e5 o5
        · refine ⟨true, xm_NoText_NoText, fun _ ea hea => ?_, fun z => nomatch z⟩
          walk_at "g"
          exact bad (by show (rdPk Wc Lc).map _ = _; rw [e4]; rfl) H4 k4
    · rintro σ H5 ⟨y5, y6, as, Wc, Lc, rfl, Dc, kc, er3, has, hal, eR⟩
      rw [List.length_map, List.drop_length] at eR
      have eR2 : rdArs ks W1 (lns z) = some (as.map (·.2), Wc, Lc) := by
        rw [eR]
        show some (as.map (·.2) ++ [], Wc, Lc) = _
        rw [List.append_nil]
      rw [eR2, Option.bind_some] at q1 q2
      obtain ⟨dd5, w1, w2, w3, w4, ob5⟩ := Dc.ins
      walk_at "g"
      refine w_seq ?_
      walk_at "g"
      refine ⟨d, al, Wc, Lc, rfl, Dc, ?_⟩
      by_cases hd : (Wc, Lc) = ([], [])
      · rw [decide_eq_true hd]
        walk_at "g"
        refine w_tupL (.of er3) fun t H6 ht e6 k6 => ?_
        exact q1 _ (if_pos hd) H6 t as (same (kc.trans (Kp.of k6))) e6 rfl fun q' hq' => (has q' hq').kt (KT.of k6)
      · rw [decide_eq_false hd]
        walk_at "g"
        exact q2 (if_neg hd) H5 (same kc)
theorem ok_rowof {C_NoText f fB ka_FORMS : Addr} {fd fdB : FuncData} (T : Txt K mg) (F : Fun K "row_of" "row_of" s_row_of f fd) (X_NoText : Exn K mg "NoText" C_NoText) (g_FORMS : mg "FORMS" = some (.ref ka_FORMS)) (d_FORMS : FormsAt K ka_FORMS) (D_row_by : Df K mg "row_by" s_row_by ["text", "word", "kinds"] fB fdB) (G_row_by : FnOk P w K mg base CX0 8 fB fdB ["text", "word", "kinds"] (spRowBy K)) : FnOk P w K mg base (L2.CX P w) 9 f fd ["text"] (spRowOf C_NoText) := by
  refine F.okX sc_row_of (fun vs H Q E h => ?_) (fun cdv A outer s H vs Q E hr h => ?_)
  · obtain ⟨z, rfl, _⟩ := h
    rfl
  · obtain ⟨z, rfl, hz, q1, q2⟩ := h
    obtain ⟨fs, hF, hFl, hFs⟩ := d_FORMS
    refine ⟨_,
      (pss_cons
        (ps_for (passes_of rfl) rfl (pi_tup (pe_glob (v := .ref ka_FORMS) rfl g_FORMS rfl)) (pg_tup rfl (pgs_cons (pg_name (i := 1) sc_row_of.nd rfl (.inl rfl)) (pgs_cons (pg_name (i := 2) sc_row_of.nd rfl (.inl rfl)) pgs_nil)))
          (pss_cons
            (ps_set (i := 3) sc_row_of.nd rfl (.inl rfl) (pe_call G_row_by (hr.mono (by omega)) (by rfl) D_row_by.g D_row_by.fn.kp D_row_by.b .nil pass0 (pa_cons (pv 0) (pa_cons (pv 1) (pa_cons (pv 2) pa_nil)))))
          (pss_one
            (ps_if (pt_cmpR o_notN (pv 3) pe_non (nomark _))
              (pss_one
                (ps_ret (pv 3)))
              pss_nil))))
      (pss_one
        (ps_raise rfl (takes_of rfl rfl rfl rfl) (pmk_own0 PySem.F.excBase_ValueError X_NoText.x X_NoText.g X_NoText.k (raises_own X_NoText.b X_NoText.t) rfl))))
      , ?_⟩
    rw [show L2.start N_row_of [V.str z] = [some (.str z), none, none, none] from rfl]
    walk_at "x"
    refine w_itT' (hF H) ?_
    refine lp_tup (xs := fs.map fun q => .ref q.1) (fun j σ H' => ∃ y1 y2 y3 : Option V, σ = [some (.str z), y1, y2, y3] ∧ Same H H' ∧ rdRow (wrd z) (lns z) = (FORM.drop j).findSome? fun f => (rdBy f (wrd z) (lns z)).map fun as => (f.1, as)) ⟨_, _, _, rfl, fun _ _ z => z, rfl⟩ (fun j σ H' _ _ => hF H') ?_ ?_
    · rintro j x σ H1 hx ⟨y1, y2, y3, rfl, k1, eR⟩
      obtain ⟨p, hp, rfl⟩ := map_at hx
      have hjl : j < FORM.length := by rw [← hFl]; exact (List.getElem?_eq_some_iff.mp hp).1
      obtain ⟨f, hfj⟩ : ∃ f, FORM[j]? = some f := ⟨_, List.getElem?_eq_getElem hjl⟩
      obtain ⟨s1, s2⟩ := hFs j p f hp hfj
      have hle' : f.2.length ≤ 6 ∧ f.1.length ≤ 100 := FORM_le _ (List.mem_of_getElem? hfj)
      have edrop : FORM.drop j = f :: FORM.drop (j + 1) := by
        rw [List.drop_eq_getElem_cons hjl]
        congr 1
        rw [List.getElem?_eq_getElem hjl] at hfj
        exact Option.some.inj hfj
      rw [edrop, List.findSome?_cons] at eR
      refine w_gtup (K := K) (s1 H1) rfl (w_gcons (w_name (w_gcons (w_name (w_gnil ?_)))))
      walk_at "g"
      refine ⟨z, f.1, p.2, f.2, rfl, hz, s2, by omega, fun as e2 H2 t as' k2 et eas has => ?_, fun e2 H2 k2 => ?_⟩
      · walk_at "g"
        rw [if_pos (by rfl)]
        walk_at "g"
        refine q1 f.1 as ?_ H2 t as' (Same.trans k1 k2) et eas has
        rw [eR, e2]
        rfl
      · walk_at "g"
        refine ⟨_, _, _, rfl, Same.trans k1 k2, ?_⟩
        rw [eR, e2]
        rfl
    · rintro σ H1 ⟨y1, y2, y3, rfl, k1, eR⟩
      rw [List.length_map, hFl, List.drop_length] at eR
      walk_at "g"
      exact q2 eR H1 k1
end
/-! ### rows as data -/
def dE : El → PyData
  | .int n => .int (n : Int)
  | .tr b => .bool b
  | .lab z => .str z
  | .pair z n => .tuple [.str z, .int (n : Int)]
  | .take a b => .tuple [.str "take", .int (a : Int), .int (b : Int)]
  | .put rs => .tuple [.str "put", .tuple (rs.map PyData.str)]
def dC : Cn → PyData
  | .leaf rs => .tuple [.str "leaf", .tuple (rs.map PyData.str)]
  | .tree ps => .tuple [.str "tree", .tuple (ps.map fun q => .tuple [.str q.1, .int (q.2 : Int)])]
  | .ver ns a b => .tuple [.str "version", .tuple (ns.map fun n : Nat => PyData.int (n : Int)), .int (a : Int), .int (b : Int)]
def dP : Pk → PyData
  | .plain n c => .tuple [.int (n : Int), .str "plain", dC c]
  | .over n m es => .tuple [.int (n : Int), .str "over", .int (m : Int), .tuple (es.map dE)]
def dA : Ar → PyData
  | .one e => dE e
  | .lst es => .tuple (es.map dE)
  | .pk p => dP p
def dRow (rw : Str) (as : List Ar) : PyData := .tuple (.str rw :: as.map dA)
/-- a thing reads as d, of such a depth and length -/
def Rs (D : Addr) (H : Hp) (v : V) (d : PyData) (k m : Nat) : Prop := Rd D true H v d ∧ d.depth ≤ k ∧ d.shown.length ≤ m
theorem Rs.mono {D : Addr} {H : Hp} {v : V} {d : PyData} {k m k' m' : Nat} (h : Rs D H v d k m) (h1 : k ≤ k') (h2 : m ≤ m') : Rs D H v d k' m' := ⟨h.1, Nat.le_trans h.2.1 h1, Nat.le_trans h.2.2 h2⟩
theorem Rs.int {D : Addr} {H : Hp} {n : Nat} (h : n ≤ TOP) : Rs D H (nV n) (.int (n : Int)) 0 402 := by
  refine ⟨.int _ (log_top h), by simp [PyData.depth], ?_⟩
  have e : (PyData.int (n : Int)).shown = iS n := by simp [PyData.shown, iS]
  rw [e]
  exact Nat.le_trans (iS_len h) (by decide)
theorem Rs.bl {D : Addr} {H : Hp} {b : Bool} : Rs D H (.bl b) (.bool b) 0 402 := ⟨.bl b, by simp [PyData.depth], Nat.le_trans (show (PyData.bool b).shown.length ≤ 5 by cases b <;> simp [PyData.shown] <;> decide) (by decide)⟩
theorem Rs.str {D : Addr} {H : Hp} {z : Str} (h1 : z.length ≤ 40) (h2 : ∀ c ∈ z.cps.toList, c < 16 ^ 8) : Rs D H (.str z) (.str z) 0 402 := by
  refine ⟨.str z, by simp [PyData.depth], ?_⟩
  have h3 := StrLaws.reprText_len z h2
  have e : (PyData.str z).shown.length ≤ 10 * z.length + 2 := by simpa [PyData.shown] using h3
  omega
theorem Rs.tup {D : Addr} {H : Hp} {t : Addr} {vs : List V} {ds : List PyData} {k m : Nat} (e : H t = some (.tup vs)) (hl : ds.length = vs.length) (h : ∀ (i : Nat) (x : V) (d : PyData), vs[i]? = some x → ds[i]? = some d → Rs D H x d k m) : Rs D H (.ref t) (.tuple ds) (k + 1) (ds.length * (m + 2) + 3) := by
  have hm : ∀ d ∈ ds, ∃ x, Rs D H x d k m := fun d hd => by
    obtain ⟨i, hi, ed⟩ := List.getElem_of_mem hd
    have hv : i < vs.length := by omega
    exact ⟨vs[i], h i _ _ (List.getElem?_eq_getElem hv) (by rw [List.getElem?_eq_getElem hi, ed])⟩
  refine ⟨.tup e hl fun i x d h1 h2 => (h i x d h1 h2).1, depth_tup fun d hd => ?_, shown_tup fun d hd => ?_⟩
  · obtain ⟨x, hx⟩ := hm d hd
    exact hx.2.1
  · obtain ⟨x, hx⟩ := hm d hd
    exact hx.2.2
theorem Rs.map {D : Addr} {H : Hp} {t : Addr} {α : Type} {as : List (V × α)} {f : α → PyData} {k m : Nat} (e : H t = some (.tup (as.map (·.1)))) (h : ∀ q ∈ as, Rs D H q.1 (f q.2) k m) : Rs D H (.ref t) (.tuple ((as.map (·.2)).map f)) (k + 1) (as.length * (m + 2) + 3) := by
  have := Rs.tup (ds := (as.map (·.2)).map f) (k := k) (m := m) e (by simp) fun i x d h1 h2 => by
    obtain ⟨q, hq, rfl⟩ := map_at h1
    rw [List.getElem?_map, List.getElem?_map, hq] at h2
    cases h2
    exact h q (List.mem_of_getElem? hq)
  rwa [List.length_map, List.length_map] at this
theorem Rs.tup2 {D : Addr} {H : Hp} {t : Addr} {a b : V} {x y : PyData} {k m : Nat} (e : H t = some (.tup [a, b])) (h1 : Rs D H a x k m) (h2 : Rs D H b y k m) : Rs D H (.ref t) (.tuple [x, y]) (k + 1) (2 * (m + 2) + 3) :=
  Rs.tup e rfl fun i u d e1 e2 => match i, e1, e2 with
    | 0, e1, e2 => by cases e1; cases e2; exact h1
    | 1, e1, e2 => by cases e1; cases e2; exact h2
    | n + 2, e1, _ => by cases e1
theorem Rs.tup3 {D : Addr} {H : Hp} {t : Addr} {a b c : V} {x y z : PyData} {k m : Nat} (e : H t = some (.tup [a, b, c])) (h1 : Rs D H a x k m) (h2 : Rs D H b y k m) (h3 : Rs D H c z k m) : Rs D H (.ref t) (.tuple [x, y, z]) (k + 1) (3 * (m + 2) + 3) :=
  Rs.tup e rfl fun i u d e1 e2 => match i, e1, e2 with
    | 0, e1, e2 => by cases e1; cases e2; exact h1
    | 1, e1, e2 => by cases e1; cases e2; exact h2
    | 2, e1, e2 => by cases e1; cases e2; exact h3
    | n + 3, e1, _ => by cases e1
theorem Rs.tup4 {D : Addr} {H : Hp} {t : Addr} {a b c v : V} {x y z u : PyData} {k m : Nat} (e : H t = some (.tup [a, b, c, v])) (h1 : Rs D H a x k m) (h2 : Rs D H b y k m) (h3 : Rs D H c z k m) (h4 : Rs D H v u k m) : Rs D H (.ref t) (.tuple [x, y, z, u]) (k + 1) (4 * (m + 2) + 3) :=
  Rs.tup e rfl fun i w d e1 e2 => match i, e1, e2 with
    | 0, e1, e2 => by cases e1; cases e2; exact h1
    | 1, e1, e2 => by cases e1; cases e2; exact h2
    | 2, e1, e2 => by cases e1; cases e2; exact h3
    | 3, e1, e2 => by cases e1; cases e2; exact h4
    | n + 4, e1, _ => by cases e1
theorem RowN.rs {D : Addr} {H : Hp} {z : Str} (h : RowN z) : Rs D H (.str z) (.str z) 0 402 := Rs.str h.1 fun c hc => Nat.lt_of_le_of_lt (h.2 c hc).2.1 (by decide)
theorem LabOk.rs {D : Addr} {H : Hp} {z : Str} (h : LabOk z) : Rs D H (.str z) (.str z) 0 402 := Rs.str (Nat.le_trans h.2.1 (by decide)) fun c hc => by
  have key : ∀ x ∈ (Str.ofString "abcdefghijklmnopqrstuvwxyz").cps.toList, x < 16 ^ 8 := by decide +kernel
  exact key c (h.2.2 c hc)
theorem RowsN.rs {D : Addr} {H : Hp} {r : Addr} {rs : List Str} (e : H r = some (.tup (rs.map V.str))) (h : RowsN rs) : Rs D H (.ref r) (.tuple (rs.map PyData.str)) 1 16163 := by
  have := Rs.map (as := rs.map fun z => (V.str z, z)) (f := PyData.str) (k := 0) (m := 402) (D := D) (H := H) (t := r) (by rw [e, List.map_map]; rfl) fun q hq => by
    obtain ⟨z, hz, rfl⟩ := List.mem_map.mp hq
    exact (h.2 z hz).rs
  simp only [List.map_map, Function.comp_def, List.length_map] at this
  refine this.mono (Nat.le_refl _) ?_
  have := h.1
  omega
theorem El.rs {D : Addr} {H : Hp} {v : V} {e : El} (h : ElAt H v e) (ok : e.ok) : Rs D H v (dE e) 2 32333 := by
  cases e with
  | int n =>
    obtain rfl : v = nV n := h
    exact (Rs.int ok).mono (by decide) (by decide)
  | tr b =>
    obtain rfl : v = .bl b := h
    exact Rs.bl.mono (by decide) (by decide)
  | lab z =>
    obtain rfl : v = .str z := h
    exact (LabOk.rs ok).mono (by decide) (by decide)
  | pair z n =>
    obtain ⟨t, rfl, et⟩ := h
    exact (Rs.tup2 et (LabOk.rs ok.1) (Rs.int ok.2)).mono (by decide) (by decide)
  | take a b =>
    obtain ⟨t, rfl, et⟩ := h
    exact (Rs.tup3 et (Rs.str (by decide) (by decide)) (Rs.int ok.1) (Rs.int ok.2.1)).mono (by decide) (by decide)
  | put rs =>
    obtain ⟨t, r, rfl, et, er⟩ := h
    exact (Rs.tup2 et ((Rs.str (by decide) (by decide)).mono (by decide) (by decide)) (RowsN.rs er ok.1)).mono (by decide) (by decide)
theorem Cn.rs {D : Addr} {H : Hp} {v : V} {c : Cn} (h : CnAt H v c) (ok : c.ok) : Rs D H v (dC c) 3 100000 := by
  cases c with
  | leaf rs =>
    obtain ⟨t, r, rfl, et, er⟩ := h
    exact (Rs.tup2 et ((Rs.str (by decide) (by decide)).mono (by decide) (by decide)) (RowsN.rs er ok)).mono (by decide) (by decide)
  | tree ps =>
    obtain ⟨t, r, as, rfl, et, er, rfl, has⟩ := h
    have hl := ok.1
    rw [List.length_map] at hl
    have h1 := Rs.map (as := as.map fun q => (V.ref q.1, q.2)) (f := fun q : Str × Nat => PyData.tuple [.str q.1, .int (q.2 : Int)]) (k := 1) (m := 811) (D := D) (H := H) (t := r) (by rw [er, List.map_map]; rfl) fun q hq => by
      obtain ⟨b, hb, rfl⟩ := List.mem_map.mp hq
      have := ok.2.1 b.2 (List.mem_map.mpr ⟨b, hb, rfl⟩)
      exact Rs.tup2 (has b hb) (LabOk.rs this.1) (Rs.int this.2)
    simp only [List.map_map, Function.comp_def, List.length_map] at h1
    have e9 : dC (.tree (as.map (·.2))) = .tuple [.str "tree", .tuple (as.map fun q => .tuple [.str q.2.1, .int (q.2.2 : Int)])] := by
      show PyData.tuple [.str "tree", .tuple ((as.map (·.2)).map _)] = _
      rw [List.map_map]
      rfl
    rw [e9]
    exact (Rs.tup2 et ((Rs.str (by decide) (by decide)).mono (by decide) (by decide)) (h1.mono (Nat.le_refl 2) (show _ ≤ 20000 by omega))).mono (by decide) (by decide)
  | ver ns a b =>
    obtain ⟨t, r, rfl, et, er⟩ := h
    have hl := ok.1
    have h1 := Rs.map (as := ns.map fun n => (nV n, n)) (f := fun n : Nat => PyData.int (n : Int)) (k := 0) (m := 402) (D := D) (H := H) (t := r) (by rw [er, List.map_map]; rfl) fun q hq => by
      obtain ⟨n, hn, rfl⟩ := List.mem_map.mp hq
      exact Rs.int (ok.2.2.1 n hn)
    simp only [List.map_map, Function.comp_def, List.length_map] at h1
    exact (Rs.tup4 et ((Rs.str (by decide) (by decide)).mono (by decide) (by decide)) (h1.mono (Nat.le_refl 1) (show _ ≤ 20000 by omega)) ((Rs.int ok.2.2.2.1).mono (by decide) (by decide)) ((Rs.int ok.2.2.2.2).mono (by decide) (by decide))).mono (by decide) (by decide)
theorem els_rs {D : Addr} {H : Hp} {t : Addr} {as : List (V × El)} {n : Nat} (e : H t = some (.tup (as.map (·.1)))) (has : ∀ q ∈ as, ElAt H q.1 q.2) (ok : ∀ e ∈ as.map (·.2), e.ok) (hl : as.length ≤ n) : Rs D H (.ref t) (.tuple ((as.map (·.2)).map dE)) 3 (n * 32335 + 3) :=
  (Rs.map (f := dE) (k := 2) (m := 32333) e fun q hq => El.rs (has q hq) (ok _ (List.mem_map.mpr ⟨q, hq, rfl⟩))).mono (Nat.le_refl _) (Nat.add_le_add_right (Nat.mul_le_mul_right _ hl) _)
theorem Pk.rs {D : Addr} {H : Hp} {v : V} {p : Pk} (h : PkAt H v p) (ok : p.ok) : Rs D H v (dP p) 4 5173623 := by
  cases p with
  | plain n c =>
    obtain ⟨t, x, rfl, et, hc⟩ := h
    exact (Rs.tup3 et ((Rs.int ok.1).mono (by decide) (by decide)) ((Rs.str (by decide) (by decide)).mono (by decide) (by decide)) (Cn.rs hc ok.2)).mono (by decide) (by decide)
  | over n m es =>
    obtain ⟨t, r, as, rfl, et, er, rfl, has⟩ := h
    have hl := ok.2.2.1
    rw [List.length_map] at hl
    exact (Rs.tup4 et ((Rs.int ok.1).mono (by decide) (by decide)) ((Rs.str (by decide) (by decide)).mono (by decide) (by decide)) ((Rs.int ok.2.1).mono (by decide) (by decide)) (els_rs er has (fun e he => (ok.2.2.2 e he).1) hl)).mono (by decide) (by decide)
theorem Row.rs {D : Addr} {H : Hp} {t : Addr} {i : Nat} {rw : Str} {as : List (V × Ar)} (h1 : H t = some (.tup (.str rw :: as.map (·.1)))) (h2 : ∀ q ∈ as, ArAt H q.1 q.2) (h3 : ∀ a ∈ as.map (·.2), a.ok) (F : Fits i rw (as.map (·.2))) : Rs D H (.ref t) (dRow rw (as.map (·.2))) 5 16777216 := by
  obtain ⟨⟨ks, hf, hl, hfit⟩, _⟩ := id F
  rw [List.length_map] at hl
  have hle : ks.length ≤ 6 ∧ rw.length ≤ 100 := FORM_le _ (List.mem_of_getElem? hf)
  have hrw : ∀ f ∈ FORM, f.1.length ≤ 40 ∧ ∀ c ∈ f.1.cps.toList, c < 16 ^ 8 := by decide +kernel
  have hw := hrw _ (List.mem_of_getElem? hf)
  have hone : ∀ q ∈ as, Rs D H q.1 (dA q.2) 4 5173623 := fun q hq => by
    obtain ⟨v, a⟩ := q
    have ok := h3 a (List.mem_map.mpr ⟨(v, a), hq, rfl⟩)
    have hat := h2 _ hq
    cases a with
    | one e => exact (El.rs hat ok).mono (by decide) (by decide)
    | lst es =>
      obtain ⟨t', as', rfl, et, rfl, has'⟩ := hat
      have := ok.1
      rw [List.length_map] at this
      exact (els_rs et has' ok.2 this).mono (by decide) (by decide)
    | pk p => exact Pk.rs hat ok
  by_cases hpk : as.length ≤ 2
  · have := Rs.tup (k := 4) (m := 5173623) (ds := .str rw :: (as.map (·.2)).map dA) (D := D) h1 (by simp) fun i x d e1 e2 => by
      cases i with
      | zero =>
        cases e1; cases e2
        exact (Rs.str hw.1 hw.2).mono (by decide) (by decide)
      | succ i =>
        rw [List.getElem?_cons_succ] at e1 e2
        obtain ⟨q, hq, rfl⟩ := map_at e1
        rw [List.getElem?_map, List.getElem?_map, hq] at e2
        cases e2
        exact hone q (List.mem_of_getElem? hq)
    refine this.mono (by decide) ?_
    rw [List.length_cons, List.length_map, List.length_map]
    omega
  · -- no pack among them
    have hno : ∀ q ∈ as, Rs D H q.1 (dA q.2) 4 323353 := fun q hq => by
      obtain ⟨v, a⟩ := q
      have ok := h3 a (List.mem_map.mpr ⟨(v, a), hq, rfl⟩)
      have hat := h2 _ hq
      cases a with
      | one e => exact (El.rs hat ok).mono (by decide) (by decide)
      | lst es =>
        obtain ⟨t', as', rfl, et, rfl, has'⟩ := hat
        have := ok.1
        rw [List.length_map] at this
        exact (els_rs et has' ok.2 this).mono (by decide) (by decide)
      | pk p =>
        exfalso
        obtain ⟨j, hj, ej⟩ := List.getElem_of_mem hq
        have hjk : j < ks.length := by omega
        have := hfit j _ (.pk p) (List.getElem?_eq_getElem hjk) (by rw [List.getElem?_map, List.getElem?_eq_getElem hj, ej]; rfl)
        have hk : ks[j] = .pack := this
        have key : ∀ f ∈ FORM, .pack ∈ f.2 → f.2.length ≤ 2 := by decide +kernel
        have := key _ (List.mem_of_getElem? hf) (by rw [← hk]; exact List.getElem_mem hjk)
        have h9 : ks.length ≤ 2 := this
        omega
    have := Rs.tup (k := 4) (m := 323353) (ds := .str rw :: (as.map (·.2)).map dA) (D := D) h1 (by simp) fun i x d e1 e2 => by
      cases i with
      | zero =>
        cases e1; cases e2
        exact (Rs.str hw.1 hw.2).mono (by decide) (by decide)
      | succ i =>
        rw [List.getElem?_cons_succ] at e1 e2
        obtain ⟨q, hq, rfl⟩ := map_at e1
        rw [List.getElem?_map, List.getElem?_map, hq] at e2
        cases e2
        exact hno q (List.mem_of_getElem? hq)
    refine this.mono (by decide) ?_
    rw [List.length_cons, List.length_map, List.length_map]
    omega
/-! ### texts split again -/
def CW (z : Str) : Prop := ∀ c ∈ z.cps.toList, 33 ≤ c
theorem CW.iS (n : Nat) : CW (iS n) := fun c hc => by
  rw [iS_cps] at hc
  obtain ⟨ch, hch, rfl⟩ := List.mem_map.mp hc
  have := PyProof.Rows.digit_range (Nat.isDigit_of_mem_toDigits (b := 10) (n := n) (by decide) (by decide) hch)
  omega
theorem CW.lab {z : Str} (h : LabOk z) : CW z := fun c hc => by
  have key : ∀ x ∈ (Str.ofString "abcdefghijklmnopqrstuvwxyz").cps.toList, 33 ≤ x := by decide +kernel
  exact key c (h.2.2 c hc)
theorem cw_lit {z : Str} (h : (z.cps.toList.all fun c => decide (33 ≤ c)) = true) : CW z := fun c hc => of_decide_eq_true (List.all_eq_true.mp h c hc)
theorem El.clean {e : El} (h : e.ok) : ∀ z ∈ e.w, CW z := by
  cases e with
  | int n =>
    intro z hz
    have e : z = FW.iS n := by simpa [El.w] using hz
    rw [e]
    exact CW.iS n
  | tr b =>
    intro z hz
    cases b with
    | true =>
      have e : z = "yes" := by simpa [El.w] using hz
      rw [e]; exact cw_lit (by decide +kernel)
    | false =>
      have e : z = "no" := by simpa [El.w] using hz
      rw [e]; exact cw_lit (by decide +kernel)
  | lab y =>
    intro z hz
    have e : z = y := by simpa [El.w] using hz
    rw [e]; exact CW.lab h
  | pair y n =>
    intro z hz
    rcases (by simpa [El.w] using hz : z = y ∨ z = FW.iS n) with e | e
    · rw [e]; exact CW.lab h.1
    · rw [e]; exact CW.iS n
  | take a b =>
    intro z hz
    rcases (by simpa [El.w] using hz : z = "take" ∨ z = FW.iS a ∨ z = FW.iS b) with e | e | e
    · rw [e]; exact cw_lit (by decide +kernel)
    · rw [e]; exact CW.iS a
    · rw [e]; exact CW.iS b
  | put rs =>
    intro z hz
    rcases (by simpa [El.w] using hz : z = "put" ∨ z = FW.iS rs.length) with e | e
    · rw [e]; exact cw_lit (by decide +kernel)
    · rw [e]; exact CW.iS _
theorem lwE_clean {es : List El} (h : ∀ e ∈ es, e.ok) : ∀ z ∈ lwE es, CW z := by
  intro z hz
  unfold lwE at hz
  rcases List.mem_cons.mp hz with e | hz
  · rw [e]; exact cw_lit (by decide +kernel)
  rcases List.mem_append.mp hz with hz | hz
  · obtain ⟨e, he, hz⟩ := List.mem_flatMap.mp hz
    exact El.clean (h e he) z hz
  · have e : z = CP := by simpa using hz
    rw [e]; exact cw_lit (by decide +kernel)
theorem Cn.clean {c : Cn} (h : c.ok) : ∀ z ∈ c.w, CW z := by
  cases c with
  | leaf rs =>
    intro z hz
    rcases (by simpa [Cn.w] using hz : z = "leaf" ∨ z = FW.iS rs.length) with e | e
    · rw [e]; exact cw_lit (by decide +kernel)
    · rw [e]; exact CW.iS _
  | tree ps =>
    intro z hz
    rcases List.mem_cons.mp hz with e | hz
    · rw [e]; exact cw_lit (by decide +kernel)
    · exact lwE_clean (fun e he => by
        obtain ⟨q, hq, rfl⟩ := List.mem_map.mp he
        exact h.2.1 q hq) z hz
  | ver ns a b =>
    intro z hz
    rcases List.mem_cons.mp hz with e | hz
    · rw [e]; exact cw_lit (by decide +kernel)
    rcases List.mem_append.mp hz with hz | hz
    · exact lwE_clean (fun e he => by
        obtain ⟨q, hq, rfl⟩ := List.mem_map.mp he
        exact h.2.2.1 q hq) z hz
    · rcases (by simpa using hz : z = FW.iS a ∨ z = FW.iS b) with e | e
      · rw [e]; exact CW.iS _
      · rw [e]; exact CW.iS _
theorem Pk.clean {p : Pk} (h : p.ok) : ∀ z ∈ p.w, CW z := by
  cases p with
  | plain n c =>
    intro z hz
    rcases List.mem_cons.mp hz with e | hz
    · rw [e]; exact CW.iS _
    rcases List.mem_cons.mp hz with e | hz
    · rw [e]; exact cw_lit (by decide +kernel)
    · exact Cn.clean h.2 z hz
  | over n m es =>
    intro z hz
    rcases List.mem_cons.mp hz with e | hz
    · rw [e]; exact CW.iS _
    rcases List.mem_cons.mp hz with e | hz
    · rw [e]; exact cw_lit (by decide +kernel)
    rcases List.mem_cons.mp hz with e | hz
    · rw [e]; exact CW.iS _
    · exact lwE_clean (fun e he => (h.2.2.2 e he).1) z hz
theorem Ar.clean {a : Ar} (h : a.ok) : ∀ z ∈ a.w, CW z := by
  cases a with
  | one e => exact El.clean h
  | lst es => exact lwE_clean h.2
  | pk p => exact Pk.clean h
theorem El.lclean {e : El} (h : e.ok) : ∀ z ∈ e.l, RowN z := by
  cases e with
  | put rs => exact h.1.2
  | _ => intro z hz; cases hz
theorem Ar.lclean {a : Ar} (h : a.ok) : ∀ z ∈ a.l, RowN z := by
  have lst : ∀ es : List El, (∀ e ∈ es, e.ok) → ∀ z ∈ llE es, RowN z := fun es h z hz => by
    obtain ⟨e, he, hz⟩ := List.mem_flatMap.mp hz
    exact El.lclean (h e he) z hz
  cases a with
  | one e => exact El.lclean h
  | lst es => exact lst es h.2
  | pk p =>
    cases p with
    | plain n c =>
      cases c with
      | leaf rs => exact h.2.2
      | tree ps => intro z hz; cases hz
      | ver ns a b => intro z hz; cases hz
    | over n m es => exact lst es fun e he => (h.2.2.2 e he).1
theorem sjoin_mem (a : Str) : ∀ (ys : List Str) (c : Nat), c ∈ (Str.join a ys).cps.toList → c ∈ a.cps.toList ∨ ∃ z ∈ ys, c ∈ z.cps.toList
  | [], c, h => by
    have : c ∈ ([] : List Nat) := h
    cases this
  | [y], c, h => .inr ⟨y, by simp, h⟩
  | y :: z :: r, c, h => by
    have e : (Str.join a (y :: z :: r)).cps = y.cps ++ a.cps ++ (Str.join a (z :: r)).cps := rfl
    rw [e, Array.toList_append, Array.toList_append] at h
    rcases List.mem_append.mp h with h | h
    · rcases List.mem_append.mp h with h | h
      · exact .inr ⟨y, by simp, h⟩
      · exact .inl h
    · rcases sjoin_mem a (z :: r) c h with h | ⟨x, hx, h⟩
      · exact .inl h
      · exact .inr ⟨x, List.mem_cons_of_mem _ hx, h⟩
theorem tjoin (a : Str) (ys : List Str) : Txt.join a ys = Str.join a ys := StrLaws.glued_eq_join _ _
theorem split_nl {ws ls : List Str} (hw : ∀ z ∈ ws, CW z) (hl : ∀ z ∈ ls, 10 ∉ z.cps.toList) : Txt.split (Txt.join NLS (Txt.join SPS ws :: ls)) NLS = Txt.join SPS ws :: ls := by
  refine TL.split_join (s := 10) (S := []) (by decide +kernel) (by decide +kernel) (fun z => nomatch z) fun p hp => ?_
  rcases List.mem_cons.mp hp with rfl | hp
  · intro hc
    rw [tjoin] at hc
    rcases sjoin_mem SPS ws 10 hc with h | ⟨x, hx, h⟩
    · revert h
      decide +kernel
    · have := hw x hx 10 h
      omega
  · exact hl p hp
/-- words and lines that are put together come apart as they were -/
theorem parts_back {ws ls : List Str} (hne : ws ≠ []) (hw : ∀ z ∈ ws, CW z) (hl : ∀ z ∈ ls, 10 ∉ z.cps.toList) : wrd (Txt.join NLS (Txt.join SPS ws :: ls)) = ws ∧ lns (Txt.join NLS (Txt.join SPS ws :: ls)) = ls := by
  have h2 : Txt.split (Txt.join SPS ws) SPS = ws := by
    refine TL.split_join (s := 32) (S := []) (by decide +kernel) (by decide +kernel) hne fun p hp hc => ?_
    have := hw p hp 32 hc
    omega
  unfold wrd lns
  rw [split_nl hw hl]
  exact ⟨h2, rfl⟩
theorem cw_nil : CW "" := cw_lit (by decide +kernel)
theorem FORM_cw : ∀ f ∈ FORM, (f.1.cps.toList.all fun c => decide (33 ≤ c)) = true := by decide +kernel
/-- a row's text: its words and lines -/
structure TxAt (i : Nat) (rw : Str) (as : List Ar) : Prop where
  F : Fits i rw as
  ok : ∀ a ∈ as, a.ok
theorem TxAt.rw {i : Nat} {rw : Str} {as : List Ar} (h : TxAt i rw as) : CW rw ∧ as.length ≤ 10 ∧ rw.length ≤ 100 := by
  obtain ⟨⟨ks, hf, hl, _⟩, _⟩ := h.F
  have hle : ks.length ≤ 6 ∧ rw.length ≤ 100 := FORM_le _ (List.mem_of_getElem? hf)
  exact ⟨cw_lit (FORM_cw _ (List.mem_of_getElem? hf)), by omega, hle.2⟩
theorem TxAt.words {i : Nat} {rw : Str} {as : List Ar} (h : TxAt i rw as) : ∀ z ∈ rw :: as.flatMap Ar.w, CW z := fun z hz => by
  rcases List.mem_cons.mp hz with rfl | hz
  · exact h.rw.1
  · obtain ⟨a, ha, hz⟩ := List.mem_flatMap.mp hz
    exact Ar.clean (h.ok a ha) z hz
theorem TxAt.lines {i : Nat} {rw : Str} {as : List Ar} (h : TxAt i rw as) : ∀ z ∈ as.flatMap Ar.l, 10 ∉ z.cps.toList := fun z hz hc => by
  obtain ⟨a, ha, hz⟩ := List.mem_flatMap.mp hz
  have := ((Ar.lclean (h.ok a ha) z hz).2 10 hc).1
  omega
theorem TxAt.len {i : Nat} {rw : Str} {as : List Ar} (h : TxAt i rw as) : (Txt.join SPS (rw :: as.flatMap Ar.w)).length ≤ 82200 ∧ (as.flatMap Ar.l).length ≤ 20000 ∧ ((as.flatMap Ar.l).map (·.length)).sum ≤ 800000 := by
  obtain ⟨_, h10, hr⟩ := h.rw
  have hn := Ar.sum_len as h.ok
  have h1 := sum_le40 (as.flatMap Ar.w) 40 fun z hz => by
    obtain ⟨a, ha, hz⟩ := List.mem_flatMap.mp hz
    exact (Ar.short (h.ok a ha)).1 z hz
  have h2 := sum_le40 (as.flatMap Ar.l) 40 fun z hz => by
    obtain ⟨a, ha, hz⟩ := List.mem_flatMap.mp hz
    exact (Ar.short (h.ok a ha)).2 z hz
  have h3 := join_len SPS (rw :: as.flatMap Ar.w)
  rw [show SPS.length = 1 from rfl, List.map_cons, List.sum_cons, List.length_cons] at h3
  omega
theorem nl_len {h0 : Str} {ls : List Str} {m n k : Nat} (h1 : h0.length ≤ m) (h2 : ls.length ≤ n) (h3 : (ls.map (·.length)).sum ≤ k) : ((h0 :: ls).map (·.length)).sum + (h0 :: ls).length * 1 ≤ m + n + k + 1 ∧ (Txt.join NLS (h0 :: ls)).length ≤ m + n + k + 1 := by
  have := join_len NLS (h0 :: ls)
  rw [show NLS.length = 1 from rfl] at this
  rw [List.map_cons, List.sum_cons, List.length_cons] at *
  omega
theorem snoc_blank : ∀ (w : Str) (ws : List Str), Str.join SPS ((w :: ws) ++ [("" : Str)]) = ⟨(Str.join SPS (w :: ws)).cps ++ SPS.cps⟩
  | w, [] => by
    show (⟨w.cps ++ SPS.cps ++ (Str.ofString "").cps⟩ : Str) = ⟨w.cps ++ SPS.cps⟩
    rw [show (Str.ofString "").cps = #[] by decide +kernel, Array.append_empty]
  | w, x :: ws => by
    have ih := snoc_blank x ws
    show (⟨w.cps ++ SPS.cps ++ (Str.join SPS ((x :: ws) ++ [("" : Str)])).cps⟩ : Str) = ⟨(w.cps ++ SPS.cps ++ (Str.join SPS (x :: ws)).cps) ++ SPS.cps⟩
    rw [ih]
    show (⟨w.cps ++ SPS.cps ++ ((Str.join SPS (x :: ws)).cps ++ SPS.cps)⟩ : Str) = _
    rw [← Array.append_assoc]
theorem cons_blank (w : Str) (ws : List Str) : Str.join SPS (("" : Str) :: w :: ws) = ⟨SPS.cps ++ (Str.join SPS (w :: ws)).cps⟩ := by
  show (⟨(Str.ofString "").cps ++ SPS.cps ++ (Str.join SPS (w :: ws)).cps⟩ : Str) = _
  rw [show (Str.ofString "").cps = #[] by decide +kernel, Array.empty_append]
def spLRefT : Sp := fun vs H Q _ => ∃ z : Str, vs = [.str z] ∧ z.length ≤ 990000 ∧ rdRow (wrd z) (lns z) = none ∧ ∀ H', Same H H' → Q (.bl true) H'
section
variable {P : Program} {w : World} {K : PySem.W.Frag} {mg : Str → Option Value} {base : Heap}
theorem ok_lreft {f fT C_NoText : Addr} {fd fdT : FuncData} (T : Txt K mg) (F : Fun K "_law_refused" "_law_refused" s_law_refused f fd) (X_NoText : Exn K mg "NoText" C_NoText) (xm_NoText_NoText : PySem.W.exmOne K (.ref C_NoText) (.ref C_NoText) = some true) (D_row_of : Df K mg "row_of" s_row_of ["text"] fT fdT) (G_row_of : FnOk P w K mg base (L2.CX P w) 9 fT fdT ["text"] (spRowOf C_NoText)) : FnOk P w K mg base CX0 10 f fd ["_law_text_here"] spLRefT := by
  refine F.ok sc_law_refused (fun vs H Q E h => ?_) (fun cdv A outer s H vs Q E hr h => ?_)
  · obtain ⟨z, rfl, _⟩ := h
    rfl
  · obtain ⟨z, rfl, hz, hn, q⟩ := h
    refine ⟨_,
      (pss_cons
        (ps_set (i := 1) sc_law_refused.nd rfl (.inl rfl) pe_bl)
      (pss_cons
        (p_try rfl rfl ⟨rfl, by decide, .inl X_NoText.g⟩ (fun W pn xe tk po =>
          (pss_one
            (ps_expr (pe_callS G_row_of (hr.mono (by omega)) (by rfl) D_row_of.g D_row_of.fn.kp D_row_of.b (fun σ => passAt tk σ) (pa_cons (pv 0) pa_nil)))))
        (fun a oe cls d pn _ _ =>
          (pss_one
            (ps_set (i := 1) sc_law_refused.nd rfl (.inl rfl) pe_bl))))
      (pss_one
        (ps_ret (pv 1)))))
      , ?_⟩
    rw [show L2.start N_law_refused [V.str z] = [some (.str z), none] from rfl]
    walk_at "x"
    refine w_seq ?_
    refine w_try ?_
    walk_at "g"
    refine ⟨z, rfl, hz, fun rw as e => (by rw [hn] at e; cases e), fun _ H1 k1 => ?_⟩
    refine ⟨true, xm_NoText_NoText, fun _ ea hea => ?_, fun z => nomatch z⟩
    walk_at "g"
    exact q H1 k1
end
/-! ### the module's own tuples and dicts, as the head has them -/
theorem sqK {K : PySem.W.Frag} {a : Addr} {d : Option Addr} {its : Array Value} {n : Nat} {s : Array (Option Value)} {xs : List V} (l : K.lookup a = some ⟨.type "tuple", d, .seq its n, s⟩) (hs : its.size ≤ sizeLine) (v : Vals xs its.toList) : ∀ H, SqT K H a xs := fun H => .inr ⟨_, its, _, l, rfl, rfl, hs, v⟩
theorem formsAt_mk {K : PySem.W.Frag} {kF q0 k0 q1 k1 q2 k2 q3 k3 q4 k4 q5 k5 q6 k6 q7 k7 q8 k8 q9 k9 q10 k10 : Addr} {dF : Option Addr} {nF : Nat} {sF : Array (Option Value)}
    (lF : K.lookup kF = some ⟨.type "tuple", dF, .seq #[.ref q0, .ref q1, .ref q2, .ref q3, .ref q4, .ref q5, .ref q6, .ref q7, .ref q8, .ref q9, .ref q10] nF, sF⟩)
    {dq0 : Option Addr} {nq0 : Nat} {sq0 : Array (Option Value)} {tq0 : Tok} (lq0 : K.lookup q0 = some ⟨.type "tuple", dq0, .seq #[.str "hello" tq0, .ref k0] nq0, sq0⟩)
    {dk0 : Option Addr} {nk0 : Nat} {sk0 : Array (Option Value)} (lk0 : K.lookup k0 = some ⟨.type "tuple", dk0, .seq #[] nk0, sk0⟩)
    {dq1 : Option Addr} {nq1 : Nat} {sq1 : Array (Option Value)} {tq1 : Tok} (lq1 : K.lookup q1 = some ⟨.type "tuple", dq1, .seq #[.str "have" tq1, .ref k1] nq1, sq1⟩)
    {dk1 : Option Addr} {nk1 : Nat} {sk1 : Array (Option Value)} {tk1_0 : Tok} (lk1 : K.lookup k1 = some ⟨.type "tuple", dk1, .seq #[.str "ints" tk1_0] nk1, sk1⟩)
    {dq2 : Option Addr} {nq2 : Nat} {sq2 : Array (Option Value)} {tq2 : Tok} (lq2 : K.lookup q2 = some ⟨.type "tuple", dq2, .seq #[.str "have" tq2, .ref k2] nq2, sq2⟩)
    {dk2 : Option Addr} {nk2 : Nat} {sk2 : Array (Option Value)} {tk2_0 : Tok} (lk2 : K.lookup k2 = some ⟨.type "tuple", dk2, .seq #[.str "truths" tk2_0] nk2, sk2⟩)
    {dq3 : Option Addr} {nq3 : Nat} {sq3 : Array (Option Value)} {tq3 : Tok} (lq3 : K.lookup q3 = some ⟨.type "tuple", dq3, .seq #[.str "want" tq3, .ref k3] nq3, sq3⟩)
    {dk3 : Option Addr} {nk3 : Nat} {sk3 : Array (Option Value)} {tk3_0 : Tok} {tk3_1 : Tok} {tk3_2 : Tok} {tk3_3 : Tok} {tk3_4 : Tok} {tk3_5 : Tok} (lk3 : K.lookup k3 = some ⟨.type "tuple", dk3, .seq #[.str "ints" tk3_0, .str "int" tk3_1, .str "labels" tk3_2, .str "ints" tk3_3, .str "truth" tk3_4, .str "ints" tk3_5] nk3, sk3⟩)
    {dq4 : Option Addr} {nq4 : Nat} {sq4 : Array (Option Value)} {tq4 : Tok} (lq4 : K.lookup q4 = some ⟨.type "tuple", dq4, .seq #[.str "lack" tq4, .ref k4] nq4, sq4⟩)
    {dk4 : Option Addr} {nk4 : Nat} {sk4 : Array (Option Value)} {tk4_0 : Tok} {tk4_1 : Tok} (lk4 : K.lookup k4 = some ⟨.type "tuple", dk4, .seq #[.str "ints" tk4_0, .str "ints" tk4_1] nk4, sk4⟩)
    {dq5 : Option Addr} {nq5 : Nat} {sq5 : Array (Option Value)} {tq5 : Tok} (lq5 : K.lookup q5 = some ⟨.type "tuple", dq5, .seq #[.str "row" tq5, .ref k5] nq5, sq5⟩)
    {dk5 : Option Addr} {nk5 : Nat} {sk5 : Array (Option Value)} {tk5_0 : Tok} (lk5 : K.lookup k5 = some ⟨.type "tuple", dk5, .seq #[.str "int" tk5_0] nk5, sk5⟩)
    {dq6 : Option Addr} {nq6 : Nat} {sq6 : Array (Option Value)} {tq6 : Tok} (lq6 : K.lookup q6 = some ⟨.type "tuple", dq6, .seq #[.str "done" tq6, .ref k6] nq6, sq6⟩)
    {dk6 : Option Addr} {nk6 : Nat} {sk6 : Array (Option Value)} (lk6 : K.lookup k6 = some ⟨.type "tuple", dk6, .seq #[] nk6, sk6⟩)
    {dq7 : Option Addr} {nq7 : Nat} {sq7 : Array (Option Value)} {tq7 : Tok} (lq7 : K.lookup q7 = some ⟨.type "tuple", dq7, .seq #[.str "house" tq7, .ref k7] nq7, sq7⟩)
    {dk7 : Option Addr} {nk7 : Nat} {sk7 : Array (Option Value)} {tk7_0 : Tok} {tk7_1 : Tok} {tk7_2 : Tok} (lk7 : K.lookup k7 = some ⟨.type "tuple", dk7, .seq #[.str "marks" tk7_0, .str "ints" tk7_1, .str "int" tk7_2] nk7, sk7⟩)
    {dq8 : Option Addr} {nq8 : Nat} {sq8 : Array (Option Value)} {tq8 : Tok} (lq8 : K.lookup q8 = some ⟨.type "tuple", dq8, .seq #[.str "bill" tq8, .ref k8] nq8, sq8⟩)
    {dk8 : Option Addr} {nk8 : Nat} {sk8 : Array (Option Value)} {tk8_0 : Tok} {tk8_1 : Tok} {tk8_2 : Tok} (lk8 : K.lookup k8 = some ⟨.type "tuple", dk8, .seq #[.str "ints" tk8_0, .str "ints" tk8_1, .str "ints" tk8_2] nk8, sk8⟩)
    {dq9 : Option Addr} {nq9 : Nat} {sq9 : Array (Option Value)} {tq9 : Tok} (lq9 : K.lookup q9 = some ⟨.type "tuple", dq9, .seq #[.str "pack" tq9, .ref k9] nq9, sq9⟩)
    {dk9 : Option Addr} {nk9 : Nat} {sk9 : Array (Option Value)} {tk9_0 : Tok} {tk9_1 : Tok} (lk9 : K.lookup k9 = some ⟨.type "tuple", dk9, .seq #[.str "int" tk9_0, .str "int" tk9_1] nk9, sk9⟩)
    {dq10 : Option Addr} {nq10 : Nat} {sq10 : Array (Option Value)} {tq10 : Tok} (lq10 : K.lookup q10 = some ⟨.type "tuple", dq10, .seq #[.str "row" tq10, .ref k10] nq10, sq10⟩)
    {dk10 : Option Addr} {nk10 : Nat} {sk10 : Array (Option Value)} {tk10_0 : Tok} {tk10_1 : Tok} (lk10 : K.lookup k10 = some ⟨.type "tuple", dk10, .seq #[.str "int" tk10_0, .str "pack row" tk10_1] nk10, sk10⟩)
    : FormsAt K kF := by
  refine ⟨[(q0, k0), (q1, k1), (q2, k2), (q3, k3), (q4, k4), (q5, k5), (q6, k6), (q7, k7), (q8, k8), (q9, k9), (q10, k10)], sqK lF (show 11 ≤ sizeLine by decide) (.cons rfl (.cons rfl (.cons rfl (.cons rfl (.cons rfl (.cons rfl (.cons rfl (.cons rfl (.cons rfl (.cons rfl (.cons rfl .nil))))))))))), rfl, fun i q f hq hf => ?_⟩
  match i, hq, hf with
  | 0, hq, hf =>
    cases hq; cases hf
    exact ⟨sqK lq0 (show 2 ≤ sizeLine by decide) (.cons ⟨_, rfl⟩ (.cons rfl .nil)), sqK lk0 (show 0 ≤ sizeLine by decide) .nil⟩
  | 1, hq, hf =>
    cases hq; cases hf
    exact ⟨sqK lq1 (show 2 ≤ sizeLine by decide) (.cons ⟨_, rfl⟩ (.cons rfl .nil)), sqK lk1 (show 1 ≤ sizeLine by decide) (.cons ⟨_, rfl⟩ .nil)⟩
  | 2, hq, hf =>
    cases hq; cases hf
    exact ⟨sqK lq2 (show 2 ≤ sizeLine by decide) (.cons ⟨_, rfl⟩ (.cons rfl .nil)), sqK lk2 (show 1 ≤ sizeLine by decide) (.cons ⟨_, rfl⟩ .nil)⟩
  | 3, hq, hf =>
    cases hq; cases hf
    exact ⟨sqK lq3 (show 2 ≤ sizeLine by decide) (.cons ⟨_, rfl⟩ (.cons rfl .nil)), sqK lk3 (show 6 ≤ sizeLine by decide) (.cons ⟨_, rfl⟩ (.cons ⟨_, rfl⟩ (.cons ⟨_, rfl⟩ (.cons ⟨_, rfl⟩ (.cons ⟨_, rfl⟩ (.cons ⟨_, rfl⟩ .nil))))))⟩
  | 4, hq, hf =>
    cases hq; cases hf
    exact ⟨sqK lq4 (show 2 ≤ sizeLine by decide) (.cons ⟨_, rfl⟩ (.cons rfl .nil)), sqK lk4 (show 2 ≤ sizeLine by decide) (.cons ⟨_, rfl⟩ (.cons ⟨_, rfl⟩ .nil))⟩
  | 5, hq, hf =>
    cases hq; cases hf
    exact ⟨sqK lq5 (show 2 ≤ sizeLine by decide) (.cons ⟨_, rfl⟩ (.cons rfl .nil)), sqK lk5 (show 1 ≤ sizeLine by decide) (.cons ⟨_, rfl⟩ .nil)⟩
  | 6, hq, hf =>
    cases hq; cases hf
    exact ⟨sqK lq6 (show 2 ≤ sizeLine by decide) (.cons ⟨_, rfl⟩ (.cons rfl .nil)), sqK lk6 (show 0 ≤ sizeLine by decide) .nil⟩
  | 7, hq, hf =>
    cases hq; cases hf
    exact ⟨sqK lq7 (show 2 ≤ sizeLine by decide) (.cons ⟨_, rfl⟩ (.cons rfl .nil)), sqK lk7 (show 3 ≤ sizeLine by decide) (.cons ⟨_, rfl⟩ (.cons ⟨_, rfl⟩ (.cons ⟨_, rfl⟩ .nil)))⟩
  | 8, hq, hf =>
    cases hq; cases hf
    exact ⟨sqK lq8 (show 2 ≤ sizeLine by decide) (.cons ⟨_, rfl⟩ (.cons rfl .nil)), sqK lk8 (show 3 ≤ sizeLine by decide) (.cons ⟨_, rfl⟩ (.cons ⟨_, rfl⟩ (.cons ⟨_, rfl⟩ .nil)))⟩
  | 9, hq, hf =>
    cases hq; cases hf
    exact ⟨sqK lq9 (show 2 ≤ sizeLine by decide) (.cons ⟨_, rfl⟩ (.cons rfl .nil)), sqK lk9 (show 2 ≤ sizeLine by decide) (.cons ⟨_, rfl⟩ (.cons ⟨_, rfl⟩ .nil))⟩
  | 10, hq, hf =>
    cases hq; cases hf
    exact ⟨sqK lq10 (show 2 ≤ sizeLine by decide) (.cons ⟨_, rfl⟩ (.cons rfl .nil)), sqK lk10 (show 2 ≤ sizeLine by decide) (.cons ⟨_, rfl⟩ (.cons ⟨_, rfl⟩ .nil))⟩
  | n + 11, hq, _ => cases hq
theorem kdPuts {P : Program} {w : World} {K : PySem.W.Frag} {a a0 a1 a2 : Addr} {ep : Nat} {h0 h1 h2 : Int} {t0 t1 t2 : Tok} (hs : (a == sysModules) = false)
    (l : K.lookup a = some ⟨.type "dict", none, .dict #[⟨h0, .str "int" t0, .ref a0⟩, ⟨h1, .str "truth" t1, .ref a1⟩, ⟨h2, .str "pack row" t2, .ref a2⟩] ep, #[]⟩)
    (e0 : h0 = hashStr w "int") (e1 : h1 = hashStr w "truth") (e2 : h2 = hashStr w "pack row")
    : KDict P w K a [(Sum.inr "int", .ref a0), (Sum.inr "truth", .ref a1), (Sum.inr "pack row", .ref a2)] := by
  refine ⟨hs, _, [(Sum.inr "int", .ref a0), (Sum.inr "truth", .ref a1), (Sum.inr "pack row", .ref a2)], l, (.cons ⟨rfl, rfl⟩ (.cons ⟨rfl, rfl⟩ (.cons ⟨rfl, rfl⟩ .nil))), _, _, ⟨rfl, rfl, rfl⟩, rfl, ?_, ?_, ?_⟩
  · intro e he
    have he := Array.mem_toList_iff.mpr he
    simp only [List.mem_cons, List.not_mem_nil, or_false] at he
    rcases he with rfl | rfl | rfl
    · exact ⟨Sum.inr "int", by kernel_rfl, e0⟩
    · exact ⟨Sum.inr "truth", by kernel_rfl, e1⟩
    · exact ⟨Sum.inr "pack row", by kernel_rfl, e2⟩
  · exact (.cons (by kernel_rfl) rfl (.cons (by kernel_rfl) rfl (.cons (by kernel_rfl) rfl .nil)))
  · show ([Sum.inr "int", Sum.inr "truth", Sum.inr "pack row"] : List Key).Nodup
    decide +kernel
theorem kdEach {P : Program} {w : World} {K : PySem.W.Frag} {a a0 a1 a2 a3 : Addr} {ep : Nat} {h0 h1 h2 h3 : Int} {t0 t1 t2 t3 : Tok} (hs : (a == sysModules) = false)
    (l : K.lookup a = some ⟨.type "dict", none, .dict #[⟨h0, .str "ints" t0, .ref a0⟩, ⟨h1, .str "truths" t1, .ref a1⟩, ⟨h2, .str "labels" t2, .ref a2⟩, ⟨h3, .str "marks" t3, .ref a3⟩] ep, #[]⟩)
    (e0 : h0 = hashStr w "ints") (e1 : h1 = hashStr w "truths") (e2 : h2 = hashStr w "labels") (e3 : h3 = hashStr w "marks")
    : KDict P w K a [(Sum.inr "ints", .ref a0), (Sum.inr "truths", .ref a1), (Sum.inr "labels", .ref a2), (Sum.inr "marks", .ref a3)] := by
  refine ⟨hs, _, [(Sum.inr "ints", .ref a0), (Sum.inr "truths", .ref a1), (Sum.inr "labels", .ref a2), (Sum.inr "marks", .ref a3)], l, (.cons ⟨rfl, rfl⟩ (.cons ⟨rfl, rfl⟩ (.cons ⟨rfl, rfl⟩ (.cons ⟨rfl, rfl⟩ .nil)))), _, _, ⟨rfl, rfl, rfl⟩, rfl, ?_, ?_, ?_⟩
  · intro e he
    have he := Array.mem_toList_iff.mpr he
    simp only [List.mem_cons, List.not_mem_nil, or_false] at he
    rcases he with rfl | rfl | rfl | rfl
    · exact ⟨Sum.inr "ints", by kernel_rfl, e0⟩
    · exact ⟨Sum.inr "truths", by kernel_rfl, e1⟩
    · exact ⟨Sum.inr "labels", by kernel_rfl, e2⟩
    · exact ⟨Sum.inr "marks", by kernel_rfl, e3⟩
  · exact (.cons (by kernel_rfl) rfl (.cons (by kernel_rfl) rfl (.cons (by kernel_rfl) rfl (.cons (by kernel_rfl) rfl .nil))))
  · show ([Sum.inr "ints", Sum.inr "truths", Sum.inr "labels", Sum.inr "marks"] : List Key).Nodup
    decide +kernel
/-! ### the law -/
def spLaw (K : PySem.W.Frag) : Sp := fun vs H Q _ => ∃ (a : Addr) (ns : List Int), vs = [.ref a] ∧ SqL K H a (ns.map V.int) ∧ ns.length ≤ 63 ∧ ∀ H', Q (.bl true) H'
section
variable {P : Program} {w : World} {K : PySem.W.Frag} {mg : Str → Option Value} {base : Heap}
theorem ok_law {f_Desk___init__ f_Desk_next_word f_Desk_need f_Desk_is_next f_Desk_next_lines f_Desk_is_done f_need f_is_int f_is_label f_is_row f_are_rows f_is_list f_is_pair f_rises f_put_int f_put_truth f_put_label f_put_pair f_put_piece f_put_list f_put_content f_put_pack f_get_int f_get_truth f_get_label f_get_pair f_get_piece f_get_list f_get_content f_get_pack f_text_by f_text_of f_row_by f_row_of f_law_deck f_law_mixed f_law_draw f_law_text f_law_label f_law_int f_law_ints f_law_leaf_rows f_law_pairs f_law_marks f_law_pieces f_law_pack f_law_row f_law_words f_law_pack_words f_law_written f_law_refused f C_Desk C_NoText ka_FORMS ka_PUTS ka_PUTS_EACH ka_GETS ka_GETS_EACH : Addr} {fd_Desk___init__ fd_Desk_next_word fd_Desk_need fd_Desk_is_next fd_Desk_next_lines fd_Desk_is_done fd_need fd_is_int fd_is_label fd_is_row fd_are_rows fd_is_list fd_is_pair fd_rises fd_put_int fd_put_truth fd_put_label fd_put_pair fd_put_piece fd_put_list fd_put_content fd_put_pack fd_get_int fd_get_truth fd_get_label fd_get_pair fd_get_piece fd_get_list fd_get_content fd_get_pack fd_text_by fd_text_of fd_row_by fd_row_of fd_law_deck fd_law_mixed fd_law_draw fd_law_text fd_law_label fd_law_int fd_law_ints fd_law_leaf_rows fd_law_pairs fd_law_marks fd_law_pieces fd_law_pack fd_law_row fd_law_words fd_law_pack_words fd_law_written fd_law_refused fd : FuncData} (T : Txt K mg)
    (D_Desk___init__ : DfM K C_Desk "__init__" "Desk.__init__" s_Desk___init__ ["self", "text"] f_Desk___init__ fd_Desk___init__)
    (D_Desk_next_word : DfM K C_Desk "next_word" "Desk.next_word" s_Desk_next_word ["self"] f_Desk_next_word fd_Desk_next_word)
    (D_Desk_need : DfM K C_Desk "need" "Desk.need" s_Desk_need ["self", "word"] f_Desk_need fd_Desk_need)
    (D_Desk_is_next : DfM K C_Desk "is_next" "Desk.is_next" s_Desk_is_next ["self", "word"] f_Desk_is_next fd_Desk_is_next)
    (D_Desk_next_lines : DfM K C_Desk "next_lines" "Desk.next_lines" s_Desk_next_lines ["self", "many"] f_Desk_next_lines fd_Desk_next_lines)
    (D_Desk_is_done : DfM K C_Desk "is_done" "Desk.is_done" s_Desk_is_done ["self"] f_Desk_is_done fd_Desk_is_done)
    (D_need : Df K mg "need" s_need ["good"] f_need fd_need)
    (D_is_int : Df K mg "is_int" s_is_int ["thing"] f_is_int fd_is_int)
    (D_is_label : Df K mg "is_label" s_is_label ["thing"] f_is_label fd_is_label)
    (D_is_row : Df K mg "is_row" s_is_row ["thing"] f_is_row fd_is_row)
    (D_are_rows : Df K mg "are_rows" s_are_rows ["thing"] f_are_rows fd_are_rows)
    (D_is_list : Df K mg "is_list" s_is_list ["thing", "most"] f_is_list fd_is_list)
    (D_is_pair : Df K mg "is_pair" s_is_pair ["thing"] f_is_pair fd_is_pair)
    (D_rises : Df K mg "rises" s_rises ["things"] f_rises fd_rises)
    (D_put_int : Df K mg "put_int" s_put_int ["thing", "words", "lines"] f_put_int fd_put_int)
    (D_put_truth : Df K mg "put_truth" s_put_truth ["thing", "words", "lines"] f_put_truth fd_put_truth)
    (D_put_label : Df K mg "put_label" s_put_label ["thing", "words", "lines"] f_put_label fd_put_label)
    (D_put_pair : Df K mg "put_pair" s_put_pair ["thing", "words", "lines"] f_put_pair fd_put_pair)
    (D_put_piece : Df K mg "put_piece" s_put_piece ["thing", "words", "lines"] f_put_piece fd_put_piece)
    (D_put_list : Df K mg "put_list" s_put_list ["thing", "most", "each", "words", "lines"] f_put_list fd_put_list)
    (D_put_content : Df K mg "put_content" s_put_content ["thing", "words", "lines"] f_put_content fd_put_content)
    (D_put_pack : Df K mg "put_pack" s_put_pack ["thing", "words", "lines"] f_put_pack fd_put_pack)
    (D_get_int : Df K mg "get_int" s_get_int ["desk"] f_get_int fd_get_int)
    (D_get_truth : Df K mg "get_truth" s_get_truth ["desk"] f_get_truth fd_get_truth)
    (D_get_label : Df K mg "get_label" s_get_label ["desk"] f_get_label fd_get_label)
    (D_get_pair : Df K mg "get_pair" s_get_pair ["desk"] f_get_pair fd_get_pair)
    (D_get_piece : Df K mg "get_piece" s_get_piece ["desk"] f_get_piece fd_get_piece)
    (D_get_list : Df K mg "get_list" s_get_list ["desk", "most", "each"] f_get_list fd_get_list)
    (D_get_content : Df K mg "get_content" s_get_content ["desk"] f_get_content fd_get_content)
    (D_get_pack : Df K mg "get_pack" s_get_pack ["desk"] f_get_pack fd_get_pack)
    (D_text_by : Df K mg "text_by" s_text_by ["row", "word", "kinds"] f_text_by fd_text_by)
    (D_text_of : Df K mg "text_of" s_text_of ["row"] f_text_of fd_text_of)
    (D_row_by : Df K mg "row_by" s_row_by ["text", "word", "kinds"] f_row_by fd_row_by)
    (D_row_of : Df K mg "row_of" s_row_of ["text"] f_row_of fd_row_of)
    (D_law_deck : Df K mg "_law_deck" s_law_deck ["_law_script"] f_law_deck fd_law_deck)
    (D_law_mixed : Df K mg "_law_mixed" s_law_mixed ["_law_cell", "_law_turn"] f_law_mixed fd_law_mixed)
    (D_law_draw : Df K mg "_law_draw" s_law_draw ["_law_deck_here", "_law_many"] f_law_draw fd_law_draw)
    (D_law_text : Df K mg "_law_text" s_law_text ["_law_deck_here", "_law_size"] f_law_text fd_law_text)
    (D_law_label : Df K mg "_law_label" s_law_label ["_law_deck_here"] f_law_label fd_law_label)
    (D_law_int : Df K mg "_law_int" s_law_int ["_law_deck_here"] f_law_int fd_law_int)
    (D_law_ints : Df K mg "_law_ints" s_law_ints ["_law_deck_here"] f_law_ints fd_law_ints)
    (D_law_leaf_rows : Df K mg "_law_leaf_rows" s_law_leaf_rows ["_law_deck_here", "_law_low"] f_law_leaf_rows fd_law_leaf_rows)
    (D_law_pairs : Df K mg "_law_pairs" s_law_pairs ["_law_deck_here"] f_law_pairs fd_law_pairs)
    (D_law_marks : Df K mg "_law_marks" s_law_marks ["_law_deck_here"] f_law_marks fd_law_marks)
    (D_law_pieces : Df K mg "_law_pieces" s_law_pieces ["_law_deck_here"] f_law_pieces fd_law_pieces)
    (D_law_pack : Df K mg "_law_pack" s_law_pack ["_law_deck_here", "_law_turn"] f_law_pack fd_law_pack)
    (D_law_row : Df K mg "_law_row" s_law_row ["_law_deck_here", "_law_turn"] f_law_row fd_law_row)
    (D_law_words : Df K mg "_law_words" s_law_words ["_law_thing"] f_law_words fd_law_words)
    (D_law_pack_words : Df K mg "_law_pack_words" s_law_pack_words ["_law_row_here", "_law_lines"] f_law_pack_words fd_law_pack_words)
    (D_law_written : Df K mg "_law_written" s_law_written ["_law_row_here"] f_law_written fd_law_written)
    (D_law_refused : Df K mg "_law_refused" s_law_refused ["_law_text_here"] f_law_refused fd_law_refused)
    (D_law : Df K mg "law" s_law ["_law_script"] f fd)
    (K_Desk : Kl K mg "Desk" C_Desk ["words", "lines", "word_place", "line_place"]) (M_Desk : Mk K C_Desk f_Desk___init__)
    (X_NoText : Exn K mg "NoText" C_NoText)
    (xm_NoText_NoText : PySem.W.exmOne K (.ref C_NoText) (.ref C_NoText) = some true)
    (g_FORMS : mg "FORMS" = some (.ref ka_FORMS)) (d_FORMS : FormsAt K ka_FORMS)
    (g_PUTS : mg "PUTS" = some (.ref ka_PUTS)) (d_PUTS : KDict P w K ka_PUTS [(Sum.inr "int", .ref f_put_int), (Sum.inr "truth", .ref f_put_truth), (Sum.inr "pack row", .ref f_put_pack)])
    (g_PUTS_EACH : mg "PUTS_EACH" = some (.ref ka_PUTS_EACH)) (d_PUTS_EACH : KDict P w K ka_PUTS_EACH [(Sum.inr "ints", .ref f_put_int), (Sum.inr "truths", .ref f_put_truth), (Sum.inr "labels", .ref f_put_label), (Sum.inr "marks", .ref f_put_pair)])
    (g_GETS : mg "GETS" = some (.ref ka_GETS)) (d_GETS : KDict P w K ka_GETS [(Sum.inr "int", .ref f_get_int), (Sum.inr "truth", .ref f_get_truth), (Sum.inr "pack row", .ref f_get_pack)])
    (g_GETS_EACH : mg "GETS_EACH" = some (.ref ka_GETS_EACH)) (d_GETS_EACH : KDict P w K ka_GETS_EACH [(Sum.inr "ints", .ref f_get_int), (Sum.inr "truths", .ref f_get_truth), (Sum.inr "labels", .ref f_get_label), (Sum.inr "marks", .ref f_get_pair)])
    : FnG P w K mg base CX0 12 f fd ["_law_script"] (spLaw K) := by
  obtain ⟨tk_GREATEST, g_GREATEST⟩ := T.g_GREATEST
  obtain ⟨tk_MANY, g_MANY⟩ := T.g_MANY
  obtain ⟨tk_ROWS, g_ROWS⟩ := T.g_ROWS
  obtain ⟨tk_LETTERS, g_LETTERS⟩ := T.g_LETTERS
  obtain ⟨tk_FIGURES, g_FIGURES⟩ := T.g_FIGURES
  have g_NoText := X_NoText.g
  have G_law_deck : FnOk P w K mg base CX0 1 f_law_deck fd_law_deck ["_law_script"] (spDeck K) := ok_deck T D_law_deck.fn
  have G_law_draw : FnOk P w K mg base CX0 2 f_law_draw fd_law_draw ["_law_deck_here", "_law_many"] spDraw := ok_draw T D_law_draw.fn D_law_mixed
  have G_put_content : FnOk P w K mg base (L2.CX P w) 6 f_put_content fd_put_content ["thing", "words", "lines"] (spPCont C_NoText) := ok_putcont T D_put_content.fn X_NoText D_need D_is_int D_is_label D_is_row D_are_rows D_is_pair D_is_list D_rises D_put_pair D_put_int D_put_list
  have G_put_list : FnOk P w K mg base (L2.CX P w) 5 f_put_list fd_put_list ["thing", "most", "each", "words", "lines"] (spPList P w K mg base C_NoText) := ok_putlist T D_put_list.fn X_NoText D_need D_is_list
  have G_put_int : FnOk P w K mg base (L2.CX P w) 2 f_put_int fd_put_int ["thing", "words", "lines"] (spPut C_NoText .int) := ok_putint T D_put_int.fn X_NoText D_need D_is_int
  have G_put_truth : FnOk P w K mg base (L2.CX P w) 3 f_put_truth fd_put_truth ["thing", "words", "lines"] (spPut C_NoText .tr) := ok_puttruth T D_put_truth.fn X_NoText D_need
  have G_put_label : FnOk P w K mg base (L2.CX P w) 3 f_put_label fd_put_label ["thing", "words", "lines"] (spPut C_NoText .lab) := ok_putlabel T D_put_label.fn X_NoText D_need D_is_label
  have G_put_pair : FnOk P w K mg base (L2.CX P w) 3 f_put_pair fd_put_pair ["thing", "words", "lines"] (spPut C_NoText .pair) := ok_putpair T D_put_pair.fn X_NoText D_need D_is_label D_is_int D_is_pair
  have G_put_pack : FnOk P w K mg base (L2.CX P w) 7 f_put_pack fd_put_pack ["thing", "words", "lines"] (spPPack C_NoText) := ok_putpack T D_put_pack.fn X_NoText D_need D_is_int D_is_list D_put_int D_put_list D_is_row D_are_rows D_put_piece D_put_content G_put_content
  have G_text_by : FnOk P w K mg base CX0 8 f_text_by fd_text_by ["row", "word", "kinds"] (spTextBy K) := ok_textby T D_text_by.fn X_NoText xm_NoText_NoText D_put_list G_put_list g_PUTS d_PUTS g_PUTS_EACH d_PUTS_EACH
    ⟨_, _, G_put_int.mono (by omega), D_put_int.fn.kp, D_put_int.b⟩ ⟨_, _, G_put_truth.mono (by omega), D_put_truth.fn.kp, D_put_truth.b⟩ ⟨_, _, G_put_label.mono (by omega), D_put_label.fn.kp, D_put_label.b⟩ ⟨_, _, G_put_pair.mono (by omega), D_put_pair.fn.kp, D_put_pair.b⟩
    ⟨_, _, G_put_int.mono (by omega), D_put_int.fn.kp, D_put_int.b⟩ ⟨_, _, G_put_truth.mono (by omega), D_put_truth.fn.kp, D_put_truth.b⟩ ⟨_, _, G_put_pack, D_put_pack.fn.kp, D_put_pack.b⟩
  have G_text_of : FnOk P w K mg base (L2.CX P w) 9 f_text_of fd_text_of ["row"] (spTextOf C_NoText) := ok_textof T D_text_of.fn X_NoText g_FORMS d_FORMS D_text_by G_text_by
  have G_law_row : FnOk P w K mg base CX0 7 f_law_row fd_law_row ["_law_deck_here", "_law_turn"] spLRow := ok_lrow T D_law_row.fn D_law_mixed D_law_draw D_law_text D_law_leaf_rows D_law_int D_law_ints D_law_label D_law_pairs D_law_marks D_law_pieces D_law_pack
  have G_law_written : FnOk P w K mg base CX0 4 f_law_written fd_law_written ["_law_row_here"] spLWritten := ok_lwritten T D_law_written.fn D_law_words D_law_pack_words
  have G_Desk_next_lines : FnOk P w K mg base (L2.CX P w) 3 f_Desk_next_lines fd_Desk_next_lines ["self", "many"] (spNextL C_NoText C_Desk) := ok_nextl T D_Desk_next_lines.fn X_NoText K_Desk D_is_row D_are_rows
  have G_Desk_need : FnOk P w K mg base (L2.CX P w) 2 f_Desk_need fd_Desk_need ["self", "word"] (spDNeed C_NoText C_Desk) := ok_dneed T D_Desk_need.fn X_NoText K_Desk D_Desk_next_word
  have G_get_int : FnOk P w K mg base (L2.CX P w) 2 f_get_int fd_get_int ["desk"] (spGInt C_NoText C_Desk) := ok_gint0 T D_get_int.fn X_NoText K_Desk D_Desk_next_word D_need
  have G_get_int1 : FnOk P w K mg base (L2.CX P w) 2 f_get_int fd_get_int ["desk"] (spGetE C_NoText C_Desk .int) := ok_gint T D_get_int.fn X_NoText K_Desk D_Desk_next_word D_need
  have G_get_truth : FnOk P w K mg base (L2.CX P w) 2 f_get_truth fd_get_truth ["desk"] (spGetE C_NoText C_Desk .tr) := ok_gtruth T D_get_truth.fn X_NoText K_Desk D_Desk_next_word D_need
  have G_get_label : FnOk P w K mg base (L2.CX P w) 2 f_get_label fd_get_label ["desk"] (spGetE C_NoText C_Desk .lab) := ok_glabel T D_get_label.fn X_NoText K_Desk D_Desk_next_word D_need D_is_label
  have G_get_pair : FnOk P w K mg base (L2.CX P w) 3 f_get_pair fd_get_pair ["desk"] (spGetE C_NoText C_Desk .pair) := ok_gpair T D_get_pair.fn D_get_label G_get_label D_get_int G_get_int
  have G_get_piece : FnOk P w K mg base (L2.CX P w) 4 f_get_piece fd_get_piece ["desk"] (spGetE C_NoText C_Desk .piece) := ok_gpiece T D_get_piece.fn X_NoText K_Desk D_Desk_next_word D_Desk_next_lines G_Desk_next_lines D_need D_get_int G_get_int
  have G_get_list : FnOk P w K mg base (L2.CX P w) 5 f_get_list fd_get_list ["desk", "most", "each"] (spGetL P w K mg base C_NoText C_Desk) := ok_glist T D_get_list.fn X_NoText K_Desk D_Desk_need G_Desk_need D_Desk_is_next D_need
  have G_get_content : FnOk P w K mg base (L2.CX P w) 6 f_get_content fd_get_content ["desk"] (spGetC C_NoText C_Desk) := ok_gcont T D_get_content.fn X_NoText K_Desk D_Desk_next_word D_Desk_next_lines G_Desk_next_lines D_need D_rises D_get_int G_get_int ⟨_, _, G_get_int1.mono (by omega), D_get_int.fn.kp, D_get_int.b⟩ D_get_pair ⟨_, _, G_get_pair.mono (by omega), D_get_pair.fn.kp, D_get_pair.b⟩ D_get_list G_get_list
  have G_get_pack : FnOk P w K mg base (L2.CX P w) 7 f_get_pack fd_get_pack ["desk"] (spGetP C_NoText C_Desk) := ok_gpack T D_get_pack.fn X_NoText K_Desk D_Desk_next_word D_need D_get_int G_get_int D_get_content G_get_content D_get_piece ⟨_, _, G_get_piece, D_get_piece.fn.kp, D_get_piece.b⟩ D_get_list G_get_list
  have G_row_by : FnOk P w K mg base CX0 8 f_row_by fd_row_by ["text", "word", "kinds"] (spRowBy K) := ok_rowby T D_row_by.fn X_NoText xm_NoText_NoText K_Desk M_Desk D_Desk___init__ D_Desk_need G_Desk_need D_Desk_is_done D_get_list G_get_list g_GETS d_GETS g_GETS_EACH d_GETS_EACH
    ⟨_, _, G_get_int1.mono (by omega), D_get_int.fn.kp, D_get_int.b⟩ ⟨_, _, G_get_truth.mono (by omega), D_get_truth.fn.kp, D_get_truth.b⟩ ⟨_, _, G_get_label.mono (by omega), D_get_label.fn.kp, D_get_label.b⟩ ⟨_, _, G_get_pair.mono (by omega), D_get_pair.fn.kp, D_get_pair.b⟩
    ⟨_, _, G_get_int1.mono (by omega), D_get_int.fn.kp, D_get_int.b⟩ ⟨_, _, G_get_truth.mono (by omega), D_get_truth.fn.kp, D_get_truth.b⟩ ⟨_, _, G_get_pack, D_get_pack.fn.kp, D_get_pack.b⟩
  have G_row_of : FnOk P w K mg base (L2.CX P w) 9 f_row_of fd_row_of ["text"] (spRowOf C_NoText) := ok_rowof T D_row_of.fn X_NoText g_FORMS d_FORMS D_row_by G_row_by
  have G_law_refused : FnOk P w K mg base CX0 10 f_law_refused fd_law_refused ["_law_text_here"] spLRefT := ok_lreft T D_law_refused.fn X_NoText xm_NoText_NoText D_row_of G_row_of
  refine Fun.okG0 D_law.fn sc_law (fun vs H Q E h => ?_) (fun cdv A outer s H vs Q E hg hr h => ?_)
  · obtain ⟨a, ns, rfl, _⟩ := h
    rfl
  · obtain ⟨a, ns, rfl, hS, hn63, q⟩ := h
    refine ⟨_,
      (pss_cons
        (ps_set (i := 1) sc_law.nd rfl (.inl rfl) (pe_call G_law_deck (hr.mono (by omega)) (by rfl) D_law_deck.g D_law_deck.fn.kp D_law_deck.b .nil pass0 (pa_cons (pv 0) pa_nil)))
      (pss_cons
        (ps_set (i := 2) sc_law.nd rfl (.inl rfl) (pe_call G_law_row (hr.mono (by omega)) (by rfl) D_law_row.g D_law_row.fn.kp D_law_row.b .nil pass0 (pa_cons (pv 1) (pa_cons (pe_call G_law_draw (hr.mono (by omega)) (by rfl) D_law_draw.g D_law_draw.fn.kp D_law_draw.b .nil pass0 (pa_cons (pv 1) (pa_cons pe_int pa_nil))) pa_nil))))
      (pss_cons
        (ps_set (i := 3) sc_law.nd rfl (.inl rfl) (pe_call G_law_row (hr.mono (by omega)) (by rfl) D_law_row.g D_law_row.fn.kp D_law_row.b .nil pass0 (pa_cons (pv 1) (pa_cons (pe_call G_law_draw (hr.mono (by omega)) (by rfl) D_law_draw.g D_law_draw.fn.kp D_law_draw.b .nil pass0 (pa_cons (pv 1) (pa_cons pe_int pa_nil))) pa_nil))))
      (pss_cons
        (ps_for PassesOwn.never rfl (pi_list (pe_lst (pa_cons (pv 2) (pa_cons (pv 3) (pa_cons (pv 2) pa_nil))))) (pg_name (i := 4) sc_law.nd rfl (.inl rfl))
          (pss_cons
            (ps_set (i := 5) sc_law.nd rfl (.inl rfl) (pe_call G_law_written (hr.mono (by omega)) (by rfl) D_law_written.g D_law_written.fn.kp D_law_written.b .nil pass0 (pa_cons (pv 4) pa_nil)))
          (pss_cons
            (ps_set (i := 6) sc_law.nd rfl (.inl rfl) (pe_call G_row_of (hr.mono (by omega)) (by rfl) D_row_of.g D_row_of.fn.kp D_row_of.b .nil passL (pa_cons (pv 5) pa_nil)))
          (pss_one
            (ps_if (PW.pt (pw_or (pt_not (pt_val (pe_callB (r := rIsi K) call_isi (by rfl) T.n_isinstance (by decide +kernel) (pa_cons (pv 6) (pa_cons (pe_bltn (v := .ty "tuple") (u := .type "tuple") (by rfl) T.n_tuple (by decide +kernel) rfl) pa_nil))))) (pw_or (pt_cmpR op_ne (pe_callB (r := rRepr) (c_repr hg hr.units) (by rfl) T.n_repr (by decide +kernel) (pa_cons (pv 6) pa_nil)) (pe_callB (r := rRepr) (c_repr hg hr.units) (by rfl) T.n_repr (by decide +kernel) (pa_cons (pv 4) pa_nil)) (nomark _)) (pw_or1 (pt_cmpR op_ne (pe_call G_text_of (hr.mono (by omega)) (by rfl) D_text_of.g D_text_of.fn.kp D_text_of.b .nil passL (pa_cons (pv 6) pa_nil)) (pv 5) (nomark _))))))
              (pss_one
                (ps_ret pe_bl))
              pss_nil)))))
      (pss_cons
        (ps_set (i := 7) sc_law.nd rfl (.inl rfl) (p_split (pe_call G_law_written (hr.mono (by omega)) (by rfl) D_law_written.g D_law_written.fn.kp D_law_written.b .nil pass0 (pa_cons (pv 2) pa_nil)) pe_str))
      (pss_cons
        (ps_if (PW.pt (pw_or (pt_not (pt_val (pe_call G_law_refused (hr.mono (by omega)) (by rfl) D_law_refused.g D_law_refused.fn.kp D_law_refused.b .nil pass0 (pa_cons pe_str pa_nil)))) (pw_or1 (pt_not (pt_val (pe_call G_law_refused (hr.mono (by omega)) (by rfl) D_law_refused.g D_law_refused.fn.kp D_law_refused.b .nil pass0 (pa_cons (p_join pe_str (pe_op op_cat (pe_lst (pa_cons (pe_op o_addS (pe_ix (r := rIxL K) ix_list (pv 7) pe_int (fun _ _ => rfl)) pe_str) pa_nil)) (pe_slice sl_list (pv 7) (po_some pe_int) po_none))) pa_nil)))))))
          (pss_one
            (ps_ret pe_bl))
          pss_nil)
      (pss_one
        (ps_ret (pe_and (pe_call G_law_refused (hr.mono (by omega)) (by rfl) D_law_refused.g D_law_refused.fn.kp D_law_refused.b .nil pass0 (pa_cons (p_join pe_str (pe_op op_cat (pv 7) (pe_lst (pa_cons pe_str pa_nil)))) pa_nil)) (pe_one (pe_call G_law_refused (hr.mono (by omega)) (by rfl) D_law_refused.g D_law_refused.fn.kp D_law_refused.b .nil pass0 (pa_cons (p_join pe_str (pe_op op_cat (pe_lst (pa_cons (pe_op o_addS pe_str (pe_ix (r := rIxL K) ix_list (pv 7) pe_int (fun _ _ => rfl))) pa_nil)) (pe_slice sl_list (pv 7) (po_some pe_int) po_none))) pa_nil))))))))))))
      , ?_⟩
    rw [show L2.start N_law [V.ref a] = [some (.ref a), none, none, none, none, none, none, none] from rfl]
    walk_at "x"
    refine w_deck hS fun H1 d c k1 hd1 hc1 D1 => ?_
    walk_at "g"
    refine w_draw D1 (by decide) (by decide) (by decide) fun r1 H2 hr1 D2 o2 => ?_
    walk_at "g"
    refine ⟨d, c, _, r1, rfl, D2, by decide, by omega, fun H3 t3 i3 rw3 as3 D3 x3 R3 => ?_⟩
    walk_at "g"
    refine w_draw D3 (by decide) (by decide) (by decide) fun r4 H4 hr4 D4 o4 => ?_
    have x4 := D3.kx D4 o4
    walk_at "g"
    refine ⟨d, c, _, r4, rfl, D4, by decide, by omega, fun H5 t5 i5 rw5 as5 D5 x5 R5 => ?_⟩
    have R35 := R3.kt (x4.t.trans x5.t)
    walk_at "g"
    refine w_new fun L H6 hL e6 k6 => ?_
    have R36 := R35.kt (KT.of k6)
    have R56 := R5.kt (KT.of k6)
    walk_at "g"
    refine lp_list (xs := [.ref t3, .ref t5, .ref t3]) (fun i σ H' => ∃ y1 y2 y3 : Option V, σ = [some (.ref a), some (.ref d), some (.ref t3), some (.ref t5), y1, y2, y3, none] ∧ Same H6 H') ⟨_, _, _, rfl, fun _ _ z => z⟩ (fun i σ H' _ ⟨_, _, _, _, k'⟩ => .of (k' _ _ e6)) ?_ ?_
    · rintro i x σ H7 hx ⟨y1, y2, y3, rfl, k7⟩
      obtain ⟨t, fi, rw', as, rfl, R⟩ : ∃ t i rw as, x = .ref t ∧ RowAt H7 t i rw as := by
        have hm := List.mem_of_getElem? hx
        simp only [List.mem_cons, List.not_mem_nil, or_false] at hm
        rcases hm with rfl | rfl | rfl
        · exact ⟨_, _, _, _, rfl, R36.kt (KT.of k7)⟩
        · exact ⟨_, _, _, _, rfl, R56.kt (KT.of k7)⟩
        · exact ⟨_, _, _, _, rfl, R36.kt (KT.of k7)⟩
      have hok : ∀ a ∈ as.map (·.2), a.ok := fun a ha => by
        obtain ⟨q', hq', rfl⟩ := List.mem_map.mp ha
        exact (R.2.1 q' hq').2
      have X : TxAt fi rw' (as.map (·.2)) := ⟨R.2.2, hok⟩
      refine w_name ?_
      walk_at "g"
      refine ⟨t, fi, rw', as, rfl, R, fun H8 k8 => ?_⟩
      have R8 := R.kt (KT.of k8)
      obtain ⟨b1, b2⟩ := parts_back (by simp) X.words X.lines
      have hlen : (txt rw' (as.map (·.2))).length ≤ 990000 := by
        have h1 := X.len
        have := (nl_len h1.1 h1.2.1 h1.2.2).2
        unfold txt
        omega
      walk_at "g"
      refine ⟨_, rfl, hlen, fun rw2 as2 e2 H9 t9 as9 k9 e9 eas9 has9 => ?_, fun e2 => ?_⟩
      case refine_2 =>
        exfalso
        rw [show txt rw' (as.map (·.2)) = Txt.join NLS (Txt.join SPS (rw' :: (as.map (·.2)).flatMap Ar.w) :: (as.map (·.2)).flatMap Ar.l) from rfl, b1, b2, rdRow_w X.F X.ok] at e2
        cases e2
      rw [show txt rw' (as.map (·.2)) = Txt.join NLS (Txt.join SPS (rw' :: (as.map (·.2)).flatMap Ar.w) :: (as.map (·.2)).flatMap Ar.l) from rfl, b1, b2, rdRow_w X.F X.ok] at e2
      cases e2
      have R9 := R8.kt (KT.of k9)
      have R99 : RowAt H9 t9 fi rw' as9 := ⟨e9, fun q' hq' => ⟨has9 q' hq', hok _ (by rw [← eas9]; exact List.mem_map.mpr ⟨q', hq', rfl⟩)⟩, by rw [eas9]; exact R.2.2⟩
      have rs1 := Row.rs (D := 0) e9 has9 (by rw [eas9]; exact hok) R99.2.2
      have rs2 := Row.rs (D := 0) R9.1 (fun q' hq' => (R9.2.1 q' hq').1) hok R.2.2
      rw [eas9] at rs1
      walk_at "g"
      refine ⟨_, 0, true, _, rfl, rs1.1, Nat.le_trans rs1.2.1 (by decide), Nat.le_trans rs1.2.2 (by decide), ?_⟩
      walk_at "g"
      refine ⟨_, 0, true, _, rfl, rs2.1, Nat.le_trans rs2.2.1 (by decide), Nat.le_trans rs2.2.2 (by decide), ?_⟩
      walk_at "g"
      rw [decide_eq_true rfl, if_neg (by decide)]
      walk_at "g"
      refine ⟨_, rfl, .inr ⟨t9, fi, rw', as9, rfl, R99, fun H10 k10 => ?_⟩⟩
      rw [eas9]
      walk_at "g"
      rw [decide_eq_true rfl, if_neg (by decide)]
      walk_at "g"
      exact ⟨_, _, _, rfl, Same.trans k7 (Same.trans k8 (Same.trans k9 k10))⟩
    · rintro σ H7 ⟨y1, y2, y3, rfl, k7⟩
      have R37 := R36.kt (KT.of k7)
      have hok : ∀ a ∈ as3.map (·.2), a.ok := fun a ha => by
        obtain ⟨q', hq', rfl⟩ := List.mem_map.mp ha
        exact (R37.2.1 q' hq').2
      have X : TxAt i3 rw3 (as3.map (·.2)) := ⟨R37.2.2, hok⟩
      walk_at "g"
      refine ⟨t3, i3, rw3, as3, rfl, R37, fun H8 k8 => ?_⟩
      have hW := X.words
      have hL := X.lines
      obtain ⟨n1, n2, n3⟩ := X.len
      have hnl := (nl_len n1 n2 n3).2
      generalize hws : (as3.map (·.2)).flatMap Ar.w = ws at *
      generalize hls : (as3.map (·.2)).flatMap Ar.l = ls at *
      have etx : txt rw3 (as3.map (·.2)) = Txt.join NLS (Txt.join SPS (rw3 :: ws) :: ls) := by
        unfold txt
        rw [hws, hls]
      rw [etx]
      have hm1 : ∀ z ∈ ls, z.length ≤ 40 := fun z hz => by
        rw [← hls] at hz
        obtain ⟨a, ha, hz⟩ := List.mem_flatMap.mp hz
        exact (Ar.short (hok a ha)).2 z hz
      have more : ∀ {Xs Ys : List Str}, rdPk Xs Ys = none → (Xs, Ys) ≠ ([], []) → rdRow (rw3 :: (ws ++ Xs)) (ls ++ Ys) = none := fun h1 h2 => by
        rw [← hws, ← hls]
        exact rdRow_more X.F X.ok h1 h2
      generalize hh0 : Txt.join SPS (rw3 :: ws) = h0 at *
      have hsp : Txt.split (Txt.join NLS (h0 :: ls)) NLS = h0 :: ls := by
        rw [← hh0]
        exact split_nl hW hL
      walk_at "g"
      refine w_split (by decide) (sizeN (by omega)) fun hp H9 hhp e9 k9 => ?_
      rw [show Txt.split (Txt.join NLS (h0 :: ls)) (Str.ofString "\n") = h0 :: ls from hsp] at e9
      have at0 : atI ((h0 :: ls).map V.str) 0 = some (.str h0) := atI_nat (j := 0) rfl
      walk_at "g"
      refine w_seq ?_
      walk_at "g"
      refine ⟨"", rfl, by decide, ?_, fun H10 k10 => ?_⟩
      · have := parts_back (ws := [("" : Str)]) (ls := []) (by simp) (fun z hz => by rw [List.mem_singleton.mp hz]; exact cw_nil) (by simp)
        have e0 : Txt.join NLS [Txt.join SPS [("" : Str)]] = "" := by decide +kernel
        rw [e0] at this
        rw [this.1]
        exact rdRow_blank _ _
      have e10 := k10 _ _ e9
      walk_at "g"
      have eA : Txt.join SPS ((rw3 :: ws) ++ [("" : Str)]) = h0 ++ (Str.ofString " ") := by
        rw [← hh0, tjoin, snoc_blank, tjoin]
        rfl
      have eC : Txt.join SPS (("" : Str) :: rw3 :: ws) = (Str.ofString " ") ++ h0 := by
        rw [← hh0, tjoin, cons_blank, tjoin]
        rfl
      have lenA : (h0 ++ (Str.ofString " ")).length ≤ 82201 := by
        show (h0.cps ++ (Str.ofString " ").cps).size ≤ _
        rw [Array.size_append, show (Str.ofString " ").cps.size = 1 by decide +kernel]
        have : h0.cps.size ≤ 82200 := n1
        omega
      have lenC : ((Str.ofString " ") ++ h0).length ≤ 82201 := by
        show ((Str.ofString " ").cps ++ h0.cps).size ≤ _
        rw [Array.size_append, show (Str.ofString " ").cps.size = 1 by decide +kernel]
        have : h0.cps.size ≤ 82200 := n1
        omega
      obtain ⟨bA1, bA2⟩ := nl_len lenA n2 n3
      obtain ⟨bC1, bC2⟩ := nl_len lenC n2 n3
      obtain ⟨bB1, bB2⟩ := nl_len (h0 := h0) (ls := ls ++ [(Str.ofString "ab")]) (m := 82200) (n := 20001) (k := 800002) n1 (by rw [List.length_append]; show ls.length + 1 ≤ _; omega) (by
        rw [List.map_append, List.sum_append]
        show _ + ((Str.ofString "ab").length + 0) ≤ _
        rw [show (Str.ofString "ab").length = 2 by decide +kernel]
        omega)
      refine w_addS (size200 (by rw [show (Str.ofString " ").length = 1 by decide +kernel]; omega)) ?_
      walk_at "g"
      refine w_new fun x1 H11 hx1 e11 k11 => ?_
      have e9b := k11 _ _ e10
      walk_at "g"
      refine w_slL (.of e9b) fun y1' H12 hy1 e12 k12 => ?_
      rw [cut1] at e12
      have e12 : H12 y1' = some (.lst (ls.map V.str)) := e12
      have e9c := k12 _ _ e9b
      walk_at "g"
      refine w_cat (k12 _ _ e11) e12 (by rw [List.length_map]; exact size200 (by simp only [List.length_cons, List.length_nil]; omega)) fun z1 H13 hz1 e13 k13 => ?_
      have e9d := k13 _ _ e9c
      refine w_joinL (ys := (h0 ++ (Str.ofString " ")) :: ls) (.of (by rw [e13]; rfl)) (Nat.le_trans bA1 (by decide)) ?_
      walk_at "g"
      refine ⟨_, rfl, Nat.le_trans bA2 (by decide), ?_, fun H14 k14 => ?_⟩
      · have hb := parts_back (ws := (rw3 :: ws) ++ [("" : Str)]) (ls := ls) (by simp) (fun z hz => by
          rcases List.mem_append.mp hz with h | h
          · exact hW z h
          · rw [List.mem_singleton.mp h]; exact cw_nil) hL
        rw [eA] at hb
        show rdRow (wrd (Txt.join NLS ((h0 ++ (Str.ofString " ")) :: ls))) (lns (Txt.join NLS ((h0 ++ (Str.ofString " ")) :: ls))) = none
        rw [hb.1, hb.2]
        have := more (Xs := [("" : Str)]) (Ys := []) (by decide +kernel) (by decide)
        rw [List.append_nil] at this
        exact this
      have e9e := k14 _ _ e9d
      walk_at "g"
      refine w_new fun x2 H15 hx2 e15 k15 => ?_
      have e9f := k15 _ _ e9e
      refine w_cat e9f e15 (by rw [List.length_map]; exact size200 (by simp only [List.length_cons, List.length_nil]; omega)) fun z2 H16 hz2 e16 k16 => ?_
      have e9g := k16 _ _ e9f
      refine w_joinL (ys := h0 :: (ls ++ [(Str.ofString "ab")])) (.of (by rw [e16, List.map_cons (l := ls ++ _), List.map_append]; rfl)) (Nat.le_trans bB1 (by decide)) ?_
      walk_at "g"
      refine ⟨_, rfl, Nat.le_trans bB2 (by decide), ?_, fun H17 k17 => ?_⟩
      · have hb := parts_back (ws := rw3 :: ws) (ls := ls ++ [(Str.ofString "ab")]) (by simp) hW (fun z hz => by
          rcases List.mem_append.mp hz with h | h
          · exact hL z h
          · rw [List.mem_singleton.mp h]; decide +kernel)
        rw [hh0] at hb
        show rdRow (wrd (Txt.join NLS (h0 :: (ls ++ [(Str.ofString "ab")])))) (lns (Txt.join NLS (h0 :: (ls ++ [(Str.ofString "ab")])))) = none
        rw [hb.1, hb.2]
        have := more (Xs := []) (Ys := [(Str.ofString "ab")]) rfl (by decide)
        rw [List.append_nil] at this
        exact this
      have e9h := k17 _ _ e9g
      walk_at "g"
      refine w_addS (size200 (by rw [show (Str.ofString " ").length = 1 by decide +kernel]; omega)) ?_
      walk_at "g"
      refine w_new fun x3 H18 hx3 e18 k18 => ?_
      have e9i := k18 _ _ e9h
      walk_at "g"
      refine w_slL (.of e9i) fun y3' H19 hy3 e19 k19 => ?_
      rw [cut1] at e19
      have e19 : H19 y3' = some (.lst (ls.map V.str)) := e19
      walk_at "g"
      refine w_cat (k19 _ _ e18) e19 (by rw [List.length_map]; exact size200 (by simp only [List.length_cons, List.length_nil]; omega)) fun z3 H20 hz3 e20 k20 => ?_
      refine w_joinL (ys := ((Str.ofString " ") ++ h0) :: ls) (.of (by rw [e20]; rfl)) (Nat.le_trans bC1 (by decide)) ?_
      walk_at "g"
      refine ⟨_, rfl, Nat.le_trans bC2 (by decide), ?_, fun H21 k21 => ?_⟩
      · have hb := parts_back (ws := ("" : Str) :: rw3 :: ws) (ls := ls) (by simp) (fun z hz => by
          rcases List.mem_cons.mp hz with h | h
          · rw [h]; exact cw_nil
          · exact hW z h) hL
        rw [eC] at hb
        show rdRow (wrd (Txt.join NLS (((Str.ofString " ") ++ h0) :: ls))) (lns (Txt.join NLS (((Str.ofString " ") ++ h0) :: ls))) = none
        rw [hb.1, hb.2]
        exact rdRow_blank _ _
      exact q H21
end
theorem all_mk {l : PySem.W.OpenLaw} {w : World} {K : PySem.W.Frag} {h : Heap} {mg : Str → Option Value} {fa f_Desk___init__ f_Desk_next_word f_Desk_need f_Desk_is_next f_Desk_next_lines f_Desk_is_done f_need f_is_int f_is_label f_is_row f_are_rows f_is_list f_is_pair f_rises f_put_int f_put_truth f_put_label f_put_pair f_put_piece f_put_list f_put_content f_put_pack f_get_int f_get_truth f_get_label f_get_pair f_get_piece f_get_list f_get_content f_get_pack f_text_by f_text_of f_row_by f_row_of f_law_deck f_law_mixed f_law_draw f_law_text f_law_label f_law_int f_law_ints f_law_leaf_rows f_law_pairs f_law_marks f_law_pieces f_law_pack f_law_row f_law_words f_law_pack_words f_law_written f_law_refused f_law C_Desk : Addr} (X : K.In h) (G : h.Ns mainGlobals mg) (hfa : mg "law" = some (.ref fa))
    {od_Desk___init__ an_Desk___init__ : Option Addr} {sl_Desk___init__ : Array (Option Value)} {oc_Desk___init__ kV_Desk___init__ dc_Desk___init__ pm_Desk___init__ cd_Desk___init__ ct_Desk___init__ : Value}
    (a_Desk___init__ : PySem.W.findIn K (.ref C_Desk) "__init__" = some (some (.ref f_Desk___init__))) (i_Desk___init__ : PySem.W.isFn K (.ref f_Desk___init__) = true)
    (l_Desk___init__ : K.lookup f_Desk___init__ = some ⟨oc_Desk___init__, od_Desk___init__, .func (PySem.W.fnOf "__init__" "Desk.__init__" (defArgs s_Desk___init__) (defBody s_Desk___init__) (defScope s_Desk___init__) .none kV_Desk___init__ dc_Desk___init__ pm_Desk___init__ an_Desk___init__ cd_Desk___init__ ct_Desk___init__), sl_Desk___init__⟩) (c_Desk___init__ : PySem.W.codeIn K cd_Desk___init__ "Desk.__init__" = true) (k_Desk___init__ : PySem.W.keepIn K (.ref f_Desk___init__) = true)
    {od_Desk_next_word an_Desk_next_word : Option Addr} {sl_Desk_next_word : Array (Option Value)} {oc_Desk_next_word kV_Desk_next_word dc_Desk_next_word pm_Desk_next_word cd_Desk_next_word ct_Desk_next_word : Value}
    (a_Desk_next_word : PySem.W.findIn K (.ref C_Desk) "next_word" = some (some (.ref f_Desk_next_word))) (i_Desk_next_word : PySem.W.isFn K (.ref f_Desk_next_word) = true)
    (l_Desk_next_word : K.lookup f_Desk_next_word = some ⟨oc_Desk_next_word, od_Desk_next_word, .func (PySem.W.fnOf "next_word" "Desk.next_word" (defArgs s_Desk_next_word) (defBody s_Desk_next_word) (defScope s_Desk_next_word) .none kV_Desk_next_word dc_Desk_next_word pm_Desk_next_word an_Desk_next_word cd_Desk_next_word ct_Desk_next_word), sl_Desk_next_word⟩) (c_Desk_next_word : PySem.W.codeIn K cd_Desk_next_word "Desk.next_word" = true) (k_Desk_next_word : PySem.W.keepIn K (.ref f_Desk_next_word) = true)
    {od_Desk_need an_Desk_need : Option Addr} {sl_Desk_need : Array (Option Value)} {oc_Desk_need kV_Desk_need dc_Desk_need pm_Desk_need cd_Desk_need ct_Desk_need : Value}
    (a_Desk_need : PySem.W.findIn K (.ref C_Desk) "need" = some (some (.ref f_Desk_need))) (i_Desk_need : PySem.W.isFn K (.ref f_Desk_need) = true)
    (l_Desk_need : K.lookup f_Desk_need = some ⟨oc_Desk_need, od_Desk_need, .func (PySem.W.fnOf "need" "Desk.need" (defArgs s_Desk_need) (defBody s_Desk_need) (defScope s_Desk_need) .none kV_Desk_need dc_Desk_need pm_Desk_need an_Desk_need cd_Desk_need ct_Desk_need), sl_Desk_need⟩) (c_Desk_need : PySem.W.codeIn K cd_Desk_need "Desk.need" = true) (k_Desk_need : PySem.W.keepIn K (.ref f_Desk_need) = true)
    {od_Desk_is_next an_Desk_is_next : Option Addr} {sl_Desk_is_next : Array (Option Value)} {oc_Desk_is_next kV_Desk_is_next dc_Desk_is_next pm_Desk_is_next cd_Desk_is_next ct_Desk_is_next : Value}
    (a_Desk_is_next : PySem.W.findIn K (.ref C_Desk) "is_next" = some (some (.ref f_Desk_is_next))) (i_Desk_is_next : PySem.W.isFn K (.ref f_Desk_is_next) = true)
    (l_Desk_is_next : K.lookup f_Desk_is_next = some ⟨oc_Desk_is_next, od_Desk_is_next, .func (PySem.W.fnOf "is_next" "Desk.is_next" (defArgs s_Desk_is_next) (defBody s_Desk_is_next) (defScope s_Desk_is_next) .none kV_Desk_is_next dc_Desk_is_next pm_Desk_is_next an_Desk_is_next cd_Desk_is_next ct_Desk_is_next), sl_Desk_is_next⟩) (c_Desk_is_next : PySem.W.codeIn K cd_Desk_is_next "Desk.is_next" = true) (k_Desk_is_next : PySem.W.keepIn K (.ref f_Desk_is_next) = true)
    {od_Desk_next_lines an_Desk_next_lines : Option Addr} {sl_Desk_next_lines : Array (Option Value)} {oc_Desk_next_lines kV_Desk_next_lines dc_Desk_next_lines pm_Desk_next_lines cd_Desk_next_lines ct_Desk_next_lines : Value}
    (a_Desk_next_lines : PySem.W.findIn K (.ref C_Desk) "next_lines" = some (some (.ref f_Desk_next_lines))) (i_Desk_next_lines : PySem.W.isFn K (.ref f_Desk_next_lines) = true)
    (l_Desk_next_lines : K.lookup f_Desk_next_lines = some ⟨oc_Desk_next_lines, od_Desk_next_lines, .func (PySem.W.fnOf "next_lines" "Desk.next_lines" (defArgs s_Desk_next_lines) (defBody s_Desk_next_lines) (defScope s_Desk_next_lines) .none kV_Desk_next_lines dc_Desk_next_lines pm_Desk_next_lines an_Desk_next_lines cd_Desk_next_lines ct_Desk_next_lines), sl_Desk_next_lines⟩) (c_Desk_next_lines : PySem.W.codeIn K cd_Desk_next_lines "Desk.next_lines" = true) (k_Desk_next_lines : PySem.W.keepIn K (.ref f_Desk_next_lines) = true)
    {od_Desk_is_done an_Desk_is_done : Option Addr} {sl_Desk_is_done : Array (Option Value)} {oc_Desk_is_done kV_Desk_is_done dc_Desk_is_done pm_Desk_is_done cd_Desk_is_done ct_Desk_is_done : Value}
    (a_Desk_is_done : PySem.W.findIn K (.ref C_Desk) "is_done" = some (some (.ref f_Desk_is_done))) (i_Desk_is_done : PySem.W.isFn K (.ref f_Desk_is_done) = true)
    (l_Desk_is_done : K.lookup f_Desk_is_done = some ⟨oc_Desk_is_done, od_Desk_is_done, .func (PySem.W.fnOf "is_done" "Desk.is_done" (defArgs s_Desk_is_done) (defBody s_Desk_is_done) (defScope s_Desk_is_done) .none kV_Desk_is_done dc_Desk_is_done pm_Desk_is_done an_Desk_is_done cd_Desk_is_done ct_Desk_is_done), sl_Desk_is_done⟩) (c_Desk_is_done : PySem.W.codeIn K cd_Desk_is_done "Desk.is_done" = true) (k_Desk_is_done : PySem.W.keepIn K (.ref f_Desk_is_done) = true)
    {od_need an_need : Option Addr} {sl_need : Array (Option Value)} {oc_need kV_need dc_need pm_need cd_need ct_need : Value}
    (a_need : PySem.W.nsIn K mainGlobals "need" = some (some (.ref f_need)))
    (l_need : K.lookup f_need = some ⟨oc_need, od_need, .func (PySem.W.fnOf "need" "need" (defArgs s_need) (defBody s_need) (defScope s_need) .none kV_need dc_need pm_need an_need cd_need ct_need), sl_need⟩) (c_need : PySem.W.codeIn K cd_need "need" = true) (k_need : PySem.W.keepIn K (.ref f_need) = true)
    {od_is_int an_is_int : Option Addr} {sl_is_int : Array (Option Value)} {oc_is_int kV_is_int dc_is_int pm_is_int cd_is_int ct_is_int : Value}
    (a_is_int : PySem.W.nsIn K mainGlobals "is_int" = some (some (.ref f_is_int)))
    (l_is_int : K.lookup f_is_int = some ⟨oc_is_int, od_is_int, .func (PySem.W.fnOf "is_int" "is_int" (defArgs s_is_int) (defBody s_is_int) (defScope s_is_int) .none kV_is_int dc_is_int pm_is_int an_is_int cd_is_int ct_is_int), sl_is_int⟩) (c_is_int : PySem.W.codeIn K cd_is_int "is_int" = true) (k_is_int : PySem.W.keepIn K (.ref f_is_int) = true)
    {od_is_label an_is_label : Option Addr} {sl_is_label : Array (Option Value)} {oc_is_label kV_is_label dc_is_label pm_is_label cd_is_label ct_is_label : Value}
    (a_is_label : PySem.W.nsIn K mainGlobals "is_label" = some (some (.ref f_is_label)))
    (l_is_label : K.lookup f_is_label = some ⟨oc_is_label, od_is_label, .func (PySem.W.fnOf "is_label" "is_label" (defArgs s_is_label) (defBody s_is_label) (defScope s_is_label) .none kV_is_label dc_is_label pm_is_label an_is_label cd_is_label ct_is_label), sl_is_label⟩) (c_is_label : PySem.W.codeIn K cd_is_label "is_label" = true) (k_is_label : PySem.W.keepIn K (.ref f_is_label) = true)
    {od_is_row an_is_row : Option Addr} {sl_is_row : Array (Option Value)} {oc_is_row kV_is_row dc_is_row pm_is_row cd_is_row ct_is_row : Value}
    (a_is_row : PySem.W.nsIn K mainGlobals "is_row" = some (some (.ref f_is_row)))
    (l_is_row : K.lookup f_is_row = some ⟨oc_is_row, od_is_row, .func (PySem.W.fnOf "is_row" "is_row" (defArgs s_is_row) (defBody s_is_row) (defScope s_is_row) .none kV_is_row dc_is_row pm_is_row an_is_row cd_is_row ct_is_row), sl_is_row⟩) (c_is_row : PySem.W.codeIn K cd_is_row "is_row" = true) (k_is_row : PySem.W.keepIn K (.ref f_is_row) = true)
    {od_are_rows an_are_rows : Option Addr} {sl_are_rows : Array (Option Value)} {oc_are_rows kV_are_rows dc_are_rows pm_are_rows cd_are_rows ct_are_rows : Value}
    (a_are_rows : PySem.W.nsIn K mainGlobals "are_rows" = some (some (.ref f_are_rows)))
    (l_are_rows : K.lookup f_are_rows = some ⟨oc_are_rows, od_are_rows, .func (PySem.W.fnOf "are_rows" "are_rows" (defArgs s_are_rows) (defBody s_are_rows) (defScope s_are_rows) .none kV_are_rows dc_are_rows pm_are_rows an_are_rows cd_are_rows ct_are_rows), sl_are_rows⟩) (c_are_rows : PySem.W.codeIn K cd_are_rows "are_rows" = true) (k_are_rows : PySem.W.keepIn K (.ref f_are_rows) = true)
    {od_is_list an_is_list : Option Addr} {sl_is_list : Array (Option Value)} {oc_is_list kV_is_list dc_is_list pm_is_list cd_is_list ct_is_list : Value}
    (a_is_list : PySem.W.nsIn K mainGlobals "is_list" = some (some (.ref f_is_list)))
    (l_is_list : K.lookup f_is_list = some ⟨oc_is_list, od_is_list, .func (PySem.W.fnOf "is_list" "is_list" (defArgs s_is_list) (defBody s_is_list) (defScope s_is_list) .none kV_is_list dc_is_list pm_is_list an_is_list cd_is_list ct_is_list), sl_is_list⟩) (c_is_list : PySem.W.codeIn K cd_is_list "is_list" = true) (k_is_list : PySem.W.keepIn K (.ref f_is_list) = true)
    {od_is_pair an_is_pair : Option Addr} {sl_is_pair : Array (Option Value)} {oc_is_pair kV_is_pair dc_is_pair pm_is_pair cd_is_pair ct_is_pair : Value}
    (a_is_pair : PySem.W.nsIn K mainGlobals "is_pair" = some (some (.ref f_is_pair)))
    (l_is_pair : K.lookup f_is_pair = some ⟨oc_is_pair, od_is_pair, .func (PySem.W.fnOf "is_pair" "is_pair" (defArgs s_is_pair) (defBody s_is_pair) (defScope s_is_pair) .none kV_is_pair dc_is_pair pm_is_pair an_is_pair cd_is_pair ct_is_pair), sl_is_pair⟩) (c_is_pair : PySem.W.codeIn K cd_is_pair "is_pair" = true) (k_is_pair : PySem.W.keepIn K (.ref f_is_pair) = true)
    {od_rises an_rises : Option Addr} {sl_rises : Array (Option Value)} {oc_rises kV_rises dc_rises pm_rises cd_rises ct_rises : Value}
    (a_rises : PySem.W.nsIn K mainGlobals "rises" = some (some (.ref f_rises)))
    (l_rises : K.lookup f_rises = some ⟨oc_rises, od_rises, .func (PySem.W.fnOf "rises" "rises" (defArgs s_rises) (defBody s_rises) (defScope s_rises) .none kV_rises dc_rises pm_rises an_rises cd_rises ct_rises), sl_rises⟩) (c_rises : PySem.W.codeIn K cd_rises "rises" = true) (k_rises : PySem.W.keepIn K (.ref f_rises) = true)
    {od_put_int an_put_int : Option Addr} {sl_put_int : Array (Option Value)} {oc_put_int kV_put_int dc_put_int pm_put_int cd_put_int ct_put_int : Value}
    (a_put_int : PySem.W.nsIn K mainGlobals "put_int" = some (some (.ref f_put_int)))
    (l_put_int : K.lookup f_put_int = some ⟨oc_put_int, od_put_int, .func (PySem.W.fnOf "put_int" "put_int" (defArgs s_put_int) (defBody s_put_int) (defScope s_put_int) .none kV_put_int dc_put_int pm_put_int an_put_int cd_put_int ct_put_int), sl_put_int⟩) (c_put_int : PySem.W.codeIn K cd_put_int "put_int" = true) (k_put_int : PySem.W.keepIn K (.ref f_put_int) = true)
    {od_put_truth an_put_truth : Option Addr} {sl_put_truth : Array (Option Value)} {oc_put_truth kV_put_truth dc_put_truth pm_put_truth cd_put_truth ct_put_truth : Value}
    (a_put_truth : PySem.W.nsIn K mainGlobals "put_truth" = some (some (.ref f_put_truth)))
    (l_put_truth : K.lookup f_put_truth = some ⟨oc_put_truth, od_put_truth, .func (PySem.W.fnOf "put_truth" "put_truth" (defArgs s_put_truth) (defBody s_put_truth) (defScope s_put_truth) .none kV_put_truth dc_put_truth pm_put_truth an_put_truth cd_put_truth ct_put_truth), sl_put_truth⟩) (c_put_truth : PySem.W.codeIn K cd_put_truth "put_truth" = true) (k_put_truth : PySem.W.keepIn K (.ref f_put_truth) = true)
    {od_put_label an_put_label : Option Addr} {sl_put_label : Array (Option Value)} {oc_put_label kV_put_label dc_put_label pm_put_label cd_put_label ct_put_label : Value}
    (a_put_label : PySem.W.nsIn K mainGlobals "put_label" = some (some (.ref f_put_label)))
    (l_put_label : K.lookup f_put_label = some ⟨oc_put_label, od_put_label, .func (PySem.W.fnOf "put_label" "put_label" (defArgs s_put_label) (defBody s_put_label) (defScope s_put_label) .none kV_put_label dc_put_label pm_put_label an_put_label cd_put_label ct_put_label), sl_put_label⟩) (c_put_label : PySem.W.codeIn K cd_put_label "put_label" = true) (k_put_label : PySem.W.keepIn K (.ref f_put_label) = true)
    {od_put_pair an_put_pair : Option Addr} {sl_put_pair : Array (Option Value)} {oc_put_pair kV_put_pair dc_put_pair pm_put_pair cd_put_pair ct_put_pair : Value}
    (a_put_pair : PySem.W.nsIn K mainGlobals "put_pair" = some (some (.ref f_put_pair)))
    (l_put_pair : K.lookup f_put_pair = some ⟨oc_put_pair, od_put_pair, .func (PySem.W.fnOf "put_pair" "put_pair" (defArgs s_put_pair) (defBody s_put_pair) (defScope s_put_pair) .none kV_put_pair dc_put_pair pm_put_pair an_put_pair cd_put_pair ct_put_pair), sl_put_pair⟩) (c_put_pair : PySem.W.codeIn K cd_put_pair "put_pair" = true) (k_put_pair : PySem.W.keepIn K (.ref f_put_pair) = true)
    {od_put_piece an_put_piece : Option Addr} {sl_put_piece : Array (Option Value)} {oc_put_piece kV_put_piece dc_put_piece pm_put_piece cd_put_piece ct_put_piece : Value}
    (a_put_piece : PySem.W.nsIn K mainGlobals "put_piece" = some (some (.ref f_put_piece)))
    (l_put_piece : K.lookup f_put_piece = some ⟨oc_put_piece, od_put_piece, .func (PySem.W.fnOf "put_piece" "put_piece" (defArgs s_put_piece) (defBody s_put_piece) (defScope s_put_piece) .none kV_put_piece dc_put_piece pm_put_piece an_put_piece cd_put_piece ct_put_piece), sl_put_piece⟩) (c_put_piece : PySem.W.codeIn K cd_put_piece "put_piece" = true) (k_put_piece : PySem.W.keepIn K (.ref f_put_piece) = true)
    {od_put_list an_put_list : Option Addr} {sl_put_list : Array (Option Value)} {oc_put_list kV_put_list dc_put_list pm_put_list cd_put_list ct_put_list : Value}
    (a_put_list : PySem.W.nsIn K mainGlobals "put_list" = some (some (.ref f_put_list)))
    (l_put_list : K.lookup f_put_list = some ⟨oc_put_list, od_put_list, .func (PySem.W.fnOf "put_list" "put_list" (defArgs s_put_list) (defBody s_put_list) (defScope s_put_list) .none kV_put_list dc_put_list pm_put_list an_put_list cd_put_list ct_put_list), sl_put_list⟩) (c_put_list : PySem.W.codeIn K cd_put_list "put_list" = true) (k_put_list : PySem.W.keepIn K (.ref f_put_list) = true)
    {od_put_content an_put_content : Option Addr} {sl_put_content : Array (Option Value)} {oc_put_content kV_put_content dc_put_content pm_put_content cd_put_content ct_put_content : Value}
    (a_put_content : PySem.W.nsIn K mainGlobals "put_content" = some (some (.ref f_put_content)))
    (l_put_content : K.lookup f_put_content = some ⟨oc_put_content, od_put_content, .func (PySem.W.fnOf "put_content" "put_content" (defArgs s_put_content) (defBody s_put_content) (defScope s_put_content) .none kV_put_content dc_put_content pm_put_content an_put_content cd_put_content ct_put_content), sl_put_content⟩) (c_put_content : PySem.W.codeIn K cd_put_content "put_content" = true) (k_put_content : PySem.W.keepIn K (.ref f_put_content) = true)
    {od_put_pack an_put_pack : Option Addr} {sl_put_pack : Array (Option Value)} {oc_put_pack kV_put_pack dc_put_pack pm_put_pack cd_put_pack ct_put_pack : Value}
    (a_put_pack : PySem.W.nsIn K mainGlobals "put_pack" = some (some (.ref f_put_pack)))
    (l_put_pack : K.lookup f_put_pack = some ⟨oc_put_pack, od_put_pack, .func (PySem.W.fnOf "put_pack" "put_pack" (defArgs s_put_pack) (defBody s_put_pack) (defScope s_put_pack) .none kV_put_pack dc_put_pack pm_put_pack an_put_pack cd_put_pack ct_put_pack), sl_put_pack⟩) (c_put_pack : PySem.W.codeIn K cd_put_pack "put_pack" = true) (k_put_pack : PySem.W.keepIn K (.ref f_put_pack) = true)
    {od_get_int an_get_int : Option Addr} {sl_get_int : Array (Option Value)} {oc_get_int kV_get_int dc_get_int pm_get_int cd_get_int ct_get_int : Value}
    (a_get_int : PySem.W.nsIn K mainGlobals "get_int" = some (some (.ref f_get_int)))
    (l_get_int : K.lookup f_get_int = some ⟨oc_get_int, od_get_int, .func (PySem.W.fnOf "get_int" "get_int" (defArgs s_get_int) (defBody s_get_int) (defScope s_get_int) .none kV_get_int dc_get_int pm_get_int an_get_int cd_get_int ct_get_int), sl_get_int⟩) (c_get_int : PySem.W.codeIn K cd_get_int "get_int" = true) (k_get_int : PySem.W.keepIn K (.ref f_get_int) = true)
    {od_get_truth an_get_truth : Option Addr} {sl_get_truth : Array (Option Value)} {oc_get_truth kV_get_truth dc_get_truth pm_get_truth cd_get_truth ct_get_truth : Value}
    (a_get_truth : PySem.W.nsIn K mainGlobals "get_truth" = some (some (.ref f_get_truth)))
    (l_get_truth : K.lookup f_get_truth = some ⟨oc_get_truth, od_get_truth, .func (PySem.W.fnOf "get_truth" "get_truth" (defArgs s_get_truth) (defBody s_get_truth) (defScope s_get_truth) .none kV_get_truth dc_get_truth pm_get_truth an_get_truth cd_get_truth ct_get_truth), sl_get_truth⟩) (c_get_truth : PySem.W.codeIn K cd_get_truth "get_truth" = true) (k_get_truth : PySem.W.keepIn K (.ref f_get_truth) = true)
    {od_get_label an_get_label : Option Addr} {sl_get_label : Array (Option Value)} {oc_get_label kV_get_label dc_get_label pm_get_label cd_get_label ct_get_label : Value}
    (a_get_label : PySem.W.nsIn K mainGlobals "get_label" = some (some (.ref f_get_label)))
    (l_get_label : K.lookup f_get_label = some ⟨oc_get_label, od_get_label, .func (PySem.W.fnOf "get_label" "get_label" (defArgs s_get_label) (defBody s_get_label) (defScope s_get_label) .none kV_get_label dc_get_label pm_get_label an_get_label cd_get_label ct_get_label), sl_get_label⟩) (c_get_label : PySem.W.codeIn K cd_get_label "get_label" = true) (k_get_label : PySem.W.keepIn K (.ref f_get_label) = true)
    {od_get_pair an_get_pair : Option Addr} {sl_get_pair : Array (Option Value)} {oc_get_pair kV_get_pair dc_get_pair pm_get_pair cd_get_pair ct_get_pair : Value}
    (a_get_pair : PySem.W.nsIn K mainGlobals "get_pair" = some (some (.ref f_get_pair)))
    (l_get_pair : K.lookup f_get_pair = some ⟨oc_get_pair, od_get_pair, .func (PySem.W.fnOf "get_pair" "get_pair" (defArgs s_get_pair) (defBody s_get_pair) (defScope s_get_pair) .none kV_get_pair dc_get_pair pm_get_pair an_get_pair cd_get_pair ct_get_pair), sl_get_pair⟩) (c_get_pair : PySem.W.codeIn K cd_get_pair "get_pair" = true) (k_get_pair : PySem.W.keepIn K (.ref f_get_pair) = true)
    {od_get_piece an_get_piece : Option Addr} {sl_get_piece : Array (Option Value)} {oc_get_piece kV_get_piece dc_get_piece pm_get_piece cd_get_piece ct_get_piece : Value}
    (a_get_piece : PySem.W.nsIn K mainGlobals "get_piece" = some (some (.ref f_get_piece)))
    (l_get_piece : K.lookup f_get_piece = some ⟨oc_get_piece, od_get_piece, .func (PySem.W.fnOf "get_piece" "get_piece" (defArgs s_get_piece) (defBody s_get_piece) (defScope s_get_piece) .none kV_get_piece dc_get_piece pm_get_piece an_get_piece cd_get_piece ct_get_piece), sl_get_piece⟩) (c_get_piece : PySem.W.codeIn K cd_get_piece "get_piece" = true) (k_get_piece : PySem.W.keepIn K (.ref f_get_piece) = true)
    {od_get_list an_get_list : Option Addr} {sl_get_list : Array (Option Value)} {oc_get_list kV_get_list dc_get_list pm_get_list cd_get_list ct_get_list : Value}
    (a_get_list : PySem.W.nsIn K mainGlobals "get_list" = some (some (.ref f_get_list)))
    (l_get_list : K.lookup f_get_list = some ⟨oc_get_list, od_get_list, .func (PySem.W.fnOf "get_list" "get_list" (defArgs s_get_list) (defBody s_get_list) (defScope s_get_list) .none kV_get_list dc_get_list pm_get_list an_get_list cd_get_list ct_get_list), sl_get_list⟩) (c_get_list : PySem.W.codeIn K cd_get_list "get_list" = true) (k_get_list : PySem.W.keepIn K (.ref f_get_list) = true)
    {od_get_content an_get_content : Option Addr} {sl_get_content : Array (Option Value)} {oc_get_content kV_get_content dc_get_content pm_get_content cd_get_content ct_get_content : Value}
    (a_get_content : PySem.W.nsIn K mainGlobals "get_content" = some (some (.ref f_get_content)))
    (l_get_content : K.lookup f_get_content = some ⟨oc_get_content, od_get_content, .func (PySem.W.fnOf "get_content" "get_content" (defArgs s_get_content) (defBody s_get_content) (defScope s_get_content) .none kV_get_content dc_get_content pm_get_content an_get_content cd_get_content ct_get_content), sl_get_content⟩) (c_get_content : PySem.W.codeIn K cd_get_content "get_content" = true) (k_get_content : PySem.W.keepIn K (.ref f_get_content) = true)
    {od_get_pack an_get_pack : Option Addr} {sl_get_pack : Array (Option Value)} {oc_get_pack kV_get_pack dc_get_pack pm_get_pack cd_get_pack ct_get_pack : Value}
    (a_get_pack : PySem.W.nsIn K mainGlobals "get_pack" = some (some (.ref f_get_pack)))
    (l_get_pack : K.lookup f_get_pack = some ⟨oc_get_pack, od_get_pack, .func (PySem.W.fnOf "get_pack" "get_pack" (defArgs s_get_pack) (defBody s_get_pack) (defScope s_get_pack) .none kV_get_pack dc_get_pack pm_get_pack an_get_pack cd_get_pack ct_get_pack), sl_get_pack⟩) (c_get_pack : PySem.W.codeIn K cd_get_pack "get_pack" = true) (k_get_pack : PySem.W.keepIn K (.ref f_get_pack) = true)
    {od_text_by an_text_by : Option Addr} {sl_text_by : Array (Option Value)} {oc_text_by kV_text_by dc_text_by pm_text_by cd_text_by ct_text_by : Value}
    (a_text_by : PySem.W.nsIn K mainGlobals "text_by" = some (some (.ref f_text_by)))
    (l_text_by : K.lookup f_text_by = some ⟨oc_text_by, od_text_by, .func (PySem.W.fnOf "text_by" "text_by" (defArgs s_text_by) (defBody s_text_by) (defScope s_text_by) .none kV_text_by dc_text_by pm_text_by an_text_by cd_text_by ct_text_by), sl_text_by⟩) (c_text_by : PySem.W.codeIn K cd_text_by "text_by" = true) (k_text_by : PySem.W.keepIn K (.ref f_text_by) = true)
    {od_text_of an_text_of : Option Addr} {sl_text_of : Array (Option Value)} {oc_text_of kV_text_of dc_text_of pm_text_of cd_text_of ct_text_of : Value}
    (a_text_of : PySem.W.nsIn K mainGlobals "text_of" = some (some (.ref f_text_of)))
    (l_text_of : K.lookup f_text_of = some ⟨oc_text_of, od_text_of, .func (PySem.W.fnOf "text_of" "text_of" (defArgs s_text_of) (defBody s_text_of) (defScope s_text_of) .none kV_text_of dc_text_of pm_text_of an_text_of cd_text_of ct_text_of), sl_text_of⟩) (c_text_of : PySem.W.codeIn K cd_text_of "text_of" = true) (k_text_of : PySem.W.keepIn K (.ref f_text_of) = true)
    {od_row_by an_row_by : Option Addr} {sl_row_by : Array (Option Value)} {oc_row_by kV_row_by dc_row_by pm_row_by cd_row_by ct_row_by : Value}
    (a_row_by : PySem.W.nsIn K mainGlobals "row_by" = some (some (.ref f_row_by)))
    (l_row_by : K.lookup f_row_by = some ⟨oc_row_by, od_row_by, .func (PySem.W.fnOf "row_by" "row_by" (defArgs s_row_by) (defBody s_row_by) (defScope s_row_by) .none kV_row_by dc_row_by pm_row_by an_row_by cd_row_by ct_row_by), sl_row_by⟩) (c_row_by : PySem.W.codeIn K cd_row_by "row_by" = true) (k_row_by : PySem.W.keepIn K (.ref f_row_by) = true)
    {od_row_of an_row_of : Option Addr} {sl_row_of : Array (Option Value)} {oc_row_of kV_row_of dc_row_of pm_row_of cd_row_of ct_row_of : Value}
    (a_row_of : PySem.W.nsIn K mainGlobals "row_of" = some (some (.ref f_row_of)))
    (l_row_of : K.lookup f_row_of = some ⟨oc_row_of, od_row_of, .func (PySem.W.fnOf "row_of" "row_of" (defArgs s_row_of) (defBody s_row_of) (defScope s_row_of) .none kV_row_of dc_row_of pm_row_of an_row_of cd_row_of ct_row_of), sl_row_of⟩) (c_row_of : PySem.W.codeIn K cd_row_of "row_of" = true) (k_row_of : PySem.W.keepIn K (.ref f_row_of) = true)
    {od_law_deck an_law_deck : Option Addr} {sl_law_deck : Array (Option Value)} {oc_law_deck kV_law_deck dc_law_deck pm_law_deck cd_law_deck ct_law_deck : Value}
    (a_law_deck : PySem.W.nsIn K mainGlobals "_law_deck" = some (some (.ref f_law_deck)))
    (l_law_deck : K.lookup f_law_deck = some ⟨oc_law_deck, od_law_deck, .func (PySem.W.fnOf "_law_deck" "_law_deck" (defArgs s_law_deck) (defBody s_law_deck) (defScope s_law_deck) .none kV_law_deck dc_law_deck pm_law_deck an_law_deck cd_law_deck ct_law_deck), sl_law_deck⟩) (c_law_deck : PySem.W.codeIn K cd_law_deck "_law_deck" = true) (k_law_deck : PySem.W.keepIn K (.ref f_law_deck) = true)
    {od_law_mixed an_law_mixed : Option Addr} {sl_law_mixed : Array (Option Value)} {oc_law_mixed kV_law_mixed dc_law_mixed pm_law_mixed cd_law_mixed ct_law_mixed : Value}
    (a_law_mixed : PySem.W.nsIn K mainGlobals "_law_mixed" = some (some (.ref f_law_mixed)))
    (l_law_mixed : K.lookup f_law_mixed = some ⟨oc_law_mixed, od_law_mixed, .func (PySem.W.fnOf "_law_mixed" "_law_mixed" (defArgs s_law_mixed) (defBody s_law_mixed) (defScope s_law_mixed) .none kV_law_mixed dc_law_mixed pm_law_mixed an_law_mixed cd_law_mixed ct_law_mixed), sl_law_mixed⟩) (c_law_mixed : PySem.W.codeIn K cd_law_mixed "_law_mixed" = true) (k_law_mixed : PySem.W.keepIn K (.ref f_law_mixed) = true)
    {od_law_draw an_law_draw : Option Addr} {sl_law_draw : Array (Option Value)} {oc_law_draw kV_law_draw dc_law_draw pm_law_draw cd_law_draw ct_law_draw : Value}
    (a_law_draw : PySem.W.nsIn K mainGlobals "_law_draw" = some (some (.ref f_law_draw)))
    (l_law_draw : K.lookup f_law_draw = some ⟨oc_law_draw, od_law_draw, .func (PySem.W.fnOf "_law_draw" "_law_draw" (defArgs s_law_draw) (defBody s_law_draw) (defScope s_law_draw) .none kV_law_draw dc_law_draw pm_law_draw an_law_draw cd_law_draw ct_law_draw), sl_law_draw⟩) (c_law_draw : PySem.W.codeIn K cd_law_draw "_law_draw" = true) (k_law_draw : PySem.W.keepIn K (.ref f_law_draw) = true)
    {od_law_text an_law_text : Option Addr} {sl_law_text : Array (Option Value)} {oc_law_text kV_law_text dc_law_text pm_law_text cd_law_text ct_law_text : Value}
    (a_law_text : PySem.W.nsIn K mainGlobals "_law_text" = some (some (.ref f_law_text)))
    (l_law_text : K.lookup f_law_text = some ⟨oc_law_text, od_law_text, .func (PySem.W.fnOf "_law_text" "_law_text" (defArgs s_law_text) (defBody s_law_text) (defScope s_law_text) .none kV_law_text dc_law_text pm_law_text an_law_text cd_law_text ct_law_text), sl_law_text⟩) (c_law_text : PySem.W.codeIn K cd_law_text "_law_text" = true) (k_law_text : PySem.W.keepIn K (.ref f_law_text) = true)
    {od_law_label an_law_label : Option Addr} {sl_law_label : Array (Option Value)} {oc_law_label kV_law_label dc_law_label pm_law_label cd_law_label ct_law_label : Value}
    (a_law_label : PySem.W.nsIn K mainGlobals "_law_label" = some (some (.ref f_law_label)))
    (l_law_label : K.lookup f_law_label = some ⟨oc_law_label, od_law_label, .func (PySem.W.fnOf "_law_label" "_law_label" (defArgs s_law_label) (defBody s_law_label) (defScope s_law_label) .none kV_law_label dc_law_label pm_law_label an_law_label cd_law_label ct_law_label), sl_law_label⟩) (c_law_label : PySem.W.codeIn K cd_law_label "_law_label" = true) (k_law_label : PySem.W.keepIn K (.ref f_law_label) = true)
    {od_law_int an_law_int : Option Addr} {sl_law_int : Array (Option Value)} {oc_law_int kV_law_int dc_law_int pm_law_int cd_law_int ct_law_int : Value}
    (a_law_int : PySem.W.nsIn K mainGlobals "_law_int" = some (some (.ref f_law_int)))
    (l_law_int : K.lookup f_law_int = some ⟨oc_law_int, od_law_int, .func (PySem.W.fnOf "_law_int" "_law_int" (defArgs s_law_int) (defBody s_law_int) (defScope s_law_int) .none kV_law_int dc_law_int pm_law_int an_law_int cd_law_int ct_law_int), sl_law_int⟩) (c_law_int : PySem.W.codeIn K cd_law_int "_law_int" = true) (k_law_int : PySem.W.keepIn K (.ref f_law_int) = true)
    {od_law_ints an_law_ints : Option Addr} {sl_law_ints : Array (Option Value)} {oc_law_ints kV_law_ints dc_law_ints pm_law_ints cd_law_ints ct_law_ints : Value}
    (a_law_ints : PySem.W.nsIn K mainGlobals "_law_ints" = some (some (.ref f_law_ints)))
    (l_law_ints : K.lookup f_law_ints = some ⟨oc_law_ints, od_law_ints, .func (PySem.W.fnOf "_law_ints" "_law_ints" (defArgs s_law_ints) (defBody s_law_ints) (defScope s_law_ints) .none kV_law_ints dc_law_ints pm_law_ints an_law_ints cd_law_ints ct_law_ints), sl_law_ints⟩) (c_law_ints : PySem.W.codeIn K cd_law_ints "_law_ints" = true) (k_law_ints : PySem.W.keepIn K (.ref f_law_ints) = true)
    {od_law_leaf_rows an_law_leaf_rows : Option Addr} {sl_law_leaf_rows : Array (Option Value)} {oc_law_leaf_rows kV_law_leaf_rows dc_law_leaf_rows pm_law_leaf_rows cd_law_leaf_rows ct_law_leaf_rows : Value}
    (a_law_leaf_rows : PySem.W.nsIn K mainGlobals "_law_leaf_rows" = some (some (.ref f_law_leaf_rows)))
    (l_law_leaf_rows : K.lookup f_law_leaf_rows = some ⟨oc_law_leaf_rows, od_law_leaf_rows, .func (PySem.W.fnOf "_law_leaf_rows" "_law_leaf_rows" (defArgs s_law_leaf_rows) (defBody s_law_leaf_rows) (defScope s_law_leaf_rows) .none kV_law_leaf_rows dc_law_leaf_rows pm_law_leaf_rows an_law_leaf_rows cd_law_leaf_rows ct_law_leaf_rows), sl_law_leaf_rows⟩) (c_law_leaf_rows : PySem.W.codeIn K cd_law_leaf_rows "_law_leaf_rows" = true) (k_law_leaf_rows : PySem.W.keepIn K (.ref f_law_leaf_rows) = true)
    {od_law_pairs an_law_pairs : Option Addr} {sl_law_pairs : Array (Option Value)} {oc_law_pairs kV_law_pairs dc_law_pairs pm_law_pairs cd_law_pairs ct_law_pairs : Value}
    (a_law_pairs : PySem.W.nsIn K mainGlobals "_law_pairs" = some (some (.ref f_law_pairs)))
    (l_law_pairs : K.lookup f_law_pairs = some ⟨oc_law_pairs, od_law_pairs, .func (PySem.W.fnOf "_law_pairs" "_law_pairs" (defArgs s_law_pairs) (defBody s_law_pairs) (defScope s_law_pairs) .none kV_law_pairs dc_law_pairs pm_law_pairs an_law_pairs cd_law_pairs ct_law_pairs), sl_law_pairs⟩) (c_law_pairs : PySem.W.codeIn K cd_law_pairs "_law_pairs" = true) (k_law_pairs : PySem.W.keepIn K (.ref f_law_pairs) = true)
    {od_law_marks an_law_marks : Option Addr} {sl_law_marks : Array (Option Value)} {oc_law_marks kV_law_marks dc_law_marks pm_law_marks cd_law_marks ct_law_marks : Value}
    (a_law_marks : PySem.W.nsIn K mainGlobals "_law_marks" = some (some (.ref f_law_marks)))
    (l_law_marks : K.lookup f_law_marks = some ⟨oc_law_marks, od_law_marks, .func (PySem.W.fnOf "_law_marks" "_law_marks" (defArgs s_law_marks) (defBody s_law_marks) (defScope s_law_marks) .none kV_law_marks dc_law_marks pm_law_marks an_law_marks cd_law_marks ct_law_marks), sl_law_marks⟩) (c_law_marks : PySem.W.codeIn K cd_law_marks "_law_marks" = true) (k_law_marks : PySem.W.keepIn K (.ref f_law_marks) = true)
    {od_law_pieces an_law_pieces : Option Addr} {sl_law_pieces : Array (Option Value)} {oc_law_pieces kV_law_pieces dc_law_pieces pm_law_pieces cd_law_pieces ct_law_pieces : Value}
    (a_law_pieces : PySem.W.nsIn K mainGlobals "_law_pieces" = some (some (.ref f_law_pieces)))
    (l_law_pieces : K.lookup f_law_pieces = some ⟨oc_law_pieces, od_law_pieces, .func (PySem.W.fnOf "_law_pieces" "_law_pieces" (defArgs s_law_pieces) (defBody s_law_pieces) (defScope s_law_pieces) .none kV_law_pieces dc_law_pieces pm_law_pieces an_law_pieces cd_law_pieces ct_law_pieces), sl_law_pieces⟩) (c_law_pieces : PySem.W.codeIn K cd_law_pieces "_law_pieces" = true) (k_law_pieces : PySem.W.keepIn K (.ref f_law_pieces) = true)
    {od_law_pack an_law_pack : Option Addr} {sl_law_pack : Array (Option Value)} {oc_law_pack kV_law_pack dc_law_pack pm_law_pack cd_law_pack ct_law_pack : Value}
    (a_law_pack : PySem.W.nsIn K mainGlobals "_law_pack" = some (some (.ref f_law_pack)))
    (l_law_pack : K.lookup f_law_pack = some ⟨oc_law_pack, od_law_pack, .func (PySem.W.fnOf "_law_pack" "_law_pack" (defArgs s_law_pack) (defBody s_law_pack) (defScope s_law_pack) .none kV_law_pack dc_law_pack pm_law_pack an_law_pack cd_law_pack ct_law_pack), sl_law_pack⟩) (c_law_pack : PySem.W.codeIn K cd_law_pack "_law_pack" = true) (k_law_pack : PySem.W.keepIn K (.ref f_law_pack) = true)
    {od_law_row an_law_row : Option Addr} {sl_law_row : Array (Option Value)} {oc_law_row kV_law_row dc_law_row pm_law_row cd_law_row ct_law_row : Value}
    (a_law_row : PySem.W.nsIn K mainGlobals "_law_row" = some (some (.ref f_law_row)))
    (l_law_row : K.lookup f_law_row = some ⟨oc_law_row, od_law_row, .func (PySem.W.fnOf "_law_row" "_law_row" (defArgs s_law_row) (defBody s_law_row) (defScope s_law_row) .none kV_law_row dc_law_row pm_law_row an_law_row cd_law_row ct_law_row), sl_law_row⟩) (c_law_row : PySem.W.codeIn K cd_law_row "_law_row" = true) (k_law_row : PySem.W.keepIn K (.ref f_law_row) = true)
    {od_law_words an_law_words : Option Addr} {sl_law_words : Array (Option Value)} {oc_law_words kV_law_words dc_law_words pm_law_words cd_law_words ct_law_words : Value}
    (a_law_words : PySem.W.nsIn K mainGlobals "_law_words" = some (some (.ref f_law_words)))
    (l_law_words : K.lookup f_law_words = some ⟨oc_law_words, od_law_words, .func (PySem.W.fnOf "_law_words" "_law_words" (defArgs s_law_words) (defBody s_law_words) (defScope s_law_words) .none kV_law_words dc_law_words pm_law_words an_law_words cd_law_words ct_law_words), sl_law_words⟩) (c_law_words : PySem.W.codeIn K cd_law_words "_law_words" = true) (k_law_words : PySem.W.keepIn K (.ref f_law_words) = true)
    {od_law_pack_words an_law_pack_words : Option Addr} {sl_law_pack_words : Array (Option Value)} {oc_law_pack_words kV_law_pack_words dc_law_pack_words pm_law_pack_words cd_law_pack_words ct_law_pack_words : Value}
    (a_law_pack_words : PySem.W.nsIn K mainGlobals "_law_pack_words" = some (some (.ref f_law_pack_words)))
    (l_law_pack_words : K.lookup f_law_pack_words = some ⟨oc_law_pack_words, od_law_pack_words, .func (PySem.W.fnOf "_law_pack_words" "_law_pack_words" (defArgs s_law_pack_words) (defBody s_law_pack_words) (defScope s_law_pack_words) .none kV_law_pack_words dc_law_pack_words pm_law_pack_words an_law_pack_words cd_law_pack_words ct_law_pack_words), sl_law_pack_words⟩) (c_law_pack_words : PySem.W.codeIn K cd_law_pack_words "_law_pack_words" = true) (k_law_pack_words : PySem.W.keepIn K (.ref f_law_pack_words) = true)
    {od_law_written an_law_written : Option Addr} {sl_law_written : Array (Option Value)} {oc_law_written kV_law_written dc_law_written pm_law_written cd_law_written ct_law_written : Value}
    (a_law_written : PySem.W.nsIn K mainGlobals "_law_written" = some (some (.ref f_law_written)))
    (l_law_written : K.lookup f_law_written = some ⟨oc_law_written, od_law_written, .func (PySem.W.fnOf "_law_written" "_law_written" (defArgs s_law_written) (defBody s_law_written) (defScope s_law_written) .none kV_law_written dc_law_written pm_law_written an_law_written cd_law_written ct_law_written), sl_law_written⟩) (c_law_written : PySem.W.codeIn K cd_law_written "_law_written" = true) (k_law_written : PySem.W.keepIn K (.ref f_law_written) = true)
    {od_law_refused an_law_refused : Option Addr} {sl_law_refused : Array (Option Value)} {oc_law_refused kV_law_refused dc_law_refused pm_law_refused cd_law_refused ct_law_refused : Value}
    (a_law_refused : PySem.W.nsIn K mainGlobals "_law_refused" = some (some (.ref f_law_refused)))
    (l_law_refused : K.lookup f_law_refused = some ⟨oc_law_refused, od_law_refused, .func (PySem.W.fnOf "_law_refused" "_law_refused" (defArgs s_law_refused) (defBody s_law_refused) (defScope s_law_refused) .none kV_law_refused dc_law_refused pm_law_refused an_law_refused cd_law_refused ct_law_refused), sl_law_refused⟩) (c_law_refused : PySem.W.codeIn K cd_law_refused "_law_refused" = true) (k_law_refused : PySem.W.keepIn K (.ref f_law_refused) = true)
    {od_law an_law : Option Addr} {sl_law : Array (Option Value)} {oc_law kV_law dc_law pm_law cd_law ct_law : Value}
    (a_law : PySem.W.nsIn K mainGlobals "law" = some (some (.ref f_law)))
    (l_law : K.lookup f_law = some ⟨oc_law, od_law, .func (PySem.W.fnOf "law" "law" (defArgs s_law) (defBody s_law) (defScope s_law) .none kV_law dc_law pm_law an_law cd_law ct_law), sl_law⟩) (c_law : PySem.W.codeIn K cd_law "law" = true) (k_law : PySem.W.keepIn K (.ref f_law) = true)
    (kga_Desk : PySem.W.nsIn K mainGlobals "Desk" = some (some (.ref C_Desk))) (kpg_Desk : PySem.W.plainGet K C_Desk Str.empty = true) (khd_Desk : PySem.W.hasDictIn K C_Desk = true) (kpo_Desk : PySem.W.plainOver K C_Desk = true) (ksa_Desk : PySem.W.findIn K (.ref C_Desk) "__setattr__" = some (some (.builtin "object.__setattr__"))) (kmk_Desk : PySem.W.makesIn K C_Desk = true) (kkc_Desk : PySem.W.keepIn K (.ref C_Desk) = true)
    (kna_Desk_words : PySem.W.findIn K (.ref C_Desk) "words" = some none)
    (kna_Desk_lines : PySem.W.findIn K (.ref C_Desk) "lines" = some none)
    (kna_Desk_word_place : PySem.W.findIn K (.ref C_Desk) "word_place" = some none)
    (kna_Desk_line_place : PySem.W.findIn K (.ref C_Desk) "line_place" = some none)
    (z_len : PySem.W.nsIn K mainGlobals "len" = some none)
    (z_list : PySem.W.nsIn K mainGlobals "list" = some none)
    (z_isinstance : PySem.W.nsIn K mainGlobals "isinstance" = some none)
    (z_int : PySem.W.nsIn K mainGlobals "int" = some none)
    (z_bool : PySem.W.nsIn K mainGlobals "bool" = some none)
    (z_str : PySem.W.nsIn K mainGlobals "str" = some none)
    (z_tuple : PySem.W.nsIn K mainGlobals "tuple" = some none)
    (z_all : PySem.W.nsIn K mainGlobals "all" = some none)
    (z_range : PySem.W.nsIn K mainGlobals "range" = some none)
    (z_zip : PySem.W.nsIn K mainGlobals "zip" = some none)
    (z_ord : PySem.W.nsIn K mainGlobals "ord" = some none)
    (z_set : PySem.W.nsIn K mainGlobals "set" = some none)
    (z_sorted : PySem.W.nsIn K mainGlobals "sorted" = some none)
    (z_max : PySem.W.nsIn K mainGlobals "max" = some none)
    (z_repr : PySem.W.nsIn K mainGlobals "repr" = some none)
    {t_GREATEST : Tok} (y_GREATEST : PySem.W.nsIn K mainGlobals "GREATEST" = some (some (.int 1000000000000000000 t_GREATEST)))
    {t_MANY : Tok} (y_MANY : PySem.W.nsIn K mainGlobals "MANY" = some (some (.int 400 t_MANY)))
    {t_ROWS : Tok} (y_ROWS : PySem.W.nsIn K mainGlobals "ROWS" = some (some (.int 40 t_ROWS)))
    {t_LETTERS : Tok} (y_LETTERS : PySem.W.nsIn K mainGlobals "LETTERS" = some (some (.str "abcdefghijklmnopqrstuvwxyz" t_LETTERS)))
    {t_FIGURES : Tok} (y_FIGURES : PySem.W.nsIn K mainGlobals "FIGURES" = some (some (.str "0123456789" t_FIGURES)))
    {C_NoText : Addr} (xa_NoText : PySem.W.nsIn K mainGlobals "NoText" = some (some (.ref C_NoText))) (xx_NoText : PySem.W.excIn K C_NoText [.type "ValueError", .type "Exception", .type "BaseException", .type "object"] "ValueError.__new__" = true) (xk_NoText : PySem.W.keepIn K (.ref C_NoText) = true) (xb_NoText : PySem.W.subIn K (.ref C_NoText) (.type "BaseException") = some true) (xt_NoText : PySem.W.typeIn K (.ref C_NoText) = some (.type "type")) (xi_NoText : PySem.W.isClsIn K C_NoText = true) (xs_NoText : PySem.W.subIn K (.ref C_NoText) (.ref C_NoText) = some true)
    (es_NoText_NoText : PySem.W.subIn K (.ref C_NoText) (.ref C_NoText) = some true)
    {ka_FORMS : Addr} (ga_FORMS : PySem.W.nsIn K mainGlobals "FORMS" = some (some (.ref ka_FORMS)))
    {ka_PUTS : Addr} (ga_PUTS : PySem.W.nsIn K mainGlobals "PUTS" = some (some (.ref ka_PUTS)))
    {ka_PUTS_EACH : Addr} (ga_PUTS_EACH : PySem.W.nsIn K mainGlobals "PUTS_EACH" = some (some (.ref ka_PUTS_EACH)))
    {qF0 qF1 qF2 qF3 qF4 qF5 qF6 qF7 qF8 qF9 qF10 : Addr} {dF : Option Addr} {nF : Nat} {sF : Array (Option Value)} (lF_FORMS : K.lookup ka_FORMS = some ⟨.type "tuple", dF, .seq #[.ref qF0, .ref qF1, .ref qF2, .ref qF3, .ref qF4, .ref qF5, .ref qF6, .ref qF7, .ref qF8, .ref qF9, .ref qF10] nF, sF⟩)
    {dq0 : Option Addr} {nq0 : Nat} {sq0 : Array (Option Value)} {tq0 : Tok} {kF0 : Addr} (lq0 : K.lookup qF0 = some ⟨.type "tuple", dq0, .seq #[.str "hello" tq0, .ref kF0] nq0, sq0⟩)
    {dk0 : Option Addr} {nk0 : Nat} {sk0 : Array (Option Value)} (lk0 : K.lookup kF0 = some ⟨.type "tuple", dk0, .seq #[] nk0, sk0⟩)
    {dq1 : Option Addr} {nq1 : Nat} {sq1 : Array (Option Value)} {tq1 : Tok} {kF1 : Addr} (lq1 : K.lookup qF1 = some ⟨.type "tuple", dq1, .seq #[.str "have" tq1, .ref kF1] nq1, sq1⟩)
    {dk1 : Option Addr} {nk1 : Nat} {sk1 : Array (Option Value)} {tk1_0 : Tok} (lk1 : K.lookup kF1 = some ⟨.type "tuple", dk1, .seq #[.str "ints" tk1_0] nk1, sk1⟩)
    {dq2 : Option Addr} {nq2 : Nat} {sq2 : Array (Option Value)} {tq2 : Tok} {kF2 : Addr} (lq2 : K.lookup qF2 = some ⟨.type "tuple", dq2, .seq #[.str "have" tq2, .ref kF2] nq2, sq2⟩)
    {dk2 : Option Addr} {nk2 : Nat} {sk2 : Array (Option Value)} {tk2_0 : Tok} (lk2 : K.lookup kF2 = some ⟨.type "tuple", dk2, .seq #[.str "truths" tk2_0] nk2, sk2⟩)
    {dq3 : Option Addr} {nq3 : Nat} {sq3 : Array (Option Value)} {tq3 : Tok} {kF3 : Addr} (lq3 : K.lookup qF3 = some ⟨.type "tuple", dq3, .seq #[.str "want" tq3, .ref kF3] nq3, sq3⟩)
    {dk3 : Option Addr} {nk3 : Nat} {sk3 : Array (Option Value)} {tk3_0 : Tok} {tk3_1 : Tok} {tk3_2 : Tok} {tk3_3 : Tok} {tk3_4 : Tok} {tk3_5 : Tok} (lk3 : K.lookup kF3 = some ⟨.type "tuple", dk3, .seq #[.str "ints" tk3_0, .str "int" tk3_1, .str "labels" tk3_2, .str "ints" tk3_3, .str "truth" tk3_4, .str "ints" tk3_5] nk3, sk3⟩)
    {dq4 : Option Addr} {nq4 : Nat} {sq4 : Array (Option Value)} {tq4 : Tok} {kF4 : Addr} (lq4 : K.lookup qF4 = some ⟨.type "tuple", dq4, .seq #[.str "lack" tq4, .ref kF4] nq4, sq4⟩)
    {dk4 : Option Addr} {nk4 : Nat} {sk4 : Array (Option Value)} {tk4_0 : Tok} {tk4_1 : Tok} (lk4 : K.lookup kF4 = some ⟨.type "tuple", dk4, .seq #[.str "ints" tk4_0, .str "ints" tk4_1] nk4, sk4⟩)
    {dq5 : Option Addr} {nq5 : Nat} {sq5 : Array (Option Value)} {tq5 : Tok} {kF5 : Addr} (lq5 : K.lookup qF5 = some ⟨.type "tuple", dq5, .seq #[.str "row" tq5, .ref kF5] nq5, sq5⟩)
    {dk5 : Option Addr} {nk5 : Nat} {sk5 : Array (Option Value)} {tk5_0 : Tok} (lk5 : K.lookup kF5 = some ⟨.type "tuple", dk5, .seq #[.str "int" tk5_0] nk5, sk5⟩)
    {dq6 : Option Addr} {nq6 : Nat} {sq6 : Array (Option Value)} {tq6 : Tok} {kF6 : Addr} (lq6 : K.lookup qF6 = some ⟨.type "tuple", dq6, .seq #[.str "done" tq6, .ref kF6] nq6, sq6⟩)
    {dk6 : Option Addr} {nk6 : Nat} {sk6 : Array (Option Value)} (lk6 : K.lookup kF6 = some ⟨.type "tuple", dk6, .seq #[] nk6, sk6⟩)
    {dq7 : Option Addr} {nq7 : Nat} {sq7 : Array (Option Value)} {tq7 : Tok} {kF7 : Addr} (lq7 : K.lookup qF7 = some ⟨.type "tuple", dq7, .seq #[.str "house" tq7, .ref kF7] nq7, sq7⟩)
    {dk7 : Option Addr} {nk7 : Nat} {sk7 : Array (Option Value)} {tk7_0 : Tok} {tk7_1 : Tok} {tk7_2 : Tok} (lk7 : K.lookup kF7 = some ⟨.type "tuple", dk7, .seq #[.str "marks" tk7_0, .str "ints" tk7_1, .str "int" tk7_2] nk7, sk7⟩)
    {dq8 : Option Addr} {nq8 : Nat} {sq8 : Array (Option Value)} {tq8 : Tok} {kF8 : Addr} (lq8 : K.lookup qF8 = some ⟨.type "tuple", dq8, .seq #[.str "bill" tq8, .ref kF8] nq8, sq8⟩)
    {dk8 : Option Addr} {nk8 : Nat} {sk8 : Array (Option Value)} {tk8_0 : Tok} {tk8_1 : Tok} {tk8_2 : Tok} (lk8 : K.lookup kF8 = some ⟨.type "tuple", dk8, .seq #[.str "ints" tk8_0, .str "ints" tk8_1, .str "ints" tk8_2] nk8, sk8⟩)
    {dq9 : Option Addr} {nq9 : Nat} {sq9 : Array (Option Value)} {tq9 : Tok} {kF9 : Addr} (lq9 : K.lookup qF9 = some ⟨.type "tuple", dq9, .seq #[.str "pack" tq9, .ref kF9] nq9, sq9⟩)
    {dk9 : Option Addr} {nk9 : Nat} {sk9 : Array (Option Value)} {tk9_0 : Tok} {tk9_1 : Tok} (lk9 : K.lookup kF9 = some ⟨.type "tuple", dk9, .seq #[.str "int" tk9_0, .str "int" tk9_1] nk9, sk9⟩)
    {dq10 : Option Addr} {nq10 : Nat} {sq10 : Array (Option Value)} {tq10 : Tok} {kF10 : Addr} (lq10 : K.lookup qF10 = some ⟨.type "tuple", dq10, .seq #[.str "row" tq10, .ref kF10] nq10, sq10⟩)
    {dk10 : Option Addr} {nk10 : Nat} {sk10 : Array (Option Value)} {tk10_0 : Tok} {tk10_1 : Tok} (lk10 : K.lookup kF10 = some ⟨.type "tuple", dk10, .seq #[.str "int" tk10_0, .str "pack row" tk10_1] nk10, sk10⟩)
    {epp : Nat} {hp0 hp1 hp2 : Int} {tp0 tp1 tp2 : Tok} (lD_PUTS : K.lookup ka_PUTS = some ⟨.type "dict", none, .dict #[⟨hp0, .str "int" tp0, .ref f_put_int⟩, ⟨hp1, .str "truth" tp1, .ref f_put_truth⟩, ⟨hp2, .str "pack row" tp2, .ref f_put_pack⟩] epp, #[]⟩)
     (rf_sp : (ka_PUTS == sysModules) = false)
     (rf_hp0 : hp0 = hashStr w "int")
     (rf_hp1 : hp1 = hashStr w "truth")
     (rf_hp2 : hp2 = hashStr w "pack row")
    {epe : Nat} {he0 he1 he2 he3 : Int} {te0 te1 te2 te3 : Tok} (lD_PUTS_EACH : K.lookup ka_PUTS_EACH = some ⟨.type "dict", none, .dict #[⟨he0, .str "ints" te0, .ref f_put_int⟩, ⟨he1, .str "truths" te1, .ref f_put_truth⟩, ⟨he2, .str "labels" te2, .ref f_put_label⟩, ⟨he3, .str "marks" te3, .ref f_put_pair⟩] epe, #[]⟩)
     (rf_se : (ka_PUTS_EACH == sysModules) = false)
     (rf_he0 : he0 = hashStr w "ints")
     (rf_he1 : he1 = hashStr w "truths")
     (rf_he2 : he2 = hashStr w "labels")
     (rf_he3 : he3 = hashStr w "marks")
    {ka_GETS : Addr} (ga_GETS : PySem.W.nsIn K mainGlobals "GETS" = some (some (.ref ka_GETS)))
    {ka_GETS_EACH : Addr} (ga_GETS_EACH : PySem.W.nsIn K mainGlobals "GETS_EACH" = some (some (.ref ka_GETS_EACH)))
    {epg : Nat} {hg0 hg1 hg2 : Int} {tg0 tg1 tg2 : Tok} (lD_GETS : K.lookup ka_GETS = some ⟨.type "dict", none, .dict #[⟨hg0, .str "int" tg0, .ref f_get_int⟩, ⟨hg1, .str "truth" tg1, .ref f_get_truth⟩, ⟨hg2, .str "pack row" tg2, .ref f_get_pack⟩] epg, #[]⟩)
     (rf_sg : (ka_GETS == sysModules) = false)
     (rf_hg0 : hg0 = hashStr w "int")
     (rf_hg1 : hg1 = hashStr w "truth")
     (rf_hg2 : hg2 = hashStr w "pack row")
    {epb : Nat} {hb0 hb1 hb2 hb3 : Int} {tb0 tb1 tb2 tb3 : Tok} (lD_GETS_EACH : K.lookup ka_GETS_EACH = some ⟨.type "dict", none, .dict #[⟨hb0, .str "ints" tb0, .ref f_get_int⟩, ⟨hb1, .str "truths" tb1, .ref f_get_truth⟩, ⟨hb2, .str "labels" tb2, .ref f_get_label⟩, ⟨hb3, .str "marks" tb3, .ref f_get_pair⟩] epb, #[]⟩)
     (rf_sb : (ka_GETS_EACH == sysModules) = false)
     (rf_hb0 : hb0 = hashStr w "ints")
     (rf_hb1 : hb1 = hashStr w "truths")
     (rf_hb2 : hb2 = hashStr w "labels")
     (rf_hb3 : hb3 = hashStr w "marks")
    : ∃ fd : FuncData, (∀ (s : Shared) (v : Value), BindsTo s fd ⟨[v], []⟩ [("_law_script", v)]) ∧ ∀ base : Heap, K.In base → base.Ns mainGlobals mg → FnG l.prog w K mg base CX0 12 fa fd ["_law_script"] (spLaw K) := by
  have e := hfa.symm.trans (PySem.W.mg_of X G a_law)
  cases e
  have F_Desk___init__ := fun_mk (st := s_Desk___init__) l_Desk___init__ c_Desk___init__ k_Desk___init__
  have D_Desk___init__ : DfM K C_Desk "__init__" "Desk.__init__" s_Desk___init__ ["self", "text"] _ _ := ⟨F_Desk___init__, F_Desk___init__.binds (ps := ["self", "text"]) fun _ _ _ _ _ _ us hl => match us, hl with | [_, _], _ => rfl, ⟨a_Desk___init__, i_Desk___init__, k_Desk___init__⟩⟩
  have F_Desk_next_word := fun_mk (st := s_Desk_next_word) l_Desk_next_word c_Desk_next_word k_Desk_next_word
  have D_Desk_next_word : DfM K C_Desk "next_word" "Desk.next_word" s_Desk_next_word ["self"] _ _ := ⟨F_Desk_next_word, F_Desk_next_word.binds (ps := ["self"]) fun _ _ _ _ _ _ us hl => match us, hl with | [_], _ => rfl, ⟨a_Desk_next_word, i_Desk_next_word, k_Desk_next_word⟩⟩
  have F_Desk_need := fun_mk (st := s_Desk_need) l_Desk_need c_Desk_need k_Desk_need
  have D_Desk_need : DfM K C_Desk "need" "Desk.need" s_Desk_need ["self", "word"] _ _ := ⟨F_Desk_need, F_Desk_need.binds (ps := ["self", "word"]) fun _ _ _ _ _ _ us hl => match us, hl with | [_, _], _ => rfl, ⟨a_Desk_need, i_Desk_need, k_Desk_need⟩⟩
  have F_Desk_is_next := fun_mk (st := s_Desk_is_next) l_Desk_is_next c_Desk_is_next k_Desk_is_next
  have D_Desk_is_next : DfM K C_Desk "is_next" "Desk.is_next" s_Desk_is_next ["self", "word"] _ _ := ⟨F_Desk_is_next, F_Desk_is_next.binds (ps := ["self", "word"]) fun _ _ _ _ _ _ us hl => match us, hl with | [_, _], _ => rfl, ⟨a_Desk_is_next, i_Desk_is_next, k_Desk_is_next⟩⟩
  have F_Desk_next_lines := fun_mk (st := s_Desk_next_lines) l_Desk_next_lines c_Desk_next_lines k_Desk_next_lines
  have D_Desk_next_lines : DfM K C_Desk "next_lines" "Desk.next_lines" s_Desk_next_lines ["self", "many"] _ _ := ⟨F_Desk_next_lines, F_Desk_next_lines.binds (ps := ["self", "many"]) fun _ _ _ _ _ _ us hl => match us, hl with | [_, _], _ => rfl, ⟨a_Desk_next_lines, i_Desk_next_lines, k_Desk_next_lines⟩⟩
  have F_Desk_is_done := fun_mk (st := s_Desk_is_done) l_Desk_is_done c_Desk_is_done k_Desk_is_done
  have D_Desk_is_done : DfM K C_Desk "is_done" "Desk.is_done" s_Desk_is_done ["self"] _ _ := ⟨F_Desk_is_done, F_Desk_is_done.binds (ps := ["self"]) fun _ _ _ _ _ _ us hl => match us, hl with | [_], _ => rfl, ⟨a_Desk_is_done, i_Desk_is_done, k_Desk_is_done⟩⟩
  have F_need := fun_mk (st := s_need) l_need c_need k_need
  have D_need : Df K mg "need" s_need ["good"] _ _ := ⟨F_need, F_need.binds (ps := ["good"]) fun _ _ _ _ _ _ us hl => match us, hl with | [_], _ => rfl, PySem.W.mg_of X G a_need⟩
  have F_is_int := fun_mk (st := s_is_int) l_is_int c_is_int k_is_int
  have D_is_int : Df K mg "is_int" s_is_int ["thing"] _ _ := ⟨F_is_int, F_is_int.binds (ps := ["thing"]) fun _ _ _ _ _ _ us hl => match us, hl with | [_], _ => rfl, PySem.W.mg_of X G a_is_int⟩
  have F_is_label := fun_mk (st := s_is_label) l_is_label c_is_label k_is_label
  have D_is_label : Df K mg "is_label" s_is_label ["thing"] _ _ := ⟨F_is_label, F_is_label.binds (ps := ["thing"]) fun _ _ _ _ _ _ us hl => match us, hl with | [_], _ => rfl, PySem.W.mg_of X G a_is_label⟩
  have F_is_row := fun_mk (st := s_is_row) l_is_row c_is_row k_is_row
  have D_is_row : Df K mg "is_row" s_is_row ["thing"] _ _ := ⟨F_is_row, F_is_row.binds (ps := ["thing"]) fun _ _ _ _ _ _ us hl => match us, hl with | [_], _ => rfl, PySem.W.mg_of X G a_is_row⟩
  have F_are_rows := fun_mk (st := s_are_rows) l_are_rows c_are_rows k_are_rows
  have D_are_rows : Df K mg "are_rows" s_are_rows ["thing"] _ _ := ⟨F_are_rows, F_are_rows.binds (ps := ["thing"]) fun _ _ _ _ _ _ us hl => match us, hl with | [_], _ => rfl, PySem.W.mg_of X G a_are_rows⟩
  have F_is_list := fun_mk (st := s_is_list) l_is_list c_is_list k_is_list
  have D_is_list : Df K mg "is_list" s_is_list ["thing", "most"] _ _ := ⟨F_is_list, F_is_list.binds (ps := ["thing", "most"]) fun _ _ _ _ _ _ us hl => match us, hl with | [_, _], _ => rfl, PySem.W.mg_of X G a_is_list⟩
  have F_is_pair := fun_mk (st := s_is_pair) l_is_pair c_is_pair k_is_pair
  have D_is_pair : Df K mg "is_pair" s_is_pair ["thing"] _ _ := ⟨F_is_pair, F_is_pair.binds (ps := ["thing"]) fun _ _ _ _ _ _ us hl => match us, hl with | [_], _ => rfl, PySem.W.mg_of X G a_is_pair⟩
  have F_rises := fun_mk (st := s_rises) l_rises c_rises k_rises
  have D_rises : Df K mg "rises" s_rises ["things"] _ _ := ⟨F_rises, F_rises.binds (ps := ["things"]) fun _ _ _ _ _ _ us hl => match us, hl with | [_], _ => rfl, PySem.W.mg_of X G a_rises⟩
  have F_put_int := fun_mk (st := s_put_int) l_put_int c_put_int k_put_int
  have D_put_int : Df K mg "put_int" s_put_int ["thing", "words", "lines"] _ _ := ⟨F_put_int, F_put_int.binds (ps := ["thing", "words", "lines"]) fun _ _ _ _ _ _ us hl => match us, hl with | [_, _, _], _ => rfl, PySem.W.mg_of X G a_put_int⟩
  have F_put_truth := fun_mk (st := s_put_truth) l_put_truth c_put_truth k_put_truth
  have D_put_truth : Df K mg "put_truth" s_put_truth ["thing", "words", "lines"] _ _ := ⟨F_put_truth, F_put_truth.binds (ps := ["thing", "words", "lines"]) fun _ _ _ _ _ _ us hl => match us, hl with | [_, _, _], _ => rfl, PySem.W.mg_of X G a_put_truth⟩
  have F_put_label := fun_mk (st := s_put_label) l_put_label c_put_label k_put_label
  have D_put_label : Df K mg "put_label" s_put_label ["thing", "words", "lines"] _ _ := ⟨F_put_label, F_put_label.binds (ps := ["thing", "words", "lines"]) fun _ _ _ _ _ _ us hl => match us, hl with | [_, _, _], _ => rfl, PySem.W.mg_of X G a_put_label⟩
  have F_put_pair := fun_mk (st := s_put_pair) l_put_pair c_put_pair k_put_pair
  have D_put_pair : Df K mg "put_pair" s_put_pair ["thing", "words", "lines"] _ _ := ⟨F_put_pair, F_put_pair.binds (ps := ["thing", "words", "lines"]) fun _ _ _ _ _ _ us hl => match us, hl with | [_, _, _], _ => rfl, PySem.W.mg_of X G a_put_pair⟩
  have F_put_piece := fun_mk (st := s_put_piece) l_put_piece c_put_piece k_put_piece
  have D_put_piece : Df K mg "put_piece" s_put_piece ["thing", "words", "lines"] _ _ := ⟨F_put_piece, F_put_piece.binds (ps := ["thing", "words", "lines"]) fun _ _ _ _ _ _ us hl => match us, hl with | [_, _, _], _ => rfl, PySem.W.mg_of X G a_put_piece⟩
  have F_put_list := fun_mk (st := s_put_list) l_put_list c_put_list k_put_list
  have D_put_list : Df K mg "put_list" s_put_list ["thing", "most", "each", "words", "lines"] _ _ := ⟨F_put_list, F_put_list.binds (ps := ["thing", "most", "each", "words", "lines"]) fun _ _ _ _ _ _ us hl => match us, hl with | [_, _, _, _, _], _ => rfl, PySem.W.mg_of X G a_put_list⟩
  have F_put_content := fun_mk (st := s_put_content) l_put_content c_put_content k_put_content
  have D_put_content : Df K mg "put_content" s_put_content ["thing", "words", "lines"] _ _ := ⟨F_put_content, F_put_content.binds (ps := ["thing", "words", "lines"]) fun _ _ _ _ _ _ us hl => match us, hl with | [_, _, _], _ => rfl, PySem.W.mg_of X G a_put_content⟩
  have F_put_pack := fun_mk (st := s_put_pack) l_put_pack c_put_pack k_put_pack
  have D_put_pack : Df K mg "put_pack" s_put_pack ["thing", "words", "lines"] _ _ := ⟨F_put_pack, F_put_pack.binds (ps := ["thing", "words", "lines"]) fun _ _ _ _ _ _ us hl => match us, hl with | [_, _, _], _ => rfl, PySem.W.mg_of X G a_put_pack⟩
  have F_get_int := fun_mk (st := s_get_int) l_get_int c_get_int k_get_int
  have D_get_int : Df K mg "get_int" s_get_int ["desk"] _ _ := ⟨F_get_int, F_get_int.binds (ps := ["desk"]) fun _ _ _ _ _ _ us hl => match us, hl with | [_], _ => rfl, PySem.W.mg_of X G a_get_int⟩
  have F_get_truth := fun_mk (st := s_get_truth) l_get_truth c_get_truth k_get_truth
  have D_get_truth : Df K mg "get_truth" s_get_truth ["desk"] _ _ := ⟨F_get_truth, F_get_truth.binds (ps := ["desk"]) fun _ _ _ _ _ _ us hl => match us, hl with | [_], _ => rfl, PySem.W.mg_of X G a_get_truth⟩
  have F_get_label := fun_mk (st := s_get_label) l_get_label c_get_label k_get_label
  have D_get_label : Df K mg "get_label" s_get_label ["desk"] _ _ := ⟨F_get_label, F_get_label.binds (ps := ["desk"]) fun _ _ _ _ _ _ us hl => match us, hl with | [_], _ => rfl, PySem.W.mg_of X G a_get_label⟩
  have F_get_pair := fun_mk (st := s_get_pair) l_get_pair c_get_pair k_get_pair
  have D_get_pair : Df K mg "get_pair" s_get_pair ["desk"] _ _ := ⟨F_get_pair, F_get_pair.binds (ps := ["desk"]) fun _ _ _ _ _ _ us hl => match us, hl with | [_], _ => rfl, PySem.W.mg_of X G a_get_pair⟩
  have F_get_piece := fun_mk (st := s_get_piece) l_get_piece c_get_piece k_get_piece
  have D_get_piece : Df K mg "get_piece" s_get_piece ["desk"] _ _ := ⟨F_get_piece, F_get_piece.binds (ps := ["desk"]) fun _ _ _ _ _ _ us hl => match us, hl with | [_], _ => rfl, PySem.W.mg_of X G a_get_piece⟩
  have F_get_list := fun_mk (st := s_get_list) l_get_list c_get_list k_get_list
  have D_get_list : Df K mg "get_list" s_get_list ["desk", "most", "each"] _ _ := ⟨F_get_list, F_get_list.binds (ps := ["desk", "most", "each"]) fun _ _ _ _ _ _ us hl => match us, hl with | [_, _, _], _ => rfl, PySem.W.mg_of X G a_get_list⟩
  have F_get_content := fun_mk (st := s_get_content) l_get_content c_get_content k_get_content
  have D_get_content : Df K mg "get_content" s_get_content ["desk"] _ _ := ⟨F_get_content, F_get_content.binds (ps := ["desk"]) fun _ _ _ _ _ _ us hl => match us, hl with | [_], _ => rfl, PySem.W.mg_of X G a_get_content⟩
  have F_get_pack := fun_mk (st := s_get_pack) l_get_pack c_get_pack k_get_pack
  have D_get_pack : Df K mg "get_pack" s_get_pack ["desk"] _ _ := ⟨F_get_pack, F_get_pack.binds (ps := ["desk"]) fun _ _ _ _ _ _ us hl => match us, hl with | [_], _ => rfl, PySem.W.mg_of X G a_get_pack⟩
  have F_text_by := fun_mk (st := s_text_by) l_text_by c_text_by k_text_by
  have D_text_by : Df K mg "text_by" s_text_by ["row", "word", "kinds"] _ _ := ⟨F_text_by, F_text_by.binds (ps := ["row", "word", "kinds"]) fun _ _ _ _ _ _ us hl => match us, hl with | [_, _, _], _ => rfl, PySem.W.mg_of X G a_text_by⟩
  have F_text_of := fun_mk (st := s_text_of) l_text_of c_text_of k_text_of
  have D_text_of : Df K mg "text_of" s_text_of ["row"] _ _ := ⟨F_text_of, F_text_of.binds (ps := ["row"]) fun _ _ _ _ _ _ us hl => match us, hl with | [_], _ => rfl, PySem.W.mg_of X G a_text_of⟩
  have F_row_by := fun_mk (st := s_row_by) l_row_by c_row_by k_row_by
  have D_row_by : Df K mg "row_by" s_row_by ["text", "word", "kinds"] _ _ := ⟨F_row_by, F_row_by.binds (ps := ["text", "word", "kinds"]) fun _ _ _ _ _ _ us hl => match us, hl with | [_, _, _], _ => rfl, PySem.W.mg_of X G a_row_by⟩
  have F_row_of := fun_mk (st := s_row_of) l_row_of c_row_of k_row_of
  have D_row_of : Df K mg "row_of" s_row_of ["text"] _ _ := ⟨F_row_of, F_row_of.binds (ps := ["text"]) fun _ _ _ _ _ _ us hl => match us, hl with | [_], _ => rfl, PySem.W.mg_of X G a_row_of⟩
  have F_law_deck := fun_mk (st := s_law_deck) l_law_deck c_law_deck k_law_deck
  have D_law_deck : Df K mg "_law_deck" s_law_deck ["_law_script"] _ _ := ⟨F_law_deck, F_law_deck.binds (ps := ["_law_script"]) fun _ _ _ _ _ _ us hl => match us, hl with | [_], _ => rfl, PySem.W.mg_of X G a_law_deck⟩
  have F_law_mixed := fun_mk (st := s_law_mixed) l_law_mixed c_law_mixed k_law_mixed
  have D_law_mixed : Df K mg "_law_mixed" s_law_mixed ["_law_cell", "_law_turn"] _ _ := ⟨F_law_mixed, F_law_mixed.binds (ps := ["_law_cell", "_law_turn"]) fun _ _ _ _ _ _ us hl => match us, hl with | [_, _], _ => rfl, PySem.W.mg_of X G a_law_mixed⟩
  have F_law_draw := fun_mk (st := s_law_draw) l_law_draw c_law_draw k_law_draw
  have D_law_draw : Df K mg "_law_draw" s_law_draw ["_law_deck_here", "_law_many"] _ _ := ⟨F_law_draw, F_law_draw.binds (ps := ["_law_deck_here", "_law_many"]) fun _ _ _ _ _ _ us hl => match us, hl with | [_, _], _ => rfl, PySem.W.mg_of X G a_law_draw⟩
  have F_law_text := fun_mk (st := s_law_text) l_law_text c_law_text k_law_text
  have D_law_text : Df K mg "_law_text" s_law_text ["_law_deck_here", "_law_size"] _ _ := ⟨F_law_text, F_law_text.binds (ps := ["_law_deck_here", "_law_size"]) fun _ _ _ _ _ _ us hl => match us, hl with | [_, _], _ => rfl, PySem.W.mg_of X G a_law_text⟩
  have F_law_label := fun_mk (st := s_law_label) l_law_label c_law_label k_law_label
  have D_law_label : Df K mg "_law_label" s_law_label ["_law_deck_here"] _ _ := ⟨F_law_label, F_law_label.binds (ps := ["_law_deck_here"]) fun _ _ _ _ _ _ us hl => match us, hl with | [_], _ => rfl, PySem.W.mg_of X G a_law_label⟩
  have F_law_int := fun_mk (st := s_law_int) l_law_int c_law_int k_law_int
  have D_law_int : Df K mg "_law_int" s_law_int ["_law_deck_here"] _ _ := ⟨F_law_int, F_law_int.binds (ps := ["_law_deck_here"]) fun _ _ _ _ _ _ us hl => match us, hl with | [_], _ => rfl, PySem.W.mg_of X G a_law_int⟩
  have F_law_ints := fun_mk (st := s_law_ints) l_law_ints c_law_ints k_law_ints
  have D_law_ints : Df K mg "_law_ints" s_law_ints ["_law_deck_here"] _ _ := ⟨F_law_ints, F_law_ints.binds (ps := ["_law_deck_here"]) fun _ _ _ _ _ _ us hl => match us, hl with | [_], _ => rfl, PySem.W.mg_of X G a_law_ints⟩
  have F_law_leaf_rows := fun_mk (st := s_law_leaf_rows) l_law_leaf_rows c_law_leaf_rows k_law_leaf_rows
  have D_law_leaf_rows : Df K mg "_law_leaf_rows" s_law_leaf_rows ["_law_deck_here", "_law_low"] _ _ := ⟨F_law_leaf_rows, F_law_leaf_rows.binds (ps := ["_law_deck_here", "_law_low"]) fun _ _ _ _ _ _ us hl => match us, hl with | [_, _], _ => rfl, PySem.W.mg_of X G a_law_leaf_rows⟩
  have F_law_pairs := fun_mk (st := s_law_pairs) l_law_pairs c_law_pairs k_law_pairs
  have D_law_pairs : Df K mg "_law_pairs" s_law_pairs ["_law_deck_here"] _ _ := ⟨F_law_pairs, F_law_pairs.binds (ps := ["_law_deck_here"]) fun _ _ _ _ _ _ us hl => match us, hl with | [_], _ => rfl, PySem.W.mg_of X G a_law_pairs⟩
  have F_law_marks := fun_mk (st := s_law_marks) l_law_marks c_law_marks k_law_marks
  have D_law_marks : Df K mg "_law_marks" s_law_marks ["_law_deck_here"] _ _ := ⟨F_law_marks, F_law_marks.binds (ps := ["_law_deck_here"]) fun _ _ _ _ _ _ us hl => match us, hl with | [_], _ => rfl, PySem.W.mg_of X G a_law_marks⟩
  have F_law_pieces := fun_mk (st := s_law_pieces) l_law_pieces c_law_pieces k_law_pieces
  have D_law_pieces : Df K mg "_law_pieces" s_law_pieces ["_law_deck_here"] _ _ := ⟨F_law_pieces, F_law_pieces.binds (ps := ["_law_deck_here"]) fun _ _ _ _ _ _ us hl => match us, hl with | [_], _ => rfl, PySem.W.mg_of X G a_law_pieces⟩
  have F_law_pack := fun_mk (st := s_law_pack) l_law_pack c_law_pack k_law_pack
  have D_law_pack : Df K mg "_law_pack" s_law_pack ["_law_deck_here", "_law_turn"] _ _ := ⟨F_law_pack, F_law_pack.binds (ps := ["_law_deck_here", "_law_turn"]) fun _ _ _ _ _ _ us hl => match us, hl with | [_, _], _ => rfl, PySem.W.mg_of X G a_law_pack⟩
  have F_law_row := fun_mk (st := s_law_row) l_law_row c_law_row k_law_row
  have D_law_row : Df K mg "_law_row" s_law_row ["_law_deck_here", "_law_turn"] _ _ := ⟨F_law_row, F_law_row.binds (ps := ["_law_deck_here", "_law_turn"]) fun _ _ _ _ _ _ us hl => match us, hl with | [_, _], _ => rfl, PySem.W.mg_of X G a_law_row⟩
  have F_law_words := fun_mk (st := s_law_words) l_law_words c_law_words k_law_words
  have D_law_words : Df K mg "_law_words" s_law_words ["_law_thing"] _ _ := ⟨F_law_words, F_law_words.binds (ps := ["_law_thing"]) fun _ _ _ _ _ _ us hl => match us, hl with | [_], _ => rfl, PySem.W.mg_of X G a_law_words⟩
  have F_law_pack_words := fun_mk (st := s_law_pack_words) l_law_pack_words c_law_pack_words k_law_pack_words
  have D_law_pack_words : Df K mg "_law_pack_words" s_law_pack_words ["_law_row_here", "_law_lines"] _ _ := ⟨F_law_pack_words, F_law_pack_words.binds (ps := ["_law_row_here", "_law_lines"]) fun _ _ _ _ _ _ us hl => match us, hl with | [_, _], _ => rfl, PySem.W.mg_of X G a_law_pack_words⟩
  have F_law_written := fun_mk (st := s_law_written) l_law_written c_law_written k_law_written
  have D_law_written : Df K mg "_law_written" s_law_written ["_law_row_here"] _ _ := ⟨F_law_written, F_law_written.binds (ps := ["_law_row_here"]) fun _ _ _ _ _ _ us hl => match us, hl with | [_], _ => rfl, PySem.W.mg_of X G a_law_written⟩
  have F_law_refused := fun_mk (st := s_law_refused) l_law_refused c_law_refused k_law_refused
  have D_law_refused : Df K mg "_law_refused" s_law_refused ["_law_text_here"] _ _ := ⟨F_law_refused, F_law_refused.binds (ps := ["_law_text_here"]) fun _ _ _ _ _ _ us hl => match us, hl with | [_], _ => rfl, PySem.W.mg_of X G a_law_refused⟩
  have F_law := fun_mk (st := s_law) l_law c_law k_law
  have D_law : Df K mg "law" s_law ["_law_script"] _ _ := ⟨F_law, F_law.binds (ps := ["_law_script"]) fun _ _ _ _ _ _ us hl => match us, hl with | [_], _ => rfl, PySem.W.mg_of X G a_law⟩
  have K_Desk : Kl K mg "Desk" C_Desk ["words", "lines", "word_place", "line_place"] := ⟨PySem.W.mg_of X G kga_Desk, ⟨kpg_Desk, khd_Desk, kpo_Desk, ksa_Desk⟩, fun y hy => by
    rcases (by simpa using hy : y = "words" ∨ y = "lines" ∨ y = "word_place" ∨ y = "line_place") with rfl | rfl | rfl | rfl
    · exact kna_Desk_words
    · exact kna_Desk_lines
    · exact kna_Desk_word_place
    · exact kna_Desk_line_place⟩
  have M_Desk : Mk K C_Desk f_Desk___init__ := ⟨kmk_Desk, a_Desk___init__, i_Desk___init__, kkc_Desk⟩
  have T : Txt K mg := ⟨PySem.W.mg_none_of X G z_len, PySem.W.mg_none_of X G z_list, PySem.W.mg_none_of X G z_isinstance, PySem.W.mg_none_of X G z_int, PySem.W.mg_none_of X G z_bool, PySem.W.mg_none_of X G z_str, PySem.W.mg_none_of X G z_tuple, PySem.W.mg_none_of X G z_all, PySem.W.mg_none_of X G z_range, PySem.W.mg_none_of X G z_zip, PySem.W.mg_none_of X G z_ord, PySem.W.mg_none_of X G z_set, PySem.W.mg_none_of X G z_sorted, PySem.W.mg_none_of X G z_max, PySem.W.mg_none_of X G z_repr, ⟨_, PySem.W.mg_of X G y_GREATEST⟩, ⟨_, PySem.W.mg_of X G y_MANY⟩, ⟨_, PySem.W.mg_of X G y_ROWS⟩, ⟨_, PySem.W.mg_of X G y_LETTERS⟩, ⟨_, PySem.W.mg_of X G y_FIGURES⟩⟩
  have X_NoText : Exn K mg "NoText" C_NoText := ⟨PySem.W.mg_of X G xa_NoText, xx_NoText, xk_NoText, xb_NoText, xt_NoText, exm_is xb_NoText xi_NoText xt_NoText xs_NoText⟩
  exact ⟨PySem.W.fnOf "law" "law" (defArgs s_law) (defBody s_law) (defScope s_law) .none kV_law dc_law pm_law an_law cd_law ct_law, fun s v => .of_eq rfl, fun base _ _ => ok_law T D_Desk___init__ D_Desk_next_word D_Desk_need D_Desk_is_next D_Desk_next_lines D_Desk_is_done D_need D_is_int D_is_label D_is_row D_are_rows D_is_list D_is_pair D_rises D_put_int D_put_truth D_put_label D_put_pair D_put_piece D_put_list D_put_content D_put_pack D_get_int D_get_truth D_get_label D_get_pair D_get_piece D_get_list D_get_content D_get_pack D_text_by D_text_of D_row_by D_row_of D_law_deck D_law_mixed D_law_draw D_law_text D_law_label D_law_int D_law_ints D_law_leaf_rows D_law_pairs D_law_marks D_law_pieces D_law_pack D_law_row D_law_words D_law_pack_words D_law_written D_law_refused D_law K_Desk M_Desk X_NoText (exm_is xb_NoText xi_NoText xt_NoText es_NoText_NoText) (PySem.W.mg_of X G ga_FORMS) (formsAt_mk lF_FORMS lq0 lk0 lq1 lk1 lq2 lk2 lq3 lk3 lq4 lk4 lq5 lk5 lq6 lk6 lq7 lk7 lq8 lk8 lq9 lk9 lq10 lk10) (PySem.W.mg_of X G ga_PUTS) (kdPuts rf_sp lD_PUTS rf_hp0 rf_hp1 rf_hp2) (PySem.W.mg_of X G ga_PUTS_EACH) (kdEach rf_se lD_PUTS_EACH rf_he0 rf_he1 rf_he2 rf_he3) (PySem.W.mg_of X G ga_GETS) (kdPuts rf_sg lD_GETS rf_hg0 rf_hg1 rf_hg2) (PySem.W.mg_of X G ga_GETS_EACH) (kdEach rf_sb lD_GETS_EACH rf_hb0 rf_hb1 rf_hb2 rf_hb3)⟩
end FW
open PySem PySem.W PyProof.Rows
set_option maxRecDepth 100000 in
set_option maxHeartbeats 0 in
theorem PySem.Challenge.cw_fewasks_k76_texts_read_holds : PySem.Challenge.rw_fewasks_k76_texts_read.Holds := by
  w_on; o_law; k_head; (case hw => w_witness2)
  k_fill
  refine FW.walk_ofG (l := PySem.Challenge.rw_fewasks_k76_texts_read) (n := 63) (k := 12) (x := "_law_script") (CX := fun _ => L2.CX0) (sp := fun w => FW.spLaw _) rfl (by decide) rfl ⟨rfl, by decide, by decide⟩ (fun w h Y => PySem.W.kIn_of Y) ?F (fun _ _ a ns hl _ hS => ⟨a, ns, rfl, hS, hl, fun _ => rfl⟩) (fun _ _ _ _ _ h => h)
  case F =>
    intro w mg fa h KX G hmg
    refine' FW.all_mk KX G hmg ?a_Desk___init__ ?i_Desk___init__ ?l_Desk___init__ ?c_Desk___init__ ?k_Desk___init__ ?a_Desk_next_word ?i_Desk_next_word ?l_Desk_next_word ?c_Desk_next_word ?k_Desk_next_word ?a_Desk_need ?i_Desk_need ?l_Desk_need ?c_Desk_need ?k_Desk_need ?a_Desk_is_next ?i_Desk_is_next ?l_Desk_is_next ?c_Desk_is_next ?k_Desk_is_next ?a_Desk_next_lines ?i_Desk_next_lines ?l_Desk_next_lines ?c_Desk_next_lines ?k_Desk_next_lines ?a_Desk_is_done ?i_Desk_is_done ?l_Desk_is_done ?c_Desk_is_done ?k_Desk_is_done ?a_need ?l_need ?c_need ?k_need ?a_is_int ?l_is_int ?c_is_int ?k_is_int ?a_is_label ?l_is_label ?c_is_label ?k_is_label ?a_is_row ?l_is_row ?c_is_row ?k_is_row ?a_are_rows ?l_are_rows ?c_are_rows ?k_are_rows ?a_is_list ?l_is_list ?c_is_list ?k_is_list ?a_is_pair ?l_is_pair ?c_is_pair ?k_is_pair ?a_rises ?l_rises ?c_rises ?k_rises ?a_put_int ?l_put_int ?c_put_int ?k_put_int ?a_put_truth ?l_put_truth ?c_put_truth ?k_put_truth ?a_put_label ?l_put_label ?c_put_label ?k_put_label ?a_put_pair ?l_put_pair ?c_put_pair ?k_put_pair ?a_put_piece ?l_put_piece ?c_put_piece ?k_put_piece ?a_put_list ?l_put_list ?c_put_list ?k_put_list ?a_put_content ?l_put_content ?c_put_content ?k_put_content ?a_put_pack ?l_put_pack ?c_put_pack ?k_put_pack ?a_get_int ?l_get_int ?c_get_int ?k_get_int ?a_get_truth ?l_get_truth ?c_get_truth ?k_get_truth ?a_get_label ?l_get_label ?c_get_label ?k_get_label ?a_get_pair ?l_get_pair ?c_get_pair ?k_get_pair ?a_get_piece ?l_get_piece ?c_get_piece ?k_get_piece ?a_get_list ?l_get_list ?c_get_list ?k_get_list ?a_get_content ?l_get_content ?c_get_content ?k_get_content ?a_get_pack ?l_get_pack ?c_get_pack ?k_get_pack ?a_text_by ?l_text_by ?c_text_by ?k_text_by ?a_text_of ?l_text_of ?c_text_of ?k_text_of ?a_row_by ?l_row_by ?c_row_by ?k_row_by ?a_row_of ?l_row_of ?c_row_of ?k_row_of ?a_law_deck ?l_law_deck ?c_law_deck ?k_law_deck ?a_law_mixed ?l_law_mixed ?c_law_mixed ?k_law_mixed ?a_law_draw ?l_law_draw ?c_law_draw ?k_law_draw ?a_law_text ?l_law_text ?c_law_text ?k_law_text ?a_law_label ?l_law_label ?c_law_label ?k_law_label ?a_law_int ?l_law_int ?c_law_int ?k_law_int ?a_law_ints ?l_law_ints ?c_law_ints ?k_law_ints ?a_law_leaf_rows ?l_law_leaf_rows ?c_law_leaf_rows ?k_law_leaf_rows ?a_law_pairs ?l_law_pairs ?c_law_pairs ?k_law_pairs ?a_law_marks ?l_law_marks ?c_law_marks ?k_law_marks ?a_law_pieces ?l_law_pieces ?c_law_pieces ?k_law_pieces ?a_law_pack ?l_law_pack ?c_law_pack ?k_law_pack ?a_law_row ?l_law_row ?c_law_row ?k_law_row ?a_law_words ?l_law_words ?c_law_words ?k_law_words ?a_law_pack_words ?l_law_pack_words ?c_law_pack_words ?k_law_pack_words ?a_law_written ?l_law_written ?c_law_written ?k_law_written ?a_law_refused ?l_law_refused ?c_law_refused ?k_law_refused ?a_law ?l_law ?c_law ?k_law ?kga_Desk ?kpg_Desk ?khd_Desk ?kpo_Desk ?ksa_Desk ?kmk_Desk ?kkc_Desk ?kna_Desk_words ?kna_Desk_lines ?kna_Desk_word_place ?kna_Desk_line_place ?z_len ?z_list ?z_isinstance ?z_int ?z_bool ?z_str ?z_tuple ?z_all ?z_range ?z_zip ?z_ord ?z_set ?z_sorted ?z_max ?z_repr ?y_GREATEST ?y_MANY ?y_ROWS ?y_LETTERS ?y_FIGURES ?xa_NoText ?xx_NoText ?xk_NoText ?xb_NoText ?xt_NoText ?xi_NoText ?xs_NoText ?es_NoText_NoText ?ga_FORMS ?ga_PUTS ?ga_PUTS_EACH ?lF_FORMS ?lq0 ?lk0 ?lq1 ?lk1 ?lq2 ?lk2 ?lq3 ?lk3 ?lq4 ?lk4 ?lq5 ?lk5 ?lq6 ?lk6 ?lq7 ?lk7 ?lq8 ?lk8 ?lq9 ?lk9 ?lq10 ?lk10 ?lD_PUTS ?rf_sp ?rf_hp0 ?rf_hp1 ?rf_hp2 ?lD_PUTS_EACH ?rf_se ?rf_he0 ?rf_he1 ?rf_he2 ?rf_he3 ?ga_GETS ?ga_GETS_EACH ?lD_GETS ?rf_sg ?rf_hg0 ?rf_hg1 ?rf_hg2 ?lD_GETS_EACH ?rf_sb ?rf_hb0 ?rf_hb1 ?rf_hb2 ?rf_hb3
    (case kga_Desk => k_is); (case a_Desk___init__ => k_is); (case a_Desk_next_word => k_is); (case a_Desk_need => k_is); (case a_Desk_is_next => k_is); (case a_Desk_next_lines => k_is); (case a_Desk_is_done => k_is); (case i_Desk___init__ => k_is); (case l_Desk___init__ => k_is); (case c_Desk___init__ => k_is); (case k_Desk___init__ => k_is); (case i_Desk_next_word => k_is); (case l_Desk_next_word => k_is); (case c_Desk_next_word => k_is); (case k_Desk_next_word => k_is); (case i_Desk_need => k_is); (case l_Desk_need => k_is); (case c_Desk_need => k_is); (case k_Desk_need => k_is); (case i_Desk_is_next => k_is); (case l_Desk_is_next => k_is); (case c_Desk_is_next => k_is); (case k_Desk_is_next => k_is); (case i_Desk_next_lines => k_is); (case l_Desk_next_lines => k_is); (case c_Desk_next_lines => k_is); (case k_Desk_next_lines => k_is); (case i_Desk_is_done => k_is); (case l_Desk_is_done => k_is); (case c_Desk_is_done => k_is); (case k_Desk_is_done => k_is); (case a_need => k_is); (case l_need => k_is); (case c_need => k_is); (case k_need => k_is); (case a_is_int => k_is); (case l_is_int => k_is); (case c_is_int => k_is); (case k_is_int => k_is); (case a_is_label => k_is); (case l_is_label => k_is); (case c_is_label => k_is); (case k_is_label => k_is); (case a_is_row => k_is); (case l_is_row => k_is); (case c_is_row => k_is); (case k_is_row => k_is); (case a_are_rows => k_is); (case l_are_rows => k_is); (case c_are_rows => k_is); (case k_are_rows => k_is); (case a_is_list => k_is); (case l_is_list => k_is); (case c_is_list => k_is); (case k_is_list => k_is); (case a_is_pair => k_is); (case l_is_pair => k_is); (case c_is_pair => k_is); (case k_is_pair => k_is); (case a_rises => k_is); (case l_rises => k_is); (case c_rises => k_is); (case k_rises => k_is); (case a_put_int => k_is); (case l_put_int => k_is); (case c_put_int => k_is); (case k_put_int => k_is); (case a_put_truth => k_is); (case l_put_truth => k_is); (case c_put_truth => k_is); (case k_put_truth => k_is); (case a_put_label => k_is); (case l_put_label => k_is); (case c_put_label => k_is); (case k_put_label => k_is); (case a_put_pair => k_is); (case l_put_pair => k_is); (case c_put_pair => k_is); (case k_put_pair => k_is); (case a_put_piece => k_is); (case l_put_piece => k_is); (case c_put_piece => k_is); (case k_put_piece => k_is); (case a_put_list => k_is); (case l_put_list => k_is); (case c_put_list => k_is); (case k_put_list => k_is); (case a_put_content => k_is); (case l_put_content => k_is); (case c_put_content => k_is); (case k_put_content => k_is); (case a_put_pack => k_is); (case l_put_pack => k_is); (case c_put_pack => k_is); (case k_put_pack => k_is); (case a_get_int => k_is); (case l_get_int => k_is); (case c_get_int => k_is); (case k_get_int => k_is); (case a_get_truth => k_is); (case l_get_truth => k_is); (case c_get_truth => k_is); (case k_get_truth => k_is); (case a_get_label => k_is); (case l_get_label => k_is); (case c_get_label => k_is); (case k_get_label => k_is); (case a_get_pair => k_is); (case l_get_pair => k_is); (case c_get_pair => k_is); (case k_get_pair => k_is); (case a_get_piece => k_is); (case l_get_piece => k_is); (case c_get_piece => k_is); (case k_get_piece => k_is); (case a_get_list => k_is); (case l_get_list => k_is); (case c_get_list => k_is); (case k_get_list => k_is); (case a_get_content => k_is); (case l_get_content => k_is); (case c_get_content => k_is); (case k_get_content => k_is); (case a_get_pack => k_is); (case l_get_pack => k_is); (case c_get_pack => k_is); (case k_get_pack => k_is); (case a_text_by => k_is); (case l_text_by => k_is); (case c_text_by => k_is); (case k_text_by => k_is); (case a_text_of => k_is); (case l_text_of => k_is); (case c_text_of => k_is); (case k_text_of => k_is); (case a_row_by => k_is); (case l_row_by => k_is); (case c_row_by => k_is); (case k_row_by => k_is); (case a_row_of => k_is); (case l_row_of => k_is); (case c_row_of => k_is); (case k_row_of => k_is); (case a_law_deck => k_is); (case l_law_deck => k_is); (case c_law_deck => k_is); (case k_law_deck => k_is); (case a_law_mixed => k_is); (case l_law_mixed => k_is); (case c_law_mixed => k_is); (case k_law_mixed => k_is); (case a_law_draw => k_is); (case l_law_draw => k_is); (case c_law_draw => k_is); (case k_law_draw => k_is); (case a_law_text => k_is); (case l_law_text => k_is); (case c_law_text => k_is); (case k_law_text => k_is); (case a_law_label => k_is); (case l_law_label => k_is); (case c_law_label => k_is); (case k_law_label => k_is); (case a_law_int => k_is); (case l_law_int => k_is); (case c_law_int => k_is); (case k_law_int => k_is); (case a_law_ints => k_is); (case l_law_ints => k_is); (case c_law_ints => k_is); (case k_law_ints => k_is); (case a_law_leaf_rows => k_is); (case l_law_leaf_rows => k_is); (case c_law_leaf_rows => k_is); (case k_law_leaf_rows => k_is); (case a_law_pairs => k_is); (case l_law_pairs => k_is); (case c_law_pairs => k_is); (case k_law_pairs => k_is); (case a_law_marks => k_is); (case l_law_marks => k_is); (case c_law_marks => k_is); (case k_law_marks => k_is); (case a_law_pieces => k_is); (case l_law_pieces => k_is); (case c_law_pieces => k_is); (case k_law_pieces => k_is); (case a_law_pack => k_is); (case l_law_pack => k_is); (case c_law_pack => k_is); (case k_law_pack => k_is); (case a_law_row => k_is); (case l_law_row => k_is); (case c_law_row => k_is); (case k_law_row => k_is); (case a_law_words => k_is); (case l_law_words => k_is); (case c_law_words => k_is); (case k_law_words => k_is); (case a_law_pack_words => k_is); (case l_law_pack_words => k_is); (case c_law_pack_words => k_is); (case k_law_pack_words => k_is); (case a_law_written => k_is); (case l_law_written => k_is); (case c_law_written => k_is); (case k_law_written => k_is); (case a_law_refused => k_is); (case l_law_refused => k_is); (case c_law_refused => k_is); (case k_law_refused => k_is); (case a_law => k_is); (case l_law => k_is); (case c_law => k_is); (case k_law => k_is); (case kpg_Desk => k_is); (case khd_Desk => k_is); (case kpo_Desk => k_is); (case ksa_Desk => k_is); (case kmk_Desk => k_is); (case kkc_Desk => k_is); (case kna_Desk_words => k_is); (case kna_Desk_lines => k_is); (case kna_Desk_word_place => k_is); (case kna_Desk_line_place => k_is); (case z_len => k_is); (case z_list => k_is); (case z_isinstance => k_is); (case z_int => k_is); (case z_bool => k_is); (case z_str => k_is); (case z_tuple => k_is); (case z_all => k_is); (case z_range => k_is); (case z_zip => k_is); (case z_ord => k_is); (case z_set => k_is); (case z_sorted => k_is); (case z_max => k_is); (case z_repr => k_is); (case y_GREATEST => k_is); (case y_MANY => k_is); (case y_ROWS => k_is); (case y_LETTERS => k_is); (case y_FIGURES => k_is); (case xa_NoText => k_is); (case xx_NoText => k_exc); (case xk_NoText => k_is); (case xb_NoText => k_is); (case xt_NoText => k_is); (case xi_NoText => k_is); (case xs_NoText => k_is); (case es_NoText_NoText => k_is); (case ga_FORMS => k_is); (case ga_PUTS => k_is); (case ga_PUTS_EACH => k_is); (case lF_FORMS => k_is); (case lq0 => k_is); (case lk0 => k_is); (case lq1 => k_is); (case lk1 => k_is); (case lq2 => k_is); (case lk2 => k_is); (case lq3 => k_is); (case lk3 => k_is); (case lq4 => k_is); (case lk4 => k_is); (case lq5 => k_is); (case lk5 => k_is); (case lq6 => k_is); (case lk6 => k_is); (case lq7 => k_is); (case lk7 => k_is); (case lq8 => k_is); (case lk8 => k_is); (case lq9 => k_is); (case lk9 => k_is); (case lq10 => k_is); (case lk10 => k_is); (case lD_PUTS => k_is); (case rf_sp => rfl); (case rf_hp0 => rfl); (case rf_hp1 => rfl); (case rf_hp2 => rfl); (case lD_PUTS_EACH => k_is); (case rf_se => rfl); (case rf_he0 => rfl); (case rf_he1 => rfl); (case rf_he2 => rfl); (case rf_he3 => rfl); (case ga_GETS => k_is); (case ga_GETS_EACH => k_is); (case lD_GETS => k_is); (case rf_sg => rfl); (case rf_hg0 => rfl); (case rf_hg1 => rfl); (case rf_hg2 => rfl); (case lD_GETS_EACH => k_is); (case rf_sb => rfl); (case rf_hb0 => rfl); (case rf_hb1 => rfl); (case rf_hb2 => rfl); (case rf_hb3 => rfl)

