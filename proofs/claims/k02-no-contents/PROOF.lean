import PyProof.Rows.All
import Wide.All
import OpenK.AllK
import Wide.FinOn
import HandS.ForMost
import HandS.Wide
import HandS.WideBits
import HandS.Conv
import HandS.IsInst
import HandS.Walk
import HandS.TupLe
import HandS.TupAny
import HandS.DictComp
import HandS.SetKeys
import HandS.ForExc
import HandS.ExcIs
import HandS.ExcInit
import HandS.ExcField
import HandS.Defaults
import HandS.CallSlots
import HandS.MakeKwOnly
import KE.DatumOrd
import PyProof.Claim2Refuses
import KE.GoesEnum
import HandS.WordsDict
import HandS.SortInts
import HandS.Zip
import PyProof.CollectIter
import PyProof.WalksMore
import HandS.TryMany
import KE.KTryMore
import HandS.TryOnly
import HandS.TupMul
import KE.KxIndex
import KE.KeyNested
import HandS.SetFor
import HandS.Strs
import HandS.SortKw
import HandS.Deep
import HandS.DictTup
import HandS.ListItems
import KE.SortData
import HandS.ClsMeth
import HandS.More
import KE.KCallOwn
import HandS.Lambda
import HandS.EndOwn
import PySem.Challenge.RW_fewasks_k02_no_contents
set_option Elab.async false
set_option linter.all false
set_option maxRecDepth 100000
/-! My own small words over the layer: steps of readings as lemmas, heaps that keep. -/
namespace FW
open PySem L2
/-! ### heaps -/
/-- all that stood stands, but at the addresses M -/
def Kp (M : List Addr) (H H' : Hp) : Prop := ∀ b o, b ∉ M → H b = some o → H' b = some o
theorem Kp.refl {M : List Addr} {H : Hp} : Kp M H H := fun _ _ _ h => h
theorem Kp.trans {M : List Addr} {H H1 H2 : Hp} (a : Kp M H H1) (b : Kp M H1 H2) : Kp M H H2 := fun c o n h => b c o n (a c o n h)
theorem Kp.mono {M N : List Addr} {H H1 : Hp} (a : Kp M H H1) (s : ∀ x ∈ M, x ∈ N) : Kp N H H1 := fun c o n h => a c o (fun z => n (s c z)) h
theorem Kp.same {H H1 : Hp} (a : Kp [] H H1) : Same H H1 := fun c o h => a c o (by simp) h
theorem Kp.of {M : List Addr} {H H1 : Hp} (a : Same H H1) : Kp M H H1 := fun c o _ h => a c o h
theorem Kp.new {M : List Addr} {H : Hp} {p : Addr} {o : HO} (h : H p = none) : Kp M H (upd H p o) := fun b u _ e => by rw [upd_ne (ne_of_none e h)]; exact e
theorem Kp.mut {M : List Addr} {H : Hp} {p : Addr} {o : HO} (h : p ∈ M) : Kp M H (upd H p o) := fun b u n e => by
  rw [upd_ne (show b ≠ p from fun z => n (by rw [z]; exact h))]; exact e
/-- a new object that was mutated or laid since: it stood not at the start -/
theorem Kp.mutN {M : List Addr} {H H1 : Hp} {p : Addr} {o : HO} (k : Kp M H H1) (h : H p = none) : Kp M H (upd H1 p o) := fun b u n e => by
  rw [upd_ne (ne_of_none e h)]; exact k b u n e
theorem Same.new {H : Hp} {p : Addr} {o : HO} (h : H p = none) : Same H (upd H p o) := fun b u e => by rw [upd_ne (ne_of_none e h)]; exact e
theorem upd_get {H : Hp} {a b : Addr} {o u : HO} (h : b ≠ a) (e : H b = some u) : upd H a o b = some u := by rw [upd_ne h]; exact e
theorem upd_none {H : Hp} {a b : Addr} {o : HO} (e : upd H a o b = none) : H b = none ∧ b ≠ a := by
  by_cases h : b = a
  · subst h; rw [upd_same] at e; cases e
  · rw [upd_ne h] at e; exact ⟨e, h⟩
/-- all but p is as it was -/
def Off (p : Addr) (H H' : Hp) : Prop := ∀ b, b ≠ p → H' b = H b
theorem Off.get {p b : Addr} {H H' : Hp} {o : HO} (k : Off p H H') (n : b ≠ p) (e : H b = some o) : H' b = some o := (k b n).trans e
theorem Off.kp {p : Addr} {M : List Addr} {H H' : Hp} (k : Off p H H') (m : p ∈ M) : Kp M H H' := fun b o n e => (k b (fun z => n (by rw [z]; exact m))).trans e
theorem Off.trans {p : Addr} {H H1 H2 : Hp} (a : Off p H H1) (b : Off p H1 H2) : Off p H H2 := fun x n => (b x n).trans (a x n)
theorem Off.keep {p : Addr} {M : List Addr} {H H1 H2 : Hp} (a : Kp M H H1) (b : Off p H1 H2) (n : H p = none) : Kp M H H2 := fun x o m e => (b x (ne_of_none e n)).trans (a x o m e)
/-- a list's change keeps the tuples -/
theorem Off.tup {p b : Addr} {H H' : Hp} {xs ys : List V} (k : Off p H H') (hp : H p = some (.lst xs)) (e : H b = some (.tup ys)) : H' b = some (.tup ys) := k.get (ne_of e hp (fun z => nomatch z)) e
/-- what keeps the tuples -/
def KT (H H' : Hp) : Prop := ∀ b xs, H b = some (.tup xs) → H' b = some (.tup xs)
theorem KT.refl {H : Hp} : KT H H := fun _ _ e => e
theorem KT.of {H H' : Hp} (k : Same H H') : KT H H' := fun b xs e => k _ _ e
theorem KT.off {p : Addr} {H H' : Hp} {xs : List V} (k : Off p H H') (e : H p = some (.lst xs)) : KT H H' := fun b ys e2 => k.tup e e2
theorem KT.trans {H H1 H2 : Hp} (a : KT H H1) (b : KT H1 H2) : KT H H2 := fun c xs e => b c xs (a c xs e)
theorem KT.kp {M : List Addr} {H H' : Hp} (k : Kp M H H') (h : ∀ b ∈ M, ∃ xs, H b = some (.lst xs)) : KT H H' := fun b ys e => k b _ (fun z => by
  obtain ⟨xs, e2⟩ := h b z
  rw [e] at e2; cases e2) e
theorem KT.upd {H H1 : Hp} {D : Addr} {o : HO} (k : KT H H1) (h : H D = none) : KT H (upd H1 D o) := fun b xs e => by rw [upd_ne (ne_of_none e h)]; exact k b xs e
theorem KT.updL {H : Hp} {D : Addr} {o : HO} {ys : List V} (h : H D = some (.lst ys)) : KT H (L2.upd H D o) := fun b xs e => upd_get (ne_of e h (fun z => nomatch z)) e
/-! ### rules by names -/
/-- a new object o -/
def Nw (o : HO) (H : Hp) (Q : VK) : Prop := ∀ p, H p = none → Q (.ref p) (upd H p o)
def rLen (K : PySem.W.Frag) : List V → Hp → VK → Prop := fun xs H Q => ∃ p ys, xs = [.ref p] ∧ (SqL K H p ys ∨ SqT K H p ys) ∧ Q (.int ys.length) H
def rMin2 : List V → Hp → VK → Prop := fun xs H Q => ∃ i j, xs = [.int i, .int j] ∧ Q (.int (if j < i then j else i)) H
def rMax2 : List V → Hp → VK → Prop := fun xs H Q => ∃ i j, xs = [.int i, .int j] ∧ Q (.int (if j > i then j else i)) H
def rListOf (K : PySem.W.Frag) : List V → Hp → VK → Prop := fun xs H Q => ∃ p ys, xs = [.ref p] ∧ (SqL K H p ys ∨ SqT K H p ys) ∧ ∀ l, H l = none → Q (.ref l) (upd H l (.lst ys))
def rTupOf (K : PySem.W.Frag) : List V → Hp → VK → Prop := fun xs H Q => ∃ p ys, xs = [.ref p] ∧ ((SqL K H p ys ∧ ∀ l, H l = none → Q (.ref l) (upd H l (.tup ys))) ∨ (SqT K H p ys ∧ Q (.ref p) H))
def rRg2 (x y : V) (H : Hp) (R : Int → Int → Hp → Prop) : Prop := ∃ i j, x = .int i ∧ y = .int j ∧ R i j H
def rBits (x : V) (H : Hp) (Q : VK) : Prop := ∃ i, x = .int i ∧ Q (.int (Builtin.Int.intBits i : Nat)) H
def rRng1 (vs : List V) (H : Hp) (R : It → Hp → Prop) : Prop := ∃ j : Int, vs = [.int j] ∧ -(2 ^ 62) ≤ j ∧ j < 2 ^ 62 ∧ R (Itr 0 j.toNat) H
def rRng2 (vs : List V) (H : Hp) (R : It → Hp → Prop) : Prop := ∃ i j : Int, vs = [.int i, .int j] ∧ (-(2 ^ 62) ≤ i ∧ i < 2 ^ 62 ∧ -(2 ^ 62) ≤ j ∧ j < 2 ^ 62) ∧ R (Itr i (j - i).toNat) H
def rItL (K : PySem.W.Frag) (x : V) (H : Hp) (R : It → Hp → Prop) : Prop := ∃ a, x = .ref a ∧ (∃ xs, SqL K H a xs) ∧ R (Itl K a) H
def rItT (K : PySem.W.Frag) (x : V) (H : Hp) (R : It → Hp → Prop) : Prop := ∃ a, x = .ref a ∧ (∃ xs, SqT K H a xs) ∧ R (Itt K a) H
def rDIn (x y : V) (H : Hp) (Q : VK) : Prop := ∃ a o, x = .ref a ∧ DGet H a y o ∧ Q (.bl o.isSome) H
def rDNotIn (x y : V) (H : Hp) (Q : VK) : Prop := ∃ a o, x = .ref a ∧ DGet H a y o ∧ Q (.bl (!o.isSome)) H
def rDGet (x y : V) (H : Hp) (Q : VK) : Prop := ∃ a v, x = .ref a ∧ DGet H a y (some v) ∧ Q v H
def rDGet2 (a : Addr) (y z : V) (H : Hp) (Q : VK) : Prop := ∃ o, DGet H a y o ∧ Q (o.getD z) H
def rDPut (x y v : V) (H : Hp) (R : Hp → Prop) : Prop := ∃ a H4, x = .ref a ∧ DPut H a y v H4 ∧ R H4
def rDSetd (a : Addr) (y z : V) (H : Hp) (Q : VK) : Prop := ∃ (kvs : List (Key × V)) (k : Key), H a = some (.dK kvs) ∧ y = kV k ∧ kvs.length < sizeLine ∧ (∀ v, valV kvs k = some v → Q v H) ∧ (valV kvs k = none → Q z (upd H a (.dK (putK kvs k z))))
def rIsD (x : V) (H : Hp) (R : Addr → Hp → Prop) : Prop := ∃ a, x = .ref a ∧ IsD H a ∧ R a H
def rIsBl : R2 := fun x y H Q => ∃ a b, x = .bl a ∧ y = .bl b ∧ Q (.bl (decide (a = b))) H
def rIsNon : R2 := fun x y H Q => y = .non ∧ Q (.bl (decide (x = .non))) H
def rNotNon : R2 := fun x y H Q => y = .non ∧ Q (.bl (!decide (x = .non))) H
def rTru (K : PySem.W.Frag) (x : V) (H : Hp) (R : Bool → Hp → Prop) : Prop := ∃ k, TruV K x H k ∧ R k H
def tTru (K : PySem.W.Frag) (ta : TE) : TT := fun σ H R => ta σ H fun x H' => ∃ k, TruV K x H' k ∧ R k H'
def rSortD (xs : List V) (H : Hp) (Q : VK) : Prop := ∃ (a : Addr) (kvs : List (Key × V)) (ks : List Int), xs = [.ref a] ∧ Rd H a (.dK kvs) ∧ kvs.map (·.1) = ks.map Sum.inl ∧ ks.length < 64 ∧
    ∀ (ys : List Int) (p : Addr), ys.Perm ks → ys.Pairwise (· ≤ ·) → H p = none → Q (.ref p) (upd H p (.lst (ys.map V.int)))
section
variable {X : Cx}
theorem o_isN : OpR X (compareOp .Is) rIsNon := op_isN
theorem o_notN : OpR X (compareOp .IsNot) rNotNon := op_notN
theorem c_len : CallR X (.builtin "len") (rLen X.K) := call_len_seq
theorem c_listOf : CallR X (.type "list") (rListOf X.K) := call_list_of
theorem c_tupOf : CallR X (.type "tuple") (rTupOf X.K) := call_tuple_of
end
theorem kb_int_int : kitB "int" "int" = some true := by decide +kernel
theorem kb_int_bool : kitB "int" "bool" = some false := by decide +kernel
theorem kb_int_str : kitB "int" "str" = some false := by decide +kernel
theorem kb_int_tuple : kitB "int" "tuple" = some false := by decide +kernel
theorem kb_int_list : kitB "int" "list" = some false := by decide +kernel
theorem kb_int_dict : kitB "int" "dict" = some false := by decide +kernel
theorem kb_bool_int : kitB "bool" "int" = some true := by decide +kernel
theorem kb_bool_bool : kitB "bool" "bool" = some true := by decide +kernel
theorem kb_bool_str : kitB "bool" "str" = some false := by decide +kernel
theorem kb_bool_tuple : kitB "bool" "tuple" = some false := by decide +kernel
theorem kb_bool_list : kitB "bool" "list" = some false := by decide +kernel
theorem kb_bool_dict : kitB "bool" "dict" = some false := by decide +kernel
theorem kb_str_int : kitB "str" "int" = some false := by decide +kernel
theorem kb_str_bool : kitB "str" "bool" = some false := by decide +kernel
theorem kb_str_str : kitB "str" "str" = some true := by decide +kernel
theorem kb_str_tuple : kitB "str" "tuple" = some false := by decide +kernel
theorem kb_str_list : kitB "str" "list" = some false := by decide +kernel
theorem kb_str_dict : kitB "str" "dict" = some false := by decide +kernel
theorem kb_tuple_int : kitB "tuple" "int" = some false := by decide +kernel
theorem kb_tuple_bool : kitB "tuple" "bool" = some false := by decide +kernel
theorem kb_tuple_str : kitB "tuple" "str" = some false := by decide +kernel
theorem kb_tuple_tuple : kitB "tuple" "tuple" = some true := by decide +kernel
theorem kb_tuple_list : kitB "tuple" "list" = some false := by decide +kernel
theorem kb_tuple_dict : kitB "tuple" "dict" = some false := by decide +kernel
theorem kb_list_int : kitB "list" "int" = some false := by decide +kernel
theorem kb_list_bool : kitB "list" "bool" = some false := by decide +kernel
theorem kb_list_str : kitB "list" "str" = some false := by decide +kernel
theorem kb_list_tuple : kitB "list" "tuple" = some false := by decide +kernel
theorem kb_list_list : kitB "list" "list" = some true := by decide +kernel
theorem kb_list_dict : kitB "list" "dict" = some false := by decide +kernel
theorem kb_dict_int : kitB "dict" "int" = some false := by decide +kernel
theorem kb_dict_bool : kitB "dict" "bool" = some false := by decide +kernel
theorem kb_dict_str : kitB "dict" "str" = some false := by decide +kernel
theorem kb_dict_tuple : kitB "dict" "tuple" = some false := by decide +kernel
theorem kb_dict_list : kitB "dict" "list" = some false := by decide +kernel
theorem kb_dict_dict : kitB "dict" "dict" = some true := by decide +kernel
theorem kb_NoneType_int : kitB "NoneType" "int" = some false := by decide +kernel
theorem kb_NoneType_bool : kitB "NoneType" "bool" = some false := by decide +kernel
theorem kb_NoneType_str : kitB "NoneType" "str" = some false := by decide +kernel
theorem kb_NoneType_tuple : kitB "NoneType" "tuple" = some false := by decide +kernel
theorem kb_NoneType_list : kitB "NoneType" "list" = some false := by decide +kernel
theorem kb_NoneType_dict : kitB "NoneType" "dict" = some false := by decide +kernel
/-! ### steps -/
section
variable {K : PySem.W.Frag} {σ : St} {H : Hp} {Q : VK} {nx bk ct : St → Hp → Prop} {rt : VK} {v : V}
theorem w_seq {t u : TS} (h : t ⟨u ⟨nx, rt, bk, ct⟩, rt, bk, ct⟩ σ H) : tSeq t u ⟨nx, rt, bk, ct⟩ σ H := h
theorem w_seqA {te : TE} {g : TG} {u : TS} (h : te σ H fun x H1 => g x σ H1 (u ⟨nx, rt, bk, ct⟩)) : tSeq (tAsg te g) u ⟨nx, rt, bk, ct⟩ σ H := h
theorem w_seqD {te : TE} {u : TS} (h : te σ H fun _ H1 => u ⟨nx, rt, bk, ct⟩ σ H1) : tSeq (tDrop te) u ⟨nx, rt, bk, ct⟩ σ H := h
theorem w_seqF {wi : TI} {g : TG} {tb u : TS} (h : tFor wi g tb ⟨u ⟨nx, rt, bk, ct⟩, rt, bk, ct⟩ σ H) : tSeq (tFor wi g tb) u ⟨nx, rt, bk, ct⟩ σ H := h
theorem w_seqW {c : TT} {tb u : TS} (h : tWhile c tb ⟨u ⟨nx, rt, bk, ct⟩, rt, bk, ct⟩ σ H) : tSeq (tWhile c tb) u ⟨nx, rt, bk, ct⟩ σ H := h
theorem w_seqG {i : Nat} {te : TE} {ti : TIp} {u : TS} (h : tAug i te ti ⟨u ⟨nx, rt, bk, ct⟩, rt, bk, ct⟩ σ H) : tSeq (tAug i te ti) u ⟨nx, rt, bk, ct⟩ σ H := h
/-- a statement whose ways meet: what follows is taken as U, of which R is enough -/
theorem w_seqJ {t u : TS} (R : St → Hp → Prop) (h2 : ∀ σ' H', R σ' H' → u ⟨nx, rt, bk, ct⟩ σ' H') (h1 : ∀ U : St → Hp → Prop, (∀ σ' H', R σ' H' → U σ' H') → t ⟨U, rt, bk, ct⟩ σ H) : tSeq t u ⟨nx, rt, bk, ct⟩ σ H := h1 _ h2
theorem w_var {i : Nat} (e : σ[i]? = some (some v)) (h : Q v H) : tVar i σ H Q := ⟨v, e, h⟩
theorem w_c (h : Q v H) : tC v σ H Q := h
theorem w_asg {te : TE} {g : TG} (h : te σ H fun x H1 => g x σ H1 nx) : tAsg te g ⟨nx, rt, bk, ct⟩ σ H := h
theorem w_name {i : Nat} {R : St → Hp → Prop} (h : R (σ.set i (some v)) H) : gName i v σ H R := h
theorem w_op {r : R2} {ta tb : TE} (h : ta σ H fun x H1 => tb σ H1 fun y H2 => r x y H2 Q) : tOp r ta tb σ H Q := h
theorem w_un {r : V → Hp → VK → Prop} {ta : TE} (h : ta σ H fun x H1 => r x H1 Q) : tUn r ta σ H Q := h
theorem w_neg {i : Int} (h : Q (.int (-i)) H) : rU (fun i => .int (-i)) (.int i) H Q := ⟨i, rfl, h⟩
theorem w_i {C : Int → Int → Prop} {g : Int → Int → V} {i j : Int} (c : C i j) (h : Q (g i j) H) : rI C g (.int i) (.int j) H Q := ⟨i, j, rfl, rfl, c, h⟩
theorem w_i0 {g : Int → Int → V} {i j : Int} (h : Q (g i j) H) : rI0 g (.int i) (.int j) H Q := ⟨i, j, rfl, rfl, h⟩
theorem w_eqI {i j : Int} (h : Q (.bl (decide (i = j))) H) : rEq (.int i) (.int j) H Q := ⟨rfl, by
  have e : decide (V.int i = V.int j) = decide (i = j) := by
    by_cases q : i = j
    · subst q; rw [decide_eq_true rfl, decide_eq_true rfl]
    · rw [decide_eq_false q, decide_eq_false (fun z => q (V.int.inj z))]
  rw [e]; exact h⟩
theorem w_neI {i j : Int} (h : Q (.bl (!decide (i = j))) H) : rNe (.int i) (.int j) H Q := ⟨rfl, by
  have e : decide (V.int i = V.int j) = decide (i = j) := by
    by_cases q : i = j
    · subst q; rw [decide_eq_true rfl, decide_eq_true rfl]
    · rw [decide_eq_false q, decide_eq_false (fun z => q (V.int.inj z))]
  rw [e]; exact h⟩
theorem w_ixL {p : Addr} {xs : List V} {i : Int} (h1 : SqL K H p xs) (h2 : atI xs i = some v) (h : Q v H) : rIxL K (.ref p) (.int i) H Q := ⟨p, xs, i, v, rfl, rfl, h1, h2, h⟩
theorem w_ixT {p : Addr} {xs : List V} {i : Int} (h1 : SqT K H p xs) (h2 : atI xs i = some v) (h : Q v H) : rIxT K (.ref p) (.int i) H Q := ⟨p, xs, i, v, rfl, rfl, h1, h2, h⟩
theorem w_ixSL {p : Addr} {xs : List V} {i : Int} (h1 : SqL K H p xs) (h2 : atI xs i = some v) (h : Q v H) : rIx K (.ref p) (.int i) H Q := .inl ⟨p, xs, i, v, rfl, rfl, h1, h2, h⟩
theorem w_ixST {p : Addr} {xs : List V} {i : Int} (h1 : SqT K H p xs) (h2 : atI xs i = some v) (h : Q v H) : rIx K (.ref p) (.int i) H Q := .inr (.inl ⟨p, xs, i, v, rfl, rfl, h1, h2, h⟩)
theorem w_neB {x y : Bool} (h : Q (.bl (!decide (x = y))) H) : rNe (.bl x) (.bl y) H Q := ⟨rfl, by
  have e : decide (V.bl x = V.bl y) = decide (x = y) := by
    by_cases q : x = y
    · subst q; rw [decide_eq_true rfl, decide_eq_true rfl]
    · rw [decide_eq_false q, decide_eq_false (fun z => q (V.bl.inj z))]
  rw [e]; exact h⟩
theorem w_eqN (h : Q (.bl true) H) : rEq .non .non H Q := ⟨rfl, h⟩
theorem w_sub {to ti : TE} {t : TSet} {R : St → Hp → Prop} (h : to σ H fun o H1 => ti σ H1 fun i H2 => t o i v H2 fun H3 => R σ H3) : gSub to ti t v σ H R := h
theorem w_setL {p : Addr} {xs ys : List V} {k : Int} {j : Nat} {R : Hp → Prop} (h1 : H p = some (.lst xs)) (h2 : ixN xs.length k = some j) (e : xs.set j v = ys) (h : ∀ H1, H1 p = some (.lst ys) → Off p H H1 → R H1) : rSetL (.ref p) (.int k) v H R :=
  ⟨p, xs, k, j, rfl, rfl, h1, h2, by rw [e]; exact h _ upd_same fun x hx => upd_ne hx⟩
theorem w_if {c : TT} {t u : TS} (h : c σ H fun b H1 => if b = true then t ⟨nx, rt, bk, ct⟩ σ H1 else u ⟨nx, rt, bk, ct⟩ σ H1) : tIfS c t u ⟨nx, rt, bk, ct⟩ σ H := h
theorem w_test {t : TE} {R : Bool → Hp → Prop} (h : t σ H fun x H' => ∃ k, x = .bl k ∧ R k H') : tTest t σ H R := h
theorem w_tb {t : TE} {R : Bool → Hp → Prop} (h : t σ H fun x H' => ∃ k, x = .bl k ∧ R k H') : tB t σ H R := h
theorem w_bl {b : Bool} {R : Bool → Prop} (h : R b) : ∃ k, V.bl b = .bl k ∧ R k := ⟨b, rfl, h⟩
theorem w_and {t u : TT} {R : Bool → Hp → Prop} (h : t σ H fun c H1 => if c = true then u σ H1 R else R false H1) : tAnd t u σ H R := h
theorem w_or {t u : TT} {R : Bool → Hp → Prop} (h : t σ H fun c H1 => if c = true then R true H1 else u σ H1 R) : tOr t u σ H R := h
theorem w_not {t : TT} {R : Bool → Hp → Prop} (h : t σ H fun c H1 => R (!c) H1) : tNot t σ H R := h
theorem w_andV {ta tb : TE} (h : ta σ H fun x H1 => ∃ c, x = .bl c ∧ if c = true then tb σ H1 Q else Q (.bl false) H1) : tAndV ta tb σ H Q := h
theorem w_orV {ta tb : TE} (h : ta σ H fun x H1 => ∃ c, x = .bl c ∧ if c = true then Q (.bl true) H1 else tb σ H1 Q) : tOrV ta tb σ H Q := h
theorem w_notV {ta : TE} (h : ta σ H fun x H1 => ∃ c, x = .bl c ∧ Q (.bl (!c)) H1) : tNotV ta σ H Q := h
theorem w_ite {p : Prop} {inst : Decidable p} {A B : Prop} (h1 : p → A) (h2 : ¬ p → B) : if decide p = true then A else B := by
  by_cases h : p
  · rw [if_pos (decide_eq_true h)]; exact h1 h
  · rw [if_neg (fun z => h (of_decide_eq_true z))]; exact h2 h
theorem w_itN {p : Prop} {inst : Decidable p} {A B : Prop} (h1 : ¬ p → A) (h2 : p → B) : if (!decide p) = true then A else B := by
  by_cases h : p
  · rw [decide_eq_true h]; exact h2 h
  · rw [decide_eq_false h]; exact h1 h
theorem w_yes {p : Prop} {inst : Decidable p} {A B : Prop} (h : p) (a : A) : if decide p = true then A else B := by rw [if_pos (decide_eq_true h)]; exact a
theorem w_no {p : Prop} {inst : Decidable p} {A B : Prop} (h : ¬ p) (b : B) : if decide p = true then A else B := by rw [if_neg (fun z => h (of_decide_eq_true z))]; exact b
theorem w_nyes {p : Prop} {inst : Decidable p} {A B : Prop} (h : p) (b : B) : if (!decide p) = true then A else B := by rw [decide_eq_true h]; exact b
theorem w_nno {p : Prop} {inst : Decidable p} {A B : Prop} (h : ¬ p) (a : A) : if (!decide p) = true then A else B := by rw [decide_eq_false h]; exact a
theorem w_itB {b : Bool} {A B : Prop} (h1 : b = true → A) (h2 : b = false → B) : if b = true then A else B := by
  cases b with
  | true => exact h1 rfl
  | false => exact h2 rfl
theorem w_nT {A B : Prop} (h : B) : if (!true) = true then A else B := h
theorem w_nF {A B : Prop} (h : A) : if (!false) = true then A else B := h
theorem w_ret {te : TE} (h : te σ H rt) : tRet te ⟨nx, rt, bk, ct⟩ σ H := h
theorem w_drop {te : TE} (h : te σ H fun _ H1 => nx σ H1) : tDrop te ⟨nx, rt, bk, ct⟩ σ H := h
theorem w_next (h : nx σ H) : tNext ⟨nx, rt, bk, ct⟩ σ H := h
theorem w_cb {r : List V → Hp → VK → Prop} {t : TA} (h : t σ H fun vs H1 => r vs H1 Q) : tCB r t σ H Q := h
theorem w_nil {R : List V → Hp → Prop} (h : R [] H) : tNil σ H R := h
theorem w_cons {ta : TE} {tr : TA} {R : List V → Hp → Prop} (h : ta σ H fun x H1 => tr σ H1 fun xs H2 => R (x :: xs) H2) : tCons ta tr σ H R := h
theorem w_call {sp : Sp} {E : XK} {t : TA} (h : t σ H fun vs H1 => sp (vs ++ []) H1 Q E) : tCall sp [] E t σ H Q := h
theorem w_lst {t : TA} (h : t σ H fun xs H1 => xs.length ≤ sizeLine ∧ Nw (.lst xs) H1 Q) : tLst t σ H Q := h
theorem w_tup {t : TA} (h : t σ H fun xs H1 => xs.length ≤ sizeLine ∧ Nw (.tup xs) H1 Q) : tTup t σ H Q := h
theorem w_new {o : HO} (h : ∀ p H2, H p = none → H2 p = some o → Same H H2 → Q (.ref p) H2) : Nw o H Q := fun p hp => h p _ hp upd_same (Same.new hp)
theorem w_sz {n : Nat} {o : HO} (h1 : n ≤ sizeLine) (h : Nw o H Q) : n ≤ sizeLine ∧ Nw o H Q := ⟨h1, h⟩
theorem w_app {p : Addr} {xs : List V} (h1 : H p = some (.lst xs)) (h2 : xs.length < sizeLine) (h : ∀ H1, H1 p = some (.lst (xs ++ [v])) → Off p H H1 → Q .non H1) : rAppend (.ref p) [v] H Q :=
  ⟨p, xs, v, rfl, rfl, h1, h2, h _ upd_same fun x hx => upd_ne hx⟩
theorem w_bm {r : V → List V → Hp → VK → Prop} {to : TE} {t : TA} (h : to σ H fun x H1 => tyV K "list" x H1 ∧ t σ H1 fun xs H2 => r x xs H2 Q) : tBM K "list" r to t σ H Q := h
theorem w_tyL {p : Addr} {xs : List V} {A : Prop} (h1 : H p = some (.lst xs)) (h : A) : tyV K "list" (.ref p) H ∧ A := ⟨.inl ⟨rfl, _, .inl (.inl h1)⟩, h⟩
theorem w_lenL {p : Addr} {ys : List V} (h1 : SqL K H p ys) (h : Q (.int ys.length) H) : rLen K [V.ref p] H Q := ⟨p, ys, rfl, .inl h1, h⟩
theorem w_lenT {p : Addr} {ys : List V} (h1 : SqT K H p ys) (h : Q (.int ys.length) H) : rLen K [V.ref p] H Q := ⟨p, ys, rfl, .inr h1, h⟩
theorem w_min2 {i j : Int} (h : Q (.int (if j < i then j else i)) H) : rMin2 [V.int i, V.int j] H Q := ⟨i, j, rfl, h⟩
theorem w_max2 {i j : Int} (h : Q (.int (if j > i then j else i)) H) : rMax2 [V.int i, V.int j] H Q := ⟨i, j, rfl, h⟩
theorem w_listL {p : Addr} {ys : List V} (h1 : SqL K H p ys) (h : ∀ l H2, H l = none → H2 l = some (.lst ys) → Same H H2 → Q (.ref l) H2) : rListOf K [V.ref p] H Q := ⟨p, ys, rfl, .inl h1, w_new h⟩
theorem w_tupL {p : Addr} {ys : List V} (h1 : SqL K H p ys) (h : ∀ l H2, H l = none → H2 l = some (.tup ys) → Same H H2 → Q (.ref l) H2) : rTupOf K [V.ref p] H Q := ⟨p, ys, rfl, .inl ⟨h1, w_new h⟩⟩
theorem w_sum {p : Addr} {ns : List Int} (h1 : SqL K H p (ns.map V.int)) (h : Q (.int ns.sum) H) : rSum K [V.ref p] H Q := ⟨p, ns, rfl, h1, h⟩
theorem w_tupRg {te : St → Hp → (Int → Int → Hp → Prop) → Prop} (h : te σ H fun a b H1 => RgOk a b ∧ Nw (.tup (rgV a b)) H1 Q) : tTupRg te σ H Q := h
theorem w_rg2 {ta tb : TE} {R : Int → Int → Hp → Prop} (h : ta σ H fun x H1 => tb σ H1 fun y H2 => rRg2 x y H2 R) : tRg2 ta tb σ H R := h
theorem w_rg2' {i j : Int} {R : Int → Int → Hp → Prop} (h : R i j H) : rRg2 (.int i) (.int j) H R := ⟨i, j, rfl, rfl, h⟩
theorem w_bits {to : TE} (h : to σ H fun x H1 => rBits x H1 Q) : tBits to σ H Q := h
theorem w_bits' {i : Int} (h : Q (.int (Builtin.Int.intBits i : Nat)) H) : rBits (.int i) H Q := ⟨i, rfl, h⟩
theorem w_isi {x : V} {a n : String} {b : Bool} (ty : TyX K H x (.type a)) (hk : kitB a n = some b) (h : Q (.bl b) H) : rIsi K [x, .ty n] H Q := ⟨x, .ty n, _, _, b, rfl, .ty n, ty, kit_ty hk, h⟩
theorem w_eqS {x y : Str} (h : Q (.bl (decide (x = y))) H) : rEq (.str x) (.str y) H Q := ⟨rfl, by
  have e : decide (V.str x = V.str y) = decide (x = y) := by
    by_cases q : x = y
    · subst q; rw [decide_eq_true rfl, decide_eq_true rfl]
    · rw [decide_eq_false q, decide_eq_false (fun z => q (V.str.inj z))]
  rw [e]; exact h⟩
theorem w_eqB {x y : Bool} (h : Q (.bl (decide (x = y))) H) : rEq (.bl x) (.bl y) H Q := ⟨rfl, by
  have e : decide (V.bl x = V.bl y) = decide (x = y) := by
    by_cases q : x = y
    · subst q; rw [decide_eq_true rfl, decide_eq_true rfl]
    · rw [decide_eq_false q, decide_eq_false (fun z => q (V.bl.inj z))]
  rw [e]; exact h⟩
/-! targets, dicts -/
theorem w_gtup {a : Addr} {xs : List V} {n : Nat} {t : TGs} {R : St → Hp → Prop} (h1 : SqT K H a xs) (h2 : xs.length = n) (h : t xs σ H R) : gTup K n t (.ref a) σ H R := ⟨a, xs, rfl, h1, h2, h⟩
theorem w_gcons {t : TG} {u : TGs} {r : List V} {R : St → Hp → Prop} (h : t v σ H fun σ' H' => u r σ' H' R) : gCons t u (v :: r) σ H R := ⟨v, r, rfl, h⟩
theorem w_gnil {R : St → Hp → Prop} (h : R σ H) : gNil [] σ H R := ⟨rfl, h⟩
theorem w_din {ty td : TE} (h : ty σ H fun y H1 => td σ H1 fun x H2 => rDIn x y H2 Q) : tDIn ty td σ H Q := h
theorem w_dnotin {ty td : TE} (h : ty σ H fun y H1 => td σ H1 fun x H2 => rDNotIn x y H2 Q) : tDNotIn ty td σ H Q := h
theorem w_dget {ty td : TE} (h : td σ H fun x H1 => ty σ H1 fun y H2 => rDGet x y H2 Q) : tDGet td ty σ H Q := h
theorem w_dinI {a : Addr} {kvs : List (Key × V)} {n : Int} (e : H a = some (.dK kvs)) (h : Q (.bl (valV kvs (Sum.inl n)).isSome) H) : rDIn (.ref a) (.int n) H Q := ⟨a, _, rfl, DGet.k (k := Sum.inl n) e, h⟩
theorem w_dnotinI {a : Addr} {kvs : List (Key × V)} {n : Int} (e : H a = some (.dK kvs)) (h : Q (.bl (!(valV kvs (Sum.inl n)).isSome)) H) : rDNotIn (.ref a) (.int n) H Q := ⟨a, _, rfl, DGet.k (k := Sum.inl n) e, h⟩
theorem w_dgetI {a : Addr} {kvs : List (Key × V)} {n : Int} (e : H a = some (.dK kvs)) (e2 : valV kvs (Sum.inl n) = some v) (h : Q v H) : rDGet (.ref a) (.int n) H Q := ⟨a, v, rfl, e2 ▸ DGet.k (k := Sum.inl n) e, h⟩
theorem w_dnewK (h : Nw (.dK []) H Q) : tDNewK σ H Q := h
theorem w_dput {td ty tv : TE} (h : tv σ H fun v H1 => td σ H1 fun x H2 => ty σ H2 fun y H3 => rDPut x y v H3 fun H4 => nx σ H4) : sDPut td ty tv ⟨nx, rt, bk, ct⟩ σ H := h
theorem w_seqP {td ty tv : TE} {u : TS} (h : tv σ H fun v H1 => td σ H1 fun x H2 => ty σ H2 fun y H3 => rDPut x y v H3 fun H4 => u ⟨nx, rt, bk, ct⟩ σ H4) : tSeq (sDPut td ty tv) u ⟨nx, rt, bk, ct⟩ σ H := h
theorem w_dget2 {td ty tx : TE} (h : td σ H fun x H1 => rIsD x H1 fun a H1 => ty σ H1 fun y H2 => tx σ H2 fun z H3 => rDGet2 a y z H3 Q) : tDGet2 td ty tx σ H Q := h
theorem w_isD {a : Addr} {kvs : List (Key × V)} {R : Addr → Hp → Prop} (e : H a = some (.dK kvs)) (h : R a H) : rIsD (.ref a) H R := ⟨a, rfl, .inl ⟨kvs, .inl e⟩, h⟩
theorem w_dget2I {a : Addr} {kvs : List (Key × V)} {n : Int} {z : V} (e : H a = some (.dK kvs)) (h : Q ((valV kvs (Sum.inl n)).getD z) H) : rDGet2 a (.int n) z H Q := ⟨_, DGet.k (k := Sum.inl n) e, h⟩
theorem w_dsetd {td ty tx : TE} (h : td σ H fun x H1 => rIsD x H1 fun a H1 => ty σ H1 fun y H2 => tx σ H2 fun z H3 => rDSetd a y z H3 Q) : tDSetd td ty tx σ H Q := h
theorem w_leT2 {p q : Addr} {a b c d : Int} (h1 : SqT K H p [.int a, .int b]) (h2 : SqT K H q [.int c, .int d]) (h : Q (.bl (decide (a < c ∨ a = c ∧ b ≤ d))) H) : rLeT K (.ref p) (.ref q) H Q := by
  refine ⟨p, q, [a, b], [c, d], rfl, rfl, h1, h2, ?_⟩
  have e : Ob.lexAt (fun j => decide (([a, b] : List Int).getD j 0 = ([c, d] : List Int).getD j 0)) (fun j => decide (([a, b] : List Int).getD j 0 ≤ ([c, d] : List Int).getD j 0)) (decide (([a, b] : List Int).length ≤ ([c, d] : List Int).length)) 0 (min ([a, b] : List Int).length ([c, d] : List Int).length) = decide (a < c ∨ a = c ∧ b ≤ d) := by
    show (if decide (a = c) = true then (if decide (b = d) = true then true else decide (b ≤ d)) else decide (a ≤ c)) = _
    by_cases h1 : a = c
    · rw [if_pos (decide_eq_true h1)]
      by_cases h2 : b = d
      · rw [if_pos (decide_eq_true h2)]
        exact (decide_eq_true (by omega)).symm
      · rw [if_neg (fun z => h2 (of_decide_eq_true z))]
        rw [Bool.eq_iff_iff]; simp; omega
    · rw [if_neg (fun z => h1 (of_decide_eq_true z))]
      rw [Bool.eq_iff_iff]; simp; omega
  rw [e]
  exact h
theorem inV_ints (n : Int) (vs : List Int) : inV (.int n) (vs.map V.int) = decide (n ∈ vs) := by
  unfold inV
  rw [Bool.eq_iff_iff, List.any_eq_true]
  constructor
  · rintro ⟨y, hy, e⟩
    obtain ⟨z, hz, rfl⟩ := List.mem_map.mp hy
    have e' : z = n := by simpa [eqV] using e
    subst e'
    exact decide_eq_true hz
  · intro h
    exact ⟨.int n, List.mem_map_of_mem (of_decide_eq_true h), by simp [eqV]⟩
theorem flat_ints (vs : List Int) : (vs.map V.int).all flatV = true := by
  rw [List.all_eq_true]
  intro y hy
  obtain ⟨z, _, rfl⟩ := List.mem_map.mp hy
  rfl
theorem w_inT {p : Addr} {vs : List Int} {n : Int} (h1 : SqT K H p (vs.map V.int)) (h : Q (.bl (decide (n ∈ vs))) H) : rIn K false (.int n) (.ref p) H Q := ⟨p, _, rfl, .inr h1, rfl, flat_ints vs, by rw [inV_ints]; exact h⟩
theorem w_ninT {p : Addr} {vs : List Int} {n : Int} (h1 : SqT K H p (vs.map V.int)) (h : Q (.bl (!decide (n ∈ vs))) H) : rIn K true (.int n) (.ref p) H Q := ⟨p, _, rfl, .inr h1, rfl, flat_ints vs, by rw [inV_ints]; exact h⟩
theorem w_inL {p : Addr} {vs : List Int} {n : Int} (h1 : SqL K H p (vs.map V.int)) (h : Q (.bl (decide (n ∈ vs))) H) : rIn K false (.int n) (.ref p) H Q := ⟨p, _, rfl, .inl h1, rfl, flat_ints vs, by rw [inV_ints]; exact h⟩
theorem w_ninL {p : Addr} {vs : List Int} {n : Int} (h1 : SqL K H p (vs.map V.int)) (h : Q (.bl (!decide (n ∈ vs))) H) : rIn K true (.int n) (.ref p) H Q := ⟨p, _, rfl, .inl h1, rfl, flat_ints vs, by rw [inV_ints]; exact h⟩
def rDisp (p : Addr) (ps : List (V × V)) (H2 : Hp) (Q : VK) : Prop := H2 p = some (.dK []) ∧ ∃ kvs : List (Key × V), ps = kvs.map (fun kv => (kV kv.1, kv.2)) ∧ kvs.length ≤ 15 ∧ Q (.ref p) (upd H2 p (.dK (mergeK [] kvs)))
theorem w_pair {tk tv : TE} {r : List (TE × TE)} {R : List (V × V) → Hp → Prop} (h : tk σ H fun x H1 => tv σ H1 fun y H2 => tPairs r σ H2 fun ps H3 => R ((x, y) :: ps) H3) : tPairs ((tk, tv) :: r) σ H R := h
theorem w_pnil {R : List (V × V) → Hp → Prop} (h : R [] H) : tPairs [] σ H R := h
theorem w_callS {sp : Sp} {E : St → XK} {t : TA} (h : t σ H fun vs H1 => sp vs H1 Q (E σ)) : tCallS sp E t σ H Q := h
theorem w_isB {x y : Bool} (h : Q (.bl (decide (x = y))) H) : rIsBl (.bl x) (.bl y) H Q := ⟨x, y, rfl, rfl, h⟩
theorem w_isN (h : Q (.bl (decide (v = .non))) H) : rIsNon v .non H Q := ⟨rfl, h⟩
theorem w_notN (h : Q (.bl (!decide (v = .non))) H) : rNotNon v .non H Q := ⟨rfl, h⟩
theorem w_chain {r r' : R2} {ta tb tc : TE} (h : ta σ H fun x H1 => tb σ H1 fun y H2 => r x y H2 fun z H3 => ∃ k, z = .bl k ∧ (if k = true then tc σ H3 fun w' H4 => r' y w' H4 Q else Q (.bl false) H3)) : tChain r r' ta tb tc σ H Q := h
theorem w_trL {p : Addr} {xs : List V} {R : Bool → Hp → Prop} (h1 : SqL K H p xs) (h : R (!xs.isEmpty) H) : rTru K (.ref p) H R := ⟨_, .inl ⟨xs, h1, rfl⟩, h⟩
theorem w_trT {p : Addr} {xs : List V} {R : Bool → Hp → Prop} (h1 : SqT K H p xs) (h : R (!xs.isEmpty) H) : rTru K (.ref p) H R := ⟨_, .inr (.inl ⟨xs, h1, rfl⟩), h⟩
theorem w_tru {ta : TE} {R : Bool → Hp → Prop} (h : ta σ H fun x H1 => rTru K x H1 R) : tTru K ta σ H R := h
/-! loops -/
def Lp (J : It) (g : TG) (tb : TS) (D : Ends) (σ : St) (H1 : Hp) : Prop := ∃ W : Nat → Nat → St → Hp → Prop, (∃ m, W 0 m σ H1) ∧ ∀ i m σ H, W i m σ H →
  (J.stop i H ∧ D.nx σ H) ∨ (J.go i H ∧ ∃ N : St → Hp → Prop, (∀ σ' H', N σ' H' → ∃ m', m' < m ∧ W (i + 1) m' σ' H') ∧ ∀ x H', J.yld i H x H' → g x σ H' fun σ2 H2 => tb { D with nx := N, ct := N, bk := D.nx } σ2 H2)
theorem w_for {wi : TI} {g : TG} {tb : TS} (h : wi σ H fun J H1 => Lp J g tb ⟨nx, rt, bk, ct⟩ σ H1) : tFor wi g tb ⟨nx, rt, bk, ct⟩ σ H := h
theorem lp_list {a : Addr} {xs : List V} {g : TG} {tb : TS} (Pv : Nat → St → Hp → Prop) (h0 : Pv 0 σ H) (hl : ∀ i σ H, i ≤ xs.length → Pv i σ H → SqL K H a xs)
    (hs : ∀ i x σ H, xs[i]? = some x → Pv i σ H → g x σ H fun σ2 H2 => tb ⟨Pv (i + 1), rt, nx, Pv (i + 1)⟩ σ2 H2) (hd : ∀ σ H, Pv xs.length σ H → nx σ H) : Lp (Itl K a) g tb ⟨nx, rt, bk, ct⟩ σ H :=
  for_list (D := ⟨nx, rt, bk, ct⟩) Pv h0 hl hs hd
theorem lp_range {lo : Int} {n : Nat} {g : TG} {tb : TS} (Pv : Nat → St → Hp → Prop) (h0 : Pv 0 σ H)
    (hs : ∀ i σ H, i < n → Pv i σ H → g (.int (lo + i)) σ H fun σ2 H2 => tb ⟨Pv (i + 1), rt, nx, Pv (i + 1)⟩ σ2 H2) (hd : ∀ σ H, Pv n σ H → nx σ H) : Lp (Itr lo n) g tb ⟨nx, rt, bk, ct⟩ σ H :=
  for_range (D := ⟨nx, rt, bk, ct⟩) Pv h0 hs hd
theorem w_rng1 {t : TA} {R : It → Hp → Prop} (h : t σ H fun vs H1 => rRng1 vs H1 R) : iRng1 t σ H R := h
theorem w_rng1' {j : Int} {R : It → Hp → Prop} (h1 : -(2 ^ 62) ≤ j) (h2 : j < 2 ^ 62) (h : R (Itr 0 j.toNat) H) : rRng1 [.int j] H R := ⟨j, rfl, h1, h2, h⟩
theorem w_rng2 {t : TA} {R : It → Hp → Prop} (h : t σ H fun vs H1 => rRng2 vs H1 R) : iRng2 t σ H R := h
theorem w_rng2' {i j : Int} {R : It → Hp → Prop} (h1 : -(2 ^ 62) ≤ i ∧ i < 2 ^ 62 ∧ -(2 ^ 62) ≤ j ∧ j < 2 ^ 62) (h : R (Itr i (j - i).toNat) H) : rRng2 [.int i, .int j] H R := ⟨i, j, rfl, h1, h⟩
theorem w_itL {tl : TE} {R : It → Hp → Prop} (h : tl σ H fun x H1 => rItL K x H1 R) : iList K tl σ H R := h
theorem w_itL' {a : Addr} {xs : List V} {R : It → Hp → Prop} (h1 : SqL K H a xs) (h : R (Itl K a) H) : rItL K (.ref a) H R := ⟨a, rfl, ⟨xs, h1⟩, h⟩
theorem w_itT {tl : TE} {R : It → Hp → Prop} (h : tl σ H fun x H1 => rItT K x H1 R) : iTup K tl σ H R := h
theorem w_itT' {a : Addr} {xs : List V} {R : It → Hp → Prop} (h1 : SqT K H a xs) (h : R (Itt K a) H) : rItT K (.ref a) H R := ⟨a, rfl, ⟨xs, h1⟩, h⟩
/-- one turn of a while: W (by a falling number) is reached again -/
def WhT (W : Nat → St → Hp → Prop) (m : Nat) (tb : TS) (rt : VK) (nx : St → Hp → Prop) (σ : St) (H : Hp) : Prop := ∃ N : St → Hp → Prop, (∀ σ' H', N σ' H' → ∃ m', m' < m ∧ W m' σ' H') ∧ tb ⟨N, rt, nx, N⟩ σ H
/-! comprehensions -/
def LcP (J : It) (g : TG) (tt : TT) (te : TE) (vs : List Nat) (Q : VK) (σ : St) (H1 : Hp) : Prop := ∀ D, H1 D = none → ∃ W : Nat → Nat → Hp → Prop, (∃ m, W 0 m (upd H1 D (.lst []))) ∧ ∀ i m H, W i m H →
  (J.stop i H ∧ Q (.ref D) H) ∨ (J.go i H ∧ ∃ Nx : Hp → Prop, (∀ H', Nx H' → ∃ m', m' < m ∧ W (i + 1) m' H') ∧ ∀ x H', J.yld i H x H' → g x (wipe σ vs) H' fun σ2 H2 => wipe σ2 vs = wipe σ vs ∧ tt σ2 H2 fun b H3 =>
    if b = true then te σ2 H3 fun y H4 => ∃ acc, H4 D = some (.lst acc) ∧ acc.length < sizeLine ∧ Nx (upd H4 D (.lst (acc ++ [y]))) else Nx H3)
theorem w_lc {wi : TI} {g : TG} {tt : TT} {te : TE} {vs : List Nat} (h : wi σ H fun J H1 => LcP J g tt te vs Q σ H1) : tLc wi g tt te vs σ H Q := h
/-- each turn adds one: the k-th is ys[k]; what stood but M stands -/
theorem lcp_map {J : It} {n : Nat} {G : Hp → Prop} {Y : Nat → Hp → V → Hp → Prop} (w : Walk J n G Y) {g : TG} {te : TE} {vs : List Nat} (M : List Addr) (ys : List V) (hn : ys.length = n) (hz : n ≤ 1000000) (hG : ∀ H', Kp M H H' → G H')
    (hs : ∀ i x H1 H2 (R : V → Hp → Prop), i < n → Kp M H H1 → Y i H1 x H2 → (∀ y H4, ys[i]? = some y → Kp M H1 H4 → R y H4) → g x (wipe σ vs) H2 fun σ2 H3 => wipe σ2 vs = wipe σ vs ∧ te σ2 H3 R)
    (hM : ∀ b ∈ M, ∃ o, H b = some o)
    (hd : ∀ D H', H D = none → Kp M H H' → H' D = some (.lst ys) → Q (.ref D) H') : LcP J g tYes te vs Q σ H := by
  intro D hD
  have hDM : D ∉ M := fun z => by obtain ⟨o, e⟩ := hM D z; rw [hD] at e; cases e
  refine lc_it w (fun i H' => Kp M H H' ∧ H' D = some (.lst (ys.take i))) ⟨Kp.new hD, upd_same⟩ (fun i H' _ z => hG H' z.1) ?_ ?_
  · rintro i x H1 H2 hi ⟨k1, e1⟩ y
    refine (hs i x H1 H2 _ hi k1 y ?_)
    intro z H4 hz' k4
    refine ⟨ys.take i, k4 _ _ hDM e1, ?_, ?_, ?_⟩
    · rw [List.length_take]; exact Nat.lt_of_le_of_lt (Nat.min_le_left _ _) (Nat.lt_of_lt_of_le (Nat.lt_of_lt_of_le hi hz) (by decide))
    · exact (k1.trans k4).mutN hD
    · rw [upd_same, List.take_add_one, hz']; rfl
  · rintro H' ⟨k, e⟩
    rw [List.take_of_length_le (by omega)] at e
    exact hd D H' hD k e
/-- each turn adds one of which P holds (P leans on tuples alone); S: what else holds turn by turn -/
theorem lcp_gen {J : It} {n : Nat} {G : Hp → Prop} {Y : Nat → Hp → V → Hp → Prop} (w : Walk J n G Y) {g : TG} {te : TE} {vs : List Nat} (M : List Addr) (P : Nat → V → Hp → Prop) (S : Nat → Hp → Prop) (hz : n ≤ 1000000)
    (mono : ∀ i y H1 H2, KT H1 H2 → P i y H1 → P i y H2) (SD : ∀ D, H D = none → ∀ i H1 o, S i H1 → S i (upd H1 D o)) (hG : ∀ i H', Kp M H H' → S i H' → G H') (S0 : S 0 H)
    (hs : ∀ i x H1 H2 (R : V → Hp → Prop), i < n → Kp M H H1 → KT H H1 → S i H1 → Y i H1 x H2 → (∀ y H4, P i y H4 → Kp M H1 H4 → KT H1 H4 → S (i + 1) H4 → R y H4) → g x (wipe σ vs) H2 fun σ2 H3 => wipe σ2 vs = wipe σ vs ∧ te σ2 H3 R)
    (hM : ∀ b ∈ M, ∃ o, H b = some o)
    (hd : ∀ D H' ys, ys.length = n → (∀ i y, ys[i]? = some y → P i y H') → H D = none → Kp M H H' → KT H H' → S n H' → H' D = some (.lst ys) → Q (.ref D) H') : LcP J g tYes te vs Q σ H := by
  intro D hD
  have hDM : D ∉ M := fun z => by obtain ⟨o, e⟩ := hM D z; rw [hD] at e; cases e
  refine lc_it w (fun i H' => Kp M H H' ∧ KT H H' ∧ S i H' ∧ ∃ ys, ys.length = i ∧ H' D = some (.lst ys) ∧ ∀ k y, ys[k]? = some y → P k y H') ⟨Kp.new hD, KT.refl.upd hD, SD D hD _ _ _ S0, [], rfl, upd_same, by simp⟩ (fun i H' _ z => hG i H' z.1 z.2.2.1) ?_ ?_
  · rintro i x H1 H2 hi ⟨k1, t1, s1, ys, hl, e1, hp⟩ y
    refine hs i x H1 H2 _ hi k1 t1 s1 y ?_
    intro z H4 pz k4 t4 s4
    have e4 := k4 _ _ hDM e1
    refine ⟨ys, e4, ?_, (k1.trans k4).mutN hD, (t1.trans t4).upd hD, SD D hD _ _ _ s4, ys ++ [z], by rw [List.length_append, hl]; rfl, upd_same, ?_⟩
    · rw [hl]; exact Nat.lt_of_lt_of_le (Nat.lt_of_lt_of_le hi hz) (by decide)
    · intro k y' hy'
      by_cases hk : k < ys.length
      · rw [List.getElem?_append_left hk] at hy'
        exact mono _ _ _ _ (KT.updL e4) (mono _ _ _ _ t4 (hp k y' hy'))
      · rw [List.getElem?_append_right (by omega)] at hy'
        by_cases hk2 : k = ys.length
        · subst hk2
          have e : z = y' := by simpa using hy'
          subst e
          rw [hl]
          exact mono _ _ _ _ (KT.updL e4) pz
        · rw [List.getElem?_eq_none (by simp; omega)] at hy'
          cases hy'
  · rintro H' ⟨k, t, sn, ys, hl, e, hp⟩
    exact hd D H' ys hl hp hD k t sn e
end
/-! ### errors -/
/-- what the top has written of an own error class without __init__ -/
structure Exn (K : PySem.W.Frag) (mg : Str → Option Value) (x : Str) (C : Addr) : Prop where
  g : mg x = some (.ref C)
  x : PySem.W.excIn K C [.type "ValueError", .type "Exception", .type "BaseException", .type "object"] "ValueError.__new__" = true
  k : PySem.W.keepIn K (.ref C) = true
  b : PySem.W.subIn K (.ref C) (.type "BaseException") = some true
  t : PySem.W.typeIn K (.ref C) = some (.type "type")
  e : PySem.W.exmOne K (.ref C) (.ref C) = some true
theorem exm_is {K : PySem.W.Frag} {t : Value} {C : Addr} {r : Bool} (hb : PySem.W.subIn K (.ref C) (.type "BaseException") = some true) (hi : PySem.W.isClsIn K C = true) (ht : PySem.W.typeIn K (.ref C) = some (.type "type")) (hs : PySem.W.subIn K t (.ref C) = some r) : PySem.W.exmOne K t (.ref C) = some r := by
  have hi' : (PySem.W.clsIn K C).isSome = true := hi
  unfold PySem.W.exmOne
  rw [hb, if_pos (by rfl)]
  show (if ((PySem.W.clsIn K C).isSome && PySem.W.typeIn K (Value.ref C) == some (Value.type "type")) = true then PySem.W.subIn K t (Value.ref C) else none) = some r
  rw [hi', ht]
  exact hs
def tTryO (K : PySem.W.Frag) (c : Value) (tb : WX → TS) (ts : Addr → Value → Option Addr → TS) : TS := fun D σ H => tb (wOnly K c ts (fun _ _ _ _ => False) D) D σ H
section
variable {X : Cx} {x : Str} {c : Value} {body suite : List Stmt} {b₀ : Stmt} {np pos pos' : Pos} {tb : WX → TS} {ts : Addr → Value → Option Addr → TS}
end
section
variable {K : PySem.W.Frag} {σ : St} {H : Hp} {nx bk ct : St → Hp → Prop} {rt : VK}
theorem w_try {c : Value} {tb : WX → TS} {ts : Addr → Value → Option Addr → TS} (h : tb (wOnly K c ts (fun _ _ _ _ => False) ⟨nx, rt, bk, ct⟩) ⟨nx, rt, bk, ct⟩ σ H) : tTryO K c tb ts ⟨nx, rt, bk, ct⟩ σ H := h
end
/-! ### dict comprehensions -/
section
open PySem.Spec PyProof.Rows
variable {X : Cx}
end
section
variable {K : PySem.W.Frag} {σ : St} {H : Hp} {Q : VK}
def DcP (J : It) (g : TG) (tt : TT) (tk tv : TE) (vs : List Nat) (Q : VK) (σ : St) (H1 : Hp) : Prop := ∀ D, H1 D = none → ∃ W : Nat → Nat → Hp → Prop, (∃ m, W 0 m (upd H1 D (.dK []))) ∧ ∀ i m H, W i m H →
  (J.stop i H ∧ Q (.ref D) H) ∨ (J.go i H ∧ ∃ Nx : Hp → Prop, (∀ H', Nx H' → ∃ m', m' < m ∧ W (i + 1) m' H') ∧ ∀ x H', J.yld i H x H' → g x (wipe σ vs) H' fun σ2 H2 => wipe σ2 vs = wipe σ vs ∧ tt σ2 H2 fun b H3 =>
    if b = true then tk σ2 H3 fun y H4 => tv σ2 H4 fun z H5 => ∃ kvs k, y = kV k ∧ H5 D = some (.dK kvs) ∧ kvs.length < sizeLine ∧ Nx (upd H5 D (.dK (putK kvs k z))) else Nx H3)
theorem w_dc {wi : TI} {g : TG} {tt : TT} {tk tv : TE} {vs : List Nat} (h : wi σ H fun J H1 => DcP J g tt tk tv vs Q σ H1) : tDc wi g tt tk tv vs σ H Q := h
end
/-! ### ints -/
theorem cmul_l {i j : Int} (h1 : -(2 ^ 64) < i) (h2 : i < 2 ^ 64) : CMul i j := .inl ⟨h1, h2⟩
theorem cmul_r {i j : Int} (h1 : -(2 ^ 64) < j) (h2 : j < 2 ^ 64) : CMul i j := .inr ⟨h1, h2⟩
theorem cdivw {i j : Int} (h1 : 0 < j) (h2 : j < 2 ^ 64) : CDivW i j := wide_div (b := 64) h1 (by omega) (by decide) (by decide)
theorem at_lt {α : Type} {xs : List α} {i : Int} (h0 : 0 ≤ i) (h1 : i < xs.length) : ∃ v, xs[i.toNat]? = some v ∧ atI xs i = some v := by
  have hl : i.toNat < xs.length := by omega
  refine ⟨xs[i.toNat], List.getElem?_eq_getElem hl, ?_⟩
  have e := atI_nat (xs := xs) (j := i.toNat) (List.getElem?_eq_getElem hl)
  rw [Int.toNat_of_nonneg h0] at e
  exact e
/-! ### the deck -/
def MOSTD : Nat := 1099511627776
structure Deck (H : Hp) (d c : Addr) (n : Nat) : Prop where
  ex : ∃ (cs : List Int) (a : Nat) (b : Int) (t : Nat), H d = some (.lst [.ref c, .int a, .int b, .int t]) ∧ H c = some (.lst (cs.map V.int)) ∧ t ≤ n
  ne : c ≠ d
theorem Deck.kp {M : List Addr} {H H' : Hp} {d c : Addr} {n : Nat} (k : Kp M H H') (h1 : d ∉ M) (h2 : c ∉ M) (D : Deck H d c n) : Deck H' d c n := by
  obtain ⟨⟨cs, a, b, t, e1, e2, e3⟩, ne⟩ := D
  exact ⟨⟨cs, a, b, t, k _ _ h1 e1, k _ _ h2 e2, e3⟩, ne⟩
theorem Deck.new {H : Hp} {d c : Addr} {n : Nat} {p : Addr} {o : HO} (h : H p = none) (D : Deck H d c n) : Deck (upd H p o) d c n := D.kp (M := []) (Kp.new h) (by simp) (by simp)
theorem Deck.mut {H : Hp} {d c : Addr} {n : Nat} {p : Addr} {o : HO} (h1 : p ≠ d) (h2 : p ≠ c) (D : Deck H d c n) : Deck (upd H p o) d c n :=
  D.kp (M := [p]) (Kp.mut (by simp)) (by simpa using Ne.symm h1) (by simpa using Ne.symm h2)
theorem Deck.mono {H : Hp} {d c : Addr} {n m : Nat} (D : Deck H d c n) (h : n ≤ m) : Deck H d c m := by
  obtain ⟨⟨cs, a, b, t, e1, e2, e3⟩, ne⟩ := D
  exact ⟨⟨cs, a, b, t, e1, e2, Nat.le_trans e3 h⟩, ne⟩
theorem Deck.at {H : Hp} {d c : Addr} {n : Nat} (D : Deck H d c n) : (∃ xs, H d = some (.lst xs)) ∧ ∃ xs, H c = some (.lst xs) := by
  obtain ⟨⟨cs, a, b, t, e1, e2, e3⟩, ne⟩ := D
  exact ⟨⟨_, e1⟩, ⟨_, e2⟩⟩
theorem Deck.ne1 {H : Hp} {d c p : Addr} {n : Nat} (D : Deck H d c n) (h : H p = none) : p ≠ d ∧ p ≠ c := by
  obtain ⟨⟨xs, e1⟩, ys, e2⟩ := D.at
  exact ⟨(ne_of_none e1 h).symm, (ne_of_none e2 h).symm⟩
end FW

set_option Elab.async false
set_option linter.all false
set_option maxRecDepth 100000
set_option maxHeartbeats 4000000
/-! {key: value for a in as if .. for b in bs if ..}: a dict by two clauses, as a rule of the layer (my own: the layer has it for lists). -/
namespace FW
open PySem PySem.Spec PyProof.Rows L2
section
variable {kx vx ta ia tb ib : Expr} {fa fb : List Expr} {sc : Scope} {ps : Pos}
abbrev two (kx vx ta ia : Expr) (fa : List Expr) (tb ib : Expr) (fb : List Expr) (sc : Scope) (ps : Pos) : Expr := .DictComp kx vx [⟨ta, ia, fa, 0⟩, ⟨tb, ib, fb, 0⟩] sc ps
/-- the tests of a clause, one behind the other -/
abbrev testsOf2 (fs : List Expr) (env : Env) : Sem Bool := forIn fs true fun c r => if r = true then do let ok ← isTrue c env (eval c env); pure (ForInStep.yield ok) else pure (ForInStep.yield r)
variable {pg : Program} {wd : World} {A : Around} {R : Result → Shared → Prop} {st : Shared} {it : Value} {D : Addr} {env : Env}
end
section
variable {X : Cx} {kx vx ta ia tb ib : Expr} {fa fb : List Expr} {sc : Scope} {ps qs : Pos} {own : List (Str × Nat)} {us : List Nat} {wa wb : TI} {ga gb : TG} {ra rb : TT} {tk tv : TE}
/-- the inner walk of one turn: from it Nx is reached -/
def Inner2 (J : It) (gb : TG) (rb : TT) (tk tv : TE) (us : List Nat) (D : Addr) (σ : L2.St) (H : Hp) (Nx : Hp → Prop) : Prop := ∃ W : Nat → Nat → Hp → Prop, (∃ m, W 0 m H) ∧ ∀ j k H1, W j k H1 →
  (J.stop j H1 ∧ Nx H1) ∨ (J.go j H1 ∧ ∃ Ny : Hp → Prop, (∀ H2, Ny H2 → ∃ k', k' < k ∧ W (j + 1) k' H2) ∧ ∀ x H2, J.yld j H1 x H2 → gb x (wipe σ us) H2 fun σ3 H3 => wipe σ3 us = wipe σ us ∧ rb σ3 H3 fun b H4 =>
    if b = true then tk σ3 H4 fun y H5 => tv σ3 H5 fun z H6 => ∃ kvs key, y = kV key ∧ H6 D = some (.dK kvs) ∧ kvs.length < sizeLine ∧ Ny (upd H6 D (.dK (putK kvs key z))) else Ny H4)
/-- the whole -/
def tDc2 (wa : TI) (ga : TG) (ra : TT) (wb : TI) (gb : TG) (rb : TT) (tk tv : TE) (os us : List Nat) : TE := fun σ H Q => wa σ H fun J H1 => ∀ D, H1 D = none → ∃ W : Nat → Nat → Hp → Prop, (∃ m, W 0 m (upd H1 D (.dK []))) ∧ ∀ i m H2, W i m H2 →
  (J.stop i H2 ∧ Q (.ref D) H2) ∨ (J.go i H2 ∧ ∃ Nx : Hp → Prop, (∀ H3, Nx H3 → ∃ m', m' < m ∧ W (i + 1) m' H3) ∧ ∀ x H3, J.yld i H2 x H3 → ga x (wipe σ os) H3 fun σ2 H4 => wipe σ2 os = wipe σ os ∧ ra σ2 H4 fun b H5 =>
    if b = true then wb σ2 H5 fun J1 H6 => Inner2 J1 gb rb tk tv us D σ2 H6 Nx else Nx H5)
end
/-! ### its steps -/
section
variable {K : PySem.W.Frag} {σ : L2.St} {H : Hp} {Q : VK}
def Dc2P (J : It) (ga : TG) (ra : TT) (wb : TI) (gb : TG) (rb : TT) (tk tv : TE) (os us : List Nat) (Q : VK) (σ : L2.St) (H1 : Hp) : Prop := ∀ D, H1 D = none → ∃ W : Nat → Nat → Hp → Prop, (∃ m, W 0 m (upd H1 D (.dK []))) ∧ ∀ i m H2, W i m H2 →
  (J.stop i H2 ∧ Q (.ref D) H2) ∨ (J.go i H2 ∧ ∃ Nx : Hp → Prop, (∀ H3, Nx H3 → ∃ m', m' < m ∧ W (i + 1) m' H3) ∧ ∀ x H3, J.yld i H2 x H3 → ga x (wipe σ os) H3 fun σ2 H4 => wipe σ2 os = wipe σ os ∧ ra σ2 H4 fun b H5 =>
    if b = true then wb σ2 H5 fun J1 H6 => Inner2 J1 gb rb tk tv us D σ2 H6 Nx else Nx H5)
theorem w_dc2 {wa wb : TI} {ga gb : TG} {ra rb : TT} {tk tv : TE} {os us : List Nat} (h : wa σ H fun J H1 => Dc2P J ga ra wb gb rb tk tv os us Q σ H1) : tDc2 wa ga ra wb gb rb tk tv os us σ H Q := h
/-! ### a dict that is walked; any, sorted, insert -/
def rInsert : V → List V → Hp → VK → Prop := fun x vs H Q => ∃ (l : Addr) (xs : List V) (i : Int) (y : V), x = .ref l ∧ vs = [.int i, y] ∧ H l = some (.lst xs) ∧ xs.length < sizeLine ∧ 0 ≤ i ∧ i < 2 ^ 63 ∧ Q .non (upd H l (.lst (xs.take i.toNat ++ [y] ++ xs.drop i.toNat)))
theorem w_any {p : Addr} {bs : List Bool} (h1 : SqL K H p (bs.map V.bl)) (h : Q (.bl (bs.any id)) H) : rAny K [.ref p] H Q := ⟨p, bs, rfl, h1, h⟩
section
variable {nx bk ct : L2.St → Hp → Prop} {rt : VK}
def rKeys (x : V) (H1 : Hp) (R : It → Hp → Prop) : Prop := ∃ d o, x = .ref d ∧ ((∃ kvs, H1 d = some (.frz o (.dK kvs)) ∧ R (Itk d o kvs) H1) ∨ ∃ kvs, H1 d = some (.frz o (.dT kvs)) ∧ R (Itkt d o kvs) H1)
theorem w_keys {td : TE} {R : It → Hp → Prop} (h : td σ H fun x H1 => rKeys x H1 R) : iKeys td σ H R := h
theorem w_keys' {d : Addr} {o : Obj} {kvs : List (Key × V)} {R : It → Hp → Prop} (e : H d = some (.frz o (.dK kvs))) (h : R (Itk d o kvs) H) : rKeys (.ref d) H R := ⟨d, o, rfl, .inl ⟨kvs, e, h⟩⟩
end
theorem w_tyes {R : Bool → Hp → Prop} (h : R true H) : tYes σ H R := h
theorem w_dinF {a : Addr} {o : Obj} {kvs : List (Key × V)} {n : Int} (e : H a = some (.frz o (.dK kvs))) (h : Q (.bl (valV kvs (Sum.inl n)).isSome) H) : rDIn (.ref a) (.int n) H Q := ⟨a, _, rfl, .inl ⟨kvs, Sum.inl n, .inr ⟨o, e⟩, rfl, rfl⟩, h⟩
theorem w_dgetF {a : Addr} {o : Obj} {kvs : List (Key × V)} {n : Int} {v : V} (e : H a = some (.frz o (.dK kvs))) (e2 : valV kvs (Sum.inl n) = some v) (h : Q v H) : rDGet (.ref a) (.int n) H Q := ⟨a, v, rfl, .inl ⟨kvs, Sum.inl n, .inr ⟨o, e⟩, rfl, e2.symm⟩, h⟩
/-! ### get, reversed, slices, pop -/
def rDGet1 (a : Addr) (y : V) (H : Hp) (Q : VK) : Prop := ∃ o, DGet H a y o ∧ Q (o.getD .non) H
theorem w_dget1 {td ty : TE} (h : td σ H fun x H1 => rIsD x H1 fun a H1 => ty σ H1 fun y H2 => rDGet1 a y H2 Q) : tDGet1 td ty σ H Q := h
theorem w_dget1I {a : Addr} {kvs : List (Key × V)} {n : Int} (e : H a = some (.dK kvs)) (h : Q ((valV kvs (Sum.inl n)).getD .non) H) : rDGet1 a (.int n) H Q := ⟨_, DGet.k (k := Sum.inl n) e, h⟩
def rRev (K : PySem.W.Frag) (vs : List V) (H : Hp) (R : It → Hp → Prop) : Prop := ∃ (a : Addr) (xs : List V), vs = [.ref a] ∧ SqL K H a xs ∧ R (Itv K a xs.length) H
theorem w_rev {ta : TA} {R : It → Hp → Prop} (h : ta σ H fun vs H1 => rRev K vs H1 R) : iRev K ta σ H R := h
theorem w_rev' {a : Addr} {xs : List V} {R : It → Hp → Prop} (h1 : SqL K H a xs) (h : R (Itv K a xs.length) H) : rRev K [.ref a] H R := ⟨a, xs, rfl, h1, h⟩
def rPart (x : V) (H : Hp) (R : Option Int → Hp → Prop) : Prop := ∃ i, x = .int i ∧ R (some i) H
theorem w_slice {r : V → Option Int → Option Int → Hp → VK → Prop} {te : TE} {tl th : TO} (h : te σ H fun x H1 => tl σ H1 fun l H2 => th σ H2 fun u H3 => r x l u H3 Q) : L2.tSl r te tl th σ H Q := h
theorem w_noPart {R : Option Int → Hp → Prop} (h : R none H) : tNoPart σ H R := h
theorem w_part {te : TE} {R : Option Int → Hp → Prop} (h : te σ H fun x H1 => rPart x H1 R) : tPart te σ H R := h
theorem w_part' {i : Int} {R : Option Int → Hp → Prop} (h : R (some i) H) : rPart (.int i) H R := ⟨i, rfl, h⟩
theorem w_bm0 {r : V → List V → Hp → VK → Prop} {to : TE} (h : to σ H fun x H1 => tyV K "list" x H1 ∧ r x [] H1 Q) : tBM0 K "list" r to σ H Q := h
theorem w_retN {nx bk ct : L2.St → Hp → Prop} {rt : VK} (h : rt .non H) : tRetN ⟨nx, rt, bk, ct⟩ σ H := h
end
end FW

set_option Elab.async false
set_option linter.all false
set_option maxRecDepth 100000
set_option maxHeartbeats 4000000
/-! Data of any kind: what isinstance says of them, and tuples of them to a depth. -/
namespace FW
open PySem PySem.Spec PyProof.Rows L2
inductive Ty (H : Hp) : V → String → Prop where
  | non : Ty H .non "NoneType"
  | bl (b : Bool) : Ty H (.bl b) "bool"
  | int (i : Int) : Ty H (.int i) "int"
  | str (z : Str) : Ty H (.str z) "str"
  | lst {a : Addr} {xs : List V} (e : H a = some (.lst xs)) : Ty H (.ref a) "list"
  | tup {a : Addr} {xs : List V} (e : H a = some (.tup xs)) : Ty H (.ref a) "tuple"
  | dK {a : Addr} {kvs : List (Key × V)} (e : H a = some (.dK kvs)) : Ty H (.ref a) "dict"
section
variable {K : PySem.W.Frag} {σ : L2.St} {H : Hp} {Q : VK} {x : V} {a : String}
theorem Ty.tx (t : Ty H x a) : TyX K H x (.type a) := by
  cases t with
  | non => exact .base .non
  | bl b => exact .base (.bl b)
  | int i => exact .base (.int i)
  | str z => exact .base (.str z)
  | lst e => exact .base (.lst e)
  | tup e => exact .base (.tup e)
  | dK e => exact .base (.dK e)
theorem Ty.kTup (t : Ty H x a) : kitB a "tuple" = some (decide (a = "tuple")) := by
  cases t with
  | non => exact kb_NoneType_tuple
  | bl b => exact kb_bool_tuple
  | int i => exact kb_int_tuple
  | str z => exact kb_str_tuple
  | lst e => exact kb_list_tuple
  | tup e => exact kb_tuple_tuple
  | dK e => exact kb_dict_tuple
theorem Ty.kInt (t : Ty H x a) : kitB a "int" = some (decide (a = "int") || decide (a = "bool")) := by
  cases t with
  | non => exact kb_NoneType_int
  | bl b => exact kb_bool_int
  | int i => exact kb_int_int
  | str z => exact kb_str_int
  | lst e => exact kb_list_int
  | tup e => exact kb_tuple_int
  | dK e => exact kb_dict_int
theorem Ty.kBool (t : Ty H x a) : kitB a "bool" = some (decide (a = "bool")) := by
  cases t with
  | non => exact kb_NoneType_bool
  | bl b => exact kb_bool_bool
  | int i => exact kb_int_bool
  | str z => exact kb_str_bool
  | lst e => exact kb_list_bool
  | tup e => exact kb_tuple_bool
  | dK e => exact kb_dict_bool
theorem w_isTup (t : Ty H x a) (h : Q (.bl (decide (a = "tuple"))) H) : rIsi K [x, .ty "tuple"] H Q := w_isi t.tx t.kTup h
theorem w_isInt (t : Ty H x a) (h : Q (.bl (decide (a = "int") || decide (a = "bool"))) H) : rIsi K [x, .ty "int"] H Q := w_isi t.tx t.kInt h
theorem w_isBool (t : Ty H x a) (h : Q (.bl (decide (a = "bool"))) H) : rIsi K [x, .ty "bool"] H Q := w_isi t.tx t.kBool h
theorem Ty.isInt (t : Ty H x a) (e : a = "int") : ∃ i, x = .int i := by
  cases t with
  | int i => exact ⟨i, rfl⟩
  | non => exact absurd e (by decide)
  | bl _ => exact absurd e (by decide)
  | tup _ => exact absurd e (by decide)
  | str _ => exact absurd e (by decide)
  | lst _ => exact absurd e (by decide)
  | dK _ => exact absurd e (by decide)
theorem Ty.ofInt {i : Int} (t : Ty H (.int i) a) : a = "int" := by
  cases t with
  | int i => rfl
theorem Ty.ofTup {p : Addr} {xs : List V} (t : Ty H (.ref p) a) (e : H p = some (.tup xs)) : a = "tuple" := by
  cases t with
  | tup h => rfl
  | lst h => rw [e] at h; cases h
  | dK h => rw [e] at h; cases h
end
/-- data: a tuple of data, or another thing -/
inductive Dat (B : Nat) (H : Hp) : V → Prop where
  | leaf {x : V} {a : String} (t : Ty H x a) (h : a ≠ "tuple") : Dat B H x
  | tup {p : Addr} {xs : List V} (e : H p = some (.tup xs)) (l : xs.length ≤ B) (h : ∀ y ∈ xs, Dat B H y) : Dat B H (.ref p)
theorem Dat.int {B : Nat} {H : Hp} {i : Int} : Dat B H (.int i) := .leaf (.int i) (by decide)
theorem Dat.ty {B : Nat} {H : Hp} {x : V} (h : Dat B H x) : ∃ a, Ty H x a := by
  cases h with
  | leaf t _ => exact ⟨_, t⟩
  | tup e _ _ => exact ⟨_, .tup e⟩
/-- what keeps tuples, and of lists and dicts their kind -/
structure KD (H H' : Hp) : Prop where
  t : KT H H'
  l : ∀ b xs, H b = some (.lst xs) → ∃ ys, H' b = some (.lst ys)
  d : ∀ b kvs, H b = some (.dK kvs) → ∃ kws, H' b = some (.dK kws)
theorem KD.of {H H' : Hp} (k : Same H H') : KD H H' := ⟨KT.of k, fun b xs e => ⟨xs, k _ _ e⟩, fun b kvs e => ⟨kvs, k _ _ e⟩⟩
theorem KD.refl {H : Hp} : KD H H := ⟨KT.refl, fun b xs e => ⟨xs, e⟩, fun b kvs e => ⟨kvs, e⟩⟩
theorem KD.trans {H H1 H2 : Hp} (a : KD H H1) (b : KD H1 H2) : KD H H2 := ⟨a.t.trans b.t, fun c xs e => by
  obtain ⟨ys, e⟩ := a.l c xs e
  exact b.l c ys e, fun c xs e => by
  obtain ⟨ys, e⟩ := a.d c xs e
  exact b.d c ys e⟩
theorem KD.off {p : Addr} {H H' : Hp} {xs ys : List V} (k : Off p H H') (e : H p = some (.lst xs)) (e' : H' p = some (.lst ys)) : KD H H' := ⟨KT.off k e, fun b zs h => by
  by_cases q : b = p
  · subst q; exact ⟨ys, e'⟩
  · exact ⟨zs, k.get q h⟩, fun b kvs h => ⟨kvs, k.get (ne_of h e (fun z => nomatch z)) h⟩⟩
theorem Ty.kd {H H' : Hp} {x : V} {a : String} (t : Ty H x a) (k : KD H H') : Ty H' x a := by
  cases t with
  | non => exact .non
  | bl b => exact .bl b
  | int i => exact .int i
  | str z => exact .str z
  | lst e => obtain ⟨ys, e⟩ := k.l _ _ e; exact .lst e
  | tup e => exact .tup (k.t _ _ e)
  | dK e => obtain ⟨ys, e⟩ := k.d _ _ e; exact .dK e
theorem Dat.kd {B : Nat} {H H' : Hp} {x : V} (h : Dat B H x) (k : KD H H') : Dat B H' x := by
  induction h with
  | leaf t h => exact .leaf (t.kd k) h
  | tup e l _ ih => exact .tup (k.t _ _ e) l fun y hy => ih y hy
theorem Dat.mono {B C : Nat} (hB : B ≤ C) {H : Hp} {x : V} (h : Dat B H x) : Dat C H x := by
  induction h with
  | leaf t h => exact .leaf t h
  | tup e l _ ih => exact .tup e (Nat.le_trans l hB) fun y hy => ih y hy
theorem Dat.cases {B : Nat} {H : Hp} {x : V} (h : Dat B H x) : (∃ a, Ty H x a ∧ a ≠ "tuple") ∨ ∃ (p : Addr) (xs : List V), x = .ref p ∧ H p = some (.tup xs) ∧ xs.length ≤ B ∧ ∀ y ∈ xs, Dat B H y := by
  cases h with
  | leaf t h => exact .inl ⟨_, t, h⟩
  | tup e l h => exact .inr ⟨_, _, rfl, e, l, h⟩
theorem Deck.kd {H H' : Hp} {d c : Addr} {n m : Nat} (D : Deck H d c n) (D' : Deck H' d c m) (o : Off d H H') : KD H H' := by
  obtain ⟨⟨xs, e⟩, _⟩ := D.at
  obtain ⟨⟨ys, e'⟩, _⟩ := D'.at
  exact KD.off o e e'
section
variable {K : PySem.W.Frag} {H : Hp} {Q : VK}
theorem w_cat {l b : Addr} {xs zs : List V} (h1 : H l = some (.lst xs)) (h2 : H b = some (.lst zs)) (hz : xs.length + zs.length ≤ sizeLine) (h : ∀ p H1, H p = none → H1 p = some (.lst (xs ++ zs)) → Same H H1 → Q (.ref p) H1) : rCat (.ref l) (.ref b) H Q := ⟨l, b, xs, zs, rfl, rfl, h1, h2, hz, w_new h⟩
end
/-! ### except X as e -/
def tTryA (K : PySem.W.Frag) (c : Value) (i : Nat) (tb : WX → TS) (ts : Addr → Value → Option Addr → TS) : TS := fun D σ H => tb (wAs K c i ts (fun _ _ _ _ => False) D) D σ H
def tGuard (P : Prop) (t : TS) : TS := fun D σ H => P ∧ t D σ H
section
variable {X : Cx} {x n : Str} {c : Value} {i : Nat} {body suite : List Stmt} {b₀ : Stmt} {np pos pos' : Pos} {tb : WX → TS} {ts : Addr → Value → Option Addr → TS}
theorem p_tryAs (hs : X.stack = X.env :: X.outer) (hf : X.env.frame = some X.env.locals) (hN : X.N.Nodup) (hi : X.N[i]? = some n) (hln : X.env.kindOf n = some .local) (hc : Names X x c)
    (hb : ∀ (W : WX) (pn : List (Addr × Obj)) (xe : Value → Shared → Prop), Takes (X.tr pn xe) W → PassesOwn (model X.prog X.w) X.A X.env xe → PSs (X.tr pn xe) body (tb W))
    (hsu : ∀ (a : Addr) (oe : Obj) (cls : Value) (d : Option Addr) (pn : List (Addr × Obj)), Zc cls d oe → (∃ vs, oe.data = .fields vs) → PSs (X.suite a ((a, oe) :: pn)) (b₀ :: suite) (ts a cls d)) :
    PS X (.Try body [.ExceptHandler (some (.Name x np)) (some n) (b₀ :: suite) pos'] [] [] pos) (tTryA X.K c i tb ts) := ps_try_as hs hf hN hi hln hc takes0 hb hsu
theorem pss_guard {P : Prop} {ss : List Stmt} {t : TS} (h : P → PSs X ss t) : PSs X ss (tGuard P t) := ⟨fun pins s σ H D I hw => (h hw.1).run pins s σ H D I hw.2⟩
theorem zc_of {C : Addr} {cls : Value} {d : Option Addr} {oe : Obj} (hg : cls = .ref C ∧ d = none) (hz : Zc cls d oe) : Zc (.ref C) none oe := by
  obtain ⟨rfl, rfl⟩ := hg
  exact hz
end
section
variable {K : PySem.W.Frag} {σ : L2.St} {H : Hp} {Q : VK} {nx bk ct : L2.St → Hp → Prop} {rt : VK}
theorem w_tryA {c : Value} {i : Nat} {tb : WX → TS} {ts : Addr → Value → Option Addr → TS} (h : tb (wAs K c i ts (fun _ _ _ _ => False) ⟨nx, rt, bk, ct⟩) ⟨nx, rt, bk, ct⟩ σ H) : tTryA K c i tb ts ⟨nx, rt, bk, ct⟩ σ H := h
theorem w_guard {P : Prop} {t : TS} (p : P) (h : t ⟨nx, rt, bk, ct⟩ σ H) : tGuard P t ⟨nx, rt, bk, ct⟩ σ H := ⟨p, h⟩
theorem w_isE {a D C : Addr} {b : Bool} (e : PySem.W.kitOne K (.ref D) (.ref C) = some b) (h : Q (.bl b) H) : rIsE K D a [.ref a, .ref C] H Q := ⟨.ref C, .ref C, b, rfl, fun u r => r, e, h⟩
theorem w_isEt {a D : Addr} {n : String} {b : Bool} (e : PySem.W.kitOne K (.ref D) (.type n) = some b) (h : Q (.bl b) H) : rIsE K D a [.ref a, .ty n] H Q := ⟨.ty n, .type n, b, rfl, fun u r => r, e, h⟩
end
end FW

set_option Elab.async false
set_option linter.all false
set_option maxRecDepth 100000
set_option maxHeartbeats 4000000
/-! own errors with fields: made, caught, looked at; min of pairs; defaults by keyword -/
namespace FW
section
open PySem PySem.W PySem.Calls PyProof.Rows
variable {prog : Program} {w : World} {A : Around} {E : Value → Shared → Prop} {s : Shared} {K : Frag} {x D : Addr} {ox : Obj} {od : Option Obj}
theorem fo_data {C : Addr} {name : Str} {a g : Value} (hc : (clsIn K C).isSome = true) (ha : findIn K (.ref C) name = some (some a)) (hg : specialIn K a "__get__" = some (some g)) (ht : takesIn K a = some true) : findObj K C od name = some (.bind g a) := by
  obtain ⟨cd, e⟩ := Option.isSome_iff_exists.mp hc
  unfold findObj; rw [e, Option.bind_some, ha, Option.bind_some]; simp [hg, ht]
theorem cls_look {Q : Option Value → Shared → Prop} (C : L2.ExcC K D) (X : K.In s.heap) (I : InstAt s.heap x ox D od) (h : Q (some (.ref D)) { s with toks := s.toks + 1 }) : wpAny (model prog w) A (getAttr? (.ref x) "__class__") Q E s := by
  have hf : findObj K D od "__class__" = some (.bind (.builtin "getset_descriptor.__get__") (.builtin "object.__class__")) := fo_data (by obtain ⟨cd, hc, _⟩ := any_some C.hd; rw [hc]; rfl) C.ha C.hn C.ht
  obtain ⟨hp, g, d, t, os⟩ := s
  have y0 := I.type (M := model prog w); have y1 := looks_findIn (M := model prog w) X C.hg
  have y2 := looks_findIn (M := model prog w) X C.hk; have y3 := looks_find (M := model prog w) X I hf
  have sub : Looks (model prog w) hp (isInstance (.ref x) (.type "BaseException")) true := y0.andThen (looks_subIn X C.hs)
  have n2 : (Value.builtin "BaseException.__getattribute__" == Value.builtin "object.__getattribute__") = false := by decide +kernel
  have n1 : (onTheHeap (Value.ref D) && Value.builtin "BaseException.__getattribute__" == Value.builtin "object.__getattribute__") = false := by rw [n2]; rfl
  unfold getAttr? getAttrBy? getAttrBy
  refine wpAny_bind (wpAny_mkText (wpAny_bind (wpAny_attempt (wpAny_holding (wpAny_bind (y0.at (wpAny_bind (y1.at ?_))))))))
  show wpAny _ _ (if (onTheHeap (Value.ref D) && Value.builtin "BaseException.__getattribute__" == Value.builtin "object.__getattribute__") = true then _ else _) _ _ _; rw [n1, if_neg Bool.false_ne_true]
  unfold getAttrByItsOwn hookBefore; refine wpAny_bind ?_; rw [if_pos (show onTheHeap (Value.ref D) = true from rfl)]; refine y2.at ?_
  refine wpAny_bind (wpAny_attempt (wpAny_holding ?_)); unfold callGetattribute; rw [show (false && onTheHeap (Value.builtin "BaseException.__getattribute__")) = false from rfl, if_neg Bool.false_ne_true]
  unfold boundAndCalled; rw [PySem.F.excAttr_ValueError.ga.bind (.ref x)]; refine wpAny_bind (wpAny_pure ?_)
  show wpAny _ _ (call (.builtin "BaseException.__getattribute__") [.ref x, .str "__class__" t]) _ _ _; refine wpAny_call (codeAny_call_builtin PySem.F.excAttr_ValueError.ga.plain PySem.F.entry_bexc_ga ?_)
  refine @check_slot (model prog w) _ _ ⟨hp, g, d, t + 1, os⟩ "BaseException.__getattribute__" "BaseException" "__getattribute__" (.ref x) [.str "__class__" t] [] _ (by decide +kernel) (by decide +kernel) sub (PySem.F.args_bexc_ga (.ref x) (.str "__class__" t)) ?_; unfold Builtin.«object.__getattribute__»
  refine wpAny_bind (wpAny_of_eq (a := ((Value.ref x : Value), [Value.str "__class__" t])) (by first | rfl | (simp only [slotArgs]; rfl)) ?_); refine wpAny_bind (wpAny_pure (wpAny_bind (y0.at (wpAny_bind (y3.at ?_)))))
  show wpAny _ _ (holding [Value.builtin "object.__class__"] (call (.builtin "getset_descriptor.__get__") [.builtin "object.__class__", .ref x, .ref D]) >>= ret) _ _ _; refine wpAny_bind (wpAny_holding (wpAny_call (class_get (s := ⟨hp, g, d, t + 1, os⟩) (ox := ox) (od := od) X I C.hm ?_)))
  refine wpAny_pure ?_; show wpAny _ _ (handedOut (.ref D)) _ _ _; rw [handedOut_of (v := .ref D) rfl]
  first | exact wpAny_pure (wpAny_pure h) | exact wpAny_pure h | exact wpAny_pure (wpAny_bind (wpAny_pure (wpAny_pure h)))
theorem kitx_of (C : L2.ExcC K D) : KitX K (.ref x) (.ref D) (fun h => InstAt h x ox D od) := by
  have Z : KitX K (.ref x) (.ref D) (fun h => InstAt h x ox D none) := handS_kitx_exc C.hg C.hk C.hs C.hd C.ha C.hn C.ht C.hm
  refine ⟨fun _ _ _ I => I.type, fun _ _ X _ => ?_, Z.ne, fun X I k => cls_look C X I k⟩
  obtain ⟨cd, hc, _⟩ := any_some C.hd
  unfold clsIn at hc
  split at hc
  · rename_i ho
    intro A' Q' E' s' k q
    unfold isType loadHead; exact wpAny_bind (wpAny_loadPart (k _ _ (X _ _ ho)) (wpAny_pure q))
  · cases hc
end
open PySem PySem.Spec PyProof.Rows L2
/-- isinstance(e, c), e the error that the suite holds, with its fields at d -/
def rIsF (K : PySem.W.Frag) (D a : Addr) (d : Option Addr) : List V → Hp → VK → Prop := fun xs H Q => ∃ (c : V) (cv : Value) (b : Bool) (dd : Addr) (fs : List (Str × V)), xs = [.ref a, c] ∧ d = some dd ∧ H dd = some (.xd fs) ∧ (∀ u, RelV c u → u = cv) ∧ PySem.W.kitOne K (.ref D) cv = some b ∧ Q (.bl b) H
theorem call_isF {X : Cx} {a D : Addr} {oe : Obj} {cls : Value} {d : Option Addr} {pn : List (Addr × Obj)} (C : ExcC X.K D) (hc : cls = .ref D) (hz : Zc cls d oe) (hf : ∃ vs, oe.data = .fields vs) : CallR (X.suite a ((a, oe) :: pn)) (.builtin "isinstance") (rIsF X.K D a d) := by
  intro pins s σ H xs us Q I r ⟨c, cv, b, dd, fs, e0, ed, ea, hcv, e, q⟩
  subst e0 hc ed
  cases r with
  | cons rx rr =>
    cases rr with
    | cons rt rr =>
      cases rr
      cases rx
      have ec := hcv _ rt
      subst ec
      obtain ⟨ha, _⟩ := I.pin (a, oe) (List.mem_append.mpr (.inl List.mem_cons_self))
      obtain ⟨vs, hv⟩ := hf
      have hx : ObjOk X.prog X.w H s.heap dd (.xd fs) := I.hok dd _ ea
      obtain ⟨mA, hns, _⟩ := hx
      obtain ⟨od, ho, _⟩ := lookIn_ns hns
      have J : PySem.W.InstAt s.heap a oe D (some od) := ⟨ha, hz.1, by unfold PySem.W.notCls; rw [hv] <;> rfl, by rw [hz.2]; exact ho⟩
      exact PySem.W.kia_one (kitx_of C) I.kIn J e (fun z => nomatch z) fun tk => ⟨.bl b, H, I.kept (t' := tk) fun _ _ z => z, rfl, q⟩
/-- an own error with __init__ -/
structure ExnI (K : PySem.W.Frag) (mg : Str → Option Value) (x : Str) (C fI : Addr) (fd : FuncData) (ps : List Str) (fs : List Str) : Prop where
  g : mg x = some (.ref C)
  T : OexC K C
  i : PySem.W.findIn K (.ref C) "__init__" = some (some (.ref fI))
  t : PySem.W.typeIn K (.ref fI) = some (.type "function")
  b : Binds K fd ps []
  f : XfC K C
  ec : ExcC K C
  nf : ∀ y ∈ fs, PySem.W.findIn K (.ref C) y = some none
/-- a def with keyword-only defaults -/
structure DfK (K : PySem.W.Frag) (mg : Str → Option Value) (x : Str) (st : Stmt) (ps : List Str) (kws : List (Str × V)) (dvs : List V) (f : Addr) (fd : FuncData) : Prop where
  fn : FunD K x x (defArgs st) (defBody st) (defScope st) [] kws f fd
  g : mg x = some (.ref f)
  kp : PySem.W.keepIn K (.ref f) = true
  b : ∃ ds, Vals dvs ds ∧ Binds K fd ps ds
  kb : ∃ g, KBn K fd ps (ps.length - kws.length) (kws.map (·.1)) g (fun vs zs => vs ++ zs)
/-- raise C(..) of two fields -/
def tRaiseO (C : Addr) (W : WX) (sp : Sp) (ta : TA) : TS := fun _ σ H => tMkO C sp [] ta σ H fun cls d H' => W cls d σ H'
section
variable {K : PySem.W.Frag} {σ : L2.St} {H : Hp} {Q : VK} {nx bk ct : L2.St → Hp → Prop} {rt : VK}
theorem w_mkO {C : Addr} {sp : Sp} {ta : TA} {Qx : XK} (h : ta σ H fun vs H1 => vs.length ≤ 1000 ∧ ∀ a, H1 a = none → sp (.ref a :: (vs ++ [])) (upd H1 a (exo a C none)) (fun v H2 => v = .non ∧ ∃ (d : Addr) (fs : List (Str × V)), H2 a = some (exo a C (some d)) ∧ H2 d = some (exd d fs) ∧ H1 d = none ∧ Qx (.ref C) (some d) (upd (del H2 a) d (.xd fs))) (fun _ _ _ => False)) : tMkO C sp [] ta σ H Qx := h
theorem w_callN {n m : Nat} {sp : Sp} {gV : List V → List V → List V} {E : XK} {t tk : TA} (h : t σ H fun vs H1 => tk σ H1 fun zs H2 => vs.length = n ∧ zs.length = m ∧ sp (gV vs zs) H2 Q E) : tCallN n m sp gV E t tk σ H Q := h
theorem w_xf {a C : Addr} {cls : Value} {d : Option Addr} {f : Str} {te : TE} (h : te σ H fun x H1 => x = .ref a ∧ cls = .ref C ∧ ∃ (dd : Addr) (fs : List (Str × V)) (v : V), d = some dd ∧ H1 dd = some (.xd fs) ∧ fs.lookup f = some v ∧ Q v H1) : tXf a cls d C f te σ H Q := h
theorem w_isF {a D C dd : Addr} {fs : List (Str × V)} {b : Bool} (ed : H dd = some (.xd fs)) (e : PySem.W.kitOne K (.ref D) (.ref C) = some b) (h : Q (.bl b) H) : rIsF K D a (some dd) [.ref a, .ref C] H Q := ⟨.ref C, .ref C, b, dd, fs, rfl, rfl, ed, fun u r => r, e, h⟩
theorem w_isFt {a D dd : Addr} {fs : List (Str × V)} {n : String} {b : Bool} (ed : H dd = some (.xd fs)) (e : PySem.W.kitOne K (.ref D) (.type n) = some b) (h : Q (.bl b) H) : rIsF K D a (some dd) [.ref a, .ty n] H Q := ⟨.ty n, .type n, b, dd, fs, rfl, rfl, ed, fun u r => r, e, h⟩
theorem w_ost {f : Str} {to te : TE} {D : Ends} (h : te σ H fun y H1 => to σ H1 fun x H2 => ∃ a C : Addr, x = .ref a ∧ OexC K C ∧ PySem.W.findIn K (.ref C) f = some none ∧ ((H2 a = some (exo a C none) ∧ ∀ dx, H2 dx = none → dx ≠ a → D.nx σ (upd (upd H2 dx (exd dx [(f, y)])) a (exo a C (some dx)))) ∨ ∃ (dx : Addr) (fs : List (Str × V)), H2 a = some (exo a C (some dx)) ∧ H2 dx = some (exd dx fs) ∧ fs.length ≤ 900 ∧ D.nx σ (upd H2 dx (exd dx ((f, y) :: fs))))) : tOst K f to te D σ H := h
end
/-- what __init__ of two fields leaves -/
def spInit2 (K : PySem.W.Frag) (C : Addr) (f g : Str) : Sp := fun vs H Q _ => ∃ (a : Addr) (x y : V), vs = [.ref a, x, y] ∧ H a = some (exo a C none) ∧ ∀ dx, H dx = none → dx ≠ a → Q .non (upd (upd (upd H dx (exd dx [(f, x)])) a (exo a C (some dx))) dx (exd dx [(g, y), (f, x)]))
def spInit1 (K : PySem.W.Frag) (C : Addr) (f : Str) : Sp := fun vs H Q _ => ∃ (a : Addr) (x : V), vs = [.ref a, x] ∧ H a = some (exo a C none) ∧ ∀ dx, H dx = none → dx ≠ a → Q .non (upd (upd H dx (exd dx [(f, x)])) a (exo a C (some dx)))
/-! ### min of a list of pairs -/
def LtP (p q : Int × Int) : Prop := p.1 < q.1 ∨ p.1 = q.1 ∧ p.2 < q.2
def rMinP (K : PySem.W.Frag) : List V → Hp → VK → Prop := fun vs H Q => ∃ (a : Addr) (ps : List (Addr × Int × Int)), vs = [V.ref a] ∧ SqL K H a (ps.map fun q => .ref q.1) ∧ (∀ q ∈ ps, H q.1 = some (.tup [.int q.2.1, .int q.2.2])) ∧ ps ≠ [] ∧ ∀ q ∈ ps, (∀ r ∈ ps, ¬ LtP r.2 q.2) → Q (.ref q.1) H
section
variable {X : Cx} {pins : List (Addr × Obj)} {σ : L2.St} {H : Hp} {s : Shared}
end
end FW

set_option Elab.async false
set_option linter.all false
set_option maxRecDepth 100000
set_option maxHeartbeats 4000000
/-! for i, x in enumerate(t), t a tuple -/
namespace FW
open PySem PySem.Spec PyProof.Rows L2
def ItU (K : PySem.W.Frag) (a : Addr) : It :=
  ⟨fun i H => ∃ (xs : List V) (x : V), SqT K H a xs ∧ xs[i]? = some x,
   fun i H v H' => ∃ T x, v = .ref T ∧ H T = none ∧ H' = upd H T (.tup [.int (i : Nat), x]) ∧ ∀ xs, SqT K H a xs → xs[i]? = some x,
   fun i H => ∃ xs : List V, SqT K H a xs ∧ xs.length = i⟩
section
variable {P : Program} {w : World} {K : PySem.W.Frag} {elts : List Expr} {kk : Nat} {tpos : Pos}
end
section
variable {prog : Program} {w : World} {A : Around} {E : Value → Shared → Prop} {s : Shared}
end
def rEnumT (K : PySem.W.Frag) (vs : List V) (H : Hp) (R : It → Hp → Prop) : Prop := ∃ a xs, vs = [.ref a] ∧ SqT K H a xs ∧ R (ItU K a) H
def iEnumT (K : PySem.W.Frag) (ta : TA) : TI := fun σ H R => ta σ H fun vs H1 => rEnumT K vs H1 R
def rLenD (vs : List V) (H : Hp) (Q : VK) : Prop := ∃ a kvs, vs = [V.ref a] ∧ H a = some (.dK kvs) ∧ Q (.int kvs.length) H
section
variable {K : PySem.W.Frag} {σ : L2.St} {H : Hp} {a : Addr} {xs : List V}
theorem w_enum {ta : TA} {R : It → Hp → Prop} (h : ta σ H fun vs H1 => rEnumT K vs H1 R) : iEnumT K ta σ H R := h
theorem w_enum' {R : It → Hp → Prop} (h1 : SqT K H a xs) (h : R (ItU K a) H) : rEnumT K [.ref a] H R := ⟨a, xs, rfl, h1, h⟩
end
/-! ### what keeps all but the deck -/
structure KX (dk : Addr) (H H' : Hp) : Prop extends KD H H' where
  p : Kp [dk] H H'
theorem KX.of {d : Addr} {H H' : Hp} (k : Same H H') : KX d H H' := ⟨KD.of k, Kp.of k⟩
theorem KX.refl {d : Addr} {H : Hp} : KX d H H := ⟨KD.refl, Kp.refl⟩
theorem KX.trans {d : Addr} {H H1 H2 : Hp} (a : KX d H H1) (b : KX d H1 H2) : KX d H H2 := ⟨a.toKD.trans b.toKD, a.p.trans b.p⟩
theorem Deck.kx {H H' : Hp} {d c : Addr} {n m : Nat} (D : Deck H d c n) (D' : Deck H' d c m) (o : Off d H H') : KX d H H' := ⟨D.kd D' o, o.kp (by simp)⟩
instance {d : Addr} {H H' : Hp} : CoeOut (KX d H H') (KD H H') := ⟨KX.toKD⟩
end FW

set_option Elab.async false
set_option linter.all false
set_option maxRecDepth 100000
set_option maxHeartbeats 4000000
/-! sorted(d) of a dict of ints, of any length -/
namespace FW
open PySem PySem.Spec PyProof.Rows L2
def rSortA (xs : List V) (H : Hp) (Q : VK) : Prop := ∃ (a : Addr) (kvs : List (Key × V)) (ks : List Int), xs = [.ref a] ∧ Rd H a (.dK kvs) ∧ kvs.map (·.1) = ks.map Sum.inl ∧ ks.length ≤ 100000 ∧
    ∀ (ys : List Int) (p : Addr), ys.Perm ks → ys.Pairwise (· ≤ ·) → H p = none → Q (.ref p) (upd H p (.lst (ys.map V.int)))
end FW

set_option Elab.async false
set_option linter.all false
set_option maxRecDepth 100000
set_option maxHeartbeats 4000000
/-! t[k::w] of a tuple; extend by a tuple; pairs in a list -/
namespace HT
open PySem PySem.Spec PyProof.Rows
section
variable {prog : Program} {w : World} {A : Around} {E : Value → Shared → Prop} {s : Shared}
def places (n k w : Nat) : Nat := (n - k - 1) / w + 1
def stepL {α : Type} (xs : List α) (k c : Nat) : List α := (List.range (places xs.length k c)).filterMap fun j => xs[k + j * c]?
end
end HT
namespace FW
open PySem PySem.Spec PyProof.Rows L2
/-- t[k::w] -/
def rStep (K : PySem.W.Frag) (x y z : V) (H : Hp) (Q : VK) : Prop := ∃ (a : Addr) (xs : List V) (k c : Nat), x = .ref a ∧ y = .int k ∧ z = .int c ∧ SqT K H a xs ∧ k < xs.length ∧ 0 < c ∧ (k = 0 → c = 1 → Q (.ref a) H) ∧ (¬ (k = 0 ∧ c = 1) → Nw (.tup (HT.stepL xs k c)) H Q)
def tStep (K : PySem.W.Frag) (te tl ts : TE) : TE := fun σ H Q => te σ H fun x H1 => tl σ H1 fun y H2 => ts σ H2 fun z H3 => rStep K x y z H3 Q
section
variable {X : Cx}
def rExtT (K : PySem.W.Frag) : V → List V → Hp → VK → Prop := fun x vs H Q => ∃ l b xs zs, x = .ref l ∧ vs = [.ref b] ∧ H l = some (.lst xs) ∧ H b = some (.tup zs) ∧ xs.length + zs.length ≤ sizeLine ∧ Q .non (upd H l (.lst (xs ++ zs)))
/-- a pair (int, truth) that is not in a list of such -/
def rNotInP (K : PySem.W.Frag) : R2 := fun x y H Q => ∃ (p a : Addr) (v : Int) (b : Bool) (an : List (Addr × Int × Bool)), x = .ref p ∧ y = .ref a ∧ H p = some (.tup [.int v, .bl b]) ∧ SqL K H a (an.map fun q => .ref q.1) ∧ (∀ q ∈ an, H q.1 = some (.tup [.int q.2.1, .bl q.2.2])) ∧ Q (.bl (decide ((v, b) ∉ an.map (·.2)))) H
end
section
variable {K : PySem.W.Frag} {σ : L2.St} {H : Hp} {Q : VK}
theorem w_step {te tl ts : TE} (h : te σ H fun x H1 => tl σ H1 fun y H2 => ts σ H2 fun z H3 => rStep K x y z H3 Q) : tStep K te tl ts σ H Q := h
end
end FW

set_option Elab.async false
set_option linter.all false
set_option maxRecDepth 100000
set_option maxHeartbeats 4000000
/-! a, .., *rest = t: the last target starred, t a tuple -/
namespace FW
open PySem PySem.Spec PyProof.Rows L2
section
variable {prog : Program} {w : World} {A : Around} {E : Value → Shared → Prop} {s : Shared}
end
/-- n names, then a starred one -/
def gStar (K : PySem.W.Frag) (j : Nat) (t : TGs) : TG := fun v σ H Q => ∃ a xs, v = .ref a ∧ SqT K H a xs ∧ j ≤ xs.length ∧ ∀ L, H L = none → t (xs.take j ++ [.ref L]) σ (upd H L (.lst (xs.drop j))) Q
section
variable {X : Cx} {pos : Pos}
end
end FW

set_option Elab.async false
set_option linter.all false
set_option maxRecDepth 100000
set_option maxHeartbeats 4000000
/-! try with several except clauses, each with or without a name -/
namespace FW
open PySem PySem.Spec PyProof.Rows L2
abbrev Suite := Addr → Value → Option Addr → TS
/-- the ends behind a suite whose name goes -/
def unset (i : Nat) (D : Ends) : Ends := ⟨fun σ H => D.nx (σ.set i none) H, D.rt, fun σ H => D.bk (σ.set i none) H, fun σ H => D.ct (σ.set i none) H⟩
def runCl (o : Option Nat) (ts : Suite) (a : Addr) (cls : Value) (d : Option Addr) (D : Ends) (σ : L2.St) (H : Hp) : Prop :=
  match o with
  | none => ts a cls d D σ H
  | some i => ts a cls d (unset i D) (σ.set i (some (.ref a))) H
def wCl (K : PySem.W.Frag) (Wo : WX) (D : Ends) : List (Value × Option Nat × Suite) → WX
  | [] => Wo
  | (c, o, ts) :: r => fun cls d σ H => ∃ b, PySem.W.exmOne K cls c = some b ∧ (b = true → ∀ a, H a = none → runCl o ts a cls d D σ H) ∧ (b = false → wCl K Wo D r cls d σ H)
inductive ClOk (X : Cx) : List ExceptHandler → List (Value × Option Nat × Suite) → Prop
  | nil : ClOk X [] []
  | only {x : Str} {c : Value} {ts : Suite} {st : Stmt} {sts : List Stmt} {p1 p2 : Pos} {hs : List ExceptHandler} {l : List (Value × Option Nat × Suite)} (nm : Names X x c)
      (su : ∀ a oe cls d pn, Zc cls d oe → (∃ vs, oe.data = .fields vs) → PSs (X.suite a ((a, oe) :: pn)) (st :: sts) (ts a cls d)) (r : ClOk X hs l) :
      ClOk X (.ExceptHandler (some (.Name x p1)) none (st :: sts) p2 :: hs) ((c, none, ts) :: l)
  | as {x n : Str} {c : Value} {i : Nat} {ts : Suite} {st : Stmt} {sts : List Stmt} {p1 p2 : Pos} {hs : List ExceptHandler} {l : List (Value × Option Nat × Suite)} (hi : X.N[i]? = some n) (hl : X.env.kindOf n = some .local) (nm : Names X x c)
      (su : ∀ a oe cls d pn, Zc cls d oe → (∃ vs, oe.data = .fields vs) → PSs (X.suite a ((a, oe) :: pn)) (st :: sts) (ts a cls d)) (r : ClOk X hs l) :
      ClOk X (.ExceptHandler (some (.Name x p1)) (some n) (st :: sts) p2 :: hs) ((c, some i, ts) :: l)
def tTryG (K : PySem.W.Frag) (l : List (Value × Option Nat × Suite)) (Wo : WX) (tb : WX → TS) : TS := fun D σ H => tb (wCl K Wo D l) D σ H
section
variable {X : Cx} {body : List Stmt} {h1 : ExceptHandler} {hs : List ExceptHandler} {l : List (Value × Option Nat × Suite)} {pos : Pos} {tb : WX → TS} {Wo : WX}
end
section
variable {K : PySem.W.Frag} {σ : L2.St} {H : Hp} {nx bk ct : L2.St → Hp → Prop} {rt : VK}
theorem w_tryG {l : List (Value × Option Nat × Suite)} {Wo : WX} {tb : WX → TS} (h : tb (wCl K Wo ⟨nx, rt, bk, ct⟩ l) ⟨nx, rt, bk, ct⟩ σ H) : tTryG K l Wo tb ⟨nx, rt, bk, ct⟩ σ H := h
end
end FW

set_option Elab.async false
set_option linter.all false
set_option maxRecDepth 100000
set_option maxHeartbeats 4000000
/-! {tuple: value for a in as if ..}: a dict keyed by tuples, one clause; pairs looked for in tuples; zip of tuples -/
namespace FW
open PySem PySem.Spec PyProof.Rows L2
section
variable {kx vx ta ia : Expr} {fa : List Expr} {sc : Scope} {ps : Pos}
abbrev one (kx vx ta ia : Expr) (fa : List Expr) (sc : Scope) (ps : Pos) : Expr := .DictComp kx vx [⟨ta, ia, fa, 0⟩] sc ps
variable {pg : Program} {wd : World} {A : Around} {R : Result → Shared → Prop} {st : Shared} {it : Value} {D : Addr} {env : Env}
end
section
variable {X : Cx}
variable {kx vx ta ia : Expr} {fa : List Expr} {sc : Scope} {ps qs : Pos} {own : List (Str × Nat)} {wa : TI} {ga : TG} {ra : TT} {tk tv : TE}
def DcTP (J : It) (g : TG) (tt : TT) (tk tv : TE) (vs : List Nat) (Q : VK) (σ : L2.St) (H1 : Hp) : Prop := ∀ D, H1 D = none → ∃ W : Nat → Nat → Hp → Prop, (∃ m, W 0 m (upd H1 D (.dT []))) ∧ ∀ i m H, W i m H →
  (J.stop i H ∧ Q (.ref D) H) ∨ (J.go i H ∧ ∃ Nx : Hp → Prop, (∀ H', Nx H' → ∃ m', m' < m ∧ W (i + 1) m' H') ∧ ∀ x H', J.yld i H x H' → g x (wipe σ vs) H' fun σ2 H2 => wipe σ2 vs = wipe σ vs ∧ tt σ2 H2 fun b H3 =>
    if b = true then tk σ2 H3 fun y H4 => tv σ2 H4 fun z H5 => ∃ kvs k b, y = .ref b ∧ H5 b = some (.tup (k.map kV)) ∧ H5 D = some (.dT kvs) ∧ kvs.length < sizeLine ∧ Nx (upd H5 D (.dT (putK kvs k z))) else Nx H3)
def tDcT (wi : TI) (g : TG) (tt : TT) (tk tv : TE) (vs : List Nat) : TE := fun σ H Q => wi σ H fun J H1 => DcTP J g tt tk tv vs Q σ H1
/-- a pair of ints that is not in a tuple of such -/
def rNotInT (K : PySem.W.Frag) : R2 := fun x y H Q => ∃ (p a : Addr) (v b : Int) (an : List (Addr × Int × Int)), x = .ref p ∧ y = .ref a ∧ H p = some (.tup [.int v, .int b]) ∧ SqT K H a (an.map fun q => .ref q.1) ∧ (∀ q ∈ an, H q.1 = some (.tup [.int q.2.1, .int q.2.2])) ∧ Q (.bl (decide ((v, b) ∉ an.map (·.2)))) H
end
section
variable {K : PySem.W.Frag} {σ : L2.St} {H : Hp} {Q : VK} {nx bk ct : L2.St → Hp → Prop} {rt : VK}
theorem w_dct {wi : TI} {g : TG} {tt : TT} {tk tv : TE} {vs : List Nat} (h : wi σ H fun J H1 => DcTP J g tt tk tv vs Q σ H1) : tDcT wi g tt tk tv vs σ H Q := h
/-- for a, b in zip(tuple, tuple) -/
def rZipA (K : PySem.W.Frag) (vs : List V) (H : Hp) (R : It → Hp → Prop) : Prop := ∃ a b xs ys, vs = [.ref a, .ref b] ∧ ((SqL K H a xs ∧ SqL K H b ys ∧ R (Itz K a b) H) ∨ (SqT K H a xs ∧ SqT K H b ys ∧ R (RZ.ItzT K a b) H))
theorem w_zipA {ta : TA} {R : It → Hp → Prop} (h : ta σ H fun vs H1 => rZipA K vs H1 R) : RZ.iZipA K ta σ H R := h
theorem w_zipT' {a b : Addr} {xs ys : List V} {R : It → Hp → Prop} (h1 : SqT K H a xs) (h2 : SqT K H b ys) (h : R (RZ.ItzT K a b) H) : rZipA K [.ref a, .ref b] H R := ⟨a, b, xs, ys, rfl, .inr ⟨h1, h2, h⟩⟩
end
end FW

set_option Elab.async false
set_option linter.all false
set_option maxRecDepth 100000
set_option maxHeartbeats 4000000
/-! try: .. except (A, B): .. -/
namespace FW
open PySem PySem.Spec PyProof.Rows L2
def wTwo (K : PySem.W.Frag) (c1 c2 : Value) (ts : Suite) (D : Ends) : WX := fun cls d σ H => PySem.W.exmAny K cls [c1, c2] = some true ∧ ∀ a, H a = none → ts a cls d D σ H
def tTry2 (K : PySem.W.Frag) (c1 c2 : Value) (tb : WX → TS) (ts : Suite) : TS := fun D σ H => tb (wTwo K c1 c2 ts D) D σ H
section
variable {X : Cx} {body sts : List Stmt} {st : Stmt} {x1 x2 : Str} {c1 c2 : Value} {p1 p2 p3 p4 p5 : Pos} {kk : Nat} {tb : WX → TS} {ts : Suite}
end
end FW

set_option Elab.async false
set_option linter.all false
set_option maxRecDepth 100000
set_option maxHeartbeats 4000000
/-! texts: len, in, signs one by one, join; lists taken apart; all -/
namespace FW
open PySem PySem.Spec PyProof.Rows L2
def rLenS : List V → Hp → VK → Prop := fun xs H Q => ∃ z, xs = [.str z] ∧ z.length ≤ sizeLine ∧ Q (.int z.length) H
def rInS : R2 := fun x y H Q => ∃ (c : Nat) (z : Str), x = .str ⟨#[c]⟩ ∧ y = .str z ∧ Q (.bl (decide (c ∈ z.cps.toList))) H
def rJoin (K : PySem.W.Frag) : V → List V → Hp → VK → Prop := fun x xs H Q => ∃ a p, ∃ ys : List Str, x = .str a ∧ xs = [.ref p] ∧ (SqL K H p (ys.map V.str) ∨ SqT K H p (ys.map V.str)) ∧ (ys.map (·.length)).sum + ys.length * a.length ≤ 16777216 ∧ Q (.str (Txt.join a ys)) H
def rIStr (v : V) (H : Hp) (R : It → Hp → Prop) : Prop := ∃ x, v = .str x ∧ R (Its x) H
def rLtS : R2 := fun x y H Q => ∃ i j : Str, x = .str i ∧ y = .str j ∧ Q (.bl (decide (i.cps.toList < j.cps.toList))) H
def rGtS : R2 := fun x y H Q => ∃ i j : Str, x = .str i ∧ y = .str j ∧ Q (.bl (decide (j.cps.toList < i.cps.toList))) H
section
variable {X : Cx}
theorem o_ltS : OpR X (compareOp .Lt) rLtS := op_lt_str
theorem c_lenS : CallR X (.builtin "len") rLenS := call_len_str
theorem o_inS : OpR X (compareOp .In) rInS := op_in_sign
theorem p_join {o e : Expr} {to te : TE} {apos pos : Pos} (ho : PE X o to) (he : PE X e te) (hs : starEach [e] X.env = [(false, eval e X.env)] := by rfl) (hbase : attributeBase o "join" X.env (eval o X.env) = eval o X.env := by rfl) (hline : (apos.endLine == pos.line) = true := by rfl) :
    PE X (.Call (.Attribute o "join" apos) [e] [] pos) (tM1 (rJoin X.K) to te) := pe_join ho he hs hbase hline
end
section
variable {K : PySem.W.Frag} {σ : L2.St} {H : Hp} {Q : VK} {nx bk ct : L2.St → Hp → Prop} {rt : VK}
theorem w_callD {sp : Sp} {dvs : List V} {E : XK} {t : TA} (h : t σ H fun vs H1 => sp (vs ++ dvs) H1 Q E) : tCall sp dvs E t σ H Q := h
theorem w_ipI {g : Int → Int → Int} {i j : Int} (h : Q (.int (g i j)) H) : ipI g (.int i) (.int j) H Q := ⟨i, j, rfl, rfl, h⟩
theorem w_ltS {x y : Str} (h : Q (.bl (decide (x.cps.toList < y.cps.toList))) H) : rLtS (.str x) (.str y) H Q := ⟨x, y, rfl, rfl, h⟩
theorem w_gtS {x y : Str} (h : Q (.bl (decide (y.cps.toList < x.cps.toList))) H) : rGtS (.str x) (.str y) H Q := ⟨x, y, rfl, rfl, h⟩
theorem w_neS {x y : Str} (h : Q (.bl (!decide (x = y))) H) : rNe (.str x) (.str y) H Q := ⟨rfl, by
  have e : decide (V.str x = V.str y) = decide (x = y) := by
    by_cases q : x = y
    · subst q; rw [decide_eq_true rfl, decide_eq_true rfl]
    · rw [decide_eq_false q, decide_eq_false (fun z => q (V.str.inj z))]
  rw [e]; exact h⟩
theorem w_lenS {z : Str} (h1 : z.length ≤ sizeLine) (h : Q (.int z.length) H) : rLenS [.str z] H Q := ⟨z, rfl, h1, h⟩
theorem w_inS {c : Nat} {z : Str} (h : Q (.bl (decide (c ∈ z.cps.toList))) H) : rInS (.str ⟨#[c]⟩) (.str z) H Q := ⟨c, z, rfl, rfl, h⟩
theorem w_ixS {z : Str} {i : Int} {c : Nat} (h1 : z.length ≤ sizeLine) (h2 : atI z.cps.toList i = some c) (h : Q (.str ⟨#[c]⟩) H) : rIxS (.str z) (.int i) H Q := ⟨z, i, c, rfl, rfl, h1, h2, h⟩
theorem w_m1 {r : V → List V → Hp → VK → Prop} {to te : TE} (h : to σ H fun x H1 => (∃ a, x = .str a) ∧ te σ H1 fun y H2 => r x [y] H2 Q) : tM1 r to te σ H Q := h
theorem w_isS {z : Str} {A : Prop} (h : A) : (∃ a, V.str z = .str a) ∧ A := ⟨⟨z, rfl⟩, h⟩
theorem w_joinL {a : Str} {p : Addr} {ys : List Str} (h1 : SqL K H p (ys.map V.str)) (h2 : (ys.map (·.length)).sum + ys.length * a.length ≤ 16777216) (h : Q (.str (Txt.join a ys)) H) : rJoin K (.str a) [.ref p] H Q := ⟨a, p, ys, rfl, rfl, .inl h1, h2, h⟩
theorem w_istr {te : TE} {R : It → Hp → Prop} (h : te σ H fun v H1 => rIStr v H1 R) : iStr te σ H R := h
theorem w_istr' {z : Str} {R : It → Hp → Prop} (h : R (Its z) H) : rIStr (.str z) H R := ⟨z, rfl, h⟩
theorem walk_str (x : Str) : Walk (Its x) x.cps.size (fun _ => True) (fun i H v H' => H' = H ∧ ∃ c, x.cps[i]? = some c ∧ v = .str ⟨#[c]⟩) := ⟨fun _ _ hi _ => hi, fun _ _ => Nat.le_refl _, fun _ _ _ _ _ _ y => y⟩
theorem w_glst {a : Addr} {xs : List V} {n : Nat} {t : TGs} {R : L2.St → Hp → Prop} (h1 : SqL K H a xs) (h2 : xs.length = n) (h : t xs σ H R) : gLst K n t (.ref a) σ H R := ⟨a, xs, rfl, h1, h2, h⟩
theorem w_all {p : Addr} {bs : List Bool} (h1 : SqL K H p (bs.map V.bl)) (h : Q (.bl (bs.all id)) H) : rAll K [.ref p] H Q := ⟨p, bs, rfl, h1, h⟩
theorem w_augI {i : Nat} {te : TE} {ti : TIp} {v : V} (e : σ[i]? = some (some v)) (h : te σ H fun x H1 => ti v x H1 fun z H2 => nx (σ.set i (some z)) H2) : tAug i te ti ⟨nx, rt, bk, ct⟩ σ H := ⟨v, e, h⟩
end
section
variable {P : Program} {w : World} {K : PySem.W.Frag} {mg : Str → Option Value} {base : Heap} {x qual : Str} {params : Arguments} {body : List Stmt} {scope : Scope} {dvs : List V} {kws : List (Str × V)} {f : Addr} {fd : FuncData}
/-- a def with defaults that lets nothing out -/
theorem okD {N ps : List Str} {k : Nat} {sp : Sp} (F : FunD K x qual params body scope dvs kws f fd) (S : FnScope N ps scope) (len : ∀ vs H Q E, sp vs H Q E → vs.length = ps.length)
    (hb : ∀ cdv A outer s H vs Q E, Room k (A.deeper (envOfC qual scope s.heap.objs.size f cdv)) → sp vs H Q E → ∃ t, PSs (cxOf CX0 P w K mg base N qual scope f cdv A outer s H E).nox body t ∧ t { nx := fun _ H' => Q .non H', rt := Q } (L2.start N vs) H) : FnOk P w K mg base CX0 (k + 1) f fd ps sp :=
  F.ok S len fun cdv A outer s H vs Q E hr h => by
    obtain ⟨t, p, q⟩ := hb cdv A outer s H vs Q E hr h
    exact ⟨t, p.nox, q⟩
end
/-- a def with defaults -/
structure DfD (K : PySem.W.Frag) (mg : Str → Option Value) (x : Str) (st : Stmt) (ps : List Str) (dvs : List V) (f : Addr) (fd : FuncData) : Prop where
  fn : FunD K x x (defArgs st) (defBody st) (defScope st) dvs [] f fd
  g : mg x = some (.ref f)
  kp : PySem.W.keepIn K (.ref f) = true
  b : ∃ ds, Vals dvs ds ∧ Binds K fd ps ds
/-- a def with several keyword-only defaults -/
structure DfKs (K : PySem.W.Frag) (mg : Str → Option Value) (x : Str) (st : Stmt) (ps : List Str) (kws : List (Str × V)) (dvs : List V) (f : Addr) (fd : FuncData) : Prop where
  fn : FunD K x x (defArgs st) (defBody st) (defScope st) [] kws f fd
  g : mg x = some (.ref f)
  kp : PySem.W.keepIn K (.ref f) = true
  b : ∃ ds, Vals dvs ds ∧ Binds K fd ps ds
theorem join_cps' : ∀ ys : List Str, (Str.join (Str.ofString "") ys).cps.toList = (ys.map fun y => y.cps.toList).flatten
  | [] => rfl
  | [y] => by
    show y.cps.toList = _
    simp
  | y :: z :: r => by
    have ih := join_cps' (z :: r)
    show (y.cps ++ (Str.ofString "").cps ++ (Str.join (Str.ofString "") (z :: r)).cps).toList = _
    rw [Array.toList_append, Array.toList_append, ih, List.map_cons (l := z :: r), List.flatten_cons]
    show y.cps.toList ++ [] ++ _ = _
    rw [List.append_nil]
theorem join_cps (ys : List Str) : (Txt.join (Str.ofString "") ys).cps.toList = (ys.map fun y => y.cps.toList).flatten := by
  have e : Txt.join (Str.ofString "") ys = Str.join (Str.ofString "") ys := StrLaws.glued_eq_join _ _
  rw [e]
  exact join_cps' ys
end FW

set_option Elab.async false
set_option linter.all false
set_option maxRecDepth 100000
set_option maxHeartbeats 4000000
/-! t[::-1] of a tuple -/
namespace HT
open PySem PySem.Spec PyProof.Rows
section
variable {prog : Program} {w : World} {A : Around} {E : Value → Shared → Prop} {s : Shared}
end
end HT
namespace FW
open PySem PySem.Spec PyProof.Rows L2
/-- t[::-1] -/
def rRevT (K : PySem.W.Frag) (x z : V) (H : Hp) (Q : VK) : Prop := ∃ (a : Addr) (xs : List V), x = .ref a ∧ z = .int (-1) ∧ SqT K H a xs ∧ Nw (.tup xs.reverse) H Q
def tRevT (K : PySem.W.Frag) (te ts : TE) : TE := fun σ H Q => te σ H fun x H1 => ts σ H1 fun z H3 => rRevT K x z H3 Q
section
variable {X : Cx}
end
section
variable {K : PySem.W.Frag} {σ : L2.St} {H : Hp} {Q : VK}
theorem w_revT {te ts : TE} (h : te σ H fun x H1 => ts σ H1 fun z H3 => rRevT K x z H3 Q) : tRevT K te ts σ H Q := h
end
end FW

set_option Elab.async false
set_option linter.all false
set_option maxRecDepth 100000
set_option maxHeartbeats 4000000
/-! text * number, tuple * number, texts put together -/
namespace FW
open PySem PySem.Spec PyProof.Rows L2
def rRepS : R2 := fun x y H Q => ∃ (z : Str) (k : Int), x = .str z ∧ y = .int k ∧ z.length ≤ 16 ∧ 0 ≤ k ∧ k ≤ 1000 ∧ Q (.str (Txt.mul z k)) H
theorem op_repS {X : Cx} : OpR X (binaryOp .Mult) rRepS := by
  intro pins s σ H x y v u Q I rx ry h
  obtain ⟨z, k, rfl, rfl, hz, h0, h1, q⟩ := h
  obtain ⟨t, rfl⟩ := rx
  obtain ⟨t', rfl⟩ := ry
  exact PySem.W.KXi.mul rfl hz (by omega) (by omega) (fun t' k' _ _ => ⟨.str (Txt.mul z k), H, I.tok _, ⟨_, rfl⟩, q⟩)
def rAddS : R2 := fun x y H Q => ∃ i j : Str, x = .str i ∧ y = .str j ∧ i.length + j.length ≤ sizeLine ∧ Q (.str (i ++ j)) H
theorem o_addS {X : Cx} : OpR X (binaryOp .Add) rAddS := op_add_str
section
variable {K : PySem.W.Frag} {H : Hp} {Q : VK}
theorem w_repS {z : Str} {k : Int} (h1 : z.length ≤ 16) (h2 : 0 ≤ k) (h3 : k ≤ 1000) (h : Q (.str (Txt.mul z k)) H) : rRepS (.str z) (.int k) H Q := ⟨z, k, rfl, rfl, h1, h2, h3, h⟩
theorem w_addS {i j : Str} (h1 : i.length + j.length ≤ sizeLine) (h : Q (.str (i ++ j)) H) : rAddS (.str i) (.str j) H Q := ⟨i, j, rfl, rfl, h1, h⟩
end
end FW

set_option Elab.async false
set_option linter.all false
set_option maxRecDepth 100000
set_option maxHeartbeats 4000000
/-! dicts whose keys are nested tuples of ints, texts and None -/
namespace FW
open PySem PySem.Spec PyProof.Rows L2
mutual
/-- the thing v is the key k -/
inductive NAt (H : Hp) : NestedKey → V → Prop
  | non : NAt H .none .non
  | int (i : Int) : NAt H (.num i) (.int i)
  | str (x : Str) : NAt H (.text x) (.str x)
  | tup {a : Addr} {ks : List NestedKey} {xs : List V} : H a = some (.tup xs) → NAll H ks xs → NAt H (.tup ks) (.ref a)
inductive NAll (H : Hp) : List NestedKey → List V → Prop
  | nil : NAll H [] []
  | cons {k : NestedKey} {v : V} {ks : List NestedKey} {vs : List V} : NAt H k v → NAll H ks vs → NAll H (k :: ks) (v :: vs)
end
mutual
theorem NAt.kt {H H' : Hp} (t : KT H H') : ∀ (k : NestedKey) (v : V), NAt H k v → NAt H' k v
  | .none, _, h => by cases h; exact .non
  | .num i, _, h => by cases h; exact .int i
  | .text x, _, h => by cases h; exact .str x
  | .tup ks, _, h => by
    cases h with
    | tup e all => exact .tup (t _ _ e) (NAll.kt t ks _ all)
theorem NAll.kt {H H' : Hp} (t : KT H H') : ∀ (ks : List NestedKey) (vs : List V), NAll H ks vs → NAll H' ks vs
  | [], _, h => by cases h; exact .nil
  | k :: ks, _, h => by
    cases h with
    | cons a b => exact .cons (NAt.kt t k _ a) (NAll.kt t ks _ b)
end
mutual
theorem NAt.inj {H : Hp} : ∀ (k k' : NestedKey) (v : V), NAt H k v → NAt H k' v → k = k'
  | .none, _, _, h, h' => by cases h; cases h'; rfl
  | .num i, _, _, h, h' => by cases h; cases h'; rfl
  | .text x, _, _, h, h' => by cases h; cases h'; rfl
  | .tup ks, _, _, h, h' => by
    cases h with
    | tup e all =>
      cases h' with
      | tup e' all' =>
        rw [e] at e'
        cases e'
        rw [NAll.inj ks _ _ all all']
theorem NAll.inj {H : Hp} : ∀ (ks ks' : List NestedKey) (vs : List V), NAll H ks vs → NAll H ks' vs → ks = ks'
  | [], _, _, h, h' => by cases h; cases h'; rfl
  | k :: ks, _, _, h, h' => by
    cases h with
    | cons a b =>
      cases h' with
      | cons a' b' => rw [NAt.inj k _ _ a a', NAll.inj ks _ _ b b']
end
section
variable {X : Cx} {pins : List (Addr × Obj)} {σ : L2.St} {H : Hp} {s : Shared}
mutual
theorem NAt.is (I : Inv X pins σ H s) : ∀ (k : NestedKey) (v : V) (u : Value), NAt H k v → RelV v u → NestedIs s.heap k u
  | .none, _, _, h, r => by
    cases h
    cases r
    exact .none
  | .num i, _, _, h, r => by
    cases h
    obtain ⟨t, rfl⟩ := r
    exact .int i t
  | .text x, _, _, h, r => by
    cases h
    obtain ⟨t, rfl⟩ := r
    exact .text x t
  | .tup ks, _, _, h, r => by
    cases h with
    | @tup a _ xs e all =>
      cases r
      obtain ⟨_, its, rel, o, h1, h2, n, h3⟩ := (show ObjOk X.prog X.w H s.heap a (.tup xs) from I.hok a _ e)
      exact .tup h1 h2 h3 (NAll.is I ks _ _ all rel)
theorem NAll.is (I : Inv X pins σ H s) : ∀ (ks : List NestedKey) (vs : List V) (us : List Value), NAll H ks vs → Vals vs us → NestedAll s.heap ks us
  | [], _, _, h, r => by
    cases h
    cases r
    exact .nil
  | k :: ks, _, _, h, r => by
    cases h with
    | cons a b =>
      cases r with
      | cons ra rb => exact .cons (NAt.is I k _ _ a ra) (NAll.is I ks _ _ b rb)
end
end
abbrev NEnt := NestedKey × Addr × V
def NVal (xs : List NEnt) (k : NestedKey) : Option V := (xs.find? fun x => decide (x.1 = k)).map (·.2.2)
def NPut (xs : List NEnt) (k : NestedKey) (a : Addr) (v : V) : List NEnt := if (NVal xs k).isSome then xs.map (fun x => if x.1 = k then (x.1, x.2.1, v) else x) else xs ++ [(k, a, v)]
abbrev NRel : List NEnt → List (NestedKey × Addr × Value) → Prop := Paired fun p q => p.1 = q.1 ∧ p.2.1 = q.2.1 ∧ RelV p.2.2 q.2.2
theorem NRel.val {xs : List NEnt} {ys : List (NestedKey × Addr × Value)} (r : NRel xs ys) (k : NestedKey) : RelO (NVal xs k) ((atKey ys k).map (·.2)) := by
  induction r with
  | nil => exact True.intro
  | @cons p q ps qs h t ih =>
    obtain ⟨h1, _, h2⟩ := h
    by_cases e : p.1 = k
    · have e' : q.1 = k := h1.symm.trans e
      have b : atKey (q :: qs) k = some q.2 := by simp [atKey, List.find?_cons, e']
      have c : NVal (p :: ps) k = some p.2.2 := by simp [NVal, List.find?_cons, e]
      rw [c, b]
      exact h2
    · have e' : ¬ q.1 = k := fun z => e (h1.trans z)
      have b : atKey (q :: qs) k = atKey qs k := by simp [atKey, List.find?_cons, e']
      have c : NVal (p :: ps) k = NVal ps k := by simp [NVal, List.find?_cons, e]
      rw [c, b]
      exact ih
theorem NRel.put {xs : List NEnt} {ys : List (NestedKey × Addr × Value)} (r : NRel xs ys) (k : NestedKey) (b : Addr) {y : V} {u : Value} (ry : RelV y u) : NRel (NPut xs k b y) (storedH ys k b u) := by
  have e : (NVal xs k).isSome = (atKey ys k).isSome := by rw [(r.val k).isSome_eq, Option.isSome_map]
  unfold NPut storedH
  rw [e]
  by_cases q : (atKey ys k).isSome = true
  · rw [if_pos q, if_pos q]
    clear e q
    induction r with
    | nil => exact .nil
    | @cons p q ps qs h t ih =>
      rw [List.map_cons, List.map_cons]
      refine .cons ?_ ih
      obtain ⟨h1, h2, h3⟩ := h
      unfold putAt
      by_cases e : p.1 = k
      · rw [if_pos e, if_pos (h1.symm.trans e)]
        exact ⟨h1, h2, ry⟩
      · rw [if_neg e, if_neg (fun z => e (h1.trans z))]
        exact ⟨h1, h2, h3⟩
  · rw [if_neg q, if_neg q]
    exact Paired.snoc r ⟨rfl, rfl, ry⟩
/-- the dict at a, keyed by nested tuples -/
def NO (P : Program) (w : World) (a : Addr) (xs : List NEnt) : HO := .ext fun h => xs.length ≤ sizeLine ∧ (a == sysModules) = false ∧ ∃ ys : List (NestedKey × Addr × Value), NRel xs ys ∧
  ∃ o es ep, h.get? a = some o ∧ o.ExactDict ∧ o.data = .dict es ep ∧ es.toList = ys.map (entryOfKey (nestedKind P w)) ∧ (ys.map (·.1)).Nodup
structure NDict (P : Program) (w : World) (H : Hp) (a : Addr) (xs : List NEnt) : Prop where
  at' : H a = some (NO P w a xs)
  keys : ∀ p ∈ xs, NAt H p.1 (.ref p.2.1) ∧ p.1.depth ≤ 8
theorem NDict.kp {P : Program} {w : World} {M : List Addr} {H H' : Hp} {a : Addr} {xs : List NEnt} (d : NDict P w H a xs) (k : Kp M H H') (t : KT H H') (h : a ∉ M) : NDict P w H' a xs :=
  ⟨k _ _ h d.at', fun p hp => ⟨NAt.kt t _ _ (d.keys p hp).1, (d.keys p hp).2⟩⟩
section
variable {X : Cx} {pins : List (Addr × Obj)} {σ : L2.St} {H : Hp} {s : Shared} {a : Addr} {xs : List NEnt}
theorem nd_of (I : Inv X pins σ H s) (d : NDict X.prog X.w H a xs) : xs.length ≤ sizeLine ∧ (a == sysModules) = false ∧ ∃ ys, NRel xs ys ∧ s.heap.DictOfH (nestedKind X.prog X.w) a ys := by
  obtain ⟨⟨z, y, ys, r, o, es, ep, h1, h2, h3, h4, h5⟩, hex, hst⟩ := (show ObjOk X.prog X.w H s.heap a (NO X.prog X.w a xs) from I.hok a _ d.at')
  refine ⟨z, y, ys, r, o, es, ep, h1, h2, h3, h4, ?_, h5⟩
  have hk := d.keys
  clear h4 h5 z d hex hst
  induction r with
  | nil => intro x hx; cases hx
  | @cons p q ps qs h t ih =>
    intro x hx
    rcases List.mem_cons.mp hx with rfl | hx
    · obtain ⟨g1, g2⟩ := hk p (by simp)
      have e1 : p.1 = x.1 := h.1
      have e2 : p.2.1 = x.2.1 := h.2.1
      rw [e1] at g1 g2
      rw [e2] at g1
      exact ⟨NAt.is I _ _ _ g1 rfl, g2⟩
    · exact ih (fun p hp => hk p (by simp [hp])) x hx
theorem nd_type (I : Inv X pins σ H s) (d : NDict X.prog X.w H a xs) : s.TypeIs (.ref a) "dict" ∧ (∀ b, Value.ref a = .ref b → ∃ ob, s.heap.get? b = some ob ∧ ob.dict = none) := by
  obtain ⟨_, _, ys, _, dd⟩ := nd_of I d
  refine ⟨dd.typeIs, fun b q => ?_⟩
  cases q
  obtain ⟨ob, _, _, h1, h2, _⟩ := dd
  exact ⟨ob, h1, h2.2.1⟩
theorem nk_is (I : Inv X pins σ H s) {b : Addr} {k : NestedKey} (h : NAt H k (.ref b)) (h8 : k.depth ≤ 8) : (nestedKind X.prog X.w).is s.heap k b := ⟨NAt.is I _ _ _ h rfl, h8⟩
variable {b : Addr} {k : NestedKey} {A : Around} {E : Value → Shared → Prop} {v : V} {r : Value}
theorem n_in {Q : Value → Shared → Prop} (hu : A.units + 9 < cLine) (I : Inv X pins σ H s) (d : NDict X.prog X.w H a xs) (hk : NAt H k (.ref b)) (h8 : k.depth ≤ 8) (h : ∀ s', Inv X pins σ H s' → Q (.bool (NVal xs k).isSome) s') :
    wpAny (model X.prog X.w) A (compareOp .In (.ref b) (.ref a)) Q E s := by
  obtain ⟨z, hd, ys, rel, dd⟩ := nd_of I d
  refine wpAny_in_heap (knd := nestedKind X.prog X.w) (show A.in1.units + 8 < cLine from by show A.units + 1 + 8 < cLine; omega) (nk_is I hk h8) hd dd ?_
  have q := (rel.val k).isSome_eq
  rw [Option.isSome_map] at q
  rw [← q]
  exact h _ (I.tok _)
theorem n_getItem {Q : Value → Shared → Prop} (hu : A.units + 9 < cLine) (I : Inv X pins σ H s) (d : NDict X.prog X.w H a xs) (hk : NAt H k (.ref b)) (h8 : k.depth ≤ 8) (l : NVal xs k = some v) (h : ∀ w' s', Inv X pins σ H s' → RelV v w' → Q w' s') :
    wpAny (model X.prog X.w) A (getItem (.ref a) (.ref b)) Q E s := by
  obtain ⟨z, hd, ys, rel, dd⟩ := nd_of I d
  obtain ⟨w', hw, rw'⟩ := RelO.some_of (v := v) (o := (atKey ys k).map (·.2)) (by rw [← l]; exact rel.val k)
  obtain ⟨p, hp, hp2⟩ := Option.map_eq_some_iff.mp hw
  refine wpAny_getItem_heap (knd := nestedKind X.prog X.w) (show A.in1.units + 8 < cLine from by show A.units + 1 + 8 < cLine; omega) (nk_is I hk h8) dd hp ?_
  rw [hp2]
  exact h w' _ (I.tok _) rw'
theorem n_get1 {Q : Value → Shared → Prop} (hu : A.units + 9 < cLine) (I : Inv X pins σ H s) (d : NDict X.prog X.w H a xs) (hk : NAt H k (.ref b)) (h8 : k.depth ≤ 8) (h : ∀ w' s', Inv X pins σ H s' → RelV ((NVal xs k).getD .non) w' → Q w' s') :
    wpAny (model X.prog X.w) A (call (.builtin "dict.get") [.ref a, .ref b]) Q E s := by
  obtain ⟨z, hd, ys, rel, dd⟩ := nd_of I d
  refine call_meetsIn PySem.F.slot_dict_get dd.typeIs PySem.F.entry_dict_get (PySem.F.args_dict_get_2 _ _) (meetsH_dict_get (nestedKind X.prog X.w) a b hd) ⟨?_, k, ys, nk_is I hk h8, dd, h _ _ (I.tok _) ?_⟩
  · show A.units + 1 + 8 < cLine
    omega
  · exact (rel.val k).getD rfl
theorem n_setItem {Q : Unit → Shared → Prop} (hu : A.units + 9 < cLine) (I : Inv X pins σ H s) (d : NDict X.prog X.w H a xs) (hk : NAt H k (.ref b)) (h8 : k.depth ≤ 8) (hl : xs.length < sizeLine) (rv : RelV v r) (h : ∀ s', Inv X pins σ (upd H a (NO X.prog X.w a (NPut xs k b v))) s' → Q () s') :
    wpAny (model X.prog X.w) A (setItem (.ref a) (.ref b) r) Q E s := by
  obtain ⟨z, hd, ys, rel, dd⟩ := nd_of I d
  have hz : ys.length ≤ sizeLine := by rw [← Paired.length rel]; exact z
  have hl' : (NPut xs k b v).length ≤ sizeLine := by
    unfold NPut
    split
    · rw [List.length_map]; exact z
    · rw [List.length_append]; exact hl
  refine wpAny_setItem_heap (knd := nestedKind X.prog X.w) (hsz := hz) (show A.in1.units + 8 < cLine from by show A.units + 1 + 8 < cLine; omega) (nk_is I hk h8) dd fun h' dd' hs => h _ ?_
  obtain ⟨q, es, ep, hq, h2, h3, h4, _, h5⟩ := dd'
  refine d_write I (by rw [d.at']; exact True.intro) hs ⟨q, hq⟩ ⟨⟨hl', hd, _, rel.put k b rv, q, es, ep, hq, h2, h3, h4, h5⟩, ⟨q, hq⟩, ?_⟩
  rintro h1 h2' ⟨g1, g2, ys', g3, o, es, ep, g4, g5⟩ keep
  exact ⟨g1, g2, ys', g3, o, es, ep, keep _ g4, g5⟩
end
/-! ### the rules -/
def rNIn (P : Program) (w : World) (x y : V) (H : Hp) (Q : VK) : Prop := ∃ a b xs k, x = .ref a ∧ y = .ref b ∧ NDict P w H a xs ∧ NAt H k (.ref b) ∧ k.depth ≤ 8 ∧ Q (.bl (NVal xs k).isSome) H
def rNGet (P : Program) (w : World) (x y : V) (H : Hp) (Q : VK) : Prop := ∃ a b xs k v, x = .ref a ∧ y = .ref b ∧ NDict P w H a xs ∧ NAt H k (.ref b) ∧ k.depth ≤ 8 ∧ NVal xs k = some v ∧ Q v H
def rNIs (P : Program) (w : World) (x : V) (H : Hp) (R : Addr → Hp → Prop) : Prop := ∃ a xs, x = .ref a ∧ NDict P w H a xs ∧ R a H
def rNGet1 (P : Program) (w : World) (a : Addr) (y : V) (H : Hp) (Q : VK) : Prop := ∃ b xs k, y = .ref b ∧ NDict P w H a xs ∧ NAt H k (.ref b) ∧ k.depth ≤ 8 ∧ Q ((NVal xs k).getD .non) H
def rNPut (P : Program) (w : World) (x y v : V) (H : Hp) (R : Hp → Prop) : Prop := ∃ a b xs k, x = .ref a ∧ y = .ref b ∧ NDict P w H a xs ∧ NAt H k (.ref b) ∧ k.depth ≤ 8 ∧ xs.length < sizeLine ∧ R (upd H a (NO P w a (NPut xs k b v)))
def tNIn (P : Program) (w : World) (ty td : TE) : TE := fun σ H Q => ty σ H fun y H1 => td σ H1 fun x H2 => rNIn P w x y H2 Q
def tNGet (P : Program) (w : World) (td ty : TE) : TE := fun σ H Q => td σ H fun x H1 => ty σ H1 fun y H2 => rNGet P w x y H2 Q
def tNGet1 (P : Program) (w : World) (td ty : TE) : TE := fun σ H Q => td σ H fun x H1 => rNIs P w x H1 fun a H1 => ty σ H1 fun y H2 => rNGet1 P w a y H2 Q
def sNPut (P : Program) (w : World) (td ty tv : TE) : TS := fun D σ H => tv σ H fun v H1 => td σ H1 fun x H2 => ty σ H2 fun y H3 => rNPut P w x y v H3 fun H4 => D.nx σ H4
def tNNew (P : Program) (w : World) : TE := fun _ H Q => ∀ p, H p = none → Q (.ref p) (upd H p (NO P w p []))
section
variable {X : Cx} {o i e value : Expr} {pos pos' tpos apos cpos : Pos} {td ty tv : TE}
theorem pc_nin (hu : X.A.units + 64 < cLine) (hi : PE X i ty) (ho : PE X o td) : PC X .In i o (tNIn X.prog X.w ty td) := by
  refine ⟨fun pins s σ H Q I h => ?_⟩
  refine thn (hi.run pins s σ H _ I h) fun iv s1 ⟨y, H1, I1, ry, q1⟩ => thn (ho.run pins s1 σ H1 _ I1 q1) fun u s2 ⟨x, H2, I2, rx, a, b, xs, k, ex, ey, d, hk, h8, q2⟩ => ?_
  subst ex ey
  obtain rfl : u = Value.ref a := rx
  obtain rfl : iv = Value.ref b := ry
  exact n_in (by omega) I2 d hk h8 fun s3 I3 => ⟨.bl _, H2, I3, rfl, q2⟩
theorem pe_nget (hu : X.A.units + 64 < cLine) (ho : PE X o td) (hi : PE X i ty) (hs : NoSl i) : PE X (.Subscript o i pos) (tNGet X.prog X.w td ty) := by
  refine ⟨fun pins s σ H Q I h => ?_⟩
  refine subD_of PySem.F.slot_dict_getitem.lookup hs (thn (ho.run pins s σ H _ I h) fun u s1 ⟨x, H1, I1, rx, q1⟩ => thn (hi.run pins s1 σ H1 _ I1 q1) fun iv s2 ⟨y, H2, I2, ry, a, b, xs, k, v, ex, ey, d, hk, h8, l, q2⟩ => ?_)
  subst ex ey
  obtain rfl : u = Value.ref a := rx
  obtain rfl : iv = Value.ref b := ry
  exact ⟨(nd_type I2 d).1, n_getItem (by omega) I2 d hk h8 l fun w' s3 I3 rw' => ⟨v, H2, I3, rw', q2⟩⟩
theorem ps_nput (hu : X.A.units + 64 < cLine) (ho : PE X o td) (hi : PE X i ty) (hv : PE X value tv) (hs : swapsWith value (some (.Subscript o i pos')) pos.line X.env = pure false) :
    PS X (.Assign [.Subscript o i pos'] value pos) (sNPut X.prog X.w td ty tv) := by
  refine ⟨fun pins s σ H D I h => ?_⟩
  refine wpAny_Assign_Subscript (thn (hv.run pins s σ H _ I h) fun r s1 ⟨v, H1, I1, rv, q1⟩ => thn (ho.run pins s1 σ H1 _ I1 q1) fun u s2 ⟨x, H2, I2, rx, q2⟩ => thn (hi.run pins s2 σ H2 _ I2 q2) fun iv s3 ⟨y, H3, I3, ry, a, b, xs, k, ex, ey, d, hk, h8, hl, q3⟩ => ?_) hs
  subst ex ey
  obtain rfl : u = Value.ref a := rx
  obtain rfl : iv = Value.ref b := ry
  exact n_setItem (by omega) I3 d hk h8 hl rv fun s4 I4 => ⟨σ, _, I4, q3⟩
theorem pe_nget1 (hu : X.A.units + 64 < cLine) (ho : PE X o td) (he : PE X e ty) (m : M1 X o "get" apos e cpos) : PE X (.Call (.Attribute o "get" apos) [e] [] cpos) (tNGet1 X.prog X.w td ty) := by
  refine ⟨fun pins s σ H Q I h => ?_⟩
  refine wpAny_Call_method m.base m.few m.line PySem.F.plainAttrs_dict PySem.F.slot_dict_get PySem.F.type_dict_get (thn (ho.run pins s σ H _ I h) fun u s1 ⟨x, H1, I1, rx, a, xs, ex, d, q1⟩ => ?_)
  subst ex
  obtain rfl : u = Value.ref a := rx
  obtain ⟨t1, t2⟩ := nd_type I1 d
  refine ⟨t1, t2, ?_⟩
  rw [m.trees]
  refine Calls.callWith_builtin rfl (Calls.evalArgs_plain (Calls.spliced_cons (thn (he.run pins s1 σ H1 _ I1 q1) fun iv s2 ⟨y, H2, I2, ry, b, xs', k, ey, d', hk, h8, q2⟩ => Calls.spliced_nil ?_)))
  subst ey
  obtain rfl : iv = Value.ref b := ry
  exact n_get1 (by omega) I2 d' hk h8 fun w' s3 I3 rw' => ⟨_, H2, I3, rw', q2⟩
theorem pe_nnew : PE X (.Dict [] [] pos) (tNNew X.prog X.w) := ⟨fun pins s σ H Q I h =>
  wpAny_Dict_empty ⟨.ref s.heap.objs.size, _, I.laid (a := s.heap.objs.size) (o := NO X.prog X.w s.heap.objs.size []) (t' := s.toks) (fun _ _ q => Heap.get?_push_of_some _ q) (Nat.le_refl _)
    ⟨⟨Nat.zero_le _, beq_eq_false_iff_ne.mpr (Ne.symm (Nat.ne_of_lt I.big)), [], .nil, _, #[], 0, Heap.get?_push_size _ rfl, ⟨rfl, rfl, rfl⟩, rfl, rfl, List.nodup_nil⟩, ⟨_, Heap.get?_push_size _ rfl⟩, by
      rintro h1 h2' ⟨g1, g2, ys', g3, o, es, ep, g4, g5⟩ keep
      exact ⟨g1, g2, ys', g3, o, es, ep, keep _ g4, g5⟩⟩, rfl, h _ (I.hok.fresh (Nat.le_refl _))⟩⟩
end
section
variable {P : Program} {w : World} {K : PySem.W.Frag} {σ : L2.St} {H : Hp} {Q : VK} {nx bk ct : L2.St → Hp → Prop} {rt : VK} {v : V}
theorem w_nin {ty td : TE} (h : ty σ H fun y H1 => td σ H1 fun x H2 => rNIn P w x y H2 Q) : tNIn P w ty td σ H Q := h
theorem w_nget {td ty : TE} (h : td σ H fun x H1 => ty σ H1 fun y H2 => rNGet P w x y H2 Q) : tNGet P w td ty σ H Q := h
theorem w_nget1 {td ty : TE} (h : td σ H fun x H1 => rNIs P w x H1 fun a H1 => ty σ H1 fun y H2 => rNGet1 P w a y H2 Q) : tNGet1 P w td ty σ H Q := h
theorem w_nput {td ty tv : TE} (h : tv σ H fun v H1 => td σ H1 fun x H2 => ty σ H2 fun y H3 => rNPut P w x y v H3 fun H4 => nx σ H4) : sNPut P w td ty tv ⟨nx, rt, bk, ct⟩ σ H := h
theorem w_seqNP {td ty tv : TE} {u : TS} (h : tv σ H fun v H1 => td σ H1 fun x H2 => ty σ H2 fun y H3 => rNPut P w x y v H3 fun H4 => u ⟨nx, rt, bk, ct⟩ σ H4) : tSeq (sNPut P w td ty tv) u ⟨nx, rt, bk, ct⟩ σ H := h
theorem w_nin' {a b : Addr} {xs : List NEnt} {k : NestedKey} (d : NDict P w H a xs) (hk : NAt H k (.ref b)) (h8 : k.depth ≤ 8) (h : Q (.bl (NVal xs k).isSome) H) : rNIn P w (.ref a) (.ref b) H Q := ⟨a, b, xs, k, rfl, rfl, d, hk, h8, h⟩
theorem w_nget' {a b : Addr} {xs : List NEnt} {k : NestedKey} (d : NDict P w H a xs) (hk : NAt H k (.ref b)) (h8 : k.depth ≤ 8) (l : NVal xs k = some v) (h : Q v H) : rNGet P w (.ref a) (.ref b) H Q := ⟨a, b, xs, k, v, rfl, rfl, d, hk, h8, l, h⟩
theorem w_nput' {a b : Addr} {xs : List NEnt} {k : NestedKey} {R : Hp → Prop} (d : NDict P w H a xs) (hk : NAt H k (.ref b)) (h8 : k.depth ≤ 8) (hl : xs.length < sizeLine) (h : ∀ H1, NDict P w H1 a (NPut xs k b v) → Off a H H1 → R H1) : rNPut P w (.ref a) (.ref b) v H R := by
  refine ⟨a, b, xs, k, rfl, rfl, d, hk, h8, hl, h _ ⟨upd_same, fun p hp => ?_⟩ fun x hx => upd_ne hx⟩
  have t : KT H (upd H a (NO P w a (NPut xs k b v))) := fun c ys ec => upd_get (ne_of ec d.at' (fun z => nomatch z)) ec
  have hp' : (NAt H p.1 (.ref p.2.1) ∧ p.1.depth ≤ 8) := by
    unfold NPut at hp
    split at hp
    · obtain ⟨q, hq, rfl⟩ := List.mem_map.mp hp
      have := d.keys q hq
      split <;> exact this
    · rcases List.mem_append.mp hp with hp | hp
      · exact d.keys p hp
      · have e : p = (k, b, v) := by simpa using hp
        subst e
        exact ⟨hk, h8⟩
  exact ⟨NAt.kt t _ _ hp'.1, hp'.2⟩
theorem w_nnew (h : ∀ p H1, H p = none → NDict P w H1 p [] → Same H H1 → Q (.ref p) H1) : tNNew P w σ H Q := fun p hp => h p _ hp ⟨upd_same, fun q hq => by cases hq⟩ (Same.new hp)
end
end FW

set_option Elab.async false
set_option linter.all false
set_option maxRecDepth 100000
set_option maxHeartbeats 4000000
/-! sets of ints out of lists, sorted at any length -/
namespace FW
open PySem PySem.Spec PyProof.Rows L2
/-- an empty set, as set.__new__ lays it -/
abbrev es0 (w : World) : Obj := { cls := .type "set", dict := none, data := .set #[] 0 (.fresh 0 0 (!w.params.followText "set-order")) }
section
variable {P : Program} {w : World} {A : Around} {E : Value → Shared → Prop} {s : Shared}
end
def rSetL (K : PySem.W.Frag) (w : World) (vs : List V) (H : Hp) (Q : VK) : Prop := ∃ (l : Addr) (ns : List Int), vs = [.ref l] ∧ SqL K H l (ns.map V.int) ∧ ns.length ≤ 4000 ∧ ∀ (p : Addr) (c : Nat), H p = none → c ≤ ns.length → Q (.ref p) (upd H p (SetO w p (fun j => decide (j ∈ ns)) c))
def rSortS (w : World) (vs : List V) (H : Hp) (Q : VK) : Prop := ∃ (a : Addr) (S : Int → Bool) (n : Nat), vs = [V.ref a] ∧ H a = some (SetO w a S n) ∧ n ≤ 4000 ∧ ∀ (ns : List Int) (p : Addr), ns.Pairwise (· < ·) → (∀ k : Int, k ∈ ns ↔ S k = true) → H p = none → Q (.ref p) (upd H p (.lst (ns.map V.int)))
section
variable {X : Cx}
end
section
variable {K : PySem.W.Frag} {w : World} {H : Hp} {Q : VK}
end
end FW

set_option Elab.async false
set_option linter.all false
set_option maxRecDepth 100000
set_option maxHeartbeats 4000000
/-! objects of own classes; max with a default; data in lists -/
namespace FW
open PySem PySem.Spec PyProof.Rows L2
/-! ### max(list, default=d) -/
def rMaxD (K : PySem.W.Frag) (vs zs : List V) (H : Hp) (Q : VK) : Prop := ∃ (a : Addr) (ns : List Int) (d : Int), vs = [.ref a] ∧ zs = [.int d] ∧ SqL K H a (ns.map V.int) ∧ (ns = [] → Q (.int d) H) ∧ ∀ m, m ∈ ns → (∀ y ∈ ns, y ≤ m) → Q (.int m) H
theorem maxOf_ge (ys : List Int) : ∀ y : Int, ∀ z ∈ y :: ys, z ≤ PySem.W.maxOf y ys := by
  induction ys with
  | nil => intro y z hz; have : z = y := by simpa using hz
           subst this; exact Int.le_refl _
  | cons x ys ih =>
    intro y z hz
    show z ≤ PySem.W.maxOf (if PySem.W.DatumOrd.lt y x = true then x else y) ys
    have e : PySem.W.DatumOrd.lt y x = decide (y < x) := rfl
    rw [e]
    by_cases h : y < x
    · rw [if_pos (decide_eq_true h)]
      have h1 := ih x
      rcases List.mem_cons.mp hz with rfl | hz
      · have := h1 x (by simp)
        omega
      · exact h1 z hz
    · rw [if_neg (fun q => h (of_decide_eq_true q))]
      have h1 := ih y
      rcases List.mem_cons.mp hz with rfl | hz
      · exact h1 z (by simp)
      · rcases List.mem_cons.mp hz with rfl | hz
        · have := h1 y (by simp)
          omega
        · exact h1 z (by simp [hz])
section
variable {X : Cx} {pins : List (Addr × Obj)} {σ : L2.St} {H : Hp} {s : Shared}
theorem hold_ints (h : Heap) : ∀ (ns : List Int) (its : List Value), Vals (ns.map V.int) its → PySem.W.HoldAll h its ns
  | [], _, r => by cases r; exact PySem.W.HoldAll.nil
  | n :: ns, _, r => by
    cases r with
    | cons r1 rr =>
      obtain ⟨t, rfl⟩ := r1
      exact PySem.W.HoldAll.cons ⟨_, Reads.int n t⟩ (hold_ints h ns _ rr)
theorem int_at {ns : List Int} {its : List Value} (r : Vals (ns.map V.int) its) {i : Nat} {v : Value} (h : its[i]? = some v) : ∃ k t, ns[i]? = some k ∧ v = .int k t := by
  induction ns generalizing its i with
  | nil =>
    cases r
    simp at h
  | cons n ns ih =>
    cases r with
    | cons r1 rr =>
      obtain ⟨t, rfl⟩ := r1
      cases i with
      | zero => exact ⟨n, t, rfl, by simpa using h.symm⟩
      | succ i => exact ih rr (by simpa using h)
theorem c_maxD (calm : X.calm = true) (hu : X.A.units + 64 < cLine) : CallRK X (.builtin "max") ["default"] (rMaxD X.K) := by
  intro pins s σ H vs zs us ws Q I r rz ⟨a, ns, d, e1, e2, hs, q0, q1⟩
  subst e1 e2
  obtain ⟨its, rv, hl, _⟩ := I.list hs
  rw [Vals.ref1 r]
  cases rz with
  | cons r1 rr =>
    cases rr
    obtain ⟨t, rfl⟩ := r1
    have hdp : PySem.W.Datum.depth Int ≤ 50 := by decide
    refine PySem.W.max_list_datum_default (d := .int d t) (xs := ns) (I.ok.hd calm) hl.isList (by simpa using hold_ints s.heap ns its rv) (by omega) (fun e h' tk hk => ?_) fun y ys i v h' tk e hi hv hk => ?_
    · exact ⟨.int d, H, I.kept (t' := tk) hk, ⟨_, rfl⟩, q0 e⟩
    · obtain ⟨k, t', hk', rfl⟩ := int_at rv (by simpa using hi)
      have ek : k = PySem.W.maxOf y ys := by
        obtain ⟨as, ra⟩ := hv
        cases ra
        rfl
      refine ⟨.int k, H, I.kept (t' := tk) hk, ⟨_, rfl⟩, q1 k (List.mem_of_getElem? hk') fun z hz => ?_⟩
      rw [ek]
      exact maxOf_ge ys y z (by rw [← e]; exact hz)
end
/-! ### fields, methods, makings -/
/-- a class as the top has left it, with the names of its fields -/
structure Kl (K : PySem.W.Frag) (mg : Str → Option Value) (x : Str) (C : Addr) (as : List Str) : Prop where
  g : mg x = some (.ref C)
  cl : Cls K C
  na : ∀ f ∈ as, NoAttr K C f
/-- a method -/
structure DfM (K : PySem.W.Frag) (C : Addr) (m qual : Str) (st : Stmt) (ps : List Str) (f : Addr) (fd : FuncData) : Prop where
  fn : Fun K m qual st f fd
  b : Binds K fd ps []
  m : Meth K C m f
def rFld (K : PySem.W.Frag) (f : Str) (x : V) (H : Hp) (Q : VK) : Prop := ∃ a C dx fs v, x = .ref a ∧ H a = some (.ins C dx fs) ∧ Cls K C ∧ NoAttr K C f ∧ fs.lookup f = some v ∧ Q v H
def rFldS (K : PySem.W.Frag) (f : Str) (x y : V) (H : Hp) (R : Hp → Prop) : Prop := ∃ a C dx fs, x = .ref a ∧ H a = some (.ins C dx fs) ∧ Cls K C ∧ NoAttr K C f ∧ fs.length < 1000 ∧ R (upd H a (.ins C dx (putF f y fs)))
def rMeth (C : Addr) (m : Str) (x : V) (H : Hp) (A : Prop) : Prop := ∃ a dx fs, x = .ref a ∧ H a = some (.ins C dx fs) ∧ fs.lookup m = none ∧ A
def rMake (C : Addr) (sp : Sp) (vs : List V) (H : Hp) (Q : VK) (E : XK) : Prop := ∀ x dx, H x = none → H dx = none → dx ≠ x → sp (.ref x :: vs) (upd (upd H dx (.own x)) x (.ins C dx [])) (fun v H2 => v = .non ∧ Q (.ref x) H2) E
section
variable {K : PySem.W.Frag} {σ : L2.St} {H : Hp} {Q : VK} {nx bk ct : L2.St → Hp → Prop} {rt : VK} {v : V}
theorem w_fld {ta : TE} {f : Str} (h : ta σ H fun x H1 => rFld K f x H1 Q) : tFld K ta f σ H Q := h
theorem w_fld' {f : Str} {a C dx : Addr} {fs : List (Str × V)} (h1 : H a = some (.ins C dx fs)) (h2 : Cls K C) (h3 : NoAttr K C f) (h4 : fs.lookup f = some v) (h : Q v H) : rFld K f (.ref a) H Q := ⟨a, C, dx, fs, v, rfl, h1, h2, h3, h4, h⟩
theorem w_fldS {ta tv : TE} {f : Str} (h : tv σ H fun y H1 => ta σ H1 fun x H2 => rFldS K f x y H2 fun H3 => nx σ H3) : sFld K ta tv f ⟨nx, rt, bk, ct⟩ σ H := h
theorem w_seqFS {ta tv : TE} {f : Str} {u : TS} (h : tv σ H fun y H1 => ta σ H1 fun x H2 => rFldS K f x y H2 fun H3 => u ⟨nx, rt, bk, ct⟩ σ H3) : tSeq (sFld K ta tv f) u ⟨nx, rt, bk, ct⟩ σ H := h
theorem w_fldS' {f : Str} {a C dx : Addr} {fs : List (Str × V)} {R : Hp → Prop} (h1 : H a = some (.ins C dx fs)) (h2 : Cls K C) (h3 : NoAttr K C f) (h4 : fs.length < 1000) (h : ∀ H1, H1 a = some (.ins C dx (putF f v fs)) → Off a H H1 → R H1) : rFldS K f (.ref a) v H R :=
  ⟨a, C, dx, fs, rfl, h1, h2, h3, h4, h _ upd_same fun x hx => upd_ne hx⟩
theorem w_meth {C : Addr} {m : Str} {sp : Sp} {E : XK} {ta : TE} {t : TA} (h : ta σ H fun x H1 => rMeth C m x H1 (t σ H1 fun vs H2 => sp (x :: (vs ++ [])) H2 Q E)) : tMeth C m sp [] E ta t σ H Q := by
  unfold tMeth
  exact h
theorem w_meth' {C a dx : Addr} {m : Str} {fs : List (Str × V)} {A : Prop} (h1 : H a = some (.ins C dx fs)) (h2 : fs.lookup m = none) (h : A) : rMeth C m (.ref a) H A := ⟨a, dx, fs, rfl, h1, h2, h⟩
theorem w_make {C : Addr} {sp : Sp} {E : XK} {t : TA} (h : t σ H fun vs H1 => rMake C sp (vs ++ []) H1 Q E) : tMake C sp [] E t σ H Q := h
theorem w_make' {C : Addr} {sp : Sp} {vs : List V} {E : XK} (h : ∀ x dx H1, H x = none → H dx = none → dx ≠ x → H1 x = some (.ins C dx []) → Same H H1 → sp (.ref x :: vs) H1 (fun v H2 => v = .non ∧ Q (.ref x) H2) E) : rMake C sp vs H Q E := fun x dx hx hd hne =>
  h x dx _ hx hd hne upd_same fun b o e => by
    rw [upd_ne (ne_of_none e hx), upd_ne (ne_of_none e hd)]
    exact e
theorem w_maxD {r : List V → List V → Hp → VK → Prop} {t tk : TA} (h : t σ H fun vs H1 => tk σ H1 fun zs H2 => r vs zs H2 Q) : tCKw r t tk σ H Q := h
theorem w_maxD' {a : Addr} {ns : List Int} {d : Int} (h1 : SqL K H a (ns.map V.int)) (h0 : ns = [] → Q (.int d) H) (h : ∀ m, m ∈ ns → (∀ y ∈ ns, y ≤ m) → Q (.int m) H) : rMaxD K [.ref a] [.int d] H Q := ⟨a, ns, d, rfl, rfl, h1, h0, h⟩
end
theorem pe_fldK {X : Cx} {K : PySem.W.Frag} {e : Expr} {f : Str} {pos : Pos} {ta : TE} (hk : X.K = K) (he : PE X e ta) (hb : attributeBase e f X.env (eval e X.env) = eval e X.env) : PE X (.Attribute e f pos) (tFld K ta f) := by
  subst hk
  exact pe_fld he hb
end FW

set_option Elab.async false
set_option linter.all false
set_option maxRecDepth 100000
set_option maxHeartbeats 4000000
/-! l[::-1] of a list; set of a tuple of ints; two promises of one def -/
namespace FW
open PySem PySem.Spec PyProof.Rows L2
def rRevL (K : PySem.W.Frag) (x z : V) (H : Hp) (Q : VK) : Prop := ∃ (a : Addr) (xs : List V), x = .ref a ∧ z = .int (-1) ∧ SqL K H a xs ∧ Nw (.lst xs.reverse) H Q
def tRevL (K : PySem.W.Frag) (te ts : TE) : TE := fun σ H Q => te σ H fun x H1 => ts σ H1 fun z H3 => rRevL K x z H3 Q
section
variable {X : Cx}
end
def rSetT (K : PySem.W.Frag) (w : World) (vs : List V) (H : Hp) (Q : VK) : Prop := ∃ (l : Addr) (ns : List Int), vs = [.ref l] ∧ SqT K H l (ns.map V.int) ∧ ns.length ≤ 4000 ∧ ∀ (p : Addr) (c : Nat), H p = none → c ≤ ns.length → Q (.ref p) (upd H p (SetO w p (fun j => decide (j ∈ ns)) c))
section
variable {K : PySem.W.Frag} {w : World} {σ : L2.St} {H : Hp} {Q : VK}
theorem w_revL {te ts : TE} (h : te σ H fun x H1 => ts σ H1 fun z H3 => rRevL K x z H3 Q) : tRevL K te ts σ H Q := h
end
theorem FnOk.or {P : Program} {w : World} {K : PySem.W.Frag} {mg : Str → Option Value} {base : Heap} {CX : CXT} {k : Nat} {f : Addr} {fd : FuncData} {ps : List Str} {sp sp' : Sp} (F : FnOk P w K mg base CX k f fd ps sp) (G : FnOk P w K mg base CX k f fd ps sp') : FnOk P w K mg base CX k f fd ps (fun vs H Q E => sp vs H Q E ∨ sp' vs H Q E) :=
  ⟨fun vs H Q E q => q.elim (F.len vs H Q E) (G.len vs H Q E), fun A outer s H args us vs Q E hr he hb hv hs => hs.elim (F.run A outer s H args us vs Q E hr he hb hv) (G.run A outer s H args us vs Q E hr he hb hv)⟩
end FW

set_option Elab.async false
set_option linter.all false
set_option maxRecDepth 100000
set_option maxHeartbeats 4000000
/-! d.items() of a dict of texts and ints, and sorted of it -/
namespace FW
open PySem PySem.Spec PyProof.Rows L2
def rItemsK : V → List V → Hp → VK → Prop := fun x xs H Q => ∃ (a : Addr) (kvs : List (Key × V)), x = .ref a ∧ xs = [] ∧ H a = some (.dK kvs) ∧ ∀ p, H p = none → Q (.ref p) (upd H p (L2.DX.itemsO p a))
/-! ### the order of pairs of a text and an int -/
abbrev TI := Addr × Str × Int
def encTI (b : TI) : PyData := .tuple [.str b.2.1, .int b.2.2]
abbrev txLt (x y : Str) : Prop := x.cps.toList < y.cps.toList
/-! ### the tuples laid -/
def kvTI (qs : List (Str × Int)) : List (Key × V) := qs.map fun q => ((Sum.inr q.1 : Key), V.int q.2)
def rSortI (vs : List V) (H : Hp) (Q : VK) : Prop := ∃ (a d : Addr) (qs : List (Str × Int)), vs = [.ref a] ∧ H a = some (L2.DX.itemsO a d) ∧ H d = some (.dK (kvTI qs)) ∧ (qs.map (·.1)).Nodup ∧
  ∀ (H' : Hp) (p : Addr) (ts : List TI), (∀ b o, H b = some o → H' b = some o) → H p = none → H' p = some (.lst (ts.map fun t => .ref t.1)) → (∀ t ∈ ts, H' t.1 = some (.tup [.str t.2.1, .int t.2.2])) → (ts.map (·.2)).Perm qs → ts.Pairwise (fun x y => txLt x.2.1 y.2.1) → Q (.ref p) H'
end FW

set_option Elab.async false
set_option linter.all false
set_option maxRecDepth 100000
set_option maxHeartbeats 4000000
/-! a def of an own class called through the class: C.m(x, ..) -/
namespace FW
open PySem PySem.Spec PyProof.Rows L2
/-- a class's reading, with the names of fields, whatever its name -/
structure Kf (K : PySem.W.Frag) (C : Addr) (as : List Str) : Prop where
  cl : Cls K C
  na : ∀ f ∈ as, NoAttr K C f
def tClsF (C : Addr) (sp : Sp) (dvs : List V) (E : XK) (ta : TE) (t : TA) : TE := fun σ H Q => ta σ H fun x H1 => x = .ref C ∧ t σ H1 fun vs H2 => sp (vs ++ dvs) H2 Q E
end FW

set_option Elab.async false
set_option linter.all false
set_option maxRecDepth 100000
set_option maxHeartbeats 4000000
/-! len and str by an own class's defs; != of one object with itself -/
namespace FW
open PySem PySem.Spec PyProof.Rows L2
section
variable {X : Cx} {CX : CXT} {k : Nat} {f C : Addr} {fd : FuncData} {ps : List Str} {sp : Sp} {E : XK}
/-- the callee runs, called by a builtin -/
theorem run_fnB {A : Around} {pins : List (Addr × Obj)} {σ : L2.St} {H : Hp} {s : Shared} {Q : VK} {us : List Value} {vs : List V} (F : FnOk X.prog X.w X.K X.mg X.base CX k f fd ps sp) (hr : Room k A) (he : Env0 X.prog X.w X.K X.mg X.base A X.stack s H) (hb : Binds X.K fd ps []) (hx : Passes CX X E)
    (I : Inv X pins σ H s) (r : Vals vs us) (h : sp vs H Q E) : wpAny (model X.prog X.w) A (call (.ref f) us) (EP X pins σ Q) X.xe s := by
  have len2 : (us ++ []).length = ps.length := by
    rw [List.append_nil, ← r.length]
    exact F.len _ _ _ _ h
  have bd := hb s us I.kIn len2
  rw [List.append_nil] at bd
  refine wpAny_call (codeAny_mono (F.run A X.stack s H ⟨us, []⟩ us vs Q E hr he bd r h) fun o t ho => ?_)
  match o, ho with
  | .error e, ho => exact hx pins σ H s e t I ho
  | .ok (.ret u), ho => exact I.after ho
  | .ok .next, ho => exact False.elim ho
  | .ok .brk, ho => exact False.elim ho
  | .ok .cont, ho => exact False.elim ho
def rLenO (C : Addr) (sp : Sp) (E : XK) (xs : List V) (H : Hp) (Q : VK) : Prop := ∃ a dx fs, xs = [.ref a] ∧ H a = some (.ins C dx fs) ∧ sp [.ref a] H (fun v H2 => ∃ n : Nat, v = .int (n : Int) ∧ n ≤ 1000000 ∧ Q (.int (n : Int)) H2) E
theorem c_lenO (hm : Meth X.K C "__len__" f) (F : FnOk X.prog X.w X.K X.mg X.base CX k f fd ps sp) (hr : Room (k + 1) X.A) (hb : Binds X.K fd ps []) (hx : Passes CX X E) : CallR X (.builtin "len") (rLenO C sp E) := by
  intro pins s σ H vs us Q I r h
  obtain ⟨a, dx, fs, rfl, ha, q⟩ := h
  have r0 := r
  rw [Vals.ref1 r] at r0 ⊢
  obtain ⟨mA, O, _, _, _, _⟩ := ins_get I.hok ha
  obtain ⟨od, J, _⟩ := O.look
  obtain ⟨m, fr⟩ := I.fr
  refine PySem.W.len_K fr I.ok.mod.kin J hm.at_ hm.fn (thn (run_fnB F hr.in1 I.env0.in1 hb hx I r0 q) fun v t ⟨x, H2, I2, rx, n, ex, hn, q2⟩ => ?_)
  subst ex
  obtain ⟨tk, rfl⟩ := (show ∃ tk, v = Value.int (n : Int) tk from rx)
  exact ⟨⟨by omega, by omega⟩, .int n, H2, I2.tok _, ⟨_, rfl⟩, q2⟩
def rStrO (C : Addr) (sp : Sp) (E : XK) (xs : List V) (H : Hp) (Q : VK) : Prop := ∃ a dx fs, xs = [.ref a] ∧ H a = some (.ins C dx fs) ∧ sp [.ref a] H (fun v H2 => ∃ z : Str, v = .str z ∧ Q (.str z) H2) E
end
def rStrI (xs : List V) (H : Hp) (Q : VK) : Prop := ∃ i, xs = [V.int i] ∧ i.natAbs.log2 < 1920 ∧ Q (.str (toString i)) H
theorem w_lenO {H : Hp} {Q : VK} {C : Addr} {sp : Sp} {E : XK} {a dx : Addr} {fs : List (Str × V)} (ha : H a = some (.ins C dx fs)) (h : sp [.ref a] H (fun v H2 => ∃ n : Nat, v = .int (n : Int) ∧ n ≤ 1000000 ∧ Q (.int (n : Int)) H2) E) : rLenO C sp E [.ref a] H Q := ⟨a, dx, fs, rfl, ha, h⟩
/-! ### one object compared with itself -/
section
variable {M : Model} {prog : Program} {w : World} {A : Around} {E : Value → Shared → Prop} {s : Shared} {K : PySem.W.Frag} {x C : Addr} {ox : Obj} {od : Option Obj}
end
/-- an own class that compares by identity -/
structure EqI (K : PySem.W.Frag) (C : Addr) : Prop where
  mr : PySem.W.mroIn K C (.type "object") = some true
  eq : PySem.W.findIn K (.ref C) "__eq__" = some (some (.builtin "object.__eq__"))
  ne : PySem.W.findIn K (.ref C) "__ne__" = some (some (.builtin "object.__ne__"))
def rNeS (K : PySem.W.Frag) : R2 := fun x y H Q => ∃ a C dx fs, x = .ref a ∧ y = .ref a ∧ H a = some (.ins C dx fs) ∧ EqI K C ∧ Q (.bl false) H
end FW

set_option Elab.async false
set_option linter.all false
set_option maxRecDepth 100000
set_option maxHeartbeats 4000000
/-! f(x, k = v) in a try; for k, v in e.items() of a dict that a call made -/
namespace FW
open PySem PySem.Spec PyProof.Rows L2
section
variable {X : Cx} {CX : CXT} {k n : Nat} {f : Addr} {fd : FuncData} {ps ks : List Str} {sp : Sp} {E : L2.St → XK} {x : Str} {p pos : Pos} {e : Expr} {es : List Expr} {kws : List Keyword} {t tk : TA} {g : List Value → List Value → List Value} {gV : List V → List V → List V}
def tCallNS (n m : Nat) (sp : Sp) (gV : List V → List V → List V) (E : L2.St → XK) (t tk : TA) : TE := fun σ H Q => t σ H fun vs H1 => tk σ H1 fun zs H2 => vs.length = n ∧ zs.length = m ∧ sp (gV vs zs) H2 Q (E σ)
/-! ### a dict that is read from here on -/
def tFrz (td : TE) : TE := fun σ H Q => td σ H fun x H1 => ∃ d kvs, x = .ref d ∧ H1 d = some (.dK kvs) ∧ ∀ o H2, H2 d = some (.frz o (.dK kvs)) → Off d H1 H2 → Q x H2
def rItems (x : V) (H1 : Hp) (R : It → Hp → Prop) : Prop := ∃ d o kvs, x = .ref d ∧ H1 d = some (.frz o (.dK kvs)) ∧ R (Iti d o kvs) H1
end
end FW

set_option Elab.async false
set_option linter.all false
set_option maxRecDepth 100000
set_option maxHeartbeats 4000000
/-! zip of a tuple and a list -/
namespace FW
open PySem
section
variable {pg : Program} {w : World} {ar : Around} {er : Value → Shared → Prop} {sh : Shared}
end
abbrev zipMH1 (h : Heap) (l1 : Addr) : Heap := h.push { cls := .type "tuple_iterator", data := .fields #[.ref l1, .int 0 0] }
abbrev zipMH2 (h : Heap) (l1 l2 : Addr) : Heap := (zipMH1 h l1).push { cls := .type "list_iterator", data := .fields #[.ref l2, .int 0 0] }
abbrev zipMH3 (h : Heap) (l1 l2 : Addr) : Heap := (zipMH2 h l1 l2).push { cls := .type "tuple", data := .seq #[.ref h.objs.size, .ref (zipMH1 h l1).objs.size] }
abbrev zipMH4 (h : Heap) (l1 l2 : Addr) : Heap := (zipMH3 h l1 l2).push { cls := .type "tuple", data := .seq #[.none, .none] }
abbrev zipMH5 (h : Heap) (l1 l2 : Addr) : Heap := (zipMH4 h l1 l2).push { cls := .type "zip", data := .fields #[.none, .bool false, .bool false, .ref (zipMH2 h l1 l2).objs.size, .ref (zipMH3 h l1 l2).objs.size] }

section
variable {pg : Program} {w : World} {ar : Around} {er : Value → Shared → Prop} {sh : Shared}
end
open PySem.Spec PyProof.Rows L2
def ItzM (K : PySem.W.Frag) (aa b : Addr) : It :=
  ⟨fun ix H => ∃ (xs ys : List V) (x y : V), SqT K H aa xs ∧ SqL K H b ys ∧ xs[ix]? = some x ∧ ys[ix]? = some y,
    fun ix H v H' => ∃ T x y, v = .ref T ∧ H T = none ∧ H' = upd H T (.tup [x, y]) ∧ (∀ xs, SqT K H aa xs → xs[ix]? = some x) ∧ ∀ ys, SqL K H b ys → ys[ix]? = some y,
    fun ix H => ∃ xs ys : List V, SqT K H aa xs ∧ SqL K H b ys ∧ (xs.length ≤ ix ∨ ys.length ≤ ix)⟩
def iZipM (K : PySem.W.Frag) (ta : TA) : L2.TI := fun σ H R => ta σ H fun vs Hn => ∃ a b xs ys, vs = [.ref a, .ref b] ∧ SqT K Hn a xs ∧ SqL K Hn b ys ∧ R (ItzM K a b) Hn
def rZipM (K : PySem.W.Frag) (vs : List V) (H : Hp) (R : It → Hp → Prop) : Prop := ∃ a b xs ys, vs = [.ref a, .ref b] ∧ SqT K H a xs ∧ SqL K H b ys ∧ R (ItzM K a b) H
end FW

set_option Elab.async false
set_option linter.all false
set_option maxRecDepth 100000
/-! A walk over what is a list or a tuple. -/
namespace FW
open PySem L2
def rItS (K : PySem.W.Frag) (x : V) (H : Hp) (R : It → Hp → Prop) : Prop := ∃ a, x = .ref a ∧ (((∃ xs, SqL K H a xs) ∧ R (Itl K a) H) ∨ ((∃ xs, SqT K H a xs) ∧ R (Itt K a) H))
def iSeq (K : PySem.W.Frag) (te : L2.TE) : L2.TI := fun σ H R => te σ H fun x H1 => rItS K x H1 R
section
open PySem.Spec PyProof.Rows
end
section
variable {K : PySem.W.Frag} {σ : L2.St} {H : Hp}
end
end FW

set_option Elab.async false
set_option linter.all false
set_option maxRecDepth 100000
set_option maxHeartbeats 4000000
/-! l.count(x) of flat things; a lambda handed to a def -/
namespace FW
open PySem PySem.Spec PyProof.Rows L2
def rCount (K : PySem.W.Frag) (x : V) (xs : List V) (H : Hp) (Q : VK) : Prop := ∃ (a : Addr) (ys : List V) (y : V), x = V.ref a ∧ xs = [y] ∧ SqL K H a ys ∧ flatV y = true ∧ ys.all flatV = true ∧ Q (.int ((ys.countP fun z => eqV z y : Nat) : Int)) H
theorem count_vals {y : V} : ∀ {ys : List V} {us : List Value}, Vals ys us → ys.all flatV = true → us.countP (eqU y) = ys.countP fun z => eqV z y
  | [], _, r, _ => by cases r; rfl
  | z :: ys, _, r, f => by
    cases r with
    | cons rz rr =>
      rw [List.all_cons, Bool.and_eq_true_iff] at f
      rw [List.countP_cons, List.countP_cons, count_vals rr f.2, eqU_of rz f.1]
theorem mt_countF {X : Cx} : MtR X "list.count" (rCount X.K) := by
  intro pins s σ H x xs v us Q I rx rxs h
  obtain ⟨a, ys, y, rfl, rfl, hs, fy, fys, q⟩ := h
  cases rx
  cases rxs with
  | cons ry rt =>
    rename_i uy ut
    cases rt
    obtain ⟨its, rv, ⟨⟨cls, dd, data, sl⟩, n, ho, hc, hdn, hd⟩, hlen⟩ := I.list hs
    simp only at hc hd
    subst hc hd
    refine call_meets PySem.F.slot_list_count ⟨_, ho, rfl⟩ PySem.F.entry_list_count (PySem.F.args_list_count_2 _ _) (SeqAt.list_countAt a its.toArray n dd sl uy (eqU y)) ⟨ho, fun u' hu' => mem_eqAt ry fy rv fys u' (by simpa using hu'), ?_⟩
    exact ⟨.int _, H, I.tok _, ⟨_, by rw [show its.toArray.toList = its from rfl, count_vals rv fys]⟩, q⟩
theorem w_count {K : PySem.W.Frag} {H : Hp} {Q : VK} {a : Addr} {ys : List V} {y : V} (hs : SqL K H a ys) (fy : flatV y = true) (fys : ys.all flatV = true) (h : Q (.int ((ys.countP fun z => eqV z y : Nat) : Int)) H) : rCount K (.ref a) [y] H Q := ⟨a, ys, y, rfl, rfl, hs, fy, fys, h⟩
theorem w_indexF {K : PySem.W.Frag} {H : Hp} {Q : VK} {a : Addr} {ys : List V} {y z : V} (j : Nat) (hs : SqL K H a ys) (fy : flatV y = true) (fys : ys.all flatV = true) (h1 : ys[j]? = some z) (h2 : eqV z y = true) (h3 : ∀ (m : Nat) (z' : V), m < j → ys[m]? = some z' → eqV z' y = false) (h : Q (.int (j : Nat)) H) : rIndex K (.ref a) [y] H Q := ⟨a, ys, y, j, z, rfl, rfl, hs, fy, fys, h1, h2, h3, h⟩
end FW

set_option Elab.async false
set_option linter.all false
set_option maxRecDepth 100000
set_option maxHeartbeats 4000000
/-! A lambda handed to a def that calls it within a try. -/
namespace FW
open PySem PySem.Spec PyProof.Rows L2
/-- behind a raise the slots are as many as ever -/
theorem takesLen {X : Cx} {W : WX} (t : Takes X W) : Takes X (fun c d σ H => σ.length = X.N.length → W c d σ H) := fun u s' ⟨a, B, sI, pins, σ, H, cls, d, e, I, nb, up, sky, na, os, ag, w⟩ =>
  t u s' ⟨a, B, sI, pins, σ, H, cls, d, e, I, nb, up, sky, na, os, ag, w I.len⟩
/-- the call of what was handed in: R tells what it asks, by what it may raise -/
def tDeed (n : Nat) (W : WX) (R : XK → TE) : TE := fun σ H Q => ∃ E : XK, (∀ cls d σ' H', E cls d H' → σ'.length = n → W cls d σ' H') ∧ R E σ H Q
theorem pe_deed {X : Cx} {W : WX} {e : Expr} {R : XK → TE} (tk : Takes X W) (h : ∀ (W' : WX) (E : XK), Takes X W' → (∀ cls d σ' H', E cls d H' → W' cls d σ' H') → PE X e (R E)) : PE X e (tDeed X.N.length W R) := by
  refine ⟨fun pins s σ H Q I z => ?_⟩
  obtain ⟨E, hW, q⟩ := z
  exact (h _ E (takesLen tk) hW).run pins s σ H Q I q
theorem w_deed {n : Nat} {W : WX} {R : XK → TE} {σ : L2.St} {H : Hp} {Q : VK} (E : XK) (h1 : ∀ cls d σ' H', E cls d H' → σ'.length = n → W cls d σ' H') (h2 : R E σ H Q) : tDeed n W R σ H Q := ⟨E, h1, h2⟩
section
variable {P : Program} {w : World} {K : PySem.W.Frag} {mg : Str → Option Value} {base : Heap}
/-- as Fun.ok, with the def's code object told -/
theorem _root_.L2.Fun.okT {x qual : Str} {st : Stmt} {f : Addr} {fd : FuncData} {N ps : List Str} {k : Nat} {sp : Sp} (F : L2.Fun K x qual st f fd) (S : FnScope N ps (defScope st)) (len : ∀ vs H Q E, sp vs H Q E → vs.length = ps.length)
    (hbody : ∀ (cdv : Value) (A : Around) (outer : List Env) (s : Shared) (H : Hp) (vs : List V) (Q : VK) (E : XK), fd.code = cdv → Room k (A.deeper (envOfC qual (defScope st) s.heap.objs.size f cdv)) → sp vs H Q E →
      ∃ t, PSs (cxOf CX0 P w K mg base N qual (defScope st) f cdv A outer s H E).nox (defBody st) t ∧ t { nx := fun _ H' => Q .non H', rt := Q } (start N vs) H) : FnOk P w K mg base CX0 (k + 1) f fd ps sp := by
  obtain ⟨oc, od, kV, doc, pm, an, cdv, ct, osl, rfl, lk, hcd⟩ := F.ex
  refine fn_of lk hcd S len fun A outer s H vs Q E hr hsp => ?_
  obtain ⟨t, h, q⟩ := hbody cdv A outer s H vs Q E rfl hr hsp
  exact ⟨t, h.nox, q⟩
end
/-- x(lambda: body), x a def of one parameter that stands in the text -/
theorem pe_lamD {X : Cx} {TT : (XK → Hp → VK → Prop) → Hp → VK → Prop} {x a : Str} {g c P : Addr} {k : Nat} {st : Stmt} {fd : FuncData} {Ng : List Str} {params : Arguments} {body : Expr} {scope : Scope} {t : XK → TE} {p lpos pos : Pos} (D : L2.Fun X.K x x st g fd) (hb : L2.Binds X.K fd [a] []) (hm : X.mg x = some (.ref g)) (hg : Gl X x) (hNg : Ng[0]? = some a) (Sg : FnScope Ng [a] (defScope st)) (hva : Vis (defScope st) a)
    (hG : ∀ cdg, LamX.GivesTo X Ng x (defScope st) g cdg (defBody st) a (X.env.qual ++ "<lambda>") TT) (TB : LamX.TabB X.base X.mg c P) (hcode : X.env.code = .ref c) (hr : Room (k + 2) X.A) (L : LamX.LamS X.env.scope scope) (hdef : defaultsOf params X.env = ([], []))
    (hbind : ∀ (q : Str) (cl : List (Str × Addr)) (pm cv ctv : Value), bindArgs (PySem.W.kla_fn "<lambda>" q params body scope cl pm cv ctv) ⟨[], []⟩ = pure [])
    (hbody : ∀ (A : Around) (outer : List Env) (s : Shared) (H : Hp) (E : XK) (f c' : Addr), Room k (A.deeper (LamX.lamEnv X scope s.heap.objs.size f c')) → PE (LamX.lamCx X A outer s H E scope f c') body (t E))
    (hdb : (x == ("__debug__" : Str)) = false := by decide) (hd : (a == ("__debug__" : Str)) = false := by decide) (hcd : (a == ("__classdict__" : Str)) = false := by decide) :
    PE X (.Call (.Name x p) [.Lambda params body scope lpos] [] pos) (LamX.tLam [(P, X.env.qual ++ "<lambda>")] TT t) := by
  obtain ⟨oc, od, kV, doc, pm, an, cdv, ct, osl, rfl, lk, hcg⟩ := D.ex
  exact LamX.pe_lamcall hg hm D.kp lk hcg hb Sg hNg hva (hG cdv) TB hcode (.head _) (fun p hp _ => by rw [List.mem_singleton.mp hp]) hr L hdef hbind hbody hdb hd hcd
/-- as pe_lamD, beside other tables -/
theorem pe_lamT {X : Cx} (T : List (Addr × Str)) {TT : (XK → Hp → VK → Prop) → Hp → VK → Prop} {x a : Str} {g c P : Addr} {k : Nat} {st : Stmt} {fd : FuncData} {Ng : List Str} {params : Arguments} {body : Expr} {scope : Scope} {t : XK → TE} {p lpos pos : Pos} (D : L2.Fun X.K x x st g fd) (hb : L2.Binds X.K fd [a] []) (hm : X.mg x = some (.ref g)) (hg : Gl X x) (hNg : Ng[0]? = some a) (Sg : FnScope Ng [a] (defScope st)) (hva : Vis (defScope st) a)
    (hG : ∀ cdg, LamX.GivesTo X Ng x (defScope st) g cdg (defBody st) a (X.env.qual ++ "<lambda>") TT) (TB : LamX.TabB X.base X.mg c P) (hcode : X.env.code = .ref c) (hmT : (P, X.env.qual ++ "<lambda>") ∈ T) (hu : ∀ p ∈ T, p.1 = P → p.2 = X.env.qual ++ "<lambda>") (hr : Room (k + 2) X.A) (L : LamX.LamS X.env.scope scope) (hdef : defaultsOf params X.env = ([], []))
    (hbind : ∀ (q : Str) (cl : List (Str × Addr)) (pm cv ctv : Value), bindArgs (PySem.W.kla_fn "<lambda>" q params body scope cl pm cv ctv) ⟨[], []⟩ = pure [])
    (hbody : ∀ (A : Around) (outer : List Env) (s : Shared) (H : Hp) (E : XK) (f c' : Addr), Room k (A.deeper (LamX.lamEnv X scope s.heap.objs.size f c')) → PE (LamX.lamCx X A outer s H E scope f c') body (t E))
    (hdb : (x == ("__debug__" : Str)) = false := by decide) (hd : (a == ("__debug__" : Str)) = false := by decide) (hcd : (a == ("__classdict__" : Str)) = false := by decide) :
    PE X (.Call (.Name x p) [.Lambda params body scope lpos] [] pos) (LamX.tLam T TT t) := by
  obtain ⟨oc, od, kV, doc, pm, an, cdv, ct, osl, rfl, lk, hcg⟩ := D.ex
  exact LamX.pe_lamcall hg hm D.kp lk hcg hb Sg hNg hva (hG cdv) TB hcode hmT hu hr L hdef hbind hbody hdb hd hcd
theorem w_lam {T : List (Addr × Str)} {TT : (XK → Hp → VK → Prop) → Hp → VK → Prop} {t : XK → TE} {σ : L2.St} {H : Hp} {Q : VK} (hT : LamX.Tabs T H) (h : ∀ H1, LamX.ExtN H H1 → LamX.Tabs T H1 → TT (fun E H' Q' => t E σ H' Q') H1 Q) : LamX.tLam T TT t σ H Q := ⟨hT, h⟩
theorem twoH {P Q : Addr} {a b : Str} (h : P ≠ Q) : ∀ p ∈ [(P, a), (Q, b)], p.1 = P → p.2 = a := fun p hp e => by
  rcases List.mem_cons.mp hp with rfl | hp
  · rfl
  · rw [List.mem_singleton.mp hp] at e
    exact absurd e.symm h
theorem twoT {P Q : Addr} {a b : Str} (h : P ≠ Q) : ∀ p ∈ [(P, a), (Q, b)], p.1 = Q → p.2 = b := fun p hp e => by
  rcases List.mem_cons.mp hp with rfl | hp
  · exact absurd e h
  · rw [List.mem_singleton.mp hp]
theorem tabs2 {H : Hp} {P Q : Addr} {a b : Str} (h : H P = some (.tbl #[])) (g : H Q = some (.tbl #[])) : LamX.Tabs [(P, a), (Q, b)] H := fun p hp => by
  rcases List.mem_cons.mp hp with rfl | hp
  · exact LamX.TabS.nil h
  · rw [List.mem_singleton.mp hp]
    exact LamX.TabS.nil g
end FW

set_option Elab.async false
set_option linter.all false
set_option maxRecDepth 100000
set_option maxHeartbeats 4000000
namespace FW
open PySem L2
def top (i : Nat) : Stmt := PySem.Challenge.pw_fewasks_k02_no_contents.main.body.getD i (.Pass ⟨0, 0, 0, 0⟩)
abbrev s_NoName___init__ : Stmt := inClass (top 3) 0
abbrev N_NoName___init__ : List Str := ["self", "name"]
theorem sc_NoName___init__ : FnScope N_NoName___init__ ["self", "name"] (defScope s_NoName___init__) := ⟨rfl, rfl, rfl, by decide +kernel, rfl, by decide +kernel, by decide +kernel⟩
abbrev s_is_int : Stmt := top 9
abbrev N_is_int : List Str := ["thing", "least"]
theorem sc_is_int : FnScope N_is_int ["thing", "least"] (defScope s_is_int) := ⟨rfl, rfl, rfl, by decide +kernel, rfl, by decide +kernel, by decide +kernel⟩
abbrev s_is_text : Stmt := top 10
abbrev N_is_text : List Str := ["thing", "most", "sign"]
theorem sc_is_text : FnScope N_is_text ["thing", "most"] (defScope s_is_text) := ⟨rfl, rfl, rfl, by decide +kernel, rfl, by decide +kernel, by decide +kernel⟩
abbrev s_is_label : Stmt := top 11
abbrev N_is_label : List Str := ["thing", "sign"]
theorem sc_is_label : FnScope N_is_label ["thing"] (defScope s_is_label) := ⟨rfl, rfl, rfl, by decide +kernel, rfl, by decide +kernel, by decide +kernel⟩
abbrev s_rise : Stmt := top 12
abbrev N_rise : List Str := ["row", "k"]
theorem sc_rise : FnScope N_rise ["row"] (defScope s_rise) := ⟨rfl, rfl, rfl, by decide +kernel, rfl, by decide +kernel, by decide +kernel⟩
abbrev s_are_ints : Stmt := top 13
abbrev N_are_ints : List Str := ["thing", "part"]
theorem sc_are_ints : FnScope N_are_ints ["thing"] (defScope s_are_ints) := ⟨rfl, rfl, rfl, by decide +kernel, rfl, by decide +kernel, by decide +kernel⟩
abbrev s_rising_ints : Stmt := top 14
abbrev N_rising_ints : List Str := ["thing"]
theorem sc_rising_ints : FnScope N_rising_ints ["thing"] (defScope s_rising_ints) := ⟨rfl, rfl, rfl, by decide +kernel, rfl, by decide +kernel, by decide +kernel⟩
abbrev s_is_pair : Stmt := top 15
abbrev N_is_pair : List Str := ["thing"]
theorem sc_is_pair : FnScope N_is_pair ["thing"] (defScope s_is_pair) := ⟨rfl, rfl, rfl, by decide +kernel, rfl, by decide +kernel, by decide +kernel⟩
abbrev s_are_rows : Stmt := top 16
abbrev N_are_rows : List Str := ["thing", "row"]
theorem sc_are_rows : FnScope N_are_rows ["thing"] (defScope s_are_rows) := ⟨rfl, rfl, rfl, by decide +kernel, rfl, by decide +kernel, by decide +kernel⟩
abbrev s_Book___init__ : Stmt := inClass (top 20) 0
abbrev N_Book___init__ : List Str := ["self"]
theorem sc_Book___init__ : FnScope N_Book___init__ ["self"] (defScope s_Book___init__) := ⟨rfl, rfl, rfl, by decide +kernel, rfl, by decide +kernel, by decide +kernel⟩
abbrev s_Book___len__ : Stmt := inClass (top 20) 1
abbrev N_Book___len__ : List Str := ["self"]
theorem sc_Book___len__ : FnScope N_Book___len__ ["self"] (defScope s_Book___len__) := ⟨rfl, rfl, rfl, by decide +kernel, rfl, by decide +kernel, by decide +kernel⟩
abbrev s_Book_named : Stmt := inClass (top 20) 2
abbrev N_Book_named : List Str := ["self", "content"]
theorem sc_Book_named : FnScope N_Book_named ["self", "content"] (defScope s_Book_named) := ⟨rfl, rfl, rfl, by decide +kernel, rfl, by decide +kernel, by decide +kernel⟩
abbrev s_Book_name_of : Stmt := inClass (top 20) 3
abbrev N_Book_name_of : List Str := ["self", "thing"]
theorem sc_Book_name_of : FnScope N_Book_name_of ["self", "thing"] (defScope s_Book_name_of) := ⟨rfl, rfl, rfl, by decide +kernel, rfl, by decide +kernel, by decide +kernel⟩
abbrev s_Book_thing : Stmt := inClass (top 20) 4
abbrev N_Book_thing : List Str := ["self", "name"]
theorem sc_Book_thing : FnScope N_Book_thing ["self", "name"] (defScope s_Book_thing) := ⟨rfl, rfl, rfl, by decide +kernel, rfl, by decide +kernel, by decide +kernel⟩
abbrev s_Book_kind : Stmt := inClass (top 20) 5
abbrev N_Book_kind : List Str := ["self", "name"]
theorem sc_Book_kind : FnScope N_Book_kind ["self", "name"] (defScope s_Book_kind) := ⟨rfl, rfl, rfl, by decide +kernel, rfl, by decide +kernel, by decide +kernel⟩
abbrev s_Book_parts : Stmt := inClass (top 20) 6
abbrev N_Book_parts : List Str := ["self", "name", "content", "label", "part"]
theorem sc_Book_parts : FnScope N_Book_parts ["self", "name"] (defScope s_Book_parts) := ⟨rfl, rfl, rfl, by decide +kernel, rfl, by decide +kernel, by decide +kernel⟩
abbrev s_is_name : Stmt := top 21
abbrev N_is_name : List Str := ["book", "thing"]
theorem sc_is_name : FnScope N_is_name ["book", "thing"] (defScope s_is_name) := ⟨rfl, rfl, rfl, by decide +kernel, rfl, by decide +kernel, by decide +kernel⟩
abbrev s_is_kind : Stmt := top 22
abbrev N_is_kind : List Str := ["book", "thing", "kind"]
theorem sc_is_kind : FnScope N_is_kind ["book", "thing", "kind"] (defScope s_is_kind) := ⟨rfl, rfl, rfl, by decide +kernel, rfl, by decide +kernel, by decide +kernel⟩
abbrev s_is_entry : Stmt := top 23
abbrev N_is_entry : List Str := ["book", "thing"]
theorem sc_is_entry : FnScope N_is_entry ["book", "thing"] (defScope s_is_entry) := ⟨rfl, rfl, rfl, by decide +kernel, rfl, by decide +kernel, by decide +kernel⟩
abbrev s_is_tree : Stmt := top 24
abbrev N_is_tree : List Str := ["book", "entries", "entry"]
theorem sc_is_tree : FnScope N_is_tree ["book", "entries"] (defScope s_is_tree) := ⟨rfl, rfl, rfl, by decide +kernel, rfl, by decide +kernel, by decide +kernel⟩
abbrev s_depth_of : Stmt := top 25
abbrev N_depth_of : List Str := ["book", "content", "label", "name"]
theorem sc_depth_of : FnScope N_depth_of ["book", "content"] (defScope s_depth_of) := ⟨rfl, rfl, rfl, by decide +kernel, rfl, by decide +kernel, by decide +kernel⟩
abbrev s_is_version : Stmt := top 26
abbrev N_is_version : List Str := ["book", "content", "parents", "parent"]
theorem sc_is_version : FnScope N_is_version ["book", "content"] (defScope s_is_version) := ⟨rfl, rfl, rfl, by decide +kernel, rfl, by decide +kernel, by decide +kernel⟩
abbrev s_is_content : Stmt := top 27
abbrev N_is_content : List Str := ["book", "thing"]
theorem sc_is_content : FnScope N_is_content ["book", "thing"] (defScope s_is_content) := ⟨rfl, rfl, rfl, by decide +kernel, rfl, by decide +kernel, by decide +kernel⟩
abbrev s_law_deck : Stmt := top 29
abbrev N_law_deck : List Str := ["_law_script"]
theorem sc_law_deck : FnScope N_law_deck ["_law_script"] (defScope s_law_deck) := ⟨rfl, rfl, rfl, by decide +kernel, rfl, by decide +kernel, by decide +kernel⟩
abbrev s_law_mixed : Stmt := top 30
abbrev N_law_mixed : List Str := ["_law_cell", "_law_turn"]
theorem sc_law_mixed : FnScope N_law_mixed ["_law_cell", "_law_turn"] (defScope s_law_mixed) := ⟨rfl, rfl, rfl, by decide +kernel, rfl, by decide +kernel, by decide +kernel⟩
abbrev s_law_draw : Stmt := top 31
abbrev N_law_draw : List Str := ["_law_deck_here", "_law_many", "_law_cells", "_law_found", "_law_number"]
theorem sc_law_draw : FnScope N_law_draw ["_law_deck_here", "_law_many"] (defScope s_law_draw) := ⟨rfl, rfl, rfl, by decide +kernel, rfl, by decide +kernel, by decide +kernel⟩
abbrev s_law_text : Stmt := top 32
abbrev N_law_text : List Str := ["_law_deck_here", "_law_most", "_law_signs", "_law_k"]
theorem sc_law_text : FnScope N_law_text ["_law_deck_here", "_law_most"] (defScope s_law_text) := ⟨rfl, rfl, rfl, by decide +kernel, rfl, by decide +kernel, by decide +kernel⟩
abbrev s_law_alike : Stmt := top 40
abbrev N_law_alike : List Str := ["_law_found", "_law_due", "_law_k"]
theorem sc_law_alike : FnScope N_law_alike ["_law_found", "_law_due"] (defScope s_law_alike) := ⟨rfl, rfl, rfl, by decide +kernel, rfl, by decide +kernel, by decide +kernel⟩
abbrev s_law_why : Stmt := top 41
abbrev N_law_why : List Str := ["_law_deed", "_law_told", "e", "_law_kinds"]
theorem sc_law_why : FnScope N_law_why ["_law_deed"] (defScope s_law_why) := ⟨rfl, rfl, rfl, by decide +kernel, rfl, by decide +kernel, by decide +kernel⟩
abbrev s_law_odd : Stmt := top 42
abbrev N_law_odd : List Str := ["_law_deck_here", "_law_cell", "_law_far", "_law_odd_here"]
theorem sc_law_odd : FnScope N_law_odd ["_law_deck_here"] (defScope s_law_odd) := ⟨rfl, rfl, rfl, by decide +kernel, rfl, by decide +kernel, by decide +kernel⟩
abbrev s_law_bent_leaf : Stmt := top 43
abbrev N_law_bent_leaf : List Str := ["_law_deck_here", "_law_rows_here", "_law_at", "_law_k"]
theorem sc_law_bent_leaf : FnScope N_law_bent_leaf ["_law_deck_here"] (defScope s_law_bent_leaf) := ⟨rfl, rfl, rfl, by decide +kernel, rfl, by decide +kernel, by decide +kernel⟩
abbrev s_law_bent_tree : Stmt := top 44
abbrev N_law_bent_tree : List Str := ["_law_deck_here", "_law_trees", "_law_stands", "_law_many", "_law_entries_here", "_law_at", "_law_label_here", "_law_name", "_law_pick", "_law_wrong", "_law_k"]
theorem sc_law_bent_tree : FnScope N_law_bent_tree ["_law_deck_here", "_law_trees", "_law_stands", "_law_many"] (defScope s_law_bent_tree) := ⟨rfl, rfl, rfl, by decide +kernel, rfl, by decide +kernel, by decide +kernel⟩
abbrev s_law_bent_version : Stmt := top 45
abbrev N_law_bent_version : List Str := ["_law_deck_here", "_law_trees", "_law_stands", "_law_many", "_law_good", "_law_pick", "_law_at"]
theorem sc_law_bent_version : FnScope N_law_bent_version ["_law_deck_here", "_law_trees", "_law_stands", "_law_many"] (defScope s_law_bent_version) := ⟨rfl, rfl, rfl, by decide +kernel, rfl, by decide +kernel, by decide +kernel⟩
abbrev s_law_bent : Stmt := top 46
abbrev N_law_bent : List Str := ["_law_deck_here", "_law_trees", "_law_stands", "_law_many", "_law_kind"]
theorem sc_law_bent : FnScope N_law_bent ["_law_deck_here", "_law_trees", "_law_stands", "_law_many"] (defScope s_law_bent) := ⟨rfl, rfl, rfl, by decide +kernel, rfl, by decide +kernel, by decide +kernel⟩
abbrev s_law_asked : Stmt := top 47
abbrev N_law_asked : List Str := ["_law_book", "_law_name", "_law_due"]
theorem sc_law_asked : FnScope N_law_asked ["_law_book", "_law_name"] (defScope s_law_asked) := ⟨rfl, rfl, rfl, by decide +kernel, rfl, by decide +kernel, by decide +kernel⟩
abbrev s_law : Stmt := top 48
abbrev N_law : List Str := ["_law_script", "_law_deck_here", "_law_things", "_law_book", "_law_content", "_law_turn", "_law_bent_here", "_law_k"]
theorem sc_law : FnScope N_law ["_law_script"] (defScope s_law) := ⟨rfl, rfl, rfl, by decide +kernel, rfl, by decide +kernel, by decide +kernel⟩
structure Df (K : PySem.W.Frag) (mg : Str → Option Value) (x : Str) (st : Stmt) (ps : List Str) (f : Addr) (fd : FuncData) : Prop where
  fn : Fun K x x st f fd
  b : Binds K fd ps []
  g : mg x = some (.ref f)
structure Txt (K : PySem.W.Frag) (mg : Str → Option Value) : Prop where
  n_len : mg "len" = none
  n_list : mg "list" = none
  n_isinstance : mg "isinstance" = none
  n_int : mg "int" = none
  n_bool : mg "bool" = none
  n_str : mg "str" = none
  n_tuple : mg "tuple" = none
  n_dict : mg "dict" = none
  n_range : mg "range" = none
  n_all : mg "all" = none
  n_min : mg "min" = none
  n_max : mg "max" = none
  n_sorted : mg "sorted" = none
  n_ValueError : mg "ValueError" = none
  g_SIGNS : ∃ t, mg "SIGNS" = some (.str " !\"#$&'()*+,-./0123456789:;<=>?@ABCDEFGHIJKLMNOPQRSTUVWXYZ[\\]^_`abcdefghijklmnopqrstuvwxyz{|}~" t)
  g_LETTERS : ∃ t, mg "LETTERS" = some (.str "abcdefghijklmnopqrstuvwxyz" t)
  g_MOST : ∃ t, mg "MOST" = some (.int 400 t)
  g_DEEP : ∃ t, mg "DEEP" = some (.int 8 t)
local macro_rules | `(tactic| walk_at "sq") => `(tactic| first | assumption | exact SqL.of (by assumption) | exact SqT.of (by assumption))
local macro_rules | `(tactic| walk_at "c") => `(tactic| first | ((with_reducible refine cdivw ?_ ?_) <;> first | decide | omega | assumption) | ((with_reducible refine cmul_r ?_ ?_) <;> first | decide | omega) | ((with_reducible refine cmul_l ?_ ?_) <;> first | decide | omega) | with_reducible assumption | decide | omega | exact ⟨by decide, by decide, by first | decide | omega⟩)
local macro_rules | `(tactic| walk_at "at") => `(tactic| first | assumption | exact rfl)
local macro_rules | `(tactic| walk_at "ty") => `(tactic| first | exact .base (.int _) | exact .base (.bl _) | exact .base (.str _) | exact .base .non | exact .base (.tup (by assumption)) | exact .base (.lst (by assumption)) | exact .base (.dK (by assumption)))
local macro_rules | `(tactic| walk_at "kb") => `(tactic| first | exact kb_int_int | exact kb_int_bool | exact kb_int_str | exact kb_int_tuple | exact kb_int_list | exact kb_int_dict | exact kb_bool_int | exact kb_bool_bool | exact kb_bool_str | exact kb_bool_tuple | exact kb_bool_list | exact kb_bool_dict | exact kb_str_int | exact kb_str_bool | exact kb_str_str | exact kb_str_tuple | exact kb_str_list | exact kb_str_dict | exact kb_tuple_int | exact kb_tuple_bool | exact kb_tuple_str | exact kb_tuple_tuple | exact kb_tuple_list | exact kb_tuple_dict | exact kb_list_int | exact kb_list_bool | exact kb_list_str | exact kb_list_tuple | exact kb_list_list | exact kb_list_dict | exact kb_dict_int | exact kb_dict_bool | exact kb_dict_str | exact kb_dict_tuple | exact kb_dict_list | exact kb_dict_dict | exact kb_NoneType_int | exact kb_NoneType_bool | exact kb_NoneType_str | exact kb_NoneType_tuple | exact kb_NoneType_list | exact kb_NoneType_dict)
local macro_rules | `(tactic| walk_at "s") => `(tactic| first
  | dsimp only [Bool.not_true, Bool.not_false]
  )
local macro_rules | `(tactic| walk_at "s") => `(tactic| first
  | with_reducible refine w_m1 ?_
  | with_reducible refine w_isS ?_
  | with_reducible refine w_istr ?_
  | with_reducible refine w_istr' ?_
  | ((with_reducible refine' w_all ?h1 ?_); (case h1 => walk_at "sq"))
  | ((with_reducible refine' w_glst ?h1 ?h2 ?_); (case h1 => walk_at "sq"); (case h2 => exact rfl))
  | with_reducible refine w_callN ?_
  | with_reducible refine w_step ?_
  )
local macro_rules | `(tactic| walk_at "s") => `(tactic| first
  | with_reducible refine w_tryG ?_
  | with_reducible refine w_inS ?_
  | with_reducible refine w_neS ?_
  | with_reducible refine w_ltS ?_
  | with_reducible refine w_gtS ?_
  | ((with_reducible refine' w_augI ?hv ?_); (case hv => exact rfl))
  | ((with_reducible refine w_ipI ?_); dsimp only [List.set_cons_zero, List.set_cons_succ])
  | with_reducible refine w_callD ?_
  )
local macro_rules | `(tactic| walk_at "s") => `(tactic| first
  | with_reducible refine w_keys ?_
  | ((with_reducible refine' w_keys' ?h1 ?_); (case h1 => assumption))
  | ((with_reducible refine' w_dinF ?h1 ?_); (case h1 => assumption))
  | ((with_reducible refine' w_dgetF ?h1 ?h2 ?_); (case h1 => assumption); (case h2 => assumption))
  | ((with_reducible refine' w_any ?h1 ?_); (case h1 => walk_at "sq"))
  | with_reducible refine w_zipA ?_
  | ((with_reducible refine' w_zipT' ?h1 ?h2 ?_); (case h1 => walk_at "sq"); (case h2 => walk_at "sq"))
  | with_reducible refine w_dct ?_
  )
local macro_rules | `(tactic| walk_at "s") => `(tactic| first
  | with_reducible refine w_noPart ?_
  | with_reducible refine w_part ?_
  | with_reducible refine w_part' ?_
  | with_reducible refine w_enum ?_
  | ((with_reducible refine' w_enum' ?h1 ?_); (case h1 => walk_at "sq"))
  | with_reducible refine w_bm0 ?_
  | with_reducible refine w_retN ?_
  | with_reducible refine w_tyes ?_
  )
local macro_rules | `(tactic| walk_at "s") => `(tactic| first
  | ((with_reducible refine' w_trT ?h1 ?_); (case h1 => walk_at "sq"))
  | with_reducible refine w_dc ?_
  | with_reducible refine w_dc2 ?_
  | with_reducible refine w_dget1 ?_
  | ((with_reducible refine' w_dget1I ?h1 ?_); (case h1 => assumption))
  | with_reducible refine w_rev ?_
  | ((with_reducible refine' w_rev' ?h1 ?_); (case h1 => walk_at "sq"))
  | with_reducible refine w_slice ?_
  )
local macro_rules | `(tactic| walk_at "s") => `(tactic| first
  | with_reducible refine w_callS ?_
  | with_reducible refine w_try ?_
  | with_reducible refine w_isB ?_
  | with_reducible refine w_isN ?_
  | with_reducible refine w_notN ?_
  | with_reducible refine w_chain ?_
  | with_reducible refine w_tru ?_
  | ((with_reducible refine' w_trL ?h1 ?_); (case h1 => walk_at "sq"))
  )
local macro_rules | `(tactic| walk_at "s") => `(tactic| first
  | with_reducible refine w_dsetd ?_
  | ((with_reducible refine' w_leT2 ?h1 ?h2 ?_); (case h1 => walk_at "sq"); (case h2 => walk_at "sq"))
  | ((with_reducible refine' w_inT ?h1 ?_); (case h1 => walk_at "sq"))
  | ((with_reducible refine' w_ninT ?h1 ?_); (case h1 => walk_at "sq"))
  | ((with_reducible refine' w_inL ?h1 ?_); (case h1 => walk_at "sq"))
  | ((with_reducible refine' w_ninL ?h1 ?_); (case h1 => walk_at "sq"))
  | with_reducible refine w_pair ?_
  | with_reducible refine w_pnil ?_
  )
local macro_rules | `(tactic| walk_at "s") => `(tactic| first
  | ((with_reducible refine' w_dinI ?h1 ?_); (case h1 => assumption))
  | ((with_reducible refine' w_dnotinI ?h1 ?_); (case h1 => assumption))
  | ((with_reducible refine' w_dgetI ?h1 ?h2 ?_); (case h1 => assumption); (case h2 => assumption))
  | with_reducible refine w_dnewK ?_
  | with_reducible refine w_dput ?_
  | with_reducible refine w_dget2 ?_
  | ((with_reducible refine' w_isD ?h1 ?_); (case h1 => assumption))
  | ((with_reducible refine' w_dget2I ?h1 ?_); (case h1 => assumption))
  )
local macro_rules | `(tactic| walk_at "s") => `(tactic| first
  | with_reducible refine w_eqB ?_
  | ((with_reducible refine' w_sum ?h1 ?_); (case h1 => walk_at "sq"))
  | ((with_reducible refine' w_gtup ?h1 ?h2 ?_); (case h1 => walk_at "sq"); (case h2 => exact rfl))
  | with_reducible refine w_gcons ?_
  | with_reducible refine w_gnil ?_
  | with_reducible refine w_din ?_
  | with_reducible refine w_dnotin ?_
  | with_reducible refine w_dget ?_
  )
local macro_rules | `(tactic| walk_at "s") => `(tactic| first
  | ((with_reducible refine' w_itT' ?h1 ?_); (case h1 => walk_at "sq"))
  | with_reducible refine w_lc ?_
  | ((with_reducible refine' w_isi ?ty ?hk ?_); (case ty => walk_at "ty"); (case hk => walk_at "kb"))
  | with_reducible refine iteT ?_
  | with_reducible refine iteF ?_
  | with_reducible refine w_nT ?_
  | with_reducible refine w_nF ?_
  | with_reducible refine w_eqS ?_
  )
local macro_rules | `(tactic| walk_at "s") => `(tactic| first
  | with_reducible refine w_for ?_
  | with_reducible refine w_rng1 ?_
  | ((with_reducible refine w_rng1' ?h1 ?h2 ?_); (case h1 => omega); (case h2 => omega))
  | with_reducible refine w_rng2 ?_
  | ((with_reducible refine w_rng2' ?h1 ?_); (case h1 => omega))
  | with_reducible refine w_itL ?_
  | ((with_reducible refine' w_itL' ?h1 ?_); (case h1 => walk_at "sq"))
  | with_reducible refine w_itT ?_
  )
local macro_rules | `(tactic| walk_at "s") => `(tactic| first
  | ((with_reducible refine w_sz ?h1 ?_); (case h1 => first | decide | (simp only [List.length_cons, List.length_nil]; decide)))
  | with_reducible refine w_min2 ?_
  | with_reducible refine w_max2 ?_
  | with_reducible refine w_tupRg ?_
  | with_reducible refine w_rg2 ?_
  | with_reducible refine w_rg2' ?_
  | with_reducible refine w_bits ?_
  | with_reducible refine w_bits' ?_
  )
local macro_rules | `(tactic| walk_at "s") => `(tactic| first
  | with_reducible refine w_cons ?_
  | with_reducible refine w_call ?_
  | with_reducible refine w_lst ?_
  | with_reducible refine w_tup ?_
  | with_reducible refine w_bm ?_
  | ((with_reducible refine' w_tyL ?h1 ?_); (case h1 => assumption))
  | ((with_reducible refine' w_lenL ?h1 ?_); (case h1 => walk_at "sq"))
  | ((with_reducible refine' w_lenT ?h1 ?_); (case h1 => walk_at "sq"))
  )
local macro_rules | `(tactic| walk_at "s") => `(tactic| first
  | with_reducible refine w_andV ?_
  | with_reducible refine w_orV ?_
  | with_reducible refine w_notV ?_
  | with_reducible refine w_ret ?_
  | with_reducible refine w_drop ?_
  | with_reducible refine w_next ?_
  | with_reducible refine w_cb ?_
  | with_reducible refine w_nil ?_
  )
local macro_rules | `(tactic| walk_at "s") => `(tactic| first
  | with_reducible refine w_sub ?_
  | with_reducible refine w_if ?_
  | with_reducible refine w_test ?_
  | with_reducible refine w_tb ?_
  | with_reducible refine w_bl ?_
  | with_reducible refine w_and ?_
  | with_reducible refine w_or ?_
  | with_reducible refine w_not ?_
  )
local macro_rules | `(tactic| walk_at "s") => `(tactic| first
  | with_reducible refine w_eqI ?_
  | with_reducible refine w_neI ?_
  | ((with_reducible refine' w_ixL ?h1 ?h2 ?_); (case h1 => walk_at "sq"); (case h2 => walk_at "at"))
  | ((with_reducible refine' w_ixT ?h1 ?h2 ?_); (case h1 => walk_at "sq"); (case h2 => walk_at "at"))
  | ((with_reducible refine' w_ixSL ?h1 ?h2 ?_); (case h1 => walk_at "sq"); (case h2 => walk_at "at"))
  | ((with_reducible refine' w_ixST ?h1 ?h2 ?_); (case h1 => walk_at "sq"); (case h2 => walk_at "at"))
  | with_reducible refine w_neB ?_
  | with_reducible refine w_eqN ?_
  )
local macro_rules | `(tactic| walk_at "s") => `(tactic| first
  | with_reducible refine w_c ?_
  | ((with_reducible refine w_name ?_); dsimp only [List.set_cons_zero, List.set_cons_succ])
  | with_reducible refine w_name ?_
  | with_reducible refine w_op ?_
  | with_reducible refine w_un ?_
  | with_reducible refine w_neg ?_
  | with_reducible refine w_i0 ?_
  | ((with_reducible refine w_i ?hc ?_); (case hc => walk_at "c"))
  )
local macro_rules | `(tactic| walk_at "s") => `(tactic| first
  | with_reducible refine w_seqA ?_
  | with_reducible refine w_seqD ?_
  | with_reducible refine w_seqF ?_
  | with_reducible refine w_seqW ?_
  | with_reducible refine w_seqG ?_
  | with_reducible refine w_seqP ?_
  | with_reducible refine w_asg ?_
  | ((with_reducible refine' w_var ?hv ?_); (case hv => exact rfl))
  )
local macro_rules | `(tactic| walk_at "p") => `(tactic| first | assumption | omega | (simp only [List.length_cons, List.length_nil, List.length_map]; omega) | exact rfl | decide)
local macro_rules | `(tactic| walk_at "d") => `(tactic| first
  | ((with_reducible refine w_yes ?hp ?_); (case hp => walk_at "p"))
  | ((with_reducible refine w_no ?hp ?_); (case hp => walk_at "p"))
  | ((with_reducible refine w_nyes ?hp ?_); (case hp => walk_at "p"))
  | ((with_reducible refine w_nno ?hp ?_); (case hp => walk_at "p")))
local macro_rules | `(tactic| walk_at "g") => `(tactic| repeat walk_at "s")
local macro_rules | `(tactic| walk_at "dg") => `(tactic| (walk_at "d"; repeat walk_at "s"))
local macro_rules | `(tactic| walk_at "x") => `(tactic| ((try dsimp only [cxOf, Cx.nox, Cx.wish]); repeat walk_at "s"))
local macro_rules | `(tactic| walk_at "s") => `(tactic| with_reducible refine w_revT ?_)
local macro_rules | `(tactic| walk_at "s") => `(tactic| first
  | with_reducible refine w_nget ?_
  | with_reducible refine w_nget1 ?_
  | with_reducible refine w_seqNP ?_
  | with_reducible refine w_nput ?_
  | with_reducible refine w_maxD ?_
  )
local macro_rules | `(tactic| walk_at "s") => `(tactic| first
  | with_reducible refine w_fld ?_
  | ((with_reducible refine' w_fld' ?h1 ?h2 ?h3 ?h4 ?_); (case h1 => assumption); (case h2 => assumption); (case h3 => assumption); (case h4 => exact rfl))
  | with_reducible refine w_seqFS ?_
  | with_reducible refine w_fldS ?_
  | with_reducible refine w_meth ?_
  | ((with_reducible refine' w_meth' ?h1 ?h2 ?_); (case h1 => assumption); (case h2 => exact rfl))
  | with_reducible refine w_make ?_
  | with_reducible refine w_nin ?_
  )
local macro_rules | `(tactic| walk_at "s") => `(tactic| first
  | with_reducible refine w_revL ?_
  )
def spDeck (K : PySem.W.Frag) : Sp := fun vs H Q _ => ∃ (a : Addr) (ns : List Int), vs = [.ref a] ∧ SqL K H a (ns.map V.int) ∧
  ∀ H' d c, Same H H' → H d = none → H c = none → Deck H' d c 0 → Q (.ref d) H'
def spMixed : Sp := fun vs H Q _ => ∃ (x t : Int), vs = [.int x, .int t] ∧ 0 ≤ t ∧ t ≤ 2 ^ 41 ∧ ∀ i, Q (.int i) H
def spDraw : Sp := fun vs H Q _ => ∃ (d c : Addr) (n : Nat) (m : Int), vs = [.ref d, .int m] ∧ Deck H d c n ∧ n < MOSTD ∧ 0 < m ∧ m < 2 ^ 64 ∧
  ∀ (i : Nat) H', (i : Int) < m → Deck H' d c (n + 1) → Off d H H' → Q (.int i) H'
theorem w_deck {K : PySem.W.Frag} {H : Hp} {Q : VK} {E : XK} {a : Addr} {ns : List Int} (h1 : SqL K H a (ns.map V.int)) (h : ∀ H' d c, Same H H' → H d = none → H c = none → Deck H' d c 0 → Q (.ref d) H') : spDeck K ([V.ref a] ++ []) H Q E := ⟨a, ns, rfl, h1, h⟩
theorem w_draw {H : Hp} {Q : VK} {E : XK} {d c : Addr} {n : Nat} {m : Int} (D : Deck H d c n) (hn : n < MOSTD) (h0 : 0 < m) (h1 : m < 2 ^ 64) (h : ∀ (i : Nat) H', (i : Int) < m → Deck H' d c (n + 1) → Off d H H' → Q (.int i) H') : spDraw ([V.ref d, V.int m] ++ []) H Q E := ⟨d, c, n, m, rfl, D, hn, h0, h1, h⟩
section
variable {P : Program} {w : World} {K : PySem.W.Frag} {mg : Str → Option Value} {base : Heap}
theorem ok_deck {f : Addr} {fd : FuncData} (T : Txt K mg) (F : Fun K "_law_deck" "_law_deck" s_law_deck f fd) : FnOk P w K mg base CX0 1 f fd ["_law_script"] (spDeck K) := by
  refine F.ok sc_law_deck (fun vs H Q E h => ?_) (fun cdv A outer s H vs Q E hr h => ?_)
  · obtain ⟨a, ns, rfl, _⟩ := h
    rfl
  · obtain ⟨a, ns, rfl, hS, q⟩ := h
    refine ⟨_,
      (pss_one
        (ps_ret (pe_lst (pa_cons (pe_callTy (r := rListOf K) c_listOf (by rfl) T.n_list (by decide +kernel) (pa_cons (pv 0) pa_nil)) (pa_cons pe_int (pa_cons pe_int (pa_cons pe_int pa_nil)))))))
      , ?_⟩
    walk_at "x"
    refine w_listL hS fun c H1 hc e1 k1 => ?_
    walk_at "g"
    refine w_new fun d H2 hd e2 k2 => ?_
    refine q _ d c (Same.trans k1 k2) (k1.free hd) hc ⟨⟨ns, 0, 0, 0, e2, k2 _ _ e1, Nat.le_refl _⟩, ne_of_none e1 hd⟩
theorem ok_mixed {f : Addr} {fd : FuncData} (T : Txt K mg) (F : Fun K "_law_mixed" "_law_mixed" s_law_mixed f fd) : FnOk P w K mg base CX0 1 f fd ["_law_cell", "_law_turn"] spMixed := by
  refine F.ok sc_law_mixed (fun vs H Q E h => ?_) (fun cdv A outer s H vs Q E hr h => ?_)
  · obtain ⟨x, t, rfl, _⟩ := h
    rfl
  · obtain ⟨x, t, rfl, h0, h1, q⟩ := h
    refine ⟨_,
      (pss_one
        (ps_ret (pe_op op_mod (pe_op op_pow (pe_op op_add (pe_op op_add (pe_op op_mod (pv 0) pe_int) (pe_op op_mul (pv 1) pe_int)) pe_int) pe_int) pe_int)))
      , ?_⟩
    have e := Int.emod_lt_of_pos x (show (0 : Int) < 2147483629 by decide)
    have e2 := Int.emod_nonneg x (show (2147483629 : Int) ≠ 0 by decide)
    walk_at "x"
    exact q _
theorem ok_draw {f fM : Addr} {fd fdM : FuncData} (T : Txt K mg) (F : Fun K "_law_draw" "_law_draw" s_law_draw f fd) (D_law_mixed : Df K mg "_law_mixed" s_law_mixed ["_law_cell", "_law_turn"] fM fdM) : FnOk P w K mg base CX0 2 f fd ["_law_deck_here", "_law_many"] spDraw := by
  have G_law_mixed : FnOk P w K mg base CX0 1 fM fdM ["_law_cell", "_law_turn"] spMixed := ok_mixed T D_law_mixed.fn
  refine F.ok sc_law_draw (fun vs H Q E h => ?_) (fun cdv A outer s H vs Q E hr h => ?_)
  · obtain ⟨d, c, n, m, rfl, _⟩ := h
    rfl
  · obtain ⟨d, c, n, m, rfl, ⟨⟨cs, a, b, t, e1, e2, e3⟩, ne⟩, hn, hm, hm2, q⟩ := h
    have hn' : t < 1099511627776 := Nat.lt_of_le_of_lt e3 hn
    refine ⟨_,
      (pss_cons
        (ps_set (i := 2) sc_law_draw.nd rfl (.inl rfl) (pe_ix (r := rIxL K) ix_list (pv 0) pe_int (fun _ _ => rfl)))
      (pss_cons
        (ps_asg (pe_op op_add (pe_ix (r := rIxL K) ix_list (pv 0) pe_int (fun _ _ => rfl)) pe_int) (pg_sub (pv 0) pe_int set_list))
      (pss_cons
        (ps_if (PW.pt (pw_and (pt_cmpR op_eq (pe_ix (r := rIxL K) ix_list (pv 0) pe_int (fun _ _ => rfl)) pe_int (nomark _)) (pw_and1 (pt_cmpR op_lt (pe_ix (r := rIxL K) ix_list (pv 0) pe_int (fun _ _ => rfl)) (pe_callB (r := rLen K) c_len (by rfl) T.n_len (by decide +kernel) (pa_cons (pv 2) pa_nil)) (nomark _)))))
          (pss_cons
            (ps_asg (pe_op op_add (pe_ix (r := rIxL K) ix_list (pv 0) pe_int (fun _ _ => rfl)) pe_int) (pg_sub (pv 0) pe_int set_list))
          (pss_cons
            (ps_if (pt_cmpR op_lt (pe_ix (r := rIxL K) ix_list (pv 2) (pe_op op_sub (pe_ix (r := rIxL K) ix_list (pv 0) pe_int (fun _ _ => rfl)) pe_int) (fun _ _ => rfl)) (pe_op op_pow pe_int pe_int) (nomark _))
              (pss_one
                (ps_ret (pe_op op_mod (pe_call G_law_mixed (hr.mono (by omega)) (by rfl) D_law_mixed.g D_law_mixed.fn.kp D_law_mixed.b .nil pass0 (pa_cons (pe_ix (r := rIxL K) ix_list (pv 2) (pe_op op_sub (pe_ix (r := rIxL K) ix_list (pv 0) pe_int (fun _ _ => rfl)) pe_int) (fun _ _ => rfl)) (pa_cons (pe_ix (r := rIxL K) ix_list (pv 0) pe_int (fun _ _ => rfl)) pa_nil))) (pv 1))))
              pss_nil)
          (pss_one
            (ps_asg (pe_ix (r := rIxL K) ix_list (pv 2) (pe_op op_sub (pe_ix (r := rIxL K) ix_list (pv 0) pe_int (fun _ _ => rfl)) pe_int) (fun _ _ => rfl)) (pg_sub (pv 0) pe_int set_list)))))
          pss_nil)
      (pss_cons
        (ps_if (pt_cmpR op_gt (pe_ix (r := rIxL K) ix_list (pv 0) pe_int (fun _ _ => rfl)) pe_int (nomark _))
          (pss_cons
            (ps_set (i := 3) sc_law_draw.nd rfl (.inl rfl) (pe_op op_mod (pe_ix (r := rIxL K) ix_list (pv 0) pe_int (fun _ _ => rfl)) (pv 1)))
          (pss_cons
            (ps_asg (pe_op op_fdivW (pe_ix (r := rIxL K) ix_list (pv 0) pe_int (fun _ _ => rfl)) (pv 1)) (pg_sub (pv 0) pe_int set_list))
          (pss_one
            (ps_ret (pv 3)))))
          pss_nil)
      (pss_cons
        (ps_set (i := 4) sc_law_draw.nd rfl (.inl rfl) (pe_op op_mul (pe_ix (r := rIxL K) ix_list (pv 0) pe_int (fun _ _ => rfl)) pe_int))
      (pss_cons
        (ps_if (pt_cmpR op_gt (pe_callB (r := rLen K) c_len (by rfl) T.n_len (by decide +kernel) (pa_cons (pv 2) pa_nil)) pe_int (nomark _))
          (pss_one
            (ps_set (i := 4) sc_law_draw.nd rfl (.inl rfl) (pe_op op_add (pv 4) (pe_op op_mod (pe_ix (r := rIxL K) ix_list (pv 2) (pe_op op_mod (pe_op op_mul (pe_ix (r := rIxL K) ix_list (pv 0) pe_int (fun _ _ => rfl)) pe_int) (pe_callB (r := rLen K) c_len (by rfl) T.n_len (by decide +kernel) (pa_cons (pv 2) pa_nil))) (fun _ _ => rfl)) pe_int))))
          pss_nil)
      (pss_one
        (ps_ret (pe_op op_mod (pe_call G_law_mixed (hr.mono (by omega)) (by rfl) D_law_mixed.g D_law_mixed.fn.kp D_law_mixed.b .nil pass0 (pa_cons (pv 4) (pa_cons (pe_ix (r := rIxL K) ix_list (pv 0) pe_int (fun _ _ => rfl)) pa_nil))) (pv 1))))))))))
      , ?_⟩
    rw [show L2.start N_law_draw [V.ref d, V.int m] = [some (.ref d), some (.int m), none, none, none] from rfl]
    -- cells = deck[0]; deck[3] = deck[3] + 1
    walk_at "x"
    refine w_setL e1 rfl rfl fun H1 g0 o0 => ?_
    have fin : ∀ (H' : Hp) (a' : Nat) (b' i : Int), 0 ≤ i → i < m → H' d = some (.lst [.ref c, .int a', .int b', .int (t + 1)]) → Off d H H' → Q (.int i) H' := fun H' a' b' i i0 i1 g1 g2 => by
      have z := q i.toNat H' (by omega) ⟨⟨cs, a', b', t + 1, g1, (g2 c ne).trans e2, by omega⟩, ne⟩ g2
      rw [Int.toNat_of_nonneg i0] at z
      exact z
    have md : ∀ x : Int, 0 ≤ x % m ∧ x % m < m := fun x => ⟨Int.emod_nonneg x (by omega), Int.emod_lt_of_pos x hm⟩
    have g0 : H1 d = some (.lst [.ref c, .int a, .int b, .int ((t : Int) + 1)]) := g0
    have c1 : H1 c = some (.lst (cs.map V.int)) := (o0 c ne).trans e2
    -- if deck[2] == 0 and deck[1] < len(cells): ..
    refine w_seqJ (fun σ' H2 => σ' = [some (.ref d), some (.int m), some (.ref c), none, none] ∧ ∃ (a' : Nat) (b' : Int), H2 d = some (.lst [.ref c, .int a', .int b', .int ((t : Int) + 1)]) ∧ Off d H H2) ?_ ?_
    · rintro σ' H2 ⟨rfl, a', b', g2, o2⟩
      have c2 : H2 c = some (.lst (cs.map V.int)) := (o2 c ne).trans e2
      refine w_seqJ (fun σ' H3 => σ' = [some (.ref d), some (.int m), some (.ref c), none, none] ∧ H3 = H2) ?_ ?_
      · rintro σ' H3 ⟨rfl, rfl⟩
        -- number = deck[3] * 48271; if len(cells) > 0: ..
        walk_at "g"
        refine w_seqJ (fun σ' H4 => (∃ z : Int, σ' = [some (.ref d), some (.int m), some (.ref c), none, some (.int z)]) ∧ H4 = H3) ?_ ?_
        · rintro σ' H4 ⟨⟨z, rfl⟩, rfl⟩
          walk_at "g"
          refine ⟨_, _, rfl, by omega, by omega, fun y => ?_⟩
          walk_at "g"
          exact fin _ a' b' _ (md y).1 (md y).2 g2 o2
        · intro U hU
          walk_at "g"
          refine w_ite (fun hl => ?_) (fun hl => ?_)
          · obtain ⟨v, hv1, hv2⟩ := at_lt (xs := cs.map V.int) (i := ((t : Int) + 1) * 7 % ((cs.map V.int).length : Int)) (Int.emod_nonneg _ (by omega)) (Int.emod_lt_of_pos _ hl)
            rw [List.getElem?_map] at hv1
            obtain ⟨y, _, rfl⟩ := Option.map_eq_some_iff.mp hv1
            walk_at "g"
            exact hU _ _ ⟨⟨_, rfl⟩, rfl⟩
          · exact hU _ _ ⟨⟨_, rfl⟩, rfl⟩
      · intro U hU
        walk_at "g"
        refine w_ite (fun hl => ?_) (fun hl => ?_)
        · walk_at "g"
          refine w_setL g2 rfl rfl fun H9 g9 o9 => ?_
          walk_at "g"
          exact fin _ a' (b' / m) _ (md b').1 (md b').2 g9 (o2.trans o9)
        · exact hU _ _ ⟨rfl, rfl⟩
    · intro U hU
      have no : U [some (.ref d), some (.int m), some (.ref c), none, none] H1 := hU _ _ ⟨rfl, a, b, g0, o0⟩
      walk_at "g"
      refine w_ite (fun hl => ?_) (fun _ => no)
      walk_at "g"
      refine w_ite (fun hl2 => ?_) (fun _ => no)
      obtain ⟨v, hv1, hv2⟩ := at_lt (xs := cs.map V.int) (i := ((a + 1 : Nat) : Int) - 1) (by omega) (by omega)
      rw [List.getElem?_map] at hv1
      obtain ⟨y, _, rfl⟩ := Option.map_eq_some_iff.mp hv1
      walk_at "g"
      refine w_setL g0 rfl rfl fun H2 g2 o2 => ?_
      have g2 : H2 d = some (.lst [.ref c, .int ((a + 1 : Nat) : Int), .int b, .int ((t : Int) + 1)]) := g2
      have o2 : Off d H H2 := o0.trans o2
      have c2 : H2 c = some (.lst (cs.map V.int)) := (o2 c ne).trans e2
      refine w_seq ?_
      walk_at "g"
      refine w_ite (fun hl => ?_) (fun hl => ?_)
      · walk_at "g"
        refine ⟨_, _, rfl, by omega, by omega, fun y => ?_⟩
        walk_at "g"
        exact fin _ (a + 1) b _ (md y).1 (md y).2 g2 o2
      · walk_at "g"
        refine w_setL g2 rfl rfl fun H9 g9 o9 => ?_
        exact hU _ _ ⟨rfl, a + 1, y, g9, o2.trans o9⟩
end
/-! ### pieces and scripts -/
theorem map_at {α : Type} {f : α → V} {xs : List α} {i : Nat} {v : V} (h : (xs.map f)[i]? = some v) : ∃ x, xs[i]? = some x ∧ v = f x := by
  rw [List.getElem?_map] at h
  obtain ⟨y, h1, h2⟩ := Option.map_eq_some_iff.mp h
  exact ⟨y, h1, h2.symm⟩
theorem le_sum : ∀ {l : List Nat} {x : Nat}, x ∈ l → x ≤ l.sum
  | [], x, h => by cases h
  | y :: l, x, h => by
    rw [List.sum_cons]
    rcases List.mem_cons.mp h with rfl | h
    · omega
    · have := le_sum h
      omega
abbrev SG : Str := Str.ofString " !\"#$&'()*+,-./0123456789:;<=>?@ABCDEFGHIJKLMNOPQRSTUVWXYZ[\\]^_`abcdefghijklmnopqrstuvwxyz{|}~"
def LineOk (z : Str) : Prop := z.length ≤ 40 ∧ ∀ c ∈ z.cps.toList, c ∈ SG.cps.toList
inductive Pc where
  | take (b m : Nat)
  | put (ls : List Str)
def Pc.size : Pc → Nat
  | .take _ m => m
  | .put ls => ls.length
def Pc.make (base : List Str) : Pc → List Str
  | .take b m => (base.drop b).take m
  | .put ls => ls
def Pc.fits (n : Nat) : Pc → Prop
  | .take b m => b + m ≤ n
  | .put _ => True
def Pc.ok : Pc → Prop
  | .take _ m => 1 ≤ m
  | .put ls => ls ≠ [] ∧ ∀ z ∈ ls, LineOk z
def Pc.cost (t p : Int) : Pc → Int
  | .take _ _ => t
  | .put ls => p * (ls.length : Int)
theorem Pc.ok.pos {p : Pc} (h : p.ok) : 1 ≤ p.size := by
  cases p with
  | take b m => exact h
  | put ls =>
    have := List.length_pos_iff.mpr h.1
    exact this
def sizes (ps : List Pc) : Nat := (ps.map Pc.size).sum
def makes (base : List Str) (ps : List Pc) : List Str := (ps.map (Pc.make base)).flatten
def costs (t p : Int) (ps : List Pc) : Int := (ps.map (Pc.cost t p)).sum
theorem sizes_ge : ∀ {ps : List Pc}, (∀ p ∈ ps, p.ok) → ps.length ≤ sizes ps
  | [], _ => by simp [sizes]
  | p :: ps, h => by
    have h1 := (h p (by simp)).pos
    have h2 := sizes_ge (ps := ps) fun q hq => h q (by simp [hq])
    unfold sizes at *
    simp only [List.map_cons, List.sum_cons, List.length_cons]
    omega
def RwAt (H : Hp) (a : Addr) (ls : List Str) : Prop := H a = some (.tup (ls.map V.str))
def PcAt (H : Hp) (a : Addr) : Pc → Prop
  | .take b m => H a = some (.tup [.str "take", .int (b : Int), .int (m : Int)])
  | .put ls => ∃ r, H a = some (.tup [.str "put", .ref r]) ∧ RwAt H r ls
theorem PcAt.kt {H H' : Hp} {a : Addr} {p : Pc} (h : PcAt H a p) (k : KT H H') : PcAt H' a p := by
  cases p with
  | take b m => exact k _ _ h
  | put ls =>
    obtain ⟨r, h1, h2⟩ := h
    exact ⟨r, k _ _ h1, k _ _ h2⟩
structure ScAt (H : Hp) (s : Addr) (ps : List (Addr × Pc)) : Prop where
  at' : H s = some (.tup (ps.map fun q => .ref q.1))
  pc : ∀ q ∈ ps, PcAt H q.1 q.2
theorem ScAt.kt {H H' : Hp} {s : Addr} {ps : List (Addr × Pc)} (h : ScAt H s ps) (k : KT H H') : ScAt H' s ps := ⟨k _ _ h.at', fun q hq => (h.pc q hq).kt k⟩
structure ScOk (ps : List Pc) : Prop where
  ok : ∀ p ∈ ps, p.ok
  few : sizes ps ≤ 40
/-- data whose texts are not too long -/
inductive DatT (B : Nat) (H : Hp) : V → Prop where
  | leaf {x : V} {a : String} (t : Ty H x a) (h : a ≠ "tuple") (z : ∀ z, x = .str z → z.length ≤ B) : DatT B H x
  | tup {p : Addr} {xs : List V} (e : H p = some (.tup xs)) (l : xs.length ≤ B) (h : ∀ y ∈ xs, DatT B H y) : DatT B H (.ref p)
theorem DatT.ty {B : Nat} {H : Hp} {x : V} (h : DatT B H x) : ∃ a, Ty H x a := by
  cases h with
  | leaf t _ _ => exact ⟨_, t⟩
  | tup e _ _ => exact ⟨_, .tup e⟩
theorem DatT.len {B : Nat} {H : Hp} {z : Str} (h : DatT B H (.str z)) : z.length ≤ B := by
  cases h with
  | leaf _ _ hz => exact hz z rfl
theorem DatT.kd {B : Nat} {H H' : Hp} {x : V} (h : DatT B H x) (k : KD H H') : DatT B H' x := by
  induction h with
  | leaf t h z => exact .leaf (t.kd k) h z
  | tup e l _ ih => exact .tup (k.t _ _ e) l fun y hy => ih y hy
theorem DatT.cases {B : Nat} {H : Hp} {x : V} (h : DatT B H x) : (∃ a, Ty H x a ∧ a ≠ "tuple") ∨ ∃ (p : Addr) (xs : List V), x = .ref p ∧ H p = some (.tup xs) ∧ xs.length ≤ B ∧ ∀ y ∈ xs, DatT B H y := by
  cases h with
  | leaf t h _ => exact .inl ⟨_, t, h⟩
  | tup e l h => exact .inr ⟨_, _, rfl, e, l, h⟩
theorem DatT.back {B : Nat} {H H1 : Hp} {a : Addr} {xs : List V} (d : DatT B H (.ref a)) (k : Same H H1) (e : H1 a = some (.tup xs)) : H a = some (.tup xs) := by
  rcases d.cases with ⟨s, t, hne⟩ | ⟨p, ys, e1, e2, _⟩
  · cases t with
    | lst h => have z := k _ _ h; rw [e] at z; cases z
    | tup h => exact absurd rfl hne
    | dK h => have z := k _ _ h; rw [e] at z; cases z
  · cases e1
    have z := k _ _ e2
    rw [e] at z
    cases z
    exact e2
theorem DatT.elem {B : Nat} {H : Hp} {a : Addr} {xs : List V} (d : DatT B H (.ref a)) (e : H a = some (.tup xs)) : xs.length ≤ B ∧ ∀ y ∈ xs, DatT B H y := by
  rcases d.cases with ⟨s, t, hne⟩ | ⟨p, ys, e1, e2, h⟩
  · exact absurd (t.ofTup e) hne
  · cases e1
    rw [e] at e2
    cases e2
    exact h
theorem DatT.strs {B : Nat} {H : Hp} {a : Addr} {ls : List Str} (h : RwAt H a ls) (hl : ls.length ≤ B) (hz : ∀ z ∈ ls, z.length ≤ B) : DatT B H (.ref a) := .tup h (by rw [List.length_map]; exact hl) fun y hy => by
  obtain ⟨z, hz', rfl⟩ := List.mem_map.mp hy
  exact .leaf (.str z) (by decide) fun z' e => by cases e; exact hz z hz'
theorem PcAt.dat {B : Nat} {H : Hp} {a : Addr} {p : Pc} (h : PcAt H a p) (hB : 4 ≤ B) (hs : p.size ≤ B) (hz : ∀ ls, p = .put ls → ∀ z ∈ ls, z.length ≤ B) : DatT B H (.ref a) := by
  cases p with
  | take b m =>
    refine .tup h (by simp only [List.length_cons, List.length_nil]; omega) fun y hy => ?_
    have hy' : y = .str "take" ∨ y = .int (b : Int) ∨ y = .int (m : Int) := by simpa using hy
    rcases hy' with rfl | rfl | rfl
    · exact .leaf (.str _) (by decide) fun z e => by cases e; exact Nat.le_trans (show (Str.ofString "take").length ≤ 4 by decide) hB
    · exact .leaf (.int _) (by decide) fun z e => by cases e
    · exact .leaf (.int _) (by decide) fun z e => by cases e
  | put ls =>
    obtain ⟨r, h1, h2⟩ := h
    refine .tup h1 (by simp only [List.length_cons, List.length_nil]; omega) fun y hy => ?_
    have hy' : y = .str "put" ∨ y = .ref r := by simpa using hy
    rcases hy' with rfl | rfl
    · exact .leaf (.str _) (by decide) fun z e => by cases e; exact Nat.le_trans (show (Str.ofString "put").length ≤ 4 by decide) hB
    · exact DatT.strs h2 hs (hz ls rfl)
theorem ScAt.dat {B : Nat} {H : Hp} {s : Addr} {ps : List (Addr × Pc)} (h : ScAt H s ps) (k : ScOk (ps.map (·.2))) (hB : 40 ≤ B) : DatT B H (.ref s) := by
  have hl := sizes_ge k.ok
  have hf := k.few
  rw [List.length_map] at hl
  refine .tup h.at' (by rw [List.length_map]; omega) fun y hy => ?_
  obtain ⟨q, hq, rfl⟩ := List.mem_map.mp hy
  have hqm : q.2 ∈ ps.map (·.2) := List.mem_map_of_mem hq
  have hsz : q.2.size ≤ sizes (ps.map (·.2)) := by
    unfold sizes
    exact le_sum (List.mem_map_of_mem hqm)
  refine (h.pc q hq).dat (by omega) (by omega) fun ls e z hz => ?_
  have := k.ok _ hqm
  rw [e] at this
  have := (this.2 z hz).1
  omega
/-- a piece, as a thing of any kind -/
def PcV (H : Hp) (x : V) (p : Pc) : Prop := ∃ a, x = .ref a ∧ PcAt H a p ∧ p.ok
def ScV (H : Hp) (x : V) (ps : List (Addr × Pc)) : Prop := ∃ s, x = .ref s ∧ ScAt H s ps ∧ ScOk (ps.map (·.2))
def spIsInt : Sp := fun vs H Q _ => ∃ (x : V) (a : String), vs = [x, .int 0] ∧ Ty H x a ∧ (∀ n : Nat, x = .int (n : Int) → Q (.bl true) H) ∧ ((∀ n : Nat, x ≠ .int (n : Int)) → Q (.bl false) H)
def spIsText : Sp := fun vs H Q _ => ∃ (x : V) (B : Nat), vs = [x, .int 40] ∧ DatT B H x ∧ B ≤ 1000000 ∧ (∀ z, x = .str z → LineOk z → ∀ H', Same H H' → Q (.bl true) H') ∧ ((∀ z, x = .str z → ¬ LineOk z) → ∀ H', Same H H' → Q (.bl false) H')
def spMadeBy : Sp := fun vs H Q _ => ∃ (x : V) (B : Nat), vs = [x] ∧ DatT B H x ∧ B ≤ 1000000 ∧ (∀ p, PcV H x p → ∀ H', Same H H' → Q (.int (p.size : Int)) H') ∧ ((∀ p, ¬ PcV H x p) → ∀ H', Same H H' → Q (.int 0) H')
def spIsScript : Sp := fun vs H Q _ => ∃ (x : V) (B : Nat), vs = [x] ∧ DatT B H x ∧ B ≤ 1000000 ∧ (∀ ps, ScV H x ps → ∀ H', Same H H' → Q (.bl true) H') ∧ ((∀ ps, ¬ ScV H x ps) → ∀ H', Same H H' → Q (.bl false) H')
theorem ln_size {B : Nat} (h : B ≤ 1000000) {n : Nat} (h2 : n ≤ B) : n ≤ sizeLine := Nat.le_trans (Nat.le_trans h2 h) (by decide)
theorem Ty.kStr {H : Hp} {x : V} {a : String} (t : Ty H x a) : kitB a "str" = some (decide (a = "str")) := by
  cases t with
  | non => exact kb_NoneType_str
  | bl b => exact kb_bool_str
  | int i => exact kb_int_str
  | str z => exact kb_str_str
  | lst e => exact kb_list_str
  | tup e => exact kb_tuple_str
  | dK e => exact kb_dict_str
theorem w_isStr {K : PySem.W.Frag} {H : Hp} {Q : VK} {x : V} {a : String} (t : Ty H x a) (h : Q (.bl (decide (a = "str"))) H) : rIsi K [x, .ty "str"] H Q := w_isi t.tx t.kStr h
theorem Ty.isStr {H : Hp} {x : V} {a : String} (t : Ty H x a) (e : a = "str") : ∃ z, x = .str z := by
  cases t with
  | str z => exact ⟨z, rfl⟩
  | non => exact absurd e (by decide)
  | bl _ => exact absurd e (by decide)
  | tup _ => exact absurd e (by decide)
  | int _ => exact absurd e (by decide)
  | lst _ => exact absurd e (by decide)
  | dK _ => exact absurd e (by decide)
theorem Ty.ofStr {H : Hp} {z : Str} {a : String} (t : Ty H (.str z) a) : a = "str" := by
  cases t with
  | str i => rfl
section
variable {P : Program} {w : World} {K : PySem.W.Frag} {mg : Str → Option Value} {base : Heap}
theorem ok_isint {f : Addr} {fd : FuncData} (T : Txt K mg) (D : DfD K mg "is_int" s_is_int ["thing", "least"] [.int 0] f fd) : FnOk P w K mg base CX0 1 f fd ["thing", "least"] spIsInt := by
  refine okD D.fn sc_is_int (fun vs H Q E h => ?_) (fun cdv A outer s H vs Q E hr h => ?_)
  · obtain ⟨x, a, rfl, _⟩ := h
    rfl
  · obtain ⟨x, a, rfl, t, q1, q2⟩ := h
    refine ⟨_,
      (pss_one
        (ps_ret (pe_and (pe_callB (r := rIsi K) call_isi (by rfl) T.n_isinstance (by decide +kernel) (pa_cons (pv 0) (pa_cons (pe_bltn (v := .ty "int") (u := .type "int") (by rfl) T.n_int (by decide +kernel) rfl) pa_nil))) (pe_and (pe_not (pe_callB (r := rIsi K) call_isi (by rfl) T.n_isinstance (by decide +kernel) (pa_cons (pv 0) (pa_cons (pe_bltn (v := .ty "bool") (u := .type "bool") (by rfl) T.n_bool (by decide +kernel) rfl) pa_nil)))) (pe_one (pe_cmpR op_ge (pv 0) (pv 1) (nomark _)))))))
      , ?_⟩
    rw [show L2.start N_is_int [x, V.int 0] = [some x, some (.int 0)] from rfl]
    walk_at "x"
    refine w_isInt t ?_
    walk_at "g"
    refine w_itB (fun hb => ?_) (fun hb => ?_)
    · walk_at "g"
      refine w_isBool t ?_
      walk_at "g"
      refine w_itN (fun hn => ?_) (fun hn => ?_)
      · rw [decide_eq_false hn, Bool.or_false, decide_eq_true_iff] at hb
        obtain ⟨i, rfl⟩ := t.isInt hb
        walk_at "g"
        by_cases h : i ≥ 0
        · rw [decide_eq_true h]
          exact q1 i.toNat (by rw [Int.toNat_of_nonneg h])
        · rw [decide_eq_false h]
          exact q2 fun n e => by cases e; exact h (by omega)
      · exact q2 fun n e => by
          subst e
          rw [t.ofInt] at hn
          exact absurd hn (by decide)
    · exact q2 fun n e => by
        subst e
        rw [t.ofInt] at hb
        exact absurd hb (by decide)
theorem ok_istext {f : Addr} {fd : FuncData} (T : Txt K mg) (D : DfD K mg "is_text" s_is_text ["thing", "most"] [.int 40] f fd) : FnOk P w K mg base CX0 1 f fd ["thing", "most"] spIsText := by
  obtain ⟨tk_SIGNS, g_SIGNS⟩ := T.g_SIGNS
  refine okD D.fn sc_is_text (fun vs H Q E h => ?_) (fun cdv A outer s H vs Q E hr h => ?_)
  · obtain ⟨x, B, rfl, _⟩ := h
    rfl
  · obtain ⟨x, B, rfl, hd, hB, q1, q2⟩ := h
    obtain ⟨a, t⟩ := hd.ty
    refine ⟨_,
      (pss_one
        (ps_ret (pe_and (pe_callB (r := rIsi K) call_isi (by rfl) T.n_isinstance (by decide +kernel) (pa_cons (pv 0) (pa_cons (pe_bltn (v := .ty "str") (u := .type "str") (by rfl) T.n_str (by decide +kernel) rfl) pa_nil))) (pe_and (pe_cmpR op_le (pe_callB c_lenS (by rfl) T.n_len (by decide +kernel) (pa_cons (pv 0) pa_nil)) (pv 1) (nomark _)) (pe_one (pe_callB (r := rAll K) (cr_all rfl) (by rfl) T.n_all (by decide +kernel) (pa_cons (pe_lc (own := [("sign", 2)]) (g := (gName 2)) rfl sc_is_text.nd (pi_str (pv 0)) (blkOk_by (own := [("sign", 2)]) (N := N_is_text) (sc := defScope s_is_text) (by decide +kernel)) (fun _ _ _ _ _ => (pg_name (i := 2) sc_is_text.nd rfl (.inl rfl))) (fun _ _ _ _ _ => pts_nil) (fun _ _ _ _ _ => (pe_cmpR o_inS (pv 2) (pe_glob (v := .str " !\"#$&'()*+,-./0123456789:;<=>?@ABCDEFGHIJKLMNOPQRSTUVWXYZ[\\]^_`abcdefghijklmnopqrstuvwxyz{|}~") rfl g_SIGNS ⟨_, rfl⟩) rfl))) pa_nil)))))))
      , ?_⟩
    rw [show L2.start N_is_text [x, V.int 40] = [some x, some (.int 40), none] from rfl]
    walk_at "x"
    refine w_isStr t ?_
    walk_at "g"
    refine w_ite (fun hs => ?_) (fun hs => ?_)
    rotate_left
    · exact q2 (fun z e => by subst e; exact absurd t.ofStr hs) H (fun _ _ z => z)
    obtain ⟨z, rfl⟩ := t.isStr hs
    have hzl := hd.len
    walk_at "g"
    refine w_lenS (ln_size hB hzl) ?_
    walk_at "g"
    refine w_ite (fun h40 => ?_) (fun h40 => ?_)
    rotate_left
    · exact q2 (fun z' e hl => by cases e; exact h40 (by have := hl.1; omega)) H (fun _ _ z => z)
    walk_at "g"
    refine lcp_map (walk_str z) [] ((z.cps.toList.map fun c => decide (c ∈ SG.cps.toList)).map V.bl) (by simp) (by show z.length ≤ 1000000; omega) (fun _ _ => trivial) ?_ (by simp) ?_
    · rintro i x H1 H2 R hi k1 ⟨rfl, c, hc, rfl⟩ hR
      refine w_name ⟨rfl, ?_⟩
      walk_at "g"
      refine hR _ _ ?_ Kp.refl
      rw [List.getElem?_map, List.getElem?_map, Array.getElem?_toList, hc]
      rfl
    · intro L H1 hL k1 eL
      walk_at "g"
      have hk := k1.same
      by_cases h : ∀ c ∈ z.cps.toList, c ∈ SG.cps.toList
      · have e : (z.cps.toList.map fun c => decide (c ∈ SG.cps.toList)).all id = true := by
          rw [List.all_eq_true]
          intro b hb
          obtain ⟨c, hc, rfl⟩ := List.mem_map.mp hb
          exact decide_eq_true (h c hc)
        rw [e]
        exact q1 z rfl ⟨by omega, h⟩ _ hk
      · have e : (z.cps.toList.map fun c => decide (c ∈ SG.cps.toList)).all id = false := by
          rw [Bool.eq_false_iff]
          intro hall
          rw [List.all_eq_true] at hall
          exact h fun c hc => of_decide_eq_true (hall _ (List.mem_map_of_mem (f := fun c => decide (c ∈ SG.cps.toList)) hc))
        rw [e]
        exact q2 (fun z' e' hl => by cases e'; exact h hl.2) _ hk
end
/-! ### contents and books -/
inductive Ct where
  | leaf (rows : List Str)
  | tree (es : List (Str × Nat))
  | ver (ps : List Nat) (root stamp : Nat)
abbrev nV (n : Nat) : V := .int (n : Int)
def CtAt (H : Hp) (a : Addr) : Ct → Prop
  | .leaf rows => ∃ r, H a = some (.tup [.str "leaf", .ref r]) ∧ RwAt H r rows
  | .tree es => ∃ (r : Addr) (qs : List (Addr × Str × Nat)), H a = some (.tup [.str "tree", .ref r]) ∧ H r = some (.tup (qs.map fun q => .ref q.1)) ∧ qs.map (·.2) = es ∧ ∀ q ∈ qs, H q.1 = some (.tup [.str q.2.1, nV q.2.2])
  | .ver ps root stamp => ∃ r, H a = some (.tup [.str "version", .ref r, nV root, nV stamp]) ∧ H r = some (.tup (ps.map nV))
theorem CtAt.kt {H H' : Hp} {a : Addr} {c : Ct} (h : CtAt H a c) (k : KT H H') : CtAt H' a c := by
  cases c with
  | leaf rows =>
    obtain ⟨r, h1, h2⟩ := h
    exact ⟨r, k _ _ h1, k _ _ h2⟩
  | tree es =>
    obtain ⟨r, qs, h1, h2, h3, h4⟩ := h
    exact ⟨r, qs, k _ _ h1, k _ _ h2, h3, fun q hq => k _ _ (h4 q hq)⟩
  | ver ps root stamp =>
    obtain ⟨r, h1, h2⟩ := h
    exact ⟨r, k _ _ h1, k _ _ h2⟩
def Ct.word : Ct → Str
  | .leaf _ => "leaf"
  | .tree _ => "tree"
  | .ver _ _ _ => "version"
def Ct.key : Ct → NestedKey
  | .leaf rows => .tup [.text "leaf", .tup (rows.map .text)]
  | .tree es => .tup [.text "tree", .tup (es.map fun e => .tup [.text e.1, .num (e.2 : Int)])]
  | .ver ps root stamp => .tup [.text "version", .tup (ps.map fun n : Nat => .num (n : Int)), .num (root : Int), .num (stamp : Int)]
theorem nall_strs {H : Hp} : ∀ rows : List Str, NAll H (rows.map .text) (rows.map V.str)
  | [] => .nil
  | z :: r => .cons (.str z) (nall_strs r)
theorem nall_nats {H : Hp} : ∀ ns : List Nat, NAll H (ns.map fun n : Nat => .num (n : Int)) (ns.map nV)
  | [] => .nil
  | z :: r => .cons (.int _) (nall_nats r)
theorem nall_ents {H : Hp} : ∀ qs : List (Addr × Str × Nat), (∀ q ∈ qs, H q.1 = some (.tup [.str q.2.1, nV q.2.2])) → NAll H ((qs.map (·.2)).map fun e => .tup [.text e.1, .num (e.2 : Int)]) (qs.map fun q => .ref q.1)
  | [], _ => .nil
  | q :: r, h => .cons (.tup (h q (by simp)) (.cons (.str _) (.cons (.int _) .nil))) (nall_ents r fun z hz => h z (by simp [hz]))
theorem CtAt.nk {H : Hp} {a : Addr} {c : Ct} (h : CtAt H a c) : NAt H c.key (.ref a) := by
  cases c with
  | leaf rows =>
    obtain ⟨r, h1, h2⟩ := h
    exact .tup h1 (.cons (.str _) (.cons (.tup h2 (nall_strs rows)) .nil))
  | tree es =>
    obtain ⟨r, qs, h1, h2, rfl, h4⟩ := h
    exact .tup h1 (.cons (.str _) (.cons (.tup h2 (nall_ents qs h4)) .nil))
  | ver ps root stamp =>
    obtain ⟨r, h1, h2⟩ := h
    exact .tup h1 (.cons (.str _) (.cons (.tup h2 (nall_nats ps)) (.cons (.int _) (.cons (.int _) .nil))))
theorem da_texts : ∀ rows : List Str, NestedKey.depthAll (rows.map .text) = 0
  | [] => rfl
  | z :: r => by rw [List.map_cons, NestedKey.depthAll, da_texts r]; rfl
theorem da_nats : ∀ ns : List Nat, NestedKey.depthAll (ns.map fun n : Nat => .num (n : Int)) = 0
  | [] => rfl
  | z :: r => by rw [List.map_cons, NestedKey.depthAll, da_nats r]; rfl
theorem da_ents : ∀ es : List (Str × Nat), NestedKey.depthAll (es.map fun e => .tup [.text e.1, .num (e.2 : Int)]) ≤ 1
  | [] => Nat.zero_le _
  | z :: r => by
    rw [List.map_cons, NestedKey.depthAll]
    have := da_ents r
    have e : NestedKey.depth (.tup [.text z.1, .num (z.2 : Int)]) = 1 := rfl
    rw [e]
    omega
theorem Ct.key_depth (c : Ct) : c.key.depth ≤ 8 := by
  cases c with
  | leaf rows =>
    show NestedKey.depthAll [.text "leaf", .tup (rows.map .text)] + 1 ≤ 8
    simp only [NestedKey.depthAll, NestedKey.depth, da_texts]
    decide
  | tree es =>
    show NestedKey.depthAll [.text "tree", .tup (es.map fun e => .tup [.text e.1, .num (e.2 : Int)])] + 1 ≤ 8
    have := da_ents es
    simp only [NestedKey.depthAll, NestedKey.depth]
    omega
  | ver ps root stamp =>
    show NestedKey.depthAll [.text "version", .tup (ps.map fun n : Nat => .num (n : Int)), .num (root : Int), .num (stamp : Int)] + 1 ≤ 8
    simp only [NestedKey.depthAll, NestedKey.depth, da_nats]
    decide
theorem text_inj : ∀ {xs ys : List Str}, xs.map NestedKey.text = ys.map NestedKey.text → xs = ys
  | [], [], _ => rfl
  | [], _ :: _, h => by simp at h
  | _ :: _, [], h => by simp at h
  | x :: xs, y :: ys, h => by
    rw [List.map_cons, List.map_cons, List.cons.injEq] at h
    injection h.1 with e
    rw [e, text_inj h.2]
theorem num_inj : ∀ {xs ys : List Nat}, (xs.map fun n : Nat => NestedKey.num (n : Int)) = (ys.map fun n : Nat => NestedKey.num (n : Int)) → xs = ys
  | [], [], _ => rfl
  | [], _ :: _, h => by simp at h
  | _ :: _, [], h => by simp at h
  | x :: xs, y :: ys, h => by
    rw [List.map_cons, List.map_cons, List.cons.injEq] at h
    injection h.1 with e
    rw [show x = y by omega, num_inj h.2]
theorem ent_inj : ∀ {xs ys : List (Str × Nat)}, (xs.map fun e => NestedKey.tup [.text e.1, .num (e.2 : Int)]) = (ys.map fun e => NestedKey.tup [.text e.1, .num (e.2 : Int)]) → xs = ys
  | [], [], _ => rfl
  | [], _ :: _, h => by simp at h
  | _ :: _, [], h => by simp at h
  | x :: xs, y :: ys, h => by
    rw [List.map_cons, List.map_cons, List.cons.injEq] at h
    injection h.1 with e
    have e1 := (List.cons.inj e).1
    have e2 := (List.cons.inj (List.cons.inj e).2).1
    injection e1 with e1
    injection e2 with e2
    rw [show x = y from Prod.ext e1 (by omega), ent_inj h.2]
theorem lit_ne1 : ¬ ((Str.ofString "leaf") = "tree") := by decide +kernel
theorem lit_ne2 : ¬ ((Str.ofString "leaf") = "version") := by decide +kernel
theorem lit_ne3 : ¬ ((Str.ofString "tree") = "version") := by decide +kernel
theorem lit_ne4 : ¬ ((Str.ofString "tree") = "leaf") := by decide +kernel
theorem lit_ne5 : ¬ ((Str.ofString "version") = "leaf") := by decide +kernel
theorem lit_ne6 : ¬ ((Str.ofString "version") = "tree") := by decide +kernel
theorem Ct.key_inj {c d : Ct} (h : c.key = d.key) : c = d := by
  cases c with
  | leaf rows =>
    cases d with
    | leaf rows' =>
      injection h with h
      have := (List.cons.inj (List.cons.inj h).2).1
      injection this with this
      rw [text_inj this]
    | tree es =>
      injection h with h
      have := (List.cons.inj h).1
      injection this with this
      exact absurd this lit_ne1
    | ver ps r s =>
      injection h with h
      have := (List.cons.inj h).1
      injection this with this
      exact absurd this lit_ne2
  | tree es =>
    cases d with
    | leaf rows' =>
      injection h with h
      have := (List.cons.inj h).1
      injection this with this
      exact absurd this lit_ne4
    | tree es' =>
      injection h with h
      have := (List.cons.inj (List.cons.inj h).2).1
      injection this with this
      rw [ent_inj this]
    | ver ps r s =>
      injection h with h
      have := (List.cons.inj h).1
      injection this with this
      exact absurd this lit_ne3
  | ver ps r s =>
    cases d with
    | leaf rows' =>
      injection h with h
      have := (List.cons.inj h).1
      injection this with this
      exact absurd this lit_ne5
    | tree es' =>
      injection h with h
      have := (List.cons.inj h).1
      injection this with this
      exact absurd this lit_ne6
    | ver ps' r' s' =>
      injection h with h
      have h1 := (List.cons.inj (List.cons.inj h).2).1
      have h2 := (List.cons.inj (List.cons.inj (List.cons.inj h).2).2).1
      have h3 := (List.cons.inj (List.cons.inj (List.cons.inj (List.cons.inj h).2).2).2).1
      injection h1 with h1
      injection h2 with h2
      injection h3 with h3
      rw [num_inj h1, show r = r' by omega, show s = s' by omega]
def entsF : Nat → List (Addr × Ct) → List NEnt
  | _, [] => []
  | i, q :: r => (q.2.key, q.1, nV i) :: entsF (i + 1) r
theorem entsF_len : ∀ (cs : List (Addr × Ct)) (i : Nat), (entsF i cs).length = cs.length
  | [], _ => rfl
  | q :: r, i => by show (entsF (i + 1) r).length + 1 = _; rw [entsF_len r]; rfl
theorem entsF_snoc (a : Addr) (c : Ct) : ∀ (cs : List (Addr × Ct)) (i : Nat), entsF i (cs ++ [(a, c)]) = entsF i cs ++ [(c.key, a, nV (i + cs.length))]
  | [], i => rfl
  | q :: r, i => by
    show (q.2.key, q.1, nV i) :: entsF (i + 1) (r ++ [(a, c)]) = (q.2.key, q.1, nV i) :: (entsF (i + 1) r ++ _)
    rw [entsF_snoc a c r (i + 1), List.length_cons, show i + 1 + r.length = i + (r.length + 1) by omega]
theorem ents_none {c : Ct} : ∀ (cs : List (Addr × Ct)) (i : Nat), (∀ q ∈ cs, q.2 ≠ c) → NVal (entsF i cs) c.key = none
  | [], _, _ => rfl
  | q :: r, i, h => by
    have hne : ¬ q.2.key = c.key := fun e => h q (by simp) (Ct.key_inj e)
    show NVal ((q.2.key, q.1, nV i) :: entsF (i + 1) r) c.key = none
    have : NVal ((q.2.key, q.1, nV i) :: entsF (i + 1) r) c.key = NVal (entsF (i + 1) r) c.key := by simp [NVal, List.find?_cons, hne]
    rw [this]
    exact ents_none r (i + 1) fun z hz => h z (by simp [hz])
theorem ents_some {c : Ct} {a : Addr} : ∀ (cs : List (Addr × Ct)) (i j : Nat), (cs.map (·.2)).Nodup → cs[j]? = some (a, c) → NVal (entsF i cs) c.key = some (nV (i + j))
  | [], _, _, _, h => by simp at h
  | q :: r, i, 0, _, h => by
    have e : q = (a, c) := by simpa using h
    subst e
    show NVal ((c.key, a, nV i) :: entsF (i + 1) r) c.key = some (nV (i + 0))
    simp [NVal, List.find?_cons]
  | q :: r, i, j + 1, nd, h => by
    rw [List.map_cons, List.nodup_cons] at nd
    have hr : r[j]? = some (a, c) := by simpa using h
    have hne : ¬ q.2.key = c.key := fun e => nd.1 (by rw [Ct.key_inj e]; exact List.mem_map.mpr ⟨(a, c), List.mem_of_getElem? hr, rfl⟩)
    show NVal ((q.2.key, q.1, nV i) :: entsF (i + 1) r) c.key = _
    have : NVal ((q.2.key, q.1, nV i) :: entsF (i + 1) r) c.key = NVal (entsF (i + 1) r) c.key := by simp [NVal, List.find?_cons, hne]
    rw [this, ents_some r (i + 1) j nd.2 hr, show i + 1 + j = i + (j + 1) by omega]
def depOf (ds : List Nat) : Ct → Nat
  | .tree es => 1 + (es.map fun e => ds.getD e.2 0).foldl max 0
  | _ => 0
def LabOk (z : Str) : Prop := 1 ≤ z.length ∧ z.length ≤ 8 ∧ ∀ c ∈ z.cps.toList, c ∈ (Str.ofString "abcdefghijklmnopqrstuvwxyz").cps.toList
/-- a good content behind those of cs -/
def CtOk (cs : List Ct) (ds : List Nat) : Ct → Prop
  | .leaf rows => rows.length ≤ 40 ∧ ∀ z ∈ rows, LineOk z
  | .tree es => es.length ≤ 20 ∧ (∀ e ∈ es, LabOk e.1 ∧ ∃ c, cs[e.2]? = some c ∧ c.word ≠ "version") ∧ es.Pairwise (fun x y => x.1.cps.toList < y.1.cps.toList) ∧ depOf ds (.tree es) ≤ 8
  | .ver ps root stamp => ps.Pairwise (· < ·) ∧ ps.length ≤ 4 ∧ (∀ p ∈ ps, ∃ c, cs[p]? = some c ∧ c.word = "version") ∧ (∃ c, cs[root]? = some c ∧ c.word = "tree") ∧ stamp ≤ 10 ^ 18
structure BookAt (P : Program) (w : World) (C : Addr) (H : Hp) (p dx lc ld lg : Addr) (cs : List (Addr × Ct)) (ds : List Nat) : Prop where
  ob : H p = some (.ins C dx [("contents", .ref lc), ("depths", .ref ld), ("given", .ref lg)])
  co : H lc = some (.lst (cs.map fun q => .ref q.1))
  de : H ld = some (.lst (ds.map nV))
  gi : NDict P w H lg (entsF 0 cs)
  ct : ∀ q ∈ cs, CtAt H q.1 q.2
  nd : (cs.map (·.2)).Nodup
  dl : ds.length = cs.length
  ne : lc ≠ ld
  few : cs.length ≤ 400
theorem BookAt.kp {P : Program} {w : World} {C : Addr} {M : List Addr} {H H' : Hp} {p dx lc ld lg : Addr} {cs : List (Addr × Ct)} {ds : List Nat} (B : BookAt P w C H p dx lc ld lg cs ds) (k : Kp M H H') (t : KT H H') (h1 : p ∉ M) (h2 : lc ∉ M) (h3 : ld ∉ M) (h4 : lg ∉ M) : BookAt P w C H' p dx lc ld lg cs ds :=
  ⟨k _ _ h1 B.ob, k _ _ h2 B.co, k _ _ h3 B.de, B.gi.kp k t h4, fun q hq => (B.ct q hq).kt t, B.nd, B.dl, B.ne, B.few⟩
theorem BookAt.same {P : Program} {w : World} {C : Addr} {H H' : Hp} {p dx lc ld lg : Addr} {cs : List (Addr × Ct)} {ds : List Nat} (B : BookAt P w C H p dx lc ld lg cs ds) (k : Same H H') : BookAt P w C H' p dx lc ld lg cs ds :=
  B.kp (M := []) (Kp.of k) (KT.of k) (by simp) (by simp) (by simp) (by simp)
def spIsLabel : Sp := fun vs H Q _ => ∃ z : Str, vs = [.str z] ∧ LabOk z ∧ ∀ H', Same H H' → Q (.bl true) H'
def spRiseT : Sp := fun vs H Q _ => ∃ (r : Addr) (ns : List Nat), vs = [.ref r] ∧ H r = some (.tup (ns.map nV)) ∧ ns.length ≤ 1000 ∧ (ns.Pairwise (· < ·) → ∀ H', Same H H' → Q (.bl true) H') ∧ (¬ ns.Pairwise (· < ·) → ∀ H', Same H H' → Q (.bl false) H')
def spRiseS : Sp := fun vs H Q _ => ∃ (r : Addr) (zs : List Str), vs = [.ref r] ∧ H r = some (.lst (zs.map V.str)) ∧ zs.length ≤ 1000 ∧ zs.Pairwise (fun x y => x.cps.toList < y.cps.toList) ∧ ∀ H', Same H H' → Q (.bl true) H'
def NatsV (H : Hp) (x : V) (ns : List Nat) : Prop := ∃ a, x = .ref a ∧ H a = some (.tup (ns.map nV))
def spAreInts : Sp := fun vs H Q _ => ∃ (x : V) (B : Nat), vs = [x] ∧ DatT B H x ∧ B ≤ 1000 ∧ (∀ ns, NatsV H x ns → ∀ H', Same H H' → Q (.bl true) H') ∧ ((∀ ns, ¬ NatsV H x ns) → ∀ H', Same H H' → Q (.bl false) H')
def spRisingInts : Sp := fun vs H Q _ => ∃ (x : V) (B : Nat), vs = [x] ∧ DatT B H x ∧ B ≤ 1000 ∧ (∀ ns, NatsV H x ns → ns.Pairwise (· < ·) → ∀ H', Same H H' → Q (.bl true) H') ∧ ((∀ ns, NatsV H x ns → ¬ ns.Pairwise (· < ·)) → ∀ H', Same H H' → Q (.bl false) H')
def spAreRows : Sp := fun vs H Q _ => ∃ (r : Addr) (rows : List Str), vs = [.ref r] ∧ RwAt H r rows ∧ rows.length ≤ 40 ∧ (∀ z ∈ rows, LineOk z) ∧ ∀ H', Same H H' → Q (.bl true) H'
theorem nV_inj : ∀ {xs ys : List Nat}, xs.map nV = ys.map nV → xs = ys
  | [], [], _ => rfl
  | [], _ :: _, h => by simp at h
  | _ :: _, [], h => by simp at h
  | x :: xs, y :: ys, h => by
    rw [List.map_cons, List.map_cons, List.cons.injEq] at h
    have e : (x : Int) = y := V.int.inj h.1
    rw [show x = y by omega, nV_inj h.2]
theorem nats_of : ∀ {ys : List V}, (∀ y ∈ ys, ∃ n : Nat, y = nV n) → ∃ ns : List Nat, ys = ns.map nV
  | [], _ => ⟨[], rfl⟩
  | y :: ys, h => by
    obtain ⟨n, rfl⟩ := h y (by simp)
    obtain ⟨ns, rfl⟩ := nats_of (ys := ys) fun z hz => h z (by simp [hz])
    exact ⟨n :: ns, rfl⟩
theorem bls_of {C : Nat → Bool → Prop} {vs : List V} (h : ∀ (i : Nat) (y : V), vs[i]? = some y → ∃ b : Bool, y = .bl b ∧ C i b) : ∃ bs : List Bool, vs = bs.map V.bl ∧ ∀ (i : Nat) (b : Bool), bs[i]? = some b → C i b := by
  induction vs generalizing C with
  | nil => exact ⟨[], rfl, by simp⟩
  | cons v vs ih =>
    obtain ⟨b, rfl, hb⟩ := h 0 v rfl
    obtain ⟨bs, rfl, hbs⟩ := ih (C := fun i => C (i + 1)) fun i y hy => h (i + 1) y (by simpa using hy)
    refine ⟨b :: bs, rfl, fun i b' hb' => ?_⟩
    cases i with
    | zero =>
      have : b = b' := by simpa using hb'
      subst this
      exact hb
    | succ i => exact hbs i b' (by simpa using hb')
theorem pw_adj {α : Type} {R : α → α → Prop} (tr : ∀ a b c, R a b → R b c → R a c) : ∀ {l : List α}, (∀ (i : Nat) (x y : α), l[i]? = some x → l[i + 1]? = some y → R x y) → l.Pairwise R
  | [], _ => .nil
  | [x], _ => List.pairwise_singleton _ _
  | x :: y :: r, h => by
    have ih := pw_adj tr (l := y :: r) fun i a b ha hb => h (i + 1) a b (by simpa using ha) (by simpa using hb)
    refine List.pairwise_cons.mpr ⟨fun z hz => ?_, ih⟩
    have h0 := h 0 x y rfl rfl
    rcases List.mem_cons.mp hz with rfl | hz
    · exact h0
    · exact tr _ _ _ h0 ((List.pairwise_cons.mp ih).1 z hz)
theorem adj_pw {α : Type} {R : α → α → Prop} {l : List α} (h : l.Pairwise R) {i : Nat} {x y : α} (hx : l[i]? = some x) (hy : l[i + 1]? = some y) : R x y := by
  obtain ⟨h1, e1⟩ := List.getElem?_eq_some_iff.mp hx
  obtain ⟨h2, e2⟩ := List.getElem?_eq_some_iff.mp hy
  have := List.pairwise_iff_getElem.mp h i (i + 1) h1 h2 (by omega)
  rw [e1, e2] at this
  exact this
theorem nV_at {ns : List Nat} {i : Nat} (h : i < ns.length) : (ns.map nV)[i]? = some (nV (ns[i])) := by rw [List.getElem?_map, List.getElem?_eq_getElem h]; rfl
section
variable {P : Program} {w : World} {K : PySem.W.Frag} {mg : Str → Option Value} {base : Heap}
theorem ok_islabel {f : Addr} {fd : FuncData} (T : Txt K mg) (F : Fun K "is_label" "is_label" s_is_label f fd) : FnOk P w K mg base CX0 1 f fd ["thing"] spIsLabel := by
  obtain ⟨tk_LETTERS, g_LETTERS⟩ := T.g_LETTERS
  refine F.ok sc_is_label (fun vs H Q E h => ?_) (fun cdv A outer s H vs Q E hr h => ?_)
  · obtain ⟨z, rfl, _⟩ := h
    rfl
  · obtain ⟨z, rfl, ⟨l1, l8, hz⟩, q⟩ := h
    refine ⟨_,
      (pss_one
        (ps_ret (pe_and (pe_callB (r := rIsi K) call_isi (by rfl) T.n_isinstance (by decide +kernel) (pa_cons (pv 0) (pa_cons (pe_bltn (v := .ty "str") (u := .type "str") (by rfl) T.n_str (by decide +kernel) rfl) pa_nil))) (pe_and (pe_chain op_le op_le pe_int (pe_callB c_lenS (by rfl) T.n_len (by decide +kernel) (pa_cons (pv 0) pa_nil)) pe_int) (pe_one (pe_callB (r := rAll K) (cr_all rfl) (by rfl) T.n_all (by decide +kernel) (pa_cons (pe_lc (own := [("sign", 1)]) (g := (gName 1)) rfl sc_is_label.nd (pi_str (pv 0)) (blkOk_by (own := [("sign", 1)]) (N := N_is_label) (sc := defScope s_is_label) (by decide +kernel)) (fun _ _ _ _ _ => (pg_name (i := 1) sc_is_label.nd rfl (.inl rfl))) (fun _ _ _ _ _ => pts_nil) (fun _ _ _ _ _ => (pe_cmpR o_inS (pv 1) (pe_glob (v := .str "abcdefghijklmnopqrstuvwxyz") rfl g_LETTERS ⟨_, rfl⟩) rfl))) pa_nil)))))))
      , ?_⟩
    rw [show L2.start N_is_label [V.str z] = [some (.str z), none] from rfl]
    walk_at "x"
    refine w_lenS (Nat.le_trans l8 (by decide)) ?_
    walk_at "g"
    refine w_yes (by omega) ?_
    walk_at "g"
    refine w_yes (by omega) ?_
    walk_at "g"
    refine lcp_map (walk_str z) [] ((z.cps.toList.map fun c => true).map V.bl) (by simp) (by show z.length ≤ 1000000; omega) (fun _ _ => trivial) ?_ (by simp) ?_
    · rintro i x H1 H2 R hi k1 ⟨rfl, c, hc, rfl⟩ hR
      have hc' : z.cps.toList[i]? = some c := by rw [Array.getElem?_toList]; exact hc
      refine w_name ⟨rfl, ?_⟩
      walk_at "g"
      refine hR _ _ ?_ Kp.refl
      rw [List.getElem?_map, List.getElem?_map, hc', decide_eq_true (hz c (List.mem_of_getElem? hc'))]
      rfl
    · intro L H1 hL k1 eL
      walk_at "g"
      rw [show (z.cps.toList.map fun c => true).all id = true by simp]
      exact q _ k1.same
theorem ok_riseT {f : Addr} {fd : FuncData} (T : Txt K mg) (F : Fun K "rise" "rise" s_rise f fd) : FnOk P w K mg base CX0 1 f fd ["row"] spRiseT := by
  refine F.ok sc_rise (fun vs H Q E h => ?_) (fun cdv A outer s H vs Q E hr h => ?_)
  · obtain ⟨r, ns, rfl, _⟩ := h
    rfl
  · obtain ⟨r, ns, rfl, hr', hl, q1, q2⟩ := h
    refine ⟨_,
      (pss_one
        (ps_ret (pe_callB (r := rAll K) (cr_all rfl) (by rfl) T.n_all (by decide +kernel) (pa_cons (pe_lc (own := [("k", 1)]) (g := (gName 1)) rfl sc_rise.nd (pi_range2 (by rfl) T.n_range (pa_cons pe_int (pa_cons (pe_callB (r := rLen K) c_len (by rfl) T.n_len (by decide +kernel) (pa_cons (pv 0) pa_nil)) pa_nil))) (blkOk_by (own := [("k", 1)]) (N := N_rise) (sc := defScope s_rise) (by decide +kernel)) (fun _ _ _ _ _ => (pg_name (i := 1) sc_rise.nd rfl (.inl rfl))) (fun _ _ _ _ _ => pts_nil) (fun _ _ _ _ _ => (pe_cmpR op_lt (pe_ix (r := rIxT K) ix_tup (pv 0) (pe_op op_sub (pv 1) pe_int) (fun _ _ => rfl)) (pe_ix (r := rIxT K) ix_tup (pv 0) (pv 1) (fun _ _ => rfl)) (nomark _)))) pa_nil))))
      , ?_⟩
    rw [show L2.start N_rise [V.ref r] = [some (.ref r), none] from rfl]
    walk_at "x"
    try refine w_rng2' (by simp only [List.length_map]; omega) ?_
    refine lcp_map (walk_range (lo := 1) (n := ((((ns.map nV).length : Nat) : Int) - 1).toNat)) [] (((List.range (ns.length - 1)).map fun i => decide (ns.getD i 0 < ns.getD (i + 1) 0)).map V.bl) (by simp only [List.length_map, List.length_range]; omega) (by simp only [List.length_map]; omega) (fun _ _ => trivial) ?_ (by simp) ?_
    · rintro i x H1 H2 R hi k1 ⟨rfl, rfl⟩ hR
      have hi' : i + 1 < ns.length := by
        simp only [List.length_map] at hi
        omega
      have hr1 := k1.same _ _ hr'
      have at1 : atI (ns.map nV) (1 + (i : Int) - 1) = some (.int ((ns.getD i 0 : Nat) : Int)) := by
        rw [show (1 : Int) + (i : Int) - 1 = ((i : Nat) : Int) by omega]
        refine atI_nat ?_
        rw [nV_at (by omega), List.getD_eq_getElem?_getD, List.getElem?_eq_getElem (by omega)]
        rfl
      have at2 : atI (ns.map nV) (1 + (i : Int)) = some (.int ((ns.getD (i + 1) 0 : Nat) : Int)) := by
        rw [show (1 : Int) + (i : Int) = ((i + 1 : Nat) : Int) by omega]
        refine atI_nat ?_
        rw [nV_at hi', List.getD_eq_getElem?_getD, List.getElem?_eq_getElem hi']
        rfl
      refine w_name ⟨rfl, ?_⟩
      walk_at "g"
      refine hR _ _ ?_ Kp.refl
      rw [List.getElem?_map, List.getElem?_map, List.getElem?_range (by omega)]
      show some (V.bl (decide (ns.getD i 0 < ns.getD (i + 1) 0))) = some (V.bl (decide (((ns.getD i 0 : Nat) : Int) < ((ns.getD (i + 1) 0 : Nat) : Int))))
      congr 2
      rw [Bool.eq_iff_iff, decide_eq_true_iff, decide_eq_true_iff]
      omega
    · intro L H1 hL k1 eL
      walk_at "g"
      have gd : ∀ {i : Nat} {x : Nat}, ns[i]? = some x → ns.getD i 0 = x := fun {i x} h => by rw [List.getD_eq_getElem?_getD, h]; rfl
      by_cases h : ns.Pairwise (· < ·)
      · have e : ((List.range (ns.length - 1)).map fun i => decide (ns.getD i 0 < ns.getD (i + 1) 0)).all id = true := by
          rw [List.all_eq_true]
          intro b hb
          obtain ⟨i, hi, rfl⟩ := List.mem_map.mp hb
          rw [List.mem_range] at hi
          refine decide_eq_true ?_
          have h1 := List.getElem?_eq_getElem (show i < ns.length by omega)
          have h2 := List.getElem?_eq_getElem (show i + 1 < ns.length by omega)
          rw [gd h1, gd h2]
          exact adj_pw h h1 h2
        rw [e]
        exact q1 h _ k1.same
      · have e : ((List.range (ns.length - 1)).map fun i => decide (ns.getD i 0 < ns.getD (i + 1) 0)).all id = false := by
          rw [Bool.eq_false_iff]
          intro hall
          rw [List.all_eq_true] at hall
          refine h (pw_adj (R := (· < ·)) (fun a b c h1 h2 => Nat.lt_trans h1 h2) fun i x y hx hy => ?_)
          have hi : i < ns.length - 1 := by have := (List.getElem?_eq_some_iff.mp hy).1; omega
          have := of_decide_eq_true (hall _ (List.mem_map.mpr ⟨i, List.mem_range.mpr hi, rfl⟩))
          rwa [gd hx, gd hy] at this
        rw [e]
        exact q2 h _ k1.same
theorem ok_riseS {f : Addr} {fd : FuncData} (T : Txt K mg) (F : Fun K "rise" "rise" s_rise f fd) : FnOk P w K mg base CX0 1 f fd ["row"] spRiseS := by
  refine F.ok sc_rise (fun vs H Q E h => ?_) (fun cdv A outer s H vs Q E hr h => ?_)
  · obtain ⟨r, zs, rfl, _⟩ := h
    rfl
  · obtain ⟨r, zs, rfl, hr', hl, hp, q⟩ := h
    refine ⟨_,
      (pss_one
        (ps_ret (pe_callB (r := rAll K) (cr_all rfl) (by rfl) T.n_all (by decide +kernel) (pa_cons (pe_lc (own := [("k", 1)]) (g := (gName 1)) rfl sc_rise.nd (pi_range2 (by rfl) T.n_range (pa_cons pe_int (pa_cons (pe_callB (r := rLen K) c_len (by rfl) T.n_len (by decide +kernel) (pa_cons (pv 0) pa_nil)) pa_nil))) (blkOk_by (own := [("k", 1)]) (N := N_rise) (sc := defScope s_rise) (by decide +kernel)) (fun _ _ _ _ _ => (pg_name (i := 1) sc_rise.nd rfl (.inl rfl))) (fun _ _ _ _ _ => pts_nil) (fun _ _ _ _ _ => (pe_cmpR o_ltS (pe_ix (r := rIxL K) ix_list (pv 0) (pe_op op_sub (pv 1) pe_int) (fun _ _ => rfl)) (pe_ix (r := rIxL K) ix_list (pv 0) (pv 1) (fun _ _ => rfl)) (nomark _)))) pa_nil))))
      , ?_⟩
    rw [show L2.start N_rise [V.ref r] = [some (.ref r), none] from rfl]
    walk_at "x"
    try refine w_rng2' (by simp only [List.length_map]; omega) ?_
    refine lcp_map (walk_range (lo := 1) (n := ((((zs.map V.str).length : Nat) : Int) - 1).toNat)) [] (((List.range (zs.length - 1)).map fun i => true).map V.bl) (by simp only [List.length_map, List.length_range]; omega) (by simp only [List.length_map]; omega) (fun _ _ => trivial) ?_ (by simp) ?_
    · rintro i x H1 H2 R hi k1 ⟨rfl, rfl⟩ hR
      have hi' : i + 1 < zs.length := by
        simp only [List.length_map] at hi
        omega
      have hr1 := k1.same _ _ hr'
      have g1 := List.getElem?_eq_getElem (show i < zs.length by omega)
      have g2 := List.getElem?_eq_getElem hi'
      have at1 : atI (zs.map V.str) (1 + (i : Int) - 1) = some (.str zs[i]) := by
        rw [show (1 : Int) + (i : Int) - 1 = ((i : Nat) : Int) by omega]
        exact atI_nat (by rw [List.getElem?_map, g1]; rfl)
      have at2 : atI (zs.map V.str) (1 + (i : Int)) = some (.str zs[i + 1]) := by
        rw [show (1 : Int) + (i : Int) = ((i + 1 : Nat) : Int) by omega]
        exact atI_nat (by rw [List.getElem?_map, g2]; rfl)
      refine w_name ⟨rfl, ?_⟩
      walk_at "g"
      refine hR _ _ ?_ Kp.refl
      rw [List.getElem?_map, List.getElem?_map, List.getElem?_range (by omega), decide_eq_true (adj_pw hp g1 g2)]
      rfl
    · intro L H1 hL k1 eL
      walk_at "g"
      rw [show ((List.range (zs.length - 1)).map fun i => true).all id = true by simp]
      exact q _ k1.same
theorem ok_areints {f fI : Addr} {fd fdI : FuncData} (T : Txt K mg) (F : Fun K "are_ints" "are_ints" s_are_ints f fd) (D_is_int : DfD K mg "is_int" s_is_int ["thing", "least"] [.int 0] fI fdI) : FnOk P w K mg base CX0 2 f fd ["thing"] spAreInts := by
  obtain ⟨ds_is_int, V_is_int, B_is_int⟩ := D_is_int.b
  have G_is_int : FnOk P w K mg base CX0 1 fI fdI ["thing", "least"] spIsInt := ok_isint T D_is_int
  refine F.ok sc_are_ints (fun vs H Q E h => ?_) (fun cdv A outer s H vs Q E hr h => ?_)
  · obtain ⟨x, B, rfl, _⟩ := h
    rfl
  · obtain ⟨x, B, rfl, hd, hB, q1, q2⟩ := h
    refine ⟨_,
      (pss_one
        (ps_ret (pe_and (pe_callB (r := rIsi K) call_isi (by rfl) T.n_isinstance (by decide +kernel) (pa_cons (pv 0) (pa_cons (pe_bltn (v := .ty "tuple") (u := .type "tuple") (by rfl) T.n_tuple (by decide +kernel) rfl) pa_nil))) (pe_one (pe_callB (r := rAll K) (cr_all rfl) (by rfl) T.n_all (by decide +kernel) (pa_cons (pe_lc (own := [("part", 1)]) (g := (gName 1)) rfl sc_are_ints.nd (pi_tup (pv 0)) (blkOk_by (own := [("part", 1)]) (N := N_are_ints) (sc := defScope s_are_ints) (by decide +kernel)) (fun _ _ _ _ _ => (pg_name (i := 1) sc_are_ints.nd rfl (.inl rfl))) (fun _ _ _ _ _ => pts_nil) (fun _ _ _ _ _ => (pe_call G_is_int (hr.mono (by omega)) (by rfl) D_is_int.g D_is_int.kp B_is_int V_is_int pass0 (pa_cons (pv 1) pa_nil)))) pa_nil))))))
      , ?_⟩
    rw [show L2.start N_are_ints [x] = [some x, none] from rfl]
    walk_at "x"
    rcases hd.cases with ⟨ay, ty, hne⟩ | ⟨a, xs, rfl, ea, hxB, hxs⟩
    · refine w_isTup ty ?_
      rw [decide_eq_false hne]
      walk_at "g"
      refine q2 ?_ _ (fun _ _ z => z)
      rintro ns ⟨a, rfl, h⟩
      exact hne (ty.ofTup h)
    walk_at "g"
    refine lcp_gen (walk_tup (K := K) (a := a) (xs := xs)) [] (fun i y _ => ∃ bb : Bool, y = .bl bb ∧ ∀ z, xs[i]? = some z → (bb = true ↔ ∃ n : Nat, z = nV n)) (fun _ _ => True) (by omega) (fun _ _ _ _ _ h => h) (fun _ _ _ _ _ _ => trivial) (fun _ H1 k _ => .of (k _ _ (by simp) ea)) trivial ?_ (by simp) ?_
    · rintro i y H2 H3 R hi k2 t2 _ ⟨rfl, hy⟩ hR
      obtain ⟨a1, t1⟩ := ((hxs y (List.mem_of_getElem? hy)).kd (KD.of k2.same)).ty
      refine w_name ⟨rfl, ?_⟩
      walk_at "g"
      refine ⟨y, a1, rfl, t1, fun n hn => ?_, fun hn => ?_⟩
      · refine hR _ _ ⟨true, rfl, fun z hz => ⟨fun _ => ⟨n, ?_⟩, fun _ => rfl⟩⟩ Kp.refl KT.refl trivial
        rw [hy] at hz
        cases hz
        exact hn
      · refine hR _ _ ⟨false, rfl, fun z hz => ⟨fun h => Bool.noConfusion h, fun ⟨n, e⟩ => ?_⟩⟩ Kp.refl KT.refl trivial
        rw [hy] at hz
        cases hz
        exact absurd e (hn n)
    · intro L H2 vs hvl hvp hL k2' t2 _ eL
      have k2 := k2'.same
      obtain ⟨bs, rfl, hbs⟩ := bls_of hvp
      rw [List.length_map] at hvl
      walk_at "g"
      by_cases hall : ∀ y ∈ xs, ∃ n : Nat, y = nV n
      · have e : bs.all id = true := by
          rw [List.all_eq_true]
          intro b hb
          obtain ⟨i, hi, rfl⟩ := List.getElem_of_mem hb
          have hi2 : i < xs.length := by omega
          exact ((hbs i bs[i] (List.getElem?_eq_getElem hi)) xs[i] (List.getElem?_eq_getElem hi2)).mpr (hall _ (List.getElem_mem hi2))
        rw [e]
        obtain ⟨ns, rfl⟩ := nats_of hall
        exact q1 ns ⟨a, rfl, ea⟩ _ k2
      · have e : bs.all id = false := by
          rw [Bool.eq_false_iff]
          intro h
          rw [List.all_eq_true] at h
          refine hall fun y hy => ?_
          obtain ⟨i, hi, rfl⟩ := List.getElem_of_mem hy
          have hi2 : i < bs.length := by omega
          exact ((hbs i bs[i] (List.getElem?_eq_getElem hi2)) xs[i] (List.getElem?_eq_getElem hi)).mp (h _ (List.getElem_mem hi2))
        rw [e]
        refine q2 ?_ _ k2
        rintro ns ⟨a', e', h⟩
        cases e'
        rw [ea] at h
        cases h
        exact hall fun y hy => by
          obtain ⟨n, _, rfl⟩ := List.mem_map.mp hy
          exact ⟨n, rfl⟩
theorem ok_risingints {f fA fR fI : Addr} {fd fdA fdR fdI : FuncData} (T : Txt K mg) (F : Fun K "rising_ints" "rising_ints" s_rising_ints f fd) (D_are_ints : Df K mg "are_ints" s_are_ints ["thing"] fA fdA) (D_rise : Df K mg "rise" s_rise ["row"] fR fdR) (D_is_int : DfD K mg "is_int" s_is_int ["thing", "least"] [.int 0] fI fdI) : FnOk P w K mg base CX0 3 f fd ["thing"] spRisingInts := by
  have G_are_ints : FnOk P w K mg base CX0 2 fA fdA ["thing"] spAreInts := ok_areints T D_are_ints.fn D_is_int
  have G_rise : FnOk P w K mg base CX0 1 fR fdR ["row"] spRiseT := ok_riseT T D_rise.fn
  refine F.ok sc_rising_ints (fun vs H Q E h => ?_) (fun cdv A outer s H vs Q E hr h => ?_)
  · obtain ⟨x, B, rfl, _⟩ := h
    rfl
  · obtain ⟨x, B, rfl, hd, hB, q1, q2⟩ := h
    refine ⟨_,
      (pss_one
        (ps_ret (pe_and (pe_call G_are_ints (hr.mono (by omega)) (by rfl) D_are_ints.g D_are_ints.fn.kp D_are_ints.b .nil pass0 (pa_cons (pv 0) pa_nil)) (pe_one (pe_call G_rise (hr.mono (by omega)) (by rfl) D_rise.g D_rise.fn.kp D_rise.b .nil pass0 (pa_cons (pv 0) pa_nil))))))
      , ?_⟩
    rw [show L2.start N_rising_ints [x] = [some x] from rfl]
    walk_at "x"
    refine ⟨x, B, rfl, hd, hB, fun ns hns H1 k1 => ?_, fun hn H1 k1 => ?_⟩
    · walk_at "g"
      have hns' := hns
      obtain ⟨a, rfl, ea⟩ := hns
      have hlen : ns.length ≤ 1000 := by
        have := (hd.elem ea).1
        rw [List.length_map] at this
        omega
      refine ⟨a, ns, rfl, k1 _ _ ea, hlen, fun hp H2 k2 => ?_, fun hp H2 k2 => ?_⟩
      · exact q1 ns hns' hp _ (Same.trans k1 k2)
      · refine q2 ?_ _ (Same.trans k1 k2)
        rintro ns' ⟨a', e, h⟩
        cases e
        rw [ea] at h
        have e2 := Option.some.inj h
        injection e2 with e2
        rw [← nV_inj e2]
        exact hp
    · walk_at "g"
      exact q2 (fun ns h => absurd h (hn ns)) _ k1
theorem ok_arerows {f fT : Addr} {fd fdT : FuncData} (T : Txt K mg) (F : Fun K "are_rows" "are_rows" s_are_rows f fd) (D_is_text : DfD K mg "is_text" s_is_text ["thing", "most"] [.int 40] fT fdT) : FnOk P w K mg base CX0 2 f fd ["thing"] spAreRows := by
  obtain ⟨ds_is_text, V_is_text, B_is_text⟩ := D_is_text.b
  have G_is_text : FnOk P w K mg base CX0 1 fT fdT ["thing", "most"] spIsText := ok_istext T D_is_text
  refine F.ok sc_are_rows (fun vs H Q E h => ?_) (fun cdv A outer s H vs Q E hr h => ?_)
  · obtain ⟨r, rows, rfl, _⟩ := h
    rfl
  · obtain ⟨r, rows, rfl, hr', hl, hz, q⟩ := h
    have hr0 : H r = some (.tup (rows.map V.str)) := hr'
    refine ⟨_,
      (pss_one
        (ps_ret (pe_and (pe_callB (r := rIsi K) call_isi (by rfl) T.n_isinstance (by decide +kernel) (pa_cons (pv 0) (pa_cons (pe_bltn (v := .ty "tuple") (u := .type "tuple") (by rfl) T.n_tuple (by decide +kernel) rfl) pa_nil))) (pe_and (pe_cmpR op_le (pe_callB (r := rLen K) c_len (by rfl) T.n_len (by decide +kernel) (pa_cons (pv 0) pa_nil)) pe_int (nomark _)) (pe_one (pe_callB (r := rAll K) (cr_all rfl) (by rfl) T.n_all (by decide +kernel) (pa_cons (pe_lc (own := [("row", 1)]) (g := (gName 1)) rfl sc_are_rows.nd (pi_tup (pv 0)) (blkOk_by (own := [("row", 1)]) (N := N_are_rows) (sc := defScope s_are_rows) (by decide +kernel)) (fun _ _ _ _ _ => (pg_name (i := 1) sc_are_rows.nd rfl (.inl rfl))) (fun _ _ _ _ _ => pts_nil) (fun _ _ _ _ _ => (pe_call G_is_text (hr.mono (by omega)) (by rfl) D_is_text.g D_is_text.kp B_is_text V_is_text pass0 (pa_cons (pv 1) pa_nil)))) pa_nil)))))))
      , ?_⟩
    rw [show L2.start N_are_rows [V.ref r] = [some (.ref r), none] from rfl]
    walk_at "x"
    refine w_yes (by rw [List.length_map]; omega) ?_
    walk_at "g"
    refine lcp_map (walk_tup (K := K) (a := r) (xs := rows.map V.str)) [] ((rows.map fun _ => true).map V.bl) (by simp) (by rw [List.length_map]; omega) (fun H' k => .of (k _ _ (by simp) hr0)) ?_ (by simp) ?_
    · rintro i x H1 H2 R hi k1 ⟨rfl, hx⟩ hR
      obtain ⟨z, hz', rfl⟩ := map_at hx
      have hzo := hz z (List.mem_of_getElem? hz')
      refine w_name ⟨rfl, ?_⟩
      walk_at "g"
      refine ⟨.str z, 40, rfl, .leaf (.str z) (by decide) (fun z' e => by cases e; exact hzo.1), by omega, fun _ _ _ H3 k3 => ?_, fun hn => absurd hzo (hn z rfl)⟩
      refine hR _ _ ?_ (Kp.of k3)
      rw [List.getElem?_map, List.getElem?_map, hz']
      rfl
    · intro L H1 hL k1 eL
      walk_at "g"
      rw [show (rows.map fun _ => true).all id = true by simp]
      exact q _ k1.same
end
/-! ### a book's own defs -/
def spIsName (P : Program) (w : World) (C : Addr) : Sp := fun vs H Q _ => ∃ (p dx lc ld lg : Addr) (cs : List (Addr × Ct)) (ds : List Nat) (x : V) (a : String), vs = [.ref p, x] ∧ BookAt P w C H p dx lc ld lg cs ds ∧ Ty H x a ∧ (∀ n : Nat, x = nV n → n < cs.length → Q (.bl true) H) ∧ ((∀ n : Nat, x = nV n → ¬ n < cs.length) → Q (.bl false) H)
def spIsKind (P : Program) (w : World) (C : Addr) : Sp := fun vs H Q _ => ∃ (p dx lc ld lg : Addr) (cs : List (Addr × Ct)) (ds : List Nat) (x : V) (a : String) (k : Str), vs = [.ref p, x, .str k] ∧ BookAt P w C H p dx lc ld lg cs ds ∧ Ty H x a ∧ (∀ (n : Nat) (q : Addr × Ct), x = nV n → cs[n]? = some q → Q (.bl (decide (q.2.word = k))) H) ∧ ((∀ n : Nat, x = nV n → ¬ n < cs.length) → Q (.bl false) H)
def spIsPair2 : Sp := fun vs H Q _ => ∃ (a : Addr) (x y : V), vs = [.ref a] ∧ H a = some (.tup [x, y]) ∧ Q (.bl true) H
def spIsEntry (P : Program) (w : World) (C : Addr) : Sp := fun vs H Q _ => ∃ (p dx lc ld lg e : Addr) (cs : List (Addr × Ct)) (ds : List Nat) (z : Str) (n : Nat) (q : Addr × Ct), vs = [.ref p, .ref e] ∧ BookAt P w C H p dx lc ld lg cs ds ∧ H e = some (.tup [.str z, nV n]) ∧ LabOk z ∧ cs[n]? = some q ∧ q.2.word ≠ "version" ∧ ∀ H', Same H H' → Q (.bl true) H'
def spDepth (C : Addr) : Sp := fun vs H Q _ => ∃ (p dx lc ld lg a : Addr) (ds : List Nat) (c : Ct), vs = [.ref p, .ref a] ∧ H p = some (.ins C dx [("contents", .ref lc), ("depths", .ref ld), ("given", .ref lg)]) ∧ H ld = some (.lst (ds.map nV)) ∧ CtAt H a c ∧ (∀ es, c = .tree es → es.length ≤ 20 ∧ ∀ e ∈ es, e.2 < ds.length) ∧ ∀ H', Same H H' → Q (nV (depOf ds c)) H'
def spIsTree (P : Program) (w : World) (C : Addr) : Sp := fun vs H Q _ => ∃ (p dx lc ld lg r : Addr) (cs : List (Addr × Ct)) (ds : List Nat) (qs : List (Addr × Str × Nat)), vs = [.ref p, .ref r] ∧ BookAt P w C H p dx lc ld lg cs ds ∧ H r = some (.tup (qs.map fun q => .ref q.1)) ∧ (∀ q ∈ qs, H q.1 = some (.tup [.str q.2.1, nV q.2.2])) ∧ CtOk (cs.map (·.2)) ds (.tree (qs.map (·.2))) ∧ ∀ H', Same H H' → Q (.bl true) H'
def spIsContent (P : Program) (w : World) (C : Addr) : Sp := fun vs H Q _ => ∃ (p dx lc ld lg a : Addr) (cs : List (Addr × Ct)) (ds : List Nat) (c : Ct), vs = [.ref p, .ref a] ∧ BookAt P w C H p dx lc ld lg cs ds ∧ CtAt H a c ∧ CtOk (cs.map (·.2)) ds c ∧ ∀ H', Same H H' → Q (.bl true) H'
def spIsVersion (P : Program) (w : World) (C : Addr) : Sp := fun vs H Q _ => ∃ (p dx lc ld lg a : Addr) (cs : List (Addr × Ct)) (ds : List Nat) (ps : List Nat) (root stamp : Nat), vs = [.ref p, .ref a] ∧ BookAt P w C H p dx lc ld lg cs ds ∧ CtAt H a (.ver ps root stamp) ∧ CtOk (cs.map (·.2)) ds (.ver ps root stamp) ∧ ∀ H', Same H H' → Q (.bl true) H'
def spBookInit (P : Program) (w : World) (C : Addr) : Sp := fun vs H Q _ => ∃ (p dx : Addr), vs = [.ref p] ∧ H p = some (.ins C dx []) ∧ ∀ (lc ld lg : Addr) (H' : Hp), H lc = none → H ld = none → H lg = none → BookAt P w C H' p dx lc ld lg [] [] → Kp [p] H H' → Q .non H'
/-- what naming a content makes of a book -/
def spNamed (P : Program) (w : World) (C : Addr) : Sp := fun vs H Q _ => ∃ (p dx lc ld lg a : Addr) (cs : List (Addr × Ct)) (ds : List Nat) (c : Ct), vs = [.ref p, .ref a] ∧ BookAt P w C H p dx lc ld lg cs ds ∧ CtAt H a c ∧ CtOk (cs.map (·.2)) ds c ∧ (cs.length < 400 ∨ ¬ ∀ q ∈ cs, q.2 ≠ c) ∧
  (∀ (j : Nat) (b : Addr) (H' : Hp), cs[j]? = some (b, c) → Same H H' → Q (nV j) H') ∧ ((∀ q ∈ cs, q.2 ≠ c) → ∀ H', BookAt P w C H' p dx lc ld lg (cs ++ [(a, c)]) (ds ++ [depOf ds c]) → Kp [lc, ld, lg] H H' → KT H H' → Q (nV cs.length) H')
def spThing (P : Program) (w : World) (C : Addr) : Sp := fun vs H Q _ => ∃ (p dx lc ld lg : Addr) (cs : List (Addr × Ct)) (ds : List Nat) (n : Nat) (q : Addr × Ct), vs = [.ref p, nV n] ∧ BookAt P w C H p dx lc ld lg cs ds ∧ cs[n]? = some q ∧ Q (.ref q.1) H
def spKind (P : Program) (w : World) (C : Addr) : Sp := fun vs H Q _ => ∃ (p dx lc ld lg : Addr) (cs : List (Addr × Ct)) (ds : List Nat) (n : Nat) (q : Addr × Ct), vs = [.ref p, nV n] ∧ BookAt P w C H p dx lc ld lg cs ds ∧ cs[n]? = some q ∧ Q (.str q.2.word) H
def spPartsV (P : Program) (w : World) (C : Addr) : Sp := fun vs H Q _ => ∃ (p dx lc ld lg : Addr) (cs : List (Addr × Ct)) (ds : List Nat) (n : Nat) (a : Addr) (ps : List Nat) (root stamp : Nat), vs = [.ref p, nV n] ∧ BookAt P w C H p dx lc ld lg cs ds ∧ cs[n]? = some (a, .ver ps root stamp) ∧ ps.length ≤ 900 ∧ ∀ H' r, Same H H' → H' r = some (.tup ((ps ++ [root]).map nV)) → Q (.ref r) H'
theorem CtAt.head {H : Hp} {a : Addr} {c : Ct} (h : CtAt H a c) : ∃ xs, H a = some (.tup (.str c.word :: xs)) := by
  cases c with
  | leaf rows => obtain ⟨r, h1, _⟩ := h; exact ⟨_, h1⟩
  | tree es => obtain ⟨r, qs, h1, _⟩ := h; exact ⟨_, h1⟩
  | ver ps root stamp => obtain ⟨r, h1, _⟩ := h; exact ⟨_, h1⟩
theorem fold_max (m : Nat) : ∀ (ns : List Nat) (b : Nat), (m = b ∨ m ∈ ns) → b ≤ m → (∀ y ∈ ns, y ≤ m) → ns.foldl max b = m
  | [], b, h, _, _ => by
    rcases h with h | h
    · exact h.symm
    · cases h
  | n :: ns, b, h, hb, hall => by
    show ns.foldl max (max b n) = m
    have hn := hall n (by simp)
    refine fold_max m ns (max b n) ?_ (by omega) fun y hy => hall y (by simp [hy])
    rcases h with h | h
    · exact .inl (by omega)
    · rcases List.mem_cons.mp h with h | h
      · exact .inl (by omega)
      · exact .inr h
theorem small1kl {n : Nat} (h : n ≤ 1000) : n < sizeLine := Nat.lt_of_le_of_lt h (by decide)
section
variable {P : Program} {w : World} {K : PySem.W.Frag} {mg : Str → Option Value} {base : Heap} {C : Addr}
theorem ok_isname {f fI : Addr} {fd fdI : FuncData} (T : Txt K mg) (F : Fun K "is_name" "is_name" s_is_name f fd) (K_Book : Kl K mg "Book" C ["contents", "depths", "given"]) (D_is_int : DfD K mg "is_int" s_is_int ["thing", "least"] [.int 0] fI fdI) : FnOk P w K mg base CX0 2 f fd ["book", "thing"] (spIsName P w C) := by
  obtain ⟨ds_is_int, V_is_int, B_is_int⟩ := D_is_int.b
  have G_is_int : FnOk P w K mg base CX0 1 fI fdI ["thing", "least"] spIsInt := ok_isint T D_is_int
  have cl := K_Book.cl
  have n1 := K_Book.na "contents" (by simp)
  refine F.ok sc_is_name (fun vs H Q E h => ?_) (fun cdv A outer s H vs Q E hr h => ?_)
  · obtain ⟨p, dx, lc, ld, lg, cs, ds, x, a, rfl, _⟩ := h
    rfl
  · obtain ⟨p, dx, lc, ld, lg, cs, ds, x, a, rfl, B, t, q1, q2⟩ := h
    have ob := B.ob
    have co := B.co
    refine ⟨_,
      (pss_one
        (ps_ret (pe_and (pe_call G_is_int (hr.mono (by omega)) (by rfl) D_is_int.g D_is_int.kp B_is_int V_is_int pass0 (pa_cons (pv 1) pa_nil)) (pe_one (pe_cmpR op_lt (pv 1) (pe_callB (r := rLen K) c_len (by rfl) T.n_len (by decide +kernel) (pa_cons (pe_fldK (K := K) rfl (pv 0) rfl) pa_nil)) (nomark _))))))
      , ?_⟩
    rw [show L2.start N_is_name [V.ref p, x] = [some (.ref p), some x] from rfl]
    walk_at "x"
    refine ⟨x, a, rfl, t, fun n hn => ?_, fun hn => ?_⟩
    · subst hn
      walk_at "g"
      by_cases h : n < cs.length
      · rw [decide_eq_true (by rw [List.length_map]; omega)]
        exact q1 n rfl h
      · rw [decide_eq_false (by rw [List.length_map]; omega)]
        exact q2 fun m e => by
          have : (n : Int) = m := V.int.inj e
          omega
    · walk_at "g"
      exact q2 fun n e => absurd e (hn n)
theorem ok_iskind {f fN fI : Addr} {fd fdN fdI : FuncData} (T : Txt K mg) (F : Fun K "is_kind" "is_kind" s_is_kind f fd) (K_Book : Kl K mg "Book" C ["contents", "depths", "given"]) (D_is_name : Df K mg "is_name" s_is_name ["book", "thing"] fN fdN) (D_is_int : DfD K mg "is_int" s_is_int ["thing", "least"] [.int 0] fI fdI) : FnOk P w K mg base CX0 3 f fd ["book", "thing", "kind"] (spIsKind P w C) := by
  have G_is_name : FnOk P w K mg base CX0 2 fN fdN ["book", "thing"] (spIsName P w C) := ok_isname T D_is_name.fn K_Book D_is_int
  have cl := K_Book.cl
  have n1 := K_Book.na "contents" (by simp)
  refine F.ok sc_is_kind (fun vs H Q E h => ?_) (fun cdv A outer s H vs Q E hr h => ?_)
  · obtain ⟨p, dx, lc, ld, lg, cs, ds, x, a, k, rfl, _⟩ := h
    rfl
  · obtain ⟨p, dx, lc, ld, lg, cs, ds, x, a, k, rfl, B, t, q1, q2⟩ := h
    have ob := B.ob
    have co := B.co
    refine ⟨_,
      (pss_one
        (ps_ret (pe_and (pe_call G_is_name (hr.mono (by omega)) (by rfl) D_is_name.g D_is_name.fn.kp D_is_name.b .nil pass0 (pa_cons (pv 0) (pa_cons (pv 1) pa_nil))) (pe_one (pe_cmpR op_eq (pe_ix (r := rIxT K) ix_tup (pe_ix (r := rIxL K) ix_list (pe_fldK (K := K) rfl (pv 0) rfl) (pv 1) (fun _ _ => rfl)) pe_int (fun _ _ => rfl)) (pv 2) (nomark _))))))
      , ?_⟩
    rw [show L2.start N_is_kind [V.ref p, x, V.str k] = [some (.ref p), some x, some (.str k)] from rfl]
    walk_at "x"
    refine ⟨p, dx, lc, ld, lg, cs, ds, x, a, rfl, B, t, fun n hn hl => ?_, fun hn => ?_⟩
    · subst hn
      have hq := List.getElem?_eq_getElem hl
      generalize cs[n] = q at hq
      obtain ⟨xs, hh⟩ := (B.ct q (List.mem_of_getElem? hq)).head
      have at1 : atI (cs.map fun q => V.ref q.1) (n : Int) = some (.ref q.1) := atI_nat (by rw [List.getElem?_map, hq]; rfl)
      have at0 : atI (V.str q.2.word :: xs) 0 = some (.str q.2.word) := atI_nat (j := 0) rfl
      walk_at "g"
      exact q1 n q rfl hq
    · walk_at "g"
      exact q2 hn
theorem ok_ispair2 {f : Addr} {fd : FuncData} (T : Txt K mg) (F : Fun K "is_pair" "is_pair" s_is_pair f fd) : FnOk P w K mg base CX0 1 f fd ["thing"] spIsPair2 := by
  refine F.ok sc_is_pair (fun vs H Q E h => ?_) (fun cdv A outer s H vs Q E hr h => ?_)
  · obtain ⟨a, x, y, rfl, _⟩ := h
    rfl
  · obtain ⟨a, x, y, rfl, ha, q⟩ := h
    refine ⟨_,
      (pss_one
        (ps_ret (pe_and (pe_callB (r := rIsi K) call_isi (by rfl) T.n_isinstance (by decide +kernel) (pa_cons (pv 0) (pa_cons (pe_bltn (v := .ty "tuple") (u := .type "tuple") (by rfl) T.n_tuple (by decide +kernel) rfl) pa_nil))) (pe_one (pe_cmpR op_eq (pe_callB (r := rLen K) c_len (by rfl) T.n_len (by decide +kernel) (pa_cons (pv 0) pa_nil)) pe_int (nomark _))))))
      , ?_⟩
    rw [show L2.start N_is_pair [V.ref a] = [some (.ref a)] from rfl]
    walk_at "x"
    exact q
theorem ok_isentry {f fN fI fP fL : Addr} {fd fdN fdI fdP fdL : FuncData} (T : Txt K mg) (F : Fun K "is_entry" "is_entry" s_is_entry f fd) (K_Book : Kl K mg "Book" C ["contents", "depths", "given"]) (D_is_name : Df K mg "is_name" s_is_name ["book", "thing"] fN fdN) (D_is_int : DfD K mg "is_int" s_is_int ["thing", "least"] [.int 0] fI fdI) (D_is_pair : Df K mg "is_pair" s_is_pair ["thing"] fP fdP) (D_is_label : Df K mg "is_label" s_is_label ["thing"] fL fdL) : FnOk P w K mg base CX0 3 f fd ["book", "thing"] (spIsEntry P w C) := by
  have G_is_name : FnOk P w K mg base CX0 2 fN fdN ["book", "thing"] (spIsName P w C) := ok_isname T D_is_name.fn K_Book D_is_int
  have G_is_pair : FnOk P w K mg base CX0 1 fP fdP ["thing"] spIsPair2 := ok_ispair2 T D_is_pair.fn
  have G_is_label : FnOk P w K mg base CX0 1 fL fdL ["thing"] spIsLabel := ok_islabel T D_is_label.fn
  have cl := K_Book.cl
  have n1 := K_Book.na "contents" (by simp)
  refine F.ok sc_is_entry (fun vs H Q E h => ?_) (fun cdv A outer s H vs Q E hr h => ?_)
  · obtain ⟨p, dx, lc, ld, lg, e, cs, ds, z, n, q, rfl, _⟩ := h
    rfl
  · obtain ⟨p, dx, lc, ld, lg, e, cs, ds, z, n, q, rfl, B, he, hz, hq, hw, qq⟩ := h
    have he' : H e = some (.tup [.str z, .int (n : Int)]) := he
    refine ⟨_,
      (pss_cons
        (ps_if (PW.pt (pw_or (pt_not (pt_val (pe_call G_is_pair (hr.mono (by omega)) (by rfl) D_is_pair.g D_is_pair.fn.kp D_is_pair.b .nil pass0 (pa_cons (pv 1) pa_nil)))) (pw_or1 (pt_not (pt_val (pe_call G_is_label (hr.mono (by omega)) (by rfl) D_is_label.g D_is_label.fn.kp D_is_label.b .nil pass0 (pa_cons (pe_ix (r := rIxT K) ix_tup (pv 1) pe_int (fun _ _ => rfl)) pa_nil)))))))
          (pss_one
            (ps_ret pe_bl))
          pss_nil)
      (pss_one
        (ps_ret (pe_and (pe_call G_is_name (hr.mono (by omega)) (by rfl) D_is_name.g D_is_name.fn.kp D_is_name.b .nil pass0 (pa_cons (pv 0) (pa_cons (pe_ix (r := rIxT K) ix_tup (pv 1) pe_int (fun _ _ => rfl)) pa_nil))) (pe_one (pe_cmpR op_ne (pe_ix (r := rIxT K) ix_tup (pe_ix (r := rIxL K) ix_list (pe_fldK (K := K) rfl (pv 0) rfl) (pe_ix (r := rIxT K) ix_tup (pv 1) pe_int (fun _ _ => rfl)) (fun _ _ => rfl)) pe_int (fun _ _ => rfl)) pe_str (nomark _)))))))
      , ?_⟩
    rw [show L2.start N_is_entry [V.ref p, V.ref e] = [some (.ref p), some (.ref e)] from rfl]
    refine w_seq ?_
    walk_at "x"
    refine ⟨e, _, _, rfl, he', ?_⟩
    walk_at "g"
    refine ⟨z, rfl, hz, fun H1 k1 => ?_⟩
    have B1 := B.same k1
    have ob1 := B1.ob
    have co1 := B1.co
    have he1 := k1 _ _ he'
    have hl : n < cs.length := (List.getElem?_eq_some_iff.mp hq).1
    obtain ⟨xs, hh⟩ := (B1.ct q (List.mem_of_getElem? hq)).head
    have at1 : atI (cs.map fun q => V.ref q.1) (n : Int) = some (.ref q.1) := atI_nat (by rw [List.getElem?_map, hq]; rfl)
    have at0 : atI (V.str q.2.word :: xs) 0 = some (.str q.2.word) := atI_nat (j := 0) rfl
    walk_at "g"
    refine ⟨p, dx, lc, ld, lg, cs, ds, .int (n : Int), "int", rfl, B1, .int _, fun m hm hml => ?_, fun hm => absurd hl (hm n rfl)⟩
    walk_at "g"
    rw [decide_eq_false hw]
    exact qq _ k1
theorem ok_depth {f : Addr} {fd : FuncData} (T : Txt K mg) (F : Fun K "depth_of" "depth_of" s_depth_of f fd) (K_Book : Kl K mg "Book" C ["contents", "depths", "given"]) : FnOk P w K mg base CX0 1 f fd ["book", "content"] (spDepth C) := by
  have cl := K_Book.cl
  have n2 := K_Book.na "depths" (by simp)
  refine F.ok sc_depth_of (fun vs H Q E h => ?_) (fun cdv A outer s H vs Q E hr h => ?_)
  · obtain ⟨p, dx, lc, ld, lg, a, ds, c, rfl, _⟩ := h
    rfl
  · obtain ⟨p, dx, lc, ld, lg, a, ds, c, rfl, ob, de, hc, ht, q⟩ := h
    refine ⟨_,
      (pss_cons
        (ps_if (pt_cmpR op_ne (pe_ix (r := rIxT K) ix_tup (pv 1) pe_int (fun _ _ => rfl)) pe_str (nomark _))
          (pss_one
            (ps_ret pe_int))
          pss_nil)
      (pss_one
        (ps_ret (pe_op op_add pe_int (pe_callBK (r := rMaxD K) (c_maxD rfl hr.units) (by rfl) T.n_max (by decide +kernel) (pa_cons (pe_lc (own := [("label", 2), ("name", 3)]) (g := (gTup K 2 (gCons (gName 2) (gCons (gName 3) gNil)))) rfl sc_depth_of.nd (pi_tup (pe_ix (r := rIxT K) ix_tup (pv 1) pe_int (fun _ _ => rfl))) (blkOk_by (own := [("label", 2), ("name", 3)]) (N := N_depth_of) (sc := defScope s_depth_of) (by decide +kernel)) (fun _ _ _ _ _ => (pg_tup rfl (pgs_cons (pg_name (i := 2) sc_depth_of.nd rfl (.inl rfl)) (pgs_cons (pg_name (i := 3) sc_depth_of.nd rfl (.inl rfl)) pgs_nil)))) (fun _ _ _ _ _ => pts_nil) (fun _ _ _ _ _ => (pe_ix (r := rIxL K) ix_list (pe_fldK (K := K) rfl (pv 0) rfl) (pv 3) (fun _ _ => rfl)))) pa_nil) (pk_cons pe_int pk_nil))))))
      , ?_⟩
    rw [show L2.start N_depth_of [V.ref p, V.ref a] = [some (.ref p), some (.ref a), none, none] from rfl]
    refine w_seq ?_
    have sm : Same H H := fun _ _ z => z
    cases c with
    | leaf rows =>
      obtain ⟨r, h1, _⟩ := hc
      walk_at "x"
      refine w_nno lit_ne1 ?_
      walk_at "g"
      exact q _ sm
    | ver ps root stamp =>
      obtain ⟨r, h1, _⟩ := hc
      walk_at "x"
      refine w_nno lit_ne6 ?_
      walk_at "g"
      exact q _ sm
    | tree es =>
      obtain ⟨r, qs, h1, h2, rfl, h4⟩ := hc
      obtain ⟨hl20, hin⟩ := ht _ rfl
      rw [List.length_map] at hl20
      walk_at "x"
      refine w_nyes rfl ?_
      walk_at "g"
      refine lcp_map (walk_tup (K := K) (a := r) (xs := qs.map fun q => V.ref q.1)) [] ((qs.map fun q => ds.getD q.2.2 0).map nV) (by simp) (by rw [List.length_map]; omega) (fun H' k => .of (k _ _ (by simp) h2)) ?_ (by simp) ?_
      · rintro i x H1 H2 R hi k1 ⟨rfl, hx⟩ hR
        obtain ⟨z, hz, rfl⟩ := map_at hx
        have hzm := List.mem_of_getElem? hz
        have e1 : H2 z.1 = some (.tup [.str z.2.1, .int (z.2.2 : Int)]) := k1.same _ _ (h4 z hzm)
        have ob1 := k1.same _ _ ob
        have de1 := k1.same _ _ de
        have hlt : z.2.2 < ds.length := hin z.2 (List.mem_map_of_mem hzm)
        have at1 : atI (ds.map nV) (z.2.2 : Int) = some (nV (ds.getD z.2.2 0)) := by
          refine atI_nat ?_
          rw [nV_at hlt, List.getD_eq_getElem?_getD, List.getElem?_eq_getElem hlt]
          rfl
        refine w_gtup (.of e1) rfl (w_gcons (w_name (w_gcons (w_name (w_gnil ⟨rfl, ?_⟩)))))
        walk_at "g"
        refine hR _ _ ?_ Kp.refl
        rw [List.getElem?_map, List.getElem?_map, hz]
        rfl
      · intro L H1 hL k1 eL
        have eL' : H1 L = some (.lst (((qs.map fun q => ds.getD q.2.2 0).map fun n : Nat => (n : Int)).map V.int)) := by rw [List.map_map]; exact eL
        walk_at "g"
        refine w_maxD' (.of eL') (fun e0 => ?_) fun m hm hall => ?_
        · have e1 : qs = [] := by simpa using e0
          subst e1
          walk_at "g"
          exact q _ k1.same
        · obtain ⟨n, hn, rfl⟩ := List.mem_map.mp hm
          walk_at "g"
          have e : depOf ds (.tree (qs.map (·.2))) = 1 + n := by
            show 1 + ((qs.map (·.2)).map fun e => ds.getD e.2 0).foldl max 0 = 1 + n
            rw [List.map_map]
            rw [fold_max n (qs.map ((fun e : Str × Nat => ds.getD e.2 0) ∘ fun q : Addr × Str × Nat => q.2)) 0 (.inr hn) (Nat.zero_le _) fun y hy => by
              have := hall (y : Int) (List.mem_map.mpr ⟨y, hy, rfl⟩)
              omega]
          have := q _ k1.same
          rw [e] at this
          rw [show nV (1 + n) = V.int (1 + (n : Int)) from congrArg V.int (by omega)] at this
          exact this
theorem ok_istree {f fE fR fO fN fI fP fL : Addr} {fd fdE fdR fdO fdN fdI fdP fdL : FuncData} (T : Txt K mg) (F : Fun K "is_tree" "is_tree" s_is_tree f fd) (K_Book : Kl K mg "Book" C ["contents", "depths", "given"]) (D_is_entry : Df K mg "is_entry" s_is_entry ["book", "thing"] fE fdE) (D_rise : Df K mg "rise" s_rise ["row"] fR fdR) (D_depth_of : Df K mg "depth_of" s_depth_of ["book", "content"] fO fdO) (D_is_name : Df K mg "is_name" s_is_name ["book", "thing"] fN fdN) (D_is_int : DfD K mg "is_int" s_is_int ["thing", "least"] [.int 0] fI fdI) (D_is_pair : Df K mg "is_pair" s_is_pair ["thing"] fP fdP) (D_is_label : Df K mg "is_label" s_is_label ["thing"] fL fdL) : FnOk P w K mg base CX0 4 f fd ["book", "entries"] (spIsTree P w C) := by
  have G_is_entry : FnOk P w K mg base CX0 3 fE fdE ["book", "thing"] (spIsEntry P w C) := ok_isentry T D_is_entry.fn K_Book D_is_name D_is_int D_is_pair D_is_label
  have G_rise : FnOk P w K mg base CX0 1 fR fdR ["row"] spRiseS := ok_riseS T D_rise.fn
  have G_depth_of : FnOk P w K mg base CX0 1 fO fdO ["book", "content"] (spDepth C) := ok_depth T D_depth_of.fn K_Book
  obtain ⟨tk_DEEP, g_DEEP⟩ := T.g_DEEP
  refine F.ok sc_is_tree (fun vs H Q E h => ?_) (fun cdv A outer s H vs Q E hr h => ?_)
  · obtain ⟨p, dx, lc, ld, lg, r, cs, ds, qs, rfl, _⟩ := h
    rfl
  · obtain ⟨p, dx, lc, ld, lg, r, cs, ds, qs, rfl, B, hr', hqs, ⟨c1, c2, c3, c4⟩, q⟩ := h
    rw [List.length_map] at c1
    refine ⟨_,
      (pss_cons
        (ps_if (PW.pt (pw_or (pt_not (pt_val (pe_callB (r := rIsi K) call_isi (by rfl) T.n_isinstance (by decide +kernel) (pa_cons (pv 1) (pa_cons (pe_bltn (v := .ty "tuple") (u := .type "tuple") (by rfl) T.n_tuple (by decide +kernel) rfl) pa_nil))))) (pw_or1 (pt_cmpR op_gt (pe_callB (r := rLen K) c_len (by rfl) T.n_len (by decide +kernel) (pa_cons (pv 1) pa_nil)) pe_int (nomark _)))))
          (pss_one
            (ps_ret pe_bl))
          pss_nil)
      (pss_cons
        (ps_if (PW.pt (pw_or (pt_not (pt_val (pe_callB (r := rAll K) (cr_all rfl) (by rfl) T.n_all (by decide +kernel) (pa_cons (pe_lc (own := [("entry", 2)]) (g := (gName 2)) rfl sc_is_tree.nd (pi_tup (pv 1)) (blkOk_by (own := [("entry", 2)]) (N := N_is_tree) (sc := defScope s_is_tree) (by decide +kernel)) (fun _ _ _ _ _ => (pg_name (i := 2) sc_is_tree.nd rfl (.inl rfl))) (fun _ _ _ _ _ => pts_nil) (fun _ _ _ _ _ => (pe_call G_is_entry (hr.mono (by omega)) (by rfl) D_is_entry.g D_is_entry.fn.kp D_is_entry.b .nil pass0 (pa_cons (pv 0) (pa_cons (pv 2) pa_nil))))) pa_nil)))) (pw_or1 (pt_not (pt_val (pe_call G_rise (hr.mono (by omega)) (by rfl) D_rise.g D_rise.fn.kp D_rise.b .nil pass0 (pa_cons (pe_lc (own := [("entry", 2)]) (g := (gName 2)) rfl sc_is_tree.nd (pi_tup (pv 1)) (blkOk_by (own := [("entry", 2)]) (N := N_is_tree) (sc := defScope s_is_tree) (by decide +kernel)) (fun _ _ _ _ _ => (pg_name (i := 2) sc_is_tree.nd rfl (.inl rfl))) (fun _ _ _ _ _ => pts_nil) (fun _ _ _ _ _ => (pe_ix (r := rIxT K) ix_tup (pv 2) pe_int (fun _ _ => rfl)))) pa_nil)))))))
          (pss_one
            (ps_ret pe_bl))
          pss_nil)
      (pss_one
        (ps_ret (pe_cmpR op_le (pe_call G_depth_of (hr.mono (by omega)) (by rfl) D_depth_of.g D_depth_of.fn.kp D_depth_of.b .nil pass0 (pa_cons (pv 0) (pa_cons (pe_tup (pa_cons pe_str (pa_cons (pv 1) pa_nil))) pa_nil))) (pe_glob (v := .int 8) rfl g_DEEP ⟨_, rfl⟩) (nomark _))))))
      , ?_⟩
    rw [show L2.start N_is_tree [V.ref p, V.ref r] = [some (.ref p), some (.ref r), none] from rfl]
    refine w_seq ?_
    walk_at "x"
    refine w_no (by rw [List.length_map]; omega) ?_
    walk_at "g"
    refine w_seq ?_
    walk_at "g"
    refine lcp_map (walk_tup (K := K) (a := r) (xs := qs.map fun q => V.ref q.1)) [] ((qs.map fun _ => true).map V.bl) (by simp) (by rw [List.length_map]; omega) (fun H' k => .of (k _ _ (by simp) hr')) ?_ (by simp) ?_
    · rintro i x H1 H2 R hi k1 ⟨rfl, hx⟩ hR
      obtain ⟨z, hz, rfl⟩ := map_at hx
      have hzm := List.mem_of_getElem? hz
      obtain ⟨g1, c, g2, g3⟩ := c2 z.2 (List.mem_map_of_mem hzm)
      rw [List.getElem?_map] at g2
      obtain ⟨q', hq', rfl⟩ := Option.map_eq_some_iff.mp g2
      refine w_name ⟨rfl, ?_⟩
      walk_at "g"
      refine ⟨p, dx, lc, ld, lg, z.1, cs, ds, z.2.1, z.2.2, q', rfl, B.same k1.same, k1.same _ _ (hqs z hzm), g1, hq', g3, fun H3 k3 => ?_⟩
      refine hR _ _ ?_ (Kp.of k3)
      rw [List.getElem?_map, List.getElem?_map, hz]
      rfl
    · intro L H1 hL k1' eL
      have k1 := k1'.same
      have hr1 := k1 _ _ hr'
      walk_at "g"
      rw [show (qs.map fun _ => true).all id = true by simp]
      walk_at "g"
      refine lcp_map (walk_tup (K := K) (a := r) (xs := qs.map fun q => V.ref q.1)) [] ((qs.map fun q => q.2.1).map V.str) (by simp) (by rw [List.length_map]; omega) (fun H' k => .of (k _ _ (by simp) hr1)) ?_ (by simp) ?_
      · rintro i x H2 H3 R hi k2 ⟨rfl, hx⟩ hR
        obtain ⟨z, hz, rfl⟩ := map_at hx
        have hzm := List.mem_of_getElem? hz
        have e1 : H3 z.1 = some (.tup [.str z.2.1, .int (z.2.2 : Int)]) := k2.same _ _ (k1 _ _ (hqs z hzm))
        refine w_name ⟨rfl, ?_⟩
        walk_at "g"
        refine hR _ _ ?_ Kp.refl
        rw [List.getElem?_map, List.getElem?_map, hz]
        rfl
      · intro L2' H2 hL2 k2' eL2
        have k2 := k2'.same
        walk_at "g"
        refine ⟨L2', qs.map fun q => q.2.1, rfl, eL2, by rw [List.length_map]; omega, ?_, fun H3 k3 => ?_⟩
        · rw [List.pairwise_map] at c3 ⊢
          exact c3
        walk_at "g"
        refine w_new fun t H4 ht e4 k4 => ?_
        have k04 : Same H H4 := Same.trans k1 (Same.trans k2 (Same.trans k3 k4))
        walk_at "g"
        refine ⟨p, dx, lc, ld, lg, t, ds, .tree (qs.map (·.2)), rfl, k04 _ _ B.ob, k04 _ _ B.de, ⟨r, qs, e4, k04 _ _ hr', rfl, fun z hz => k04 _ _ (hqs z hz)⟩, fun es e => ?_, fun H5 k5 => ?_⟩
        · cases e
          refine ⟨by rw [List.length_map]; exact c1, fun z hz => ?_⟩
          obtain ⟨_, c, g2, _⟩ := c2 z hz
          have := (List.getElem?_eq_some_iff.mp g2).1
          rw [B.dl]
          rwa [List.length_map] at this
        walk_at "g"
        rw [decide_eq_true (by omega)]
        exact q _ (Same.trans k04 k5)
theorem ok_isversion {f fG fA fR fK fN fI : Addr} {fd fdG fdA fdR fdK fdN fdI : FuncData} (T : Txt K mg) (F : Fun K "is_version" "is_version" s_is_version f fd) (K_Book : Kl K mg "Book" C ["contents", "depths", "given"]) (D_rising_ints : Df K mg "rising_ints" s_rising_ints ["thing"] fG fdG) (D_are_ints : Df K mg "are_ints" s_are_ints ["thing"] fA fdA) (D_rise : Df K mg "rise" s_rise ["row"] fR fdR) (D_is_kind : Df K mg "is_kind" s_is_kind ["book", "thing", "kind"] fK fdK) (D_is_name : Df K mg "is_name" s_is_name ["book", "thing"] fN fdN) (D_is_int : DfD K mg "is_int" s_is_int ["thing", "least"] [.int 0] fI fdI) : FnOk P w K mg base CX0 4 f fd ["book", "content"] (spIsVersion P w C) := by
  obtain ⟨ds_is_int, V_is_int, B_is_int⟩ := D_is_int.b
  have G_is_int : FnOk P w K mg base CX0 1 fI fdI ["thing", "least"] spIsInt := ok_isint T D_is_int
  have G_rising_ints : FnOk P w K mg base CX0 3 fG fdG ["thing"] spRisingInts := ok_risingints T D_rising_ints.fn D_are_ints D_rise D_is_int
  have G_is_kind : FnOk P w K mg base CX0 3 fK fdK ["book", "thing", "kind"] (spIsKind P w C) := ok_iskind T D_is_kind.fn K_Book D_is_name D_is_int
  refine F.ok sc_is_version (fun vs H Q E h => ?_) (fun cdv A outer s H vs Q E hr h => ?_)
  · obtain ⟨p, dx, lc, ld, lg, a, cs, ds, ps, root, stamp, rfl, _⟩ := h
    rfl
  · obtain ⟨p, dx, lc, ld, lg, a, cs, ds, ps, root, stamp, rfl, B, ⟨r, h1, h2⟩, ⟨c1, c2, c3, ⟨cr, c4, c5⟩, c6⟩, q⟩ := h
    refine ⟨_,
      (pss_cons
        (ps_set (i := 2) sc_is_version.nd rfl (.inl rfl) (pe_ix (r := rIxT K) ix_tup (pv 1) pe_int (fun _ _ => rfl)))
      (pss_cons
        (ps_if (PW.pt (pw_or (pt_not (pt_val (pe_call G_rising_ints (hr.mono (by omega)) (by rfl) D_rising_ints.g D_rising_ints.fn.kp D_rising_ints.b .nil pass0 (pa_cons (pv 2) pa_nil)))) (pw_or1 (pt_cmpR op_gt (pe_callB (r := rLen K) c_len (by rfl) T.n_len (by decide +kernel) (pa_cons (pv 2) pa_nil)) pe_int (nomark _)))))
          (pss_one
            (ps_ret pe_bl))
          pss_nil)
      (pss_cons
        (ps_if (PW.pt (pw_or (pt_not (pt_val (pe_callB (r := rAll K) (cr_all rfl) (by rfl) T.n_all (by decide +kernel) (pa_cons (pe_lc (own := [("parent", 3)]) (g := (gName 3)) rfl sc_is_version.nd (pi_tup (pv 2)) (blkOk_by (own := [("parent", 3)]) (N := N_is_version) (sc := defScope s_is_version) (by decide +kernel)) (fun _ _ _ _ _ => (pg_name (i := 3) sc_is_version.nd rfl (.inl rfl))) (fun _ _ _ _ _ => pts_nil) (fun _ _ _ _ _ => (pe_call G_is_kind (hr.mono (by omega)) (by rfl) D_is_kind.g D_is_kind.fn.kp D_is_kind.b .nil pass0 (pa_cons (pv 0) (pa_cons (pv 3) (pa_cons pe_str pa_nil)))))) pa_nil)))) (pw_or1 (pt_not (pt_val (pe_call G_is_kind (hr.mono (by omega)) (by rfl) D_is_kind.g D_is_kind.fn.kp D_is_kind.b .nil pass0 (pa_cons (pv 0) (pa_cons (pe_ix (r := rIxT K) ix_tup (pv 1) pe_int (fun _ _ => rfl)) (pa_cons pe_str pa_nil)))))))))
          (pss_one
            (ps_ret pe_bl))
          pss_nil)
      (pss_one
        (ps_ret (pe_and (pe_call G_is_int (hr.mono (by omega)) (by rfl) D_is_int.g D_is_int.kp B_is_int V_is_int pass0 (pa_cons (pe_ix (r := rIxT K) ix_tup (pv 1) pe_int (fun _ _ => rfl)) pa_nil)) (pe_one (pe_cmpR op_le (pe_ix (r := rIxT K) ix_tup (pv 1) pe_int (fun _ _ => rfl)) (pe_op op_pow pe_int pe_int) (nomark _)))))))))
      , ?_⟩
    rw [show L2.start N_is_version [V.ref p, V.ref a] = [some (.ref p), some (.ref a), none, none] from rfl]
    walk_at "x"
    refine w_seq ?_
    walk_at "g"
    have dat : DatT 10 H (.ref r) := .tup h2 (by rw [List.length_map]; omega) fun y hy => by
      obtain ⟨n, _, rfl⟩ := List.mem_map.mp hy
      exact .leaf (.int _) (by decide) fun z e => by cases e
    refine ⟨.ref r, 10, rfl, dat, by decide, fun ns hns hp H1 k1 => ?_, fun hn => absurd c1 (hn ps ⟨r, rfl, h2⟩)⟩
    have h11 := k1 _ _ h1
    have h21 := k1 _ _ h2
    walk_at "g"
    refine w_no (by rw [List.length_map]; omega) ?_
    walk_at "g"
    refine w_seq ?_
    walk_at "g"
    refine lcp_map (walk_tup (K := K) (a := r) (xs := ps.map nV)) [] ((ps.map fun _ => true).map V.bl) (by simp) (by rw [List.length_map]; omega) (fun H' k => .of (k _ _ (by simp) h21)) ?_ (by simp) ?_
    · rintro i x H2 H3 R hi k2 ⟨rfl, hx⟩ hR
      obtain ⟨n, hn, rfl⟩ := map_at hx
      obtain ⟨c, g2, g3⟩ := c3 n (List.mem_of_getElem? hn)
      rw [List.getElem?_map] at g2
      obtain ⟨q', hq', rfl⟩ := Option.map_eq_some_iff.mp g2
      have hl : n < cs.length := (List.getElem?_eq_some_iff.mp hq').1
      refine w_name ⟨rfl, ?_⟩
      walk_at "g"
      refine ⟨p, dx, lc, ld, lg, cs, ds, nV n, "int", "version", rfl, (B.same k1).same k2.same, .int _, fun m qm em hm => ?_, fun hm => absurd hl (hm n rfl)⟩
      have en : n = m := by have : (n : Int) = m := V.int.inj em; omega
      subst en
      rw [hq'] at hm
      cases hm
      rw [decide_eq_true g3]
      refine hR _ _ ?_ Kp.refl
      rw [List.getElem?_map, List.getElem?_map, hn]
      rfl
    · intro L H2 hL k2' eL
      have k2 := k2'.same
      have h12 := k2 _ _ h11
      rw [List.getElem?_map] at c4
      obtain ⟨q', hq', rfl⟩ := Option.map_eq_some_iff.mp c4
      have hl : root < cs.length := (List.getElem?_eq_some_iff.mp hq').1
      walk_at "g"
      rw [show (ps.map fun _ => true).all id = true by simp]
      walk_at "g"
      refine ⟨p, dx, lc, ld, lg, cs, ds, nV root, "int", "tree", rfl, (B.same k1).same k2, .int _, fun m qm em hm => ?_, fun hm => absurd hl (hm root rfl)⟩
      have en : root = m := by have : (root : Int) = m := V.int.inj em; omega
      subst en
      rw [hq'] at hm
      cases hm
      rw [decide_eq_true c5]
      walk_at "g"
      refine ⟨nV stamp, "int", rfl, .int _, fun m em => ?_, fun hm => absurd rfl (hm stamp)⟩
      walk_at "g"
      rw [decide_eq_true (by rw [show (10 : Int) ^ Int.toNat 18 = 1000000000000000000 by decide]; omega)]
      exact q _ (Same.trans k1 k2)
end
section
variable {P : Program} {w : World} {K : PySem.W.Frag} {mg : Str → Option Value} {base : Heap} {C : Addr}
theorem ok_iscontent {f fT fV fO fW fE fR fP fL fG fA fK fN fI fX : Addr} {fd fdT fdV fdO fdW fdE fdR fdP fdL fdG fdA fdK fdN fdI fdX : FuncData} (T : Txt K mg) (F : Fun K "is_content" "is_content" s_is_content f fd) (K_Book : Kl K mg "Book" C ["contents", "depths", "given"]) (D_is_tree : Df K mg "is_tree" s_is_tree ["book", "entries"] fT fdT) (D_is_version : Df K mg "is_version" s_is_version ["book", "content"] fV fdV) (D_depth_of : Df K mg "depth_of" s_depth_of ["book", "content"] fO fdO) (D_are_rows : Df K mg "are_rows" s_are_rows ["thing"] fW fdW) (D_is_entry : Df K mg "is_entry" s_is_entry ["book", "thing"] fE fdE) (D_rise : Df K mg "rise" s_rise ["row"] fR fdR) (D_is_pair : Df K mg "is_pair" s_is_pair ["thing"] fP fdP) (D_is_label : Df K mg "is_label" s_is_label ["thing"] fL fdL) (D_rising_ints : Df K mg "rising_ints" s_rising_ints ["thing"] fG fdG) (D_are_ints : Df K mg "are_ints" s_are_ints ["thing"] fA fdA) (D_is_kind : Df K mg "is_kind" s_is_kind ["book", "thing", "kind"] fK fdK) (D_is_name : Df K mg "is_name" s_is_name ["book", "thing"] fN fdN) (D_is_int : DfD K mg "is_int" s_is_int ["thing", "least"] [.int 0] fI fdI) (D_is_text : DfD K mg "is_text" s_is_text ["thing", "most"] [.int 40] fX fdX) : FnOk P w K mg base CX0 5 f fd ["book", "thing"] (spIsContent P w C) := by
  have G_is_tree : FnOk P w K mg base CX0 4 fT fdT ["book", "entries"] (spIsTree P w C) := ok_istree T D_is_tree.fn K_Book D_is_entry D_rise D_depth_of D_is_name D_is_int D_is_pair D_is_label
  have G_is_version : FnOk P w K mg base CX0 4 fV fdV ["book", "content"] (spIsVersion P w C) := ok_isversion T D_is_version.fn K_Book D_rising_ints D_are_ints D_rise D_is_kind D_is_name D_is_int
  have G_are_rows : FnOk P w K mg base CX0 2 fW fdW ["thing"] spAreRows := ok_arerows T D_are_rows.fn D_is_text
  refine F.ok sc_is_content (fun vs H Q E h => ?_) (fun cdv A outer s H vs Q E hr h => ?_)
  · obtain ⟨p, dx, lc, ld, lg, a, cs, ds, c, rfl, _⟩ := h
    rfl
  · obtain ⟨p, dx, lc, ld, lg, a, cs, ds, c, rfl, B, hc, ok, q⟩ := h
    refine ⟨_,
      (pss_cons
        (ps_if (PW.pt (pw_or (pt_not (pt_val (pe_callB (r := rIsi K) call_isi (by rfl) T.n_isinstance (by decide +kernel) (pa_cons (pv 1) (pa_cons (pe_bltn (v := .ty "tuple") (u := .type "tuple") (by rfl) T.n_tuple (by decide +kernel) rfl) pa_nil))))) (pw_or (pt_cmpR op_lt (pe_callB (r := rLen K) c_len (by rfl) T.n_len (by decide +kernel) (pa_cons (pv 1) pa_nil)) pe_int (nomark _)) (pw_or1 (pt_not (pt_val (pe_callB (r := rIsi K) call_isi (by rfl) T.n_isinstance (by decide +kernel) (pa_cons (pe_ix (r := rIxT K) ix_tup (pv 1) pe_int (fun _ _ => rfl)) (pa_cons (pe_bltn (v := .ty "str") (u := .type "str") (by rfl) T.n_str (by decide +kernel) rfl) pa_nil)))))))))
          (pss_one
            (ps_ret pe_bl))
          pss_nil)
      (pss_cons
        (ps_if (pt_cmpR op_eq (pe_ix (r := rIxT K) ix_tup (pv 1) pe_int (fun _ _ => rfl)) pe_str (nomark _))
          (pss_one
            (ps_ret (pe_and (pe_cmpR op_eq (pe_callB (r := rLen K) c_len (by rfl) T.n_len (by decide +kernel) (pa_cons (pv 1) pa_nil)) pe_int (nomark _)) (pe_one (pe_call G_are_rows (hr.mono (by omega)) (by rfl) D_are_rows.g D_are_rows.fn.kp D_are_rows.b .nil pass0 (pa_cons (pe_ix (r := rIxT K) ix_tup (pv 1) pe_int (fun _ _ => rfl)) pa_nil))))))
          pss_nil)
      (pss_cons
        (ps_if (pt_cmpR op_eq (pe_ix (r := rIxT K) ix_tup (pv 1) pe_int (fun _ _ => rfl)) pe_str (nomark _))
          (pss_one
            (ps_ret (pe_and (pe_cmpR op_eq (pe_callB (r := rLen K) c_len (by rfl) T.n_len (by decide +kernel) (pa_cons (pv 1) pa_nil)) pe_int (nomark _)) (pe_one (pe_call G_is_tree (hr.mono (by omega)) (by rfl) D_is_tree.g D_is_tree.fn.kp D_is_tree.b .nil pass0 (pa_cons (pv 0) (pa_cons (pe_ix (r := rIxT K) ix_tup (pv 1) pe_int (fun _ _ => rfl)) pa_nil)))))))
          pss_nil)
      (pss_one
        (ps_ret (pe_and (pe_cmpR op_eq (pe_ix (r := rIxT K) ix_tup (pv 1) pe_int (fun _ _ => rfl)) pe_str (nomark _)) (pe_and (pe_cmpR op_eq (pe_callB (r := rLen K) c_len (by rfl) T.n_len (by decide +kernel) (pa_cons (pv 1) pa_nil)) pe_int (nomark _)) (pe_one (pe_call G_is_version (hr.mono (by omega)) (by rfl) D_is_version.g D_is_version.fn.kp D_is_version.b .nil pass0 (pa_cons (pv 0) (pa_cons (pv 1) pa_nil)))))))))))
      , ?_⟩
    rw [show L2.start N_is_content [V.ref p, V.ref a] = [some (.ref p), some (.ref a)] from rfl]
    refine w_seq ?_
    cases c with
    | leaf rows =>
      obtain ⟨r, h1, h2⟩ := hc
      walk_at "x"
      refine w_no (by simp only [List.length_cons, List.length_nil]; omega) ?_
      walk_at "g"
      refine w_seq ?_
      walk_at "g"
      refine w_yes rfl ?_
      walk_at "g"
      refine w_yes rfl ?_
      walk_at "g"
      refine ⟨r, rows, rfl, h2, ok.1, ok.2, q⟩
    | tree es =>
      obtain ⟨r, qs, h1, h2, rfl, h4⟩ := hc
      walk_at "x"
      refine w_no (by simp only [List.length_cons, List.length_nil]; omega) ?_
      walk_at "g"
      refine w_seq ?_
      walk_at "g"
      refine w_no lit_ne4 ?_
      walk_at "g"
      refine w_seq ?_
      walk_at "g"
      refine w_yes rfl ?_
      walk_at "g"
      refine w_yes rfl ?_
      walk_at "g"
      refine ⟨p, dx, lc, ld, lg, r, cs, ds, qs, rfl, B, h2, h4, ok, q⟩
    | ver ps root stamp =>
      have hc' := hc
      obtain ⟨r, h1, h2⟩ := hc
      walk_at "x"
      refine w_no (by simp only [List.length_cons, List.length_nil]; omega) ?_
      walk_at "g"
      refine w_seq ?_
      walk_at "g"
      refine w_no lit_ne5 ?_
      walk_at "g"
      refine w_seq ?_
      walk_at "g"
      refine w_no lit_ne6 ?_
      walk_at "g"
      refine w_yes rfl ?_
      walk_at "g"
      refine w_yes rfl ?_
      walk_at "g"
      refine ⟨p, dx, lc, ld, lg, a, cs, ds, ps, root, stamp, rfl, B, hc', ok, q⟩
theorem ok_bookinit {f : Addr} {fd : FuncData} (T : Txt K mg) (F : Fun K "__init__" "Book.__init__" s_Book___init__ f fd) (K_Book : Kl K mg "Book" C ["contents", "depths", "given"]) : FnOk P w K mg base CX0 1 f fd ["self"] (spBookInit P w C) := by
  have cl := K_Book.cl
  have n1 := K_Book.na "contents" (by simp)
  have n2 := K_Book.na "depths" (by simp)
  have n3 := K_Book.na "given" (by simp)
  refine F.ok sc_Book___init__ (fun vs H Q E h => ?_) (fun cdv A outer s H vs Q E hr h => ?_)
  · obtain ⟨p, dx, rfl, _⟩ := h
    rfl
  · obtain ⟨p, dx, rfl, hp, q⟩ := h
    refine ⟨_,
      (pss_cons
        (ps_fld (pv 0) (pe_lst pa_nil) rfl)
      (pss_cons
        (ps_fld (pv 0) (pe_lst pa_nil) rfl)
      (pss_one
        (ps_fld (pv 0) pe_nnew rfl))))
      , ?_⟩
    rw [show L2.start N_Book___init__ [V.ref p] = [some (.ref p)] from rfl]
    walk_at "x"
    refine w_new fun lc H1 hlc e1 k1 => ?_
    have hp1 := k1 _ _ hp
    walk_at "g"
    refine w_fldS' hp1 cl n1 (by decide) fun H2 o2 f2 => ?_
    have nlc : lc ≠ p := (ne_of_none hp hlc).symm
    walk_at "g"
    refine w_new fun ld H3 hld e3 k3 => ?_
    have o3 := k3 _ _ o2
    have nld : ld ≠ p := (ne_of_none o2 hld).symm
    have hld1 : H1 ld = none := by rw [← f2 ld nld]; exact hld
    walk_at "g"
    refine w_fldS' o3 cl n2 (show (1 : Nat) < 1000 by decide) fun H4 o4 f4 => ?_
    walk_at "g"
    refine w_nnew fun lg H5 hlg d5 k5 => ?_
    have o5 := k5 _ _ o4
    have nlg : lg ≠ p := (ne_of_none o4 hlg).symm
    have hlg3 : H3 lg = none := by rw [← f4 lg nlg]; exact hlg
    walk_at "g"
    refine w_fldS' o5 cl n3 (show (2 : Nat) < 1000 by decide) fun H6 o6 f6 => ?_
    have e2 := f2.get nlc e1
    have ndc : lc ≠ ld := ne_of_none e2 hld
    have e6 : H6 lc = some (.lst []) := f6.get nlc (k5 _ _ (f4.get nlc (k3 _ _ e2)))
    have e6d : H6 ld = some (.lst []) := f6.get nld (k5 _ _ (f4.get nld e3))
    have d6 : NDict P w H6 lg [] := ⟨f6.get nlg d5.at', fun q hq => by cases hq⟩
    have hld0 : H ld = none := by
      cases e : H ld with
      | none => rfl
      | some o => rw [k1 _ _ e] at hld1; cases hld1
    have hlg0 : H lg = none := by
      cases e : H lg with
      | none => rfl
      | some o =>
        have := k3 _ _ (f2.get nlg (k1 _ _ e))
        rw [this] at hlg3
        cases hlg3
    refine q lc ld lg H6 hlc hld0 hlg0 ⟨o6, e6, e6d, d6, by simp, by simp, rfl, ndc, by simp⟩ fun b o hb e => ?_
    have hb' : b ≠ p := by simpa using hb
    exact f6.get hb' (k5 _ _ (f4.get hb' (k3 _ _ (f2.get hb' (k1 _ _ e)))))
theorem ok_thing {f fN fI : Addr} {fd fdN fdI : FuncData} (T : Txt K mg) (F : Fun K "thing" "Book.thing" s_Book_thing f fd) (K_Book : Kl K mg "Book" C ["contents", "depths", "given"]) (D_is_name : Df K mg "is_name" s_is_name ["book", "thing"] fN fdN) (D_is_int : DfD K mg "is_int" s_is_int ["thing", "least"] [.int 0] fI fdI) : FnOk P w K mg base CX0 3 f fd ["self", "name"] (spThing P w C) := by
  have G_is_name : FnOk P w K mg base CX0 2 fN fdN ["book", "thing"] (spIsName P w C) := ok_isname T D_is_name.fn K_Book D_is_int
  have cl := K_Book.cl
  have n1 := K_Book.na "contents" (by simp)
  refine F.ok sc_Book_thing (fun vs H Q E h => ?_) (fun cdv A outer s H vs Q E hr h => ?_)
  · obtain ⟨p, dx, lc, ld, lg, cs, ds, n, q, rfl, _⟩ := h
    rfl
  · obtain ⟨p, dx, lc, ld, lg, cs, ds, n, qc, rfl, B, hq, q⟩ := h
    have ob := B.ob
    have co := B.co
    have hl : n < cs.length := (List.getElem?_eq_some_iff.mp hq).1
    have at1 : atI (cs.map fun q => V.ref q.1) (n : Int) = some (.ref qc.1) := atI_nat (by rw [List.getElem?_map, hq]; rfl)
    refine ⟨_,
      (pss_cons
        (ps_if (pt_not (pt_val (pe_call G_is_name (hr.mono (by omega)) (by rfl) D_is_name.g D_is_name.fn.kp D_is_name.b .nil pass0 (pa_cons (pv 0) (pa_cons (pv 1) pa_nil)))))
          pss_never
          pss_nil)
      (pss_one
        (ps_ret (pe_ix (r := rIxL K) ix_list (pe_fldK (K := K) rfl (pv 0) rfl) (pv 1) (fun _ _ => rfl)))))
      , ?_⟩
    rw [show L2.start N_Book_thing [V.ref p, nV n] = [some (.ref p), some (.int (n : Int))] from rfl]
    refine w_seq ?_
    walk_at "x"
    refine ⟨p, dx, lc, ld, lg, cs, ds, nV n, "int", rfl, B, .int _, fun m _ _ => ?_, fun hm => absurd hl (hm n rfl)⟩
    walk_at "g"
    exact q
theorem ok_named {f fC fO : Addr} {fd fdC fdO : FuncData} (T : Txt K mg) (F : Fun K "named" "Book.named" s_Book_named f fd) (K_Book : Kl K mg "Book" C ["contents", "depths", "given"]) (D_is_content : Df K mg "is_content" s_is_content ["book", "thing"] fC fdC) (D_depth_of : Df K mg "depth_of" s_depth_of ["book", "content"] fO fdO) (G_is_content : FnOk P w K mg base CX0 5 fC fdC ["book", "thing"] (spIsContent P w C)) : FnOk P w K mg base CX0 6 f fd ["self", "content"] (spNamed P w C) := by
  have G_depth_of : FnOk P w K mg base CX0 1 fO fdO ["book", "content"] (spDepth C) := ok_depth T D_depth_of.fn K_Book
  obtain ⟨tk_MOST, g_MOST⟩ := T.g_MOST
  have cl := K_Book.cl
  have n1 := K_Book.na "contents" (by simp)
  have n2 := K_Book.na "depths" (by simp)
  have n3 := K_Book.na "given" (by simp)
  refine F.ok sc_Book_named (fun vs H Q E h => ?_) (fun cdv A outer s H vs Q E hr h => ?_)
  · obtain ⟨p, dx, lc, ld, lg, a, cs, ds, c, rfl, _⟩ := h
    rfl
  · obtain ⟨p, dx, lc, ld, lg, a, cs, ds, c, rfl, B, hc, ok, hlt, q1, q2⟩ := h
    refine ⟨_,
      (pss_cons
        (ps_if (pt_not (pt_val (pe_call G_is_content (hr.mono (by omega)) (by rfl) D_is_content.g D_is_content.fn.kp D_is_content.b .nil pass0 (pa_cons (pv 0) (pa_cons (pv 1) pa_nil)))))
          pss_never
          pss_nil)
      (pss_cons
        (ps_if (pt_cmp (pc_nin hr.units (pv 1) (pe_fldK (K := K) rfl (pv 0) rfl)))
          (pss_one
            (ps_ret (pe_nget hr.units (pe_fldK (K := K) rfl (pv 0) rfl) (pv 1) (fun _ _ => rfl))))
          pss_nil)
      (pss_cons
        (ps_if (pt_cmpR op_ge (pe_callB (r := rLen K) c_len (by rfl) T.n_len (by decide +kernel) (pa_cons (pe_fldK (K := K) rfl (pv 0) rfl) pa_nil)) (pe_glob (v := .int 400) rfl g_MOST ⟨_, rfl⟩) (nomark _))
          pss_never
          pss_nil)
      (pss_cons
        (ps_nput hr.units (pe_fldK (K := K) rfl (pv 0) rfl) (pv 1) (pe_callB (r := rLen K) c_len (by rfl) T.n_len (by decide +kernel) (pa_cons (pe_fldK (K := K) rfl (pv 0) rfl) pa_nil)) rfl)
      (pss_cons
        (ps_expr (pe_bm PySem.F.plainAttrs_list PySem.F.slot_list_append PySem.F.type_list_append mt_append (pe_fldK (K := K) rfl (pv 0) rfl) (pa_cons (pv 1) pa_nil)))
      (pss_cons
        (ps_expr (pe_bm PySem.F.plainAttrs_list PySem.F.slot_list_append PySem.F.type_list_append mt_append (pe_fldK (K := K) rfl (pv 0) rfl) (pa_cons (pe_call G_depth_of (hr.mono (by omega)) (by rfl) D_depth_of.g D_depth_of.fn.kp D_depth_of.b .nil pass0 (pa_cons (pv 0) (pa_cons (pv 1) pa_nil))) pa_nil)))
      (pss_one
        (ps_ret (pe_op op_sub (pe_callB (r := rLen K) c_len (by rfl) T.n_len (by decide +kernel) (pa_cons (pe_fldK (K := K) rfl (pv 0) rfl) pa_nil)) pe_int)))))))))
      , ?_⟩
    rw [show L2.start N_Book_named [V.ref p, V.ref a] = [some (.ref p), some (.ref a)] from rfl]
    refine w_seq ?_
    walk_at "x"
    refine ⟨p, dx, lc, ld, lg, a, cs, ds, c, rfl, B, hc, ok, fun H1 k1 => ?_⟩
    have B1 := B.same k1
    have hc1 := hc.kt (KT.of k1)
    have ob1 := B1.ob
    have co1 := B1.co
    have de1 := B1.de
    walk_at "g"
    refine w_seq ?_
    walk_at "g"
    refine w_nin' B1.gi hc1.nk c.key_depth ?_
    walk_at "g"
    by_cases hin : ∀ q ∈ cs, q.2 ≠ c
    · have hlt := hlt.resolve_right fun z => z hin
      rw [ents_none cs 0 hin, Option.isSome_none]
      walk_at "g"
      refine w_seq ?_
      walk_at "g"
      refine w_no (by rw [List.length_map]; omega) ?_
      walk_at "g"
      refine w_nput' B1.gi hc1.nk c.key_depth (by rw [entsF_len]; exact small1kl (by omega)) fun H2 d2 o2 => ?_
      have t2 : KT H1 H2 := fun b ys e => o2.get (ne_of e B1.gi.at' (fun z => nomatch z)) e
      have nlc : lc ≠ lg := ne_of co1 B1.gi.at' (fun z => nomatch z)
      have nld : ld ≠ lg := ne_of de1 B1.gi.at' (fun z => nomatch z)
      have npg : p ≠ lg := ne_of ob1 B1.gi.at' (fun z => nomatch z)
      have npc : p ≠ lc := ne_of ob1 co1 (fun z => nomatch z)
      have npd : p ≠ ld := ne_of ob1 de1 (fun z => nomatch z)
      have co2 := o2.get nlc co1
      have de2 := o2.get nld de1
      have ob2 := o2.get npg ob1
      have ep : NPut (entsF 0 cs) c.key a (V.int ((cs.map fun q => V.ref q.1).length : Int)) = entsF 0 (cs ++ [(a, c)]) := by
        unfold NPut
        rw [ents_none cs 0 hin, entsF_snoc, List.length_map, Nat.zero_add]
        rfl
      rw [ep] at d2
      walk_at "g"
      refine w_app co2 (by rw [List.length_map]; exact small1kl (by omega)) fun H3 e3 o3 => ?_
      have t3 : KT H2 H3 := KT.off o3 co2
      have de3 := o3.get B1.ne.symm de2
      have ob3 := o3.get npc ob2
      walk_at "g"
      have kt13 := t2.trans t3
      have ct3 : ∀ q ∈ cs ++ [(a, c)], CtAt H3 q.1 q.2 := fun q hq => by
        rcases List.mem_append.mp hq with h | h
        · exact (B1.ct q h).kt kt13
        · have e : q = (a, c) := by simpa using h
          subst e
          exact hc1.kt kt13
      refine ⟨p, dx, lc, ld, lg, a, ds, c, rfl, ob3, de3, hc1.kt kt13, fun es e => ?_, fun H4 k4 => ?_⟩
      · subst e
        refine ⟨ok.1, fun z hz => ?_⟩
        obtain ⟨_, c', g2, _⟩ := ok.2.1 z hz
        have := (List.getElem?_eq_some_iff.mp g2).1
        rw [B.dl]
        rwa [List.length_map] at this
      have de4 := k4 _ _ de3
      walk_at "g"
      refine w_app de4 (by rw [List.length_map, B.dl]; exact small1kl (by omega)) fun H5 e5 o5 => ?_
      have t5 : KT H4 H5 := KT.off o5 de4
      have ob5 := o5.get npd (k4 _ _ ob3)
      have co5 := o5.get B1.ne (k4 _ _ e3)
      have d5 : NDict P w H5 lg (entsF 0 (cs ++ [(a, c)])) := ((d2.kp (M := [lc]) (o3.kp (by simp)) t3 (by simpa using nlc.symm)).kp (M := []) (Kp.of k4) (KT.of k4) (by simp)).kp (M := [ld]) (o5.kp (by simp)) t5 (by simpa using nld.symm)
      have kt15 : KT H1 H5 := kt13.trans ((KT.of k4).trans t5)
      walk_at "g"
      have hlen : ((cs.map fun q => V.ref q.1) ++ [V.ref a]).length = cs.length + 1 := by rw [List.length_append, List.length_map]; rfl
      rw [hlen, show (((cs.length + 1 : Nat) : Int) - 1) = (cs.length : Int) by omega]
      refine q2 hin H5 ⟨ob5, by rw [co5, List.map_append]; rfl, by rw [e5, List.map_append]; rfl, d5, fun q hq => (ct3 q hq).kt ((KT.of k4).trans t5), ?_, by rw [List.length_append, List.length_append, B.dl]; rfl, B.ne, by rw [List.length_append]; simp only [List.length_cons, List.length_nil]; omega⟩ ?_ ((KT.of k1).trans kt15)
      · rw [List.map_append, List.nodup_append]
        refine ⟨B.nd, by simp, fun x hx y hy e => ?_⟩
        obtain ⟨z, hz, rfl⟩ := List.mem_map.mp hx
        have e' : y = c := by simpa using hy
        rw [e'] at e
        exact hin z hz e
      · intro b o hb e
        simp only [List.mem_cons, List.not_mem_nil, or_false, not_or] at hb
        exact o5.get hb.2.1 (k4 _ _ (o3.get hb.1 (o2.get hb.2.2 (k1 _ _ e))))
    · obtain ⟨z, hz, ez⟩ : ∃ q ∈ cs, q.2 = c := by
        refine Classical.byContradiction fun h => hin fun q hq e => h ⟨q, hq, e⟩
      obtain ⟨j, hj, ej⟩ := List.getElem_of_mem hz
      have hj' : cs[j]? = some (z.1, c) := by rw [List.getElem?_eq_getElem hj, ej, ← ez]
      have ev := ents_some cs 0 j B.nd hj'
      rw [Nat.zero_add] at ev
      rw [ev, Option.isSome_some]
      walk_at "g"
      refine w_nget' B1.gi hc1.nk c.key_depth ev ?_
      exact q1 j z.1 H1 hj' k1
end
def HereAt (H : Hp) (d : Addr) (hs : List Nat) : Prop := ∃ kvs, H d = some (.dK kvs) ∧ ∀ n : Nat, (valV kvs (Sum.inl (n : Int))).isSome = decide (n ∈ hs)
structure ViewAt (P : Program) (w : World) (C CH : Addr) (H : Hp) (v dv p dx lc ld lg rw' hd : Addr) (cs : List (Addr × Ct)) (ds hs : List Nat) : Prop where
  ob : H v = some (.ins CH dv [("book", .ref p), ("row", .ref rw'), ("here", .ref hd)])
  row : H rw' = some (.lst (hs.map nV))
  here : HereAt H hd hs
  bk : BookAt P w C H p dx lc ld lg cs ds
  in' : ∀ n ∈ hs, n < cs.length
  up : hs.Pairwise (· < ·)
theorem HereAt.kp {M : List Addr} {H H' : Hp} {d : Addr} {hs : List Nat} (h : HereAt H d hs) (k : Kp M H H') (n : d ∉ M) : HereAt H' d hs := by
  obtain ⟨kvs, h1, h2⟩ := h
  exact ⟨kvs, k _ _ n h1, h2⟩
theorem ViewAt.same {P : Program} {w : World} {C CH : Addr} {H H' : Hp} {v dv p dx lc ld lg rw' hd : Addr} {cs : List (Addr × Ct)} {ds hs : List Nat} (h : ViewAt P w C CH H v dv p dx lc ld lg rw' hd cs ds hs) (k : Same H H') : ViewAt P w C CH H' v dv p dx lc ld lg rw' hd cs ds hs :=
  ⟨k _ _ h.ob, k _ _ h.row, h.here.kp (M := []) (Kp.of k) (by simp), h.bk.same k, h.in', h.up⟩
theorem ViewAt.kp {P : Program} {w : World} {C CH : Addr} {M : List Addr} {H H' : Hp} {v dv p dx lc ld lg rw' hd : Addr} {cs : List (Addr × Ct)} {ds hs : List Nat} (h : ViewAt P w C CH H v dv p dx lc ld lg rw' hd cs ds hs) (k : Kp M H H') (t : KT H H') (h1 : v ∉ M) (h2 : rw' ∉ M) (h3 : hd ∉ M) (h4 : p ∉ M) (h5 : lc ∉ M) (h6 : ld ∉ M) (h7 : lg ∉ M) : ViewAt P w C CH H' v dv p dx lc ld lg rw' hd cs ds hs :=
  ⟨k _ _ h1 h.ob, k _ _ h2 h.row, h.here.kp k h3, h.bk.kp k t h4 h5 h6 h7, h.in', h.up⟩
def spViewInit (P : Program) (w : World) (C CH : Addr) : Sp := fun vs H Q _ => ∃ (v dv p dx lc ld lg l : Addr) (cs : List (Addr × Ct)) (ds names : List Nat), vs = [.ref v, .ref p, .ref l] ∧ H v = some (.ins CH dv []) ∧ BookAt P w C H p dx lc ld lg cs ds ∧ H l = some (.lst (names.map nV)) ∧ names.length ≤ 1000 ∧ (∀ n ∈ names, n < cs.length) ∧
  ∀ (rw' hd : Addr) (hs : List Nat) (H' : Hp), H rw' = none → H hd = none → ViewAt P w C CH H' v dv p dx lc ld lg rw' hd cs ds hs → (∀ n, n ∈ hs ↔ n ∈ names) → Kp [v] H H' → Q .non H'
def spHolds (P : Program) (w : World) (C CH : Addr) : Sp := fun vs H Q _ => ∃ (v dv p dx lc ld lg rw' hd : Addr) (cs : List (Addr × Ct)) (ds hs : List Nat) (x : V) (a : String), vs = [.ref v, x] ∧ ViewAt P w C CH H v dv p dx lc ld lg rw' hd cs ds hs ∧ Ty H x a ∧ (∀ n : Nat, x = nV n → n ∈ hs → Q (.bl true) H) ∧ ((∀ n : Nat, x = nV n → n ∉ hs) → Q (.bl false) H)
def pars (cs : List (Addr × Ct)) (n : Nat) : List Nat := match cs[n]? with
  | some (_, .ver ps _ _) => ps
  | _ => []
def isV (cs : List (Addr × Ct)) (n : Nat) : Prop := ∃ a ps r s, cs[n]? = some (a, Ct.ver ps r s)
def hpar (cs : List (Addr × Ct)) (hs : List Nat) (n : Nat) : List Nat := (pars cs n).filter fun p => decide (p ∈ hs)
def edgs (cs : List (Addr × Ct)) (hs ns : List Nat) : List Nat := ns.filter fun n => decide ((hpar cs hs n).length < (pars cs n).length)
theorem isV.at {cs : List (Addr × Ct)} {n : Nat} (h : isV cs n) : ∃ a r s, cs[n]? = some (a, Ct.ver (pars cs n) r s) := by
  obtain ⟨a, ps, r, s, e⟩ := h
  refine ⟨a, r, s, ?_⟩
  unfold pars
  rw [e]
theorem isV.of {cs : List (Addr × Ct)} {n p : Nat} (h : p ∈ pars cs n) : isV cs n := by
  unfold pars at h
  split at h
  · rename_i a ps r s e
    exact ⟨a, ps, r, s, e⟩
  · cases h
/-- a version's parents are versions, few -/
structure BkOk (cs : List (Addr × Ct)) : Prop where
  par : ∀ n p, p ∈ pars cs n → isV cs p ∧ p < n
  few : ∀ n, (pars cs n).length ≤ 4
theorem isV.lt {cs : List (Addr × Ct)} {n : Nat} (h : isV cs n) : n < cs.length := by
  obtain ⟨a, ps, r, s, e⟩ := h
  exact (List.getElem?_eq_some_iff.mp e).1
def natSel (p : Nat → Bool) (ns : List Nat) (i : Nat) : Option V := ns[i]?.bind fun n => if p n = true then some (nV n) else none
def spHeldParents (P : Program) (w : World) (C CH : Addr) : Sp := fun vs H Q _ => ∃ (v dv p dx lc ld lg rw' hd : Addr) (cs : List (Addr × Ct)) (ds hs : List Nat) (n : Nat), vs = [.ref v, nV n] ∧ ViewAt P w C CH H v dv p dx lc ld lg rw' hd cs ds hs ∧ BkOk cs ∧ isV cs n ∧ ∀ (H' : Hp) (l : Addr), Same H H' → H l = none → H' l = some (.lst ((hpar cs hs n).map nV)) → Q (.ref l) H'
def spEdgesOf (P : Program) (w : World) (C CH : Addr) : Sp := fun vs H Q _ => ∃ (v dv p dx lc ld lg rw' hd r : Addr) (cs : List (Addr × Ct)) (ds hs ns : List Nat), vs = [.ref v, .ref r] ∧ ViewAt P w C CH H v dv p dx lc ld lg rw' hd cs ds hs ∧ BkOk cs ∧ H r = some (.tup (ns.map nV)) ∧ ns.length ≤ 1000 ∧ (∀ n ∈ ns, isV cs n) ∧ ∀ (H' : Hp) (t : Addr), Same H H' → H' t = some (.tup ((edgs cs hs ns).map nV)) → Q (.ref t) H'
theorem dp_nats {K : PySem.W.Frag} {H : Hp} : ∀ ns : List Nat, DpAll K H (ns.map nV) (ns.map fun n : Nat => PyData.int (n : Int))
  | [] => .nil
  | n :: r => .cons (.int _) (dp_nats r)
def Vw (P : Program) (w : World) (C CH : Addr) (H : Hp) (v : Addr) (cs : List (Addr × Ct)) (hs : List Nat) : Prop := ∃ (dv p dx lc ld lg rw' hd : Addr) (ds : List Nat), ViewAt P w C CH H v dv p dx lc ld lg rw' hd cs ds hs
theorem Vw.same {P : Program} {w : World} {C CH : Addr} {H H' : Hp} {v : Addr} {cs : List (Addr × Ct)} {hs : List Nat} (h : Vw P w C CH H v cs hs) (k : Same H H') : Vw P w C CH H' v cs hs := by
  obtain ⟨dv, p, dx, lc, ld, lg, rw', hd, ds, W⟩ := h
  exact ⟨dv, p, dx, lc, ld, lg, rw', hd, ds, W.same k⟩
def addK (ks : List Int) (x : Int) : List Int := if x ∈ ks then ks else ks ++ [x]
theorem nd_addK {ks : List Int} {x : Int} (h : ks.Nodup) : (addK ks x).Nodup := by
  unfold addK
  by_cases e : x ∈ ks
  · rw [if_pos e]; exact h
  · rw [if_neg e]
    exact List.nodup_append.mpr ⟨h, by simp, fun a ha b hb => by
      have : b = x := by simpa using hb
      subst this
      exact fun z => e (z ▸ ha)⟩
theorem putK_keys {fk : List (Key × V)} {ks : List Int} {x : Int} {v : V} (h : fk.map (·.1) = ks.map (Sum.inl : Int → Key)) : (putK fk (Sum.inl x) v).map (·.1) = (addK ks x).map (Sum.inl : Int → Key) := by
  have he : (fk.any fun kv => decide (kv.1 = (Sum.inl x : Key))) = true ↔ x ∈ ks := by
    rw [List.any_eq_true]
    constructor
    · rintro ⟨kv, hk, e⟩
      have m : (Sum.inl x : Key) ∈ ks.map Sum.inl := by
        rw [← h, ← of_decide_eq_true e]
        exact List.mem_map_of_mem hk
      obtain ⟨y, hy, e2⟩ := List.mem_map.mp m
      exact Sum.inl.inj e2 ▸ hy
    · intro hx
      have m : (Sum.inl x : Key) ∈ fk.map (·.1) := by
        rw [h]
        exact List.mem_map_of_mem hx
      obtain ⟨kv, hk, e⟩ := List.mem_map.mp m
      exact ⟨kv, hk, decide_eq_true e⟩
  unfold putK addK
  by_cases e : x ∈ ks
  · rw [if_pos (he.mpr e), if_pos e, ← h, List.map_map]
    apply List.map_congr_left
    intro kv _
    show (if kv.1 = Sum.inl x then (kv.1, v) else kv).1 = kv.1
    by_cases q : kv.1 = (Sum.inl x : Key)
    · rw [if_pos q]
    · rw [if_neg q]
  · rw [if_neg (fun z => e (he.mp z)), if_neg e, List.map_append, List.map_append, h]
    rfl
structure FoundAt (H : Hp) (f : Addr) (ks : List Int) : Prop where
  at' : ∃ fk, H f = some (.dK fk) ∧ fk.map (·.1) = ks.map (Sum.inl : Int → Key)
  nd : ks.Nodup
theorem FoundAt.put {H1 : Hp} {f : Addr} {ks : List Int} {fk : List (Key × V)} {x : Int} {v : V} (hk : fk.map (·.1) = ks.map (Sum.inl : Int → Key)) (nd : ks.Nodup) (e : H1 f = some (.dK (putK fk (Sum.inl x) v))) : FoundAt H1 f (addK ks x) := ⟨⟨_, e, putK_keys hk⟩, nd_addK nd⟩
/-! ### contents as plain data -/
def Ct.data : Ct → PyData
  | .leaf rows => .tuple [.str "leaf", .tuple (rows.map .str)]
  | .tree es => .tuple [.str "tree", .tuple (es.map fun e => .tuple [.str e.1, .int (e.2 : Int)])]
  | .ver ps root stamp => .tuple [.str "version", .tuple (ps.map fun n : Nat => .int (n : Int)), .int (root : Int), .int (stamp : Int)]
def Ct.txts : Ct → Prop
  | .leaf rows => ∀ z ∈ rows, PyData.strOk z = true
  | .tree es => ∀ e ∈ es, PyData.strOk e.1 = true
  | .ver _ _ _ => True
theorem dp_txts {K : PySem.W.Frag} {H : Hp} : ∀ ls : List Str, DpAll K H (ls.map V.str) (ls.map .str)
  | [] => .nil
  | z :: r => .cons (.str z) (dp_txts r)
theorem dp_ents {K : PySem.W.Frag} {H : Hp} : ∀ qs : List (Addr × Str × Nat), (∀ q ∈ qs, H q.1 = some (.tup [.str q.2.1, nV q.2.2])) → DpAll K H (qs.map fun q => .ref q.1) ((qs.map (·.2)).map fun e => .tuple [.str e.1, .int (e.2 : Int)])
  | [], _ => .nil
  | q :: r, h => .cons (.tup (.of (h q (by simp))) (.cons (.str _) (.cons (.int _) .nil))) (dp_ents r fun z hz => h z (by simp [hz]))
theorem CtAt.dp {K : PySem.W.Frag} {H : Hp} {a : Addr} {c : Ct} (h : CtAt H a c) : Dp K H (.ref a) c.data := by
  cases c with
  | leaf rows =>
    obtain ⟨r, h1, h2⟩ := h
    exact .tup (.of h1) (.cons (.str _) (.cons (.tup (.of h2) (dp_txts rows)) .nil))
  | tree es =>
    obtain ⟨r, qs, h1, h2, rfl, h4⟩ := h
    exact .tup (.of h1) (.cons (.str _) (.cons (.tup (.of h2) (dp_ents qs h4)) .nil))
  | ver ps root stamp =>
    obtain ⟨r, h1, h2⟩ := h
    exact .tup (.of h1) (.cons (.str _) (.cons (.tup (.of h2) (dp_nats ps)) (.cons (.int _) (.cons (.int _) .nil))))
/-- the law's own list of contents -/
structure ThAt (H : Hp) (th : Addr) (cs : List (Addr × Ct)) : Prop where
  at' : H th = some (.lst (cs.map fun q => .ref q.1))
  ct : ∀ q ∈ cs, CtAt H q.1 q.2
theorem ThAt.kp {M : List Addr} {H H' : Hp} {th : Addr} {cs : List (Addr × Ct)} (h : ThAt H th cs) (k : Kp M H H') (t : KT H H') (n : th ∉ M) : ThAt H' th cs := ⟨k _ _ n h.at', fun q hq => (h.ct q hq).kt t⟩
theorem ThAt.same {H H' : Hp} {th : Addr} {cs : List (Addr × Ct)} (h : ThAt H th cs) (k : Same H H') : ThAt H' th cs := h.kp (M := []) (Kp.of k) (KT.of k) (by simp)
theorem dp_cts {K : PySem.W.Frag} {H : Hp} : ∀ cs : List (Addr × Ct), (∀ q ∈ cs, CtAt H q.1 q.2) → DpAll K H (cs.map fun q => .ref q.1) ((cs.map (·.2)).map Ct.data)
  | [], _ => .nil
  | q :: r, h => .cons (h q (by simp)).dp (dp_cts r fun z hz => h z (by simp [hz]))
theorem ThAt.dp {K : PySem.W.Frag} {H : Hp} {th : Addr} {cs : List (Addr × Ct)} (h : ThAt H th cs) : Dp K H (.ref th) (.list ((cs.map (·.2)).map Ct.data)) := .lst (.of h.at') (dp_cts cs h.ct)
/-! ### dicts of names -/
def FAt (H : Hp) (f : Addr) (F : Nat → Prop) : Prop := ∃ (fk : List (Key × V)) (ks : List Int), H f = some (.dK fk) ∧ fk.map (·.1) = ks.map (Sum.inl : Int → Key) ∧ ks.Nodup ∧ (∀ k ∈ ks, 0 ≤ k ∧ k < 1000) ∧ ∀ n : Nat, (n : Int) ∈ ks ↔ F n
theorem FAt.kp {M : List Addr} {H H' : Hp} {f : Addr} {F : Nat → Prop} (h : FAt H f F) (k : Kp M H H') (n : f ∉ M) : FAt H' f F := by
  obtain ⟨fk, ks, h1, h2⟩ := h
  exact ⟨fk, ks, k _ _ n h1, h2⟩
theorem FAt.same {H H' : Hp} {f : Addr} {F : Nat → Prop} (h : FAt H f F) (k : Same H H') : FAt H' f F := h.kp (M := []) (Kp.of k) (by simp)
/-! ### labels, rows, entries of the drawn families -/
theorem small2000 {n : Nat} (h : n ≤ 2000) : n ≤ sizeLine := Nat.le_trans h (by decide)
theorem Deck.kxK {H H' : Hp} {d c : Addr} {n m : Nat} (D : Deck H d c n) (D' : Deck H' d c m) (k : Kp [d] H H') : KX d H H' := by
  obtain ⟨⟨xs, e⟩, _⟩ := D.at
  obtain ⟨⟨xs', e'⟩, _⟩ := D'.at
  refine ⟨⟨fun b ys h => ?_, fun b ys h => ?_, fun b ys h => ?_⟩, k⟩
  · exact k _ _ (by simpa using ne_of h e (fun z => nomatch z)) h
  · by_cases hb : b = d
    · subst hb
      exact ⟨_, e'⟩
    · exact ⟨_, k _ _ (by simpa using hb) h⟩
  · exact ⟨_, k _ _ (by simpa using ne_of h e (fun z => nomatch z)) h⟩
theorem Deck.ktK {H H' : Hp} {d c : Addr} {n : Nat} (D : Deck H d c n) (k : Kp [d] H H') : KT H H' := by
  obtain ⟨⟨xs, e⟩, _⟩ := D.at
  exact KT.kp k (by simp [e])
def spText : Sp := fun vs H Q _ => ∃ (d c : Addr) (n : Nat) (m : Nat), vs = [.ref d, .int (m : Int)] ∧ Deck H d c n ∧ n + 42 ≤ MOSTD ∧ m ≤ 40 ∧ ∀ H' z, Deck H' d c (n + 42) → Kp [d] H H' → KT H H' → LineOk z ∧ z.length ≤ m → Q (.str z) H'
def spLabel : Sp := fun vs H Q _ => ∃ (d c : Addr) (n : Nat), vs = [.ref d] ∧ Deck H d c n ∧ n + 12 ≤ MOSTD ∧ ∀ H' z, Deck H' d c (n + 12) → Kp [d] H H' → KT H H' → LabOk z → Q (.str z) H'
def spRows : Sp := fun vs H Q _ => ∃ (d c t : Addr) (n : Nat) (ls : List Str), vs = [.ref d, .ref t] ∧ Deck H d c n ∧ n + 300 ≤ MOSTD ∧ RwAt H t ls ∧ ls.length ≤ 7 ∧ (∀ z ∈ ls, LineOk z) ∧
  ∀ H' r (ls' : List Str), Deck H' d c (n + 300) → KX d H H' → RwAt H' r ls' → ls'.length ≤ 7 → (∀ z ∈ ls', LineOk z) → Q (.ref r) H'
def spEntries : Sp := fun vs H Q _ => ∃ (d c l : Addr) (n : Nat) (lows : List Nat), vs = [.ref d, .ref l] ∧ Deck H d c n ∧ n + 60 ≤ MOSTD ∧ H l = some (.lst (lows.map nV)) ∧ l ≠ d ∧ lows ≠ [] ∧ lows.length ≤ 1000 ∧
  ∀ H' t (qs : List (Addr × Str × Nat)), Deck H' d c (n + 60) → KX d H H' → H' t = some (.tup (qs.map fun q => .ref q.1)) → (∀ q ∈ qs, H' q.1 = some (.tup [.str q.2.1, nV q.2.2])) → qs.length ≤ 3 → qs.Pairwise (fun x y => txLt x.2.1 y.2.1) → (∀ q ∈ qs, LabOk q.2.1 ∧ q.2.2 ∈ lows) → Q (.ref t) H'
abbrev LTR : Str := Str.ofString "abcdefghijklmnopqrstuvwxyz"
theorem strs_of {ys : List V} {p : Str → Prop} (h : ∀ y ∈ ys, ∃ z : Str, y = .str z ∧ p z) : ∃ zs : List Str, ys = zs.map V.str ∧ ∀ z ∈ zs, p z := by
  induction ys with
  | nil => exact ⟨[], rfl, by simp⟩
  | cons y ys ih =>
    obtain ⟨z, rfl, hz⟩ := h y (by simp)
    obtain ⟨zs, rfl, hs⟩ := ih fun y hy => h y (by simp [hy])
    exact ⟨z :: zs, rfl, fun c hc => by
      rcases List.mem_cons.mp hc with rfl | hc
      · exact hz
      · exact hs c hc⟩
def putTI (qs : List (Str × Int)) (z : Str) (v : Int) : List (Str × Int) := if (qs.any fun q => decide (q.1 = z)) = true then qs.map (fun q => if q.1 = z then (q.1, v) else q) else qs ++ [(z, v)]
section
variable {P : Program} {w : World} {K : PySem.W.Frag} {mg : Str → Option Value} {base : Heap}
theorem ok_text {f fM fD : Addr} {fd fdM fdD : FuncData} (T : Txt K mg) (F : Fun K "_law_text" "_law_text" s_law_text f fd) (D_law_mixed : Df K mg "_law_mixed" s_law_mixed ["_law_cell", "_law_turn"] fM fdM) (D_law_draw : Df K mg "_law_draw" s_law_draw ["_law_deck_here", "_law_many"] fD fdD) : FnOk P w K mg base CX0 3 f fd ["_law_deck_here", "_law_most"] spText := by
  have G_law_draw : FnOk P w K mg base CX0 2 fD fdD ["_law_deck_here", "_law_many"] spDraw := ok_draw T D_law_draw.fn D_law_mixed
  refine F.ok sc_law_text (fun vs H Q E h => ?_) (fun cdv A outer s H vs Q E hr h => ?_)
  · obtain ⟨d, c, n, m, rfl, _⟩ := h
    rfl
  · obtain ⟨d, c, n, m, rfl, D0, hn, hm, q⟩ := h
    refine ⟨_,
      (pss_cons
        (ps_set (i := 2) sc_law_text.nd rfl (.inr rfl) pe_str)
      (pss_cons
        (ps_if (pt_cmpR op_eq (pe_call G_law_draw (hr.mono (by omega)) (by rfl) D_law_draw.g D_law_draw.fn.kp D_law_draw.b .nil pass0 (pa_cons (pv 0) (pa_cons pe_int pa_nil))) pe_int (nomark _))
          (pss_one
            (ps_set (i := 2) sc_law_text.nd rfl (.inr rfl) pe_str))
          pss_nil)
      (pss_one
        (ps_ret (p_join pe_str (pe_lc (own := [("_law_k", 3)]) (g := (gName 3)) rfl sc_law_text.nd (pi_range1 (by rfl) T.n_range (pa_cons (pe_call G_law_draw (hr.mono (by omega)) (by rfl) D_law_draw.g D_law_draw.fn.kp D_law_draw.b .nil pass0 (pa_cons (pv 0) (pa_cons (pe_op op_add (pv 1) pe_int) pa_nil))) pa_nil)) (blkOk_by (own := [("_law_k", 3)]) (N := N_law_text) (sc := defScope s_law_text) (by decide +kernel)) (fun _ _ _ _ _ => (pg_name (i := 3) sc_law_text.nd rfl (.inl rfl))) (fun _ _ _ _ _ => pts_nil) (fun _ _ _ _ _ => (pe_ix ix_str (pv 2) (pe_call G_law_draw (hr.mono (by omega)) (by rfl) D_law_draw.g D_law_draw.fn.kp D_law_draw.b .nil pass0 (pa_cons (pv 0) (pa_cons (pe_callB c_lenS (by rfl) T.n_len (by decide +kernel) (pa_cons (pv 2) pa_nil)) pa_nil))) (fun _ _ => rfl)))))))))
      , ?_⟩
    rw [show L2.start N_law_text [V.ref d, V.int (m : Int)] = [some (.ref d), some (.int (m : Int)), none, none] from rfl]
    walk_at "x"
    refine w_seqJ (fun σ' H' => ∃ sg : Str, σ' = [some (.ref d), some (.int (m : Int)), some (.str sg), none] ∧ Deck H' d c (n + 1) ∧ Kp [d] H H' ∧ 0 < sg.length ∧ sg.length ≤ 100 ∧ ∀ c ∈ sg.cps.toList, c ∈ SG.cps.toList) ?_ ?_
    rotate_left
    · intro U hU
      walk_at "g"
      refine w_draw D0 (by omega) (by decide) (by decide) fun r H1 hr1 D1 o1 => ?_
      walk_at "g"
      refine w_ite (fun h => ?_) (fun h => ?_)
      · walk_at "g"
        exact hU _ _ ⟨_, rfl, D1, o1.kp (by simp), by decide, by decide, by decide⟩
      · walk_at "g"
        exact hU _ _ ⟨_, rfl, D1, o1.kp (by simp), by decide +kernel, by decide +kernel, fun c h => h⟩
    rintro σ' H1 ⟨sg, rfl, D1, k1, hs0, hs1, hsg⟩
    obtain ⟨⟨dx, ed1⟩, ⟨cx, ec1⟩⟩ := D1.at
    walk_at "g"
    refine w_draw D1 (by omega) (by omega) (by omega) fun r H2 hr2 D2 o2 => ?_
    obtain ⟨⟨dx2, ed2⟩, _⟩ := D2.at
    walk_at "g"
    refine lcp_gen (walk_range (lo := 0) (n := (r : Int).toNat)) [d] (fun i y _ => ∃ ch : Nat, y = .str ⟨#[ch]⟩ ∧ ch ∈ SG.cps.toList) (fun i H' => Deck H' d c (n + 2 + i)) (by omega) (fun _ _ _ _ _ h => h) (fun D hD i H1' o z => z.mut (D2.ne1 hD).1 (D2.ne1 hD).2) (fun _ _ _ _ => trivial) D2 ?_ (by intro b hb; have e : b = d := (by simpa using hb); subst e; exact ⟨_, ed2⟩) ?_
    · rintro i x H3 H4 R hi k3 t3 D3 ⟨rfl, rfl⟩ hR
      refine w_name ⟨rfl, ?_⟩
      walk_at "g"
      refine w_lenS (small2000 (by omega)) ?_
      walk_at "g"
      refine w_draw D3 (by unfold MOSTD at *; omega) (by omega) (by omega) fun r4 H5 hr4 D5 o5 => ?_
      obtain ⟨⟨dx3, ed3⟩, _⟩ := D3.at
      obtain ⟨ch, hch, ech⟩ : ∃ ch, sg.cps.toList[r4]? = some ch ∧ atI sg.cps.toList (r4 : Int) = some ch := by
        have hl : r4 < sg.cps.toList.length := by
          have : sg.length = sg.cps.toList.length := by show sg.cps.size = _; simp
          omega
        exact ⟨_, List.getElem?_eq_getElem hl, atI_nat (List.getElem?_eq_getElem hl)⟩
      walk_at "g"
      refine w_ixS (small2000 (by omega)) ech ?_
      exact hR _ _ ⟨ch, rfl, hsg ch (List.mem_of_getElem? hch)⟩ (o5.kp (by simp)) (KT.off o5 ed3) D5
    · intro L H3 ys hyl hyp hL k3 t3 D3 eL
      obtain ⟨zs, hzs, hzc⟩ : ∃ zs : List Nat, ys = (zs.map fun ch => (⟨#[ch]⟩ : Str)).map V.str ∧ ∀ ch ∈ zs, ch ∈ SG.cps.toList := by
        have : ∀ {ys : List V}, (∀ y ∈ ys, ∃ ch : Nat, y = .str ⟨#[ch]⟩ ∧ ch ∈ SG.cps.toList) → ∃ zs : List Nat, ys = (zs.map fun ch => (⟨#[ch]⟩ : Str)).map V.str ∧ ∀ ch ∈ zs, ch ∈ SG.cps.toList := by
          intro ys
          induction ys with
          | nil => intro _; exact ⟨[], rfl, by simp⟩
          | cons y ys ih =>
            intro h
            obtain ⟨ch, rfl, hch⟩ := h y (by simp)
            obtain ⟨zs, rfl, hz⟩ := ih fun y hy => h y (by simp [hy])
            exact ⟨ch :: zs, rfl, fun c hc => by
              rcases List.mem_cons.mp hc with rfl | hc
              · exact hch
              · exact hz c hc⟩
        refine this fun y hy => ?_
        obtain ⟨i, hi, e⟩ := List.getElem_of_mem hy
        exact hyp i y (by rw [List.getElem?_eq_getElem hi, e])
      have hzl : zs.length = (r : Int).toNat := by rw [← hyl, hzs]; simp
      subst hzs
      have hsum : ∀ l : List Nat, (l.map fun ch => ((⟨#[ch]⟩ : Str)).length).sum = l.length := by
        intro l
        induction l with
        | nil => rfl
        | cons x l ih =>
          rw [List.map_cons, List.sum_cons, ih, List.length_cons]
          show 1 + l.length = _
          omega
      have hflat : ∀ l : List Nat, ((l.map fun ch => (⟨#[ch]⟩ : Str)).map fun y => y.cps.toList).flatten = l := by
        intro l
        induction l with
        | nil => rfl
        | cons x l ih =>
          rw [List.map_cons, List.map_cons, List.flatten_cons, ih]
          rfl
      walk_at "g"
      refine w_joinL (.of eL) ?_ ?_
      · rw [List.map_map, List.length_map]
        have := hsum zs
        show (zs.map fun ch => ((⟨#[ch]⟩ : Str)).length).sum + zs.length * 0 ≤ _
        omega
      · have ec := join_cps (zs.map fun ch => (⟨#[ch]⟩ : Str))
        rw [hflat] at ec
        refine q H3 _ (D3.mono (by omega)) (k1.trans ((o2.kp (by simp)).trans k3)) ?_ ⟨⟨?_, fun ch hch => ?_⟩, ?_⟩
        · exact D0.ktK (k1.trans ((o2.kp (by simp)).trans k3))
        · show (Txt.join (Str.ofString "") (zs.map fun ch => (⟨#[ch]⟩ : Str))).cps.size ≤ 40
          rw [← Array.length_toList, ec]
          omega
        · rw [ec] at hch
          exact hzc ch hch
        · show (Txt.join (Str.ofString "") (zs.map fun ch => (⟨#[ch]⟩ : Str))).cps.size ≤ m
          rw [← Array.length_toList, ec]
          omega
end
/-! ### _law_alike, of data that are the same, kind for kind -/
def Sc : V → Prop
  | .non => True
  | .bl _ => True
  | .int _ => True
  | .str _ => True
  | _ => False
def SD : Nat → Hp → V → V → Prop
  | 0, _, x, y => x = y ∧ Sc x
  | n + 1, H, x, y => (x = y ∧ Sc x) ∨ ∃ p q xs ys, x = .ref p ∧ y = .ref q ∧ ((H p = some (.tup xs) ∧ H q = some (.tup ys)) ∨ (H p = some (.lst xs) ∧ H q = some (.lst ys))) ∧ xs.length = ys.length ∧ xs.length ≤ 100000 ∧
      ∀ (i : Nat) (a b : V), xs[i]? = some a → ys[i]? = some b → SD n H a b
theorem SD.same : ∀ {n : Nat} {H H' : Hp} {x y : V}, SD n H x y → Same H H' → SD n H' x y
  | 0, _, _, _, _, h, _ => h
  | n + 1, H, H', x, y, h, k => by
    rcases h with h | ⟨p, q, xs, ys, e1, e2, h, hl, hb, hs⟩
    · exact .inl h
    · refine .inr ⟨p, q, xs, ys, e1, e2, ?_, hl, hb, fun i a b ha hb => (hs i a b ha hb).same k⟩
      rcases h with ⟨h1, h2⟩ | ⟨h1, h2⟩
      · exact .inl ⟨k _ _ h1, k _ _ h2⟩
      · exact .inr ⟨k _ _ h1, k _ _ h2⟩
theorem w_isiTa {K : PySem.W.Frag} {H : Hp} {Q : VK} {x : V} {tp : Addr} {a n m : String} (ty : TyX K H x (.type a)) (ht : H tp = some (.tup [.ty n, .ty m])) (h1 : kitB a n = some true) (h : Q (.bl true) H) : rIsiT K [x, .ref tp] H Q :=
  ⟨x, tp, _, _, [.type n, .type m], true, rfl, ht, .cons (.ty n) (.cons (.ty m) .nil), ty, kitAny_cons (kit_ty h1) (fun z => nomatch z) (fun _ => rfl), h⟩
theorem w_isiTb {K : PySem.W.Frag} {H : Hp} {Q : VK} {x : V} {tp : Addr} {a n m : String} (ty : TyX K H x (.type a)) (ht : H tp = some (.tup [.ty n, .ty m])) (h1 : kitB a n = some false) (h2 : kitB a m = some true) (h : Q (.bl true) H) : rIsiT K [x, .ref tp] H Q :=
  ⟨x, tp, _, _, [.type n, .type m], true, rfl, ht, .cons (.ty n) (.cons (.ty m) .nil), ty, kitAny_cons (kit_ty h1) (fun _ => kitAny_cons (kit_ty h2) (fun z => nomatch z) (fun _ => rfl)) (fun _ => rfl), h⟩
theorem w_isiTn {K : PySem.W.Frag} {H : Hp} {Q : VK} {x : V} {tp : Addr} {a n m : String} (ty : TyX K H x (.type a)) (ht : H tp = some (.tup [.ty n, .ty m])) (h1 : kitB a n = some false) (h2 : kitB a m = some false) (h : Q (.bl false) H) : rIsiT K [x, .ref tp] H Q :=
  ⟨x, tp, _, _, [.type n, .type m], false, rfl, ht, .cons (.ty n) (.cons (.ty m) .nil), ty, kitAny_cons (kit_ty h1) (fun _ => kitAny_cons (kit_ty h2) (fun _ => rfl) (fun z => nomatch z)) (fun z => nomatch z), h⟩
local macro_rules | `(tactic| walk_at "s") => `(tactic| first
  | ((with_reducible refine' w_isiTa ?ty ?ht ?h1 ?_); (case ty => walk_at "ty"); (case ht => assumption); (case h1 => walk_at "kb"))
  | ((with_reducible refine' w_isiTb ?ty ?ht ?h1 ?h2 ?_); (case ty => walk_at "ty"); (case ht => assumption); (case h1 => walk_at "kb"); (case h2 => walk_at "kb"))
  | ((with_reducible refine' w_isiTn ?ty ?ht ?h1 ?h2 ?_); (case ty => walk_at "ty"); (case ht => assumption); (case h1 => walk_at "kb"); (case h2 => walk_at "kb"))
  )
def spAlike (n : Nat) : Sp := fun vs H Q _ => ∃ (x y : V), vs = [x, y] ∧ SD n H x y ∧ ∀ H', Same H H' → Q (.bl true) H'
section
variable {P : Program} {w : World} {K : PySem.W.Frag} {mg : Str → Option Value} {base : Heap}
theorem ok_alike0 {f : Addr} {fd : FuncData} (T : Txt K mg) (D_law_alike : Df K mg "_law_alike" s_law_alike ["_law_found", "_law_due"] f fd) : FnOk P w K mg base CX0 1 f fd ["_law_found", "_law_due"] (spAlike 0) := by
  refine D_law_alike.fn.ok sc_law_alike (fun vs H Q E h => ?_) (fun cdv A outer s H vs Q E hr h => ?_)
  · obtain ⟨x, y, rfl, _⟩ := h
    rfl
  · obtain ⟨x, y, rfl, ⟨rfl, hx⟩, q⟩ := h
    refine ⟨_,
      (pss_cons
        (ps_if (pt_val (pe_callB (r := rIsiT K) call_isiT (by rfl) T.n_isinstance (by decide +kernel) (pa_cons (pv 1) (pa_cons (pe_tup (pa_cons (pe_bltn (v := .ty "tuple") (u := .type "tuple") (by rfl) T.n_tuple (by decide +kernel) rfl) (pa_cons (pe_bltn (v := .ty "list") (u := .type "list") (by rfl) T.n_list (by decide +kernel) rfl) pa_nil))) pa_nil))))
          pss_never
          pss_nil)
      (pss_cons
        (ps_if (PW.pt (pw_or (pt_val (pe_callB (r := rIsi K) call_isi (by rfl) T.n_isinstance (by decide +kernel) (pa_cons (pv 1) (pa_cons (pe_bltn (v := .ty "bool") (u := .type "bool") (by rfl) T.n_bool (by decide +kernel) rfl) pa_nil)))) (pw_or1 (pt_val (pe_callB (r := rIsi K) call_isi (by rfl) T.n_isinstance (by decide +kernel) (pa_cons (pv 0) (pa_cons (pe_bltn (v := .ty "bool") (u := .type "bool") (by rfl) T.n_bool (by decide +kernel) rfl) pa_nil)))))))
          (pss_one
            (ps_ret (pe_and (pe_callB (r := rIsi K) call_isi (by rfl) T.n_isinstance (by decide +kernel) (pa_cons (pv 1) (pa_cons (pe_bltn (v := .ty "bool") (u := .type "bool") (by rfl) T.n_bool (by decide +kernel) rfl) pa_nil))) (pe_and (pe_callB (r := rIsi K) call_isi (by rfl) T.n_isinstance (by decide +kernel) (pa_cons (pv 0) (pa_cons (pe_bltn (v := .ty "bool") (u := .type "bool") (by rfl) T.n_bool (by decide +kernel) rfl) pa_nil))) (pe_one (pe_cmpR op_eq (pv 0) (pv 1) (nomark _)))))))
          pss_nil)
      (pss_cons
        (ps_if (pt_val (pe_callB (r := rIsi K) call_isi (by rfl) T.n_isinstance (by decide +kernel) (pa_cons (pv 1) (pa_cons (pe_bltn (v := .ty "int") (u := .type "int") (by rfl) T.n_int (by decide +kernel) rfl) pa_nil))))
          (pss_one
            (ps_ret (pe_and (pe_callB (r := rIsi K) call_isi (by rfl) T.n_isinstance (by decide +kernel) (pa_cons (pv 0) (pa_cons (pe_bltn (v := .ty "int") (u := .type "int") (by rfl) T.n_int (by decide +kernel) rfl) pa_nil))) (pe_one (pe_cmpR op_eq (pv 0) (pv 1) (nomark _))))))
          pss_nil)
      (pss_cons
        (ps_if (pt_val (pe_callB (r := rIsi K) call_isi (by rfl) T.n_isinstance (by decide +kernel) (pa_cons (pv 1) (pa_cons (pe_bltn (v := .ty "str") (u := .type "str") (by rfl) T.n_str (by decide +kernel) rfl) pa_nil))))
          (pss_one
            (ps_ret (pe_and (pe_callB (r := rIsi K) call_isi (by rfl) T.n_isinstance (by decide +kernel) (pa_cons (pv 0) (pa_cons (pe_bltn (v := .ty "str") (u := .type "str") (by rfl) T.n_str (by decide +kernel) rfl) pa_nil))) (pe_one (pe_cmpR op_eq (pv 0) (pv 1) (nomark _))))))
          pss_nil)
      (pss_one
        (ps_ret (pe_and (pe_cmpR o_isN (pv 1) pe_non (nomark _)) (pe_one (pe_cmpR o_isN (pv 0) pe_non (nomark _))))))))))
      , ?_⟩
    rw [show L2.start N_law_alike [x, x] = [some x, some x, none] from rfl]
    cases x with
    | byt _ => exact hx.elim
    | flt _ => exact hx.elim
    | ref _ => exact hx.elim
    | ty _ => exact hx.elim
    | non =>
      refine w_seq ?_
      walk_at "x"
      refine w_new fun tp H1 htp e1 k1 => ?_
      walk_at "g"
      refine w_seq ?_
      walk_at "g"
      refine w_seq ?_
      walk_at "g"
      refine w_seq ?_
      walk_at "g"
      refine w_yes rfl ?_
      walk_at "g"
      exact q _ k1
    | bl b =>
      refine w_seq ?_
      walk_at "x"
      refine w_new fun tp H1 htp e1 k1 => ?_
      walk_at "g"
      refine w_seq ?_
      walk_at "g"
      rw [decide_eq_true rfl]
      exact q _ k1
    | int i =>
      refine w_seq ?_
      walk_at "x"
      refine w_new fun tp H1 htp e1 k1 => ?_
      walk_at "g"
      refine w_seq ?_
      walk_at "g"
      refine w_seq ?_
      walk_at "g"
      rw [decide_eq_true rfl]
      exact q _ k1
    | str z =>
      refine w_seq ?_
      walk_at "x"
      refine w_new fun tp H1 htp e1 k1 => ?_
      walk_at "g"
      refine w_seq ?_
      walk_at "g"
      refine w_seq ?_
      walk_at "g"
      refine w_seq ?_
      walk_at "g"
      rw [decide_eq_true rfl]
      exact q _ k1
theorem ok_alike {f : Addr} {fd : FuncData} (T : Txt K mg) (D_law_alike : Df K mg "_law_alike" s_law_alike ["_law_found", "_law_due"] f fd) : ∀ n : Nat, FnOk P w K mg base CX0 (n + 1) f fd ["_law_found", "_law_due"] (spAlike n)
  | 0 => ok_alike0 T D_law_alike
  | n + 1 => by
    have G_law_alike : FnOk P w K mg base CX0 (n + 1) f fd ["_law_found", "_law_due"] (spAlike n) := ok_alike T D_law_alike n
    refine D_law_alike.fn.ok sc_law_alike (fun vs H Q E h => ?_) (fun cdv A outer s H vs Q E hr h => ?_)
    · obtain ⟨x, y, rfl, _⟩ := h
      rfl
    · obtain ⟨x, y, rfl, hd, q⟩ := h
      refine ⟨_,
      (pss_cons
        (ps_if (pt_val (pe_callB (r := rIsiT K) call_isiT (by rfl) T.n_isinstance (by decide +kernel) (pa_cons (pv 1) (pa_cons (pe_tup (pa_cons (pe_bltn (v := .ty "tuple") (u := .type "tuple") (by rfl) T.n_tuple (by decide +kernel) rfl) (pa_cons (pe_bltn (v := .ty "list") (u := .type "list") (by rfl) T.n_list (by decide +kernel) rfl) pa_nil))) pa_nil))))
          (pss_cons
            (ps_if (PW.pt (pw_or (pt_cmpR op_ne (pe_callB (r := rIsi K) call_isi (by rfl) T.n_isinstance (by decide +kernel) (pa_cons (pv 1) (pa_cons (pe_bltn (v := .ty "tuple") (u := .type "tuple") (by rfl) T.n_tuple (by decide +kernel) rfl) pa_nil))) (pe_callB (r := rIsi K) call_isi (by rfl) T.n_isinstance (by decide +kernel) (pa_cons (pv 0) (pa_cons (pe_bltn (v := .ty "tuple") (u := .type "tuple") (by rfl) T.n_tuple (by decide +kernel) rfl) pa_nil))) (nomark _)) (pw_or1 (pt_not (pt_val (pe_callB (r := rIsiT K) call_isiT (by rfl) T.n_isinstance (by decide +kernel) (pa_cons (pv 0) (pa_cons (pe_tup (pa_cons (pe_bltn (v := .ty "tuple") (u := .type "tuple") (by rfl) T.n_tuple (by decide +kernel) rfl) (pa_cons (pe_bltn (v := .ty "list") (u := .type "list") (by rfl) T.n_list (by decide +kernel) rfl) pa_nil))) pa_nil))))))))
              (pss_one
                (ps_ret pe_bl))
              pss_nil)
          (pss_cons
            (ps_if (pt_cmpR op_ne (pe_callB (r := rLen K) c_len (by rfl) T.n_len (by decide +kernel) (pa_cons (pv 0) pa_nil)) (pe_callB (r := rLen K) c_len (by rfl) T.n_len (by decide +kernel) (pa_cons (pv 1) pa_nil)) (nomark _))
              (pss_one
                (ps_ret pe_bl))
              pss_nil)
          (pss_cons
            (ps_for PassesOwn.never rfl (pi_range1 (by rfl) T.n_range (pa_cons (pe_callB (r := rLen K) c_len (by rfl) T.n_len (by decide +kernel) (pa_cons (pv 1) pa_nil)) pa_nil)) (pg_name (i := 2) sc_law_alike.nd rfl (.inl rfl))
              (pss_one
                (ps_if (pt_not (pt_val (pe_call G_law_alike (hr.mono (by omega)) (by rfl) D_law_alike.g D_law_alike.fn.kp D_law_alike.b .nil pass0 (pa_cons (pe_ix (r := rIx K) ix_seq (pv 0) (pv 2) (fun _ _ => rfl)) (pa_cons (pe_ix (r := rIx K) ix_seq (pv 1) (pv 2) (fun _ _ => rfl)) pa_nil)))))
                  (pss_one
                    (ps_ret pe_bl))
                  pss_nil)))
          (pss_one
            (ps_ret pe_bl)))))
          pss_nil)
      (pss_cons
        (ps_if (PW.pt (pw_or (pt_val (pe_callB (r := rIsi K) call_isi (by rfl) T.n_isinstance (by decide +kernel) (pa_cons (pv 1) (pa_cons (pe_bltn (v := .ty "bool") (u := .type "bool") (by rfl) T.n_bool (by decide +kernel) rfl) pa_nil)))) (pw_or1 (pt_val (pe_callB (r := rIsi K) call_isi (by rfl) T.n_isinstance (by decide +kernel) (pa_cons (pv 0) (pa_cons (pe_bltn (v := .ty "bool") (u := .type "bool") (by rfl) T.n_bool (by decide +kernel) rfl) pa_nil)))))))
          (pss_one
            (ps_ret (pe_and (pe_callB (r := rIsi K) call_isi (by rfl) T.n_isinstance (by decide +kernel) (pa_cons (pv 1) (pa_cons (pe_bltn (v := .ty "bool") (u := .type "bool") (by rfl) T.n_bool (by decide +kernel) rfl) pa_nil))) (pe_and (pe_callB (r := rIsi K) call_isi (by rfl) T.n_isinstance (by decide +kernel) (pa_cons (pv 0) (pa_cons (pe_bltn (v := .ty "bool") (u := .type "bool") (by rfl) T.n_bool (by decide +kernel) rfl) pa_nil))) (pe_one (pe_cmpR op_eq (pv 0) (pv 1) (nomark _)))))))
          pss_nil)
      (pss_cons
        (ps_if (pt_val (pe_callB (r := rIsi K) call_isi (by rfl) T.n_isinstance (by decide +kernel) (pa_cons (pv 1) (pa_cons (pe_bltn (v := .ty "int") (u := .type "int") (by rfl) T.n_int (by decide +kernel) rfl) pa_nil))))
          (pss_one
            (ps_ret (pe_and (pe_callB (r := rIsi K) call_isi (by rfl) T.n_isinstance (by decide +kernel) (pa_cons (pv 0) (pa_cons (pe_bltn (v := .ty "int") (u := .type "int") (by rfl) T.n_int (by decide +kernel) rfl) pa_nil))) (pe_one (pe_cmpR op_eq (pv 0) (pv 1) (nomark _))))))
          pss_nil)
      (pss_cons
        (ps_if (pt_val (pe_callB (r := rIsi K) call_isi (by rfl) T.n_isinstance (by decide +kernel) (pa_cons (pv 1) (pa_cons (pe_bltn (v := .ty "str") (u := .type "str") (by rfl) T.n_str (by decide +kernel) rfl) pa_nil))))
          (pss_one
            (ps_ret (pe_and (pe_callB (r := rIsi K) call_isi (by rfl) T.n_isinstance (by decide +kernel) (pa_cons (pv 0) (pa_cons (pe_bltn (v := .ty "str") (u := .type "str") (by rfl) T.n_str (by decide +kernel) rfl) pa_nil))) (pe_one (pe_cmpR op_eq (pv 0) (pv 1) (nomark _))))))
          pss_nil)
      (pss_one
        (ps_ret (pe_and (pe_cmpR o_isN (pv 1) pe_non (nomark _)) (pe_one (pe_cmpR o_isN (pv 0) pe_non (nomark _))))))))))
        , ?_⟩
      rw [show L2.start N_law_alike [x, y] = [some x, some y, none] from rfl]
      rcases hd with ⟨rfl, hx⟩ | ⟨p, r, xs, ys, rfl, rfl, hk, hlen, hle, hd⟩
      · cases x with
        | byt _ => exact hx.elim
        | flt _ => exact hx.elim
        | ref _ => exact hx.elim
        | ty _ => exact hx.elim
        | non =>
          refine w_seq ?_
          walk_at "x"
          refine w_new fun tp H1 htp e1 k1 => ?_
          walk_at "g"
          refine w_seq ?_
          walk_at "g"
          refine w_seq ?_
          walk_at "g"
          refine w_seq ?_
          walk_at "g"
          refine w_yes rfl ?_
          walk_at "g"
          exact q _ k1
        | bl b =>
          refine w_seq ?_
          walk_at "x"
          refine w_new fun tp H1 htp e1 k1 => ?_
          walk_at "g"
          refine w_seq ?_
          walk_at "g"
          rw [decide_eq_true rfl]
          exact q _ k1
        | int i =>
          refine w_seq ?_
          walk_at "x"
          refine w_new fun tp H1 htp e1 k1 => ?_
          walk_at "g"
          refine w_seq ?_
          walk_at "g"
          refine w_seq ?_
          walk_at "g"
          rw [decide_eq_true rfl]
          exact q _ k1
        | str z =>
          refine w_seq ?_
          walk_at "x"
          refine w_new fun tp H1 htp e1 k1 => ?_
          walk_at "g"
          refine w_seq ?_
          walk_at "g"
          refine w_seq ?_
          walk_at "g"
          refine w_seq ?_
          walk_at "g"
          rw [decide_eq_true rfl]
          exact q _ k1
      · have turn : ∀ (i : Nat), i < ys.length → ∃ a b, atI xs (0 + (i : Int)) = some a ∧ atI ys (0 + (i : Int)) = some b ∧ SD n H a b := fun i hi => by
          have h1 : xs[i]? = some xs[i] := List.getElem?_eq_getElem (by omega)
          have h2 : ys[i]? = some ys[i] := List.getElem?_eq_getElem hi
          rw [show 0 + (i : Int) = (i : Int) by omega]
          exact ⟨_, _, atI_nat h1, atI_nat h2, hd i _ _ h1 h2⟩
        rcases hk with ⟨h1, h2⟩ | ⟨h1, h2⟩
        all_goals
          refine w_seq ?_
          walk_at "x"
          refine w_new fun tp H1 htp e1 k1 => ?_
          have h1' := k1 _ _ h1
          have h2' := k1 _ _ h2
          walk_at "g"
          refine w_seq ?_
          walk_at "g"
          walk_at "dg"
          refine w_new fun tp2 H2 htp2 e2 k2 => ?_
          have h1'' := k2 _ _ h1'
          have h2'' := k2 _ _ h2'
          have k02 := Same.trans k1 k2
          walk_at "g"
          refine w_seq ?_
          walk_at "g"
          walk_at "dg"
          refine lp_range (fun i σ H' => Same H H' ∧ ∃ y2, σ = [some (.ref p), some (.ref r), y2]) ⟨k02, _, rfl⟩ ?_ ?_
          · rintro i σ H3 hi ⟨k3, y2, rfl⟩
            have g1 := k3 _ _ h1
            have g2 := k3 _ _ h2
            obtain ⟨a, b, ha, hb, hab⟩ := turn i (by omega)
            walk_at "g"
            refine ⟨a, b, rfl, hab.same k3, fun H4 k4 => ?_⟩
            walk_at "g"
            exact ⟨Same.trans k3 k4, _, rfl⟩
          · rintro σ H3 ⟨k3, y2, rfl⟩
            walk_at "g"
            exact q _ k3
end
/-! ### names told, len, name_of -/
theorem SD.sc {n : Nat} {H : Hp} {x : V} (h : Sc x) : SD n H x x := by
  cases n with
  | zero => exact ⟨rfl, h⟩
  | succ n => exact .inl ⟨rfl, h⟩
theorem SD.tup {n : Nat} {H : Hp} {p q : Addr} {xs : List V} (h1 : H p = some (.tup xs)) (h2 : H q = some (.tup xs)) (hl : xs.length ≤ 100000) (h : ∀ x ∈ xs, SD n H x x) : SD (n + 1) H (.ref p) (.ref q) :=
  .inr ⟨p, q, xs, xs, rfl, rfl, .inl ⟨h1, h2⟩, rfl, hl, fun i a b ha hb => by
    rw [ha] at hb
    cases hb
    exact h _ (List.mem_of_getElem? ha)⟩
theorem CtAt.sd {H : Hp} {a : Addr} {c : Ct} (h : CtAt H a c) {cs : List Ct} {ds : List Nat} (ok : CtOk cs ds c) : SD 3 H (.ref a) (.ref a) := by
  cases c with
  | leaf rows =>
    obtain ⟨r, h1, h2⟩ := h
    refine SD.tup h1 h1 (by simp) fun x hx => ?_
    rcases List.mem_cons.mp hx with rfl | hx
    · exact SD.sc trivial
    · rw [List.mem_singleton.mp hx]
      refine SD.tup h2 h2 (by rw [List.length_map]; have := ok.1; omega) fun x hx => ?_
      obtain ⟨z, _, rfl⟩ := List.mem_map.mp hx
      exact SD.sc trivial
  | tree es =>
    obtain ⟨r, qs, h1, h2, h3, h4⟩ := h
    have hl : qs.length ≤ 20 := by
      have := ok.1
      rw [← h3, List.length_map] at this
      exact this
    refine SD.tup h1 h1 (by simp) fun x hx => ?_
    rcases List.mem_cons.mp hx with rfl | hx
    · exact SD.sc trivial
    · rw [List.mem_singleton.mp hx]
      refine SD.tup h2 h2 (by rw [List.length_map]; omega) fun x hx => ?_
      obtain ⟨z, hz, rfl⟩ := List.mem_map.mp hx
      refine SD.tup (h4 z hz) (h4 z hz) (by simp) fun x hx => ?_
      rcases List.mem_cons.mp hx with rfl | hx
      · exact SD.sc trivial
      · rw [List.mem_singleton.mp hx]
        exact SD.sc trivial
  | ver ps root stamp =>
    obtain ⟨r, h1, h2⟩ := h
    refine SD.tup h1 h1 (by simp) fun x hx => ?_
    rcases List.mem_cons.mp hx with rfl | hx
    · exact SD.sc trivial
    rcases List.mem_cons.mp hx with rfl | hx
    · refine SD.tup h2 h2 (by rw [List.length_map]; have := ok.2.1; omega) fun x hx => ?_
      obtain ⟨z, _, rfl⟩ := List.mem_map.mp hx
      exact SD.sc trivial
    rcases List.mem_cons.mp hx with rfl | hx
    · exact SD.sc trivial
    · rw [List.mem_singleton.mp hx]
      exact SD.sc trivial
def spBLen (P : Program) (w : World) (C : Addr) : Sp := fun vs H Q _ => ∃ (p dx lc ld lg : Addr) (cs : List (Addr × Ct)) (ds : List Nat), vs = [.ref p] ∧ BookAt P w C H p dx lc ld lg cs ds ∧ Q (.int (cs.length : Int)) H
def spNameOf (P : Program) (w : World) (C : Addr) : Sp := fun vs H Q _ => ∃ (p dx lc ld lg a : Addr) (cs : List (Addr × Ct)) (ds : List Nat) (c : Ct), vs = [.ref p, .ref a] ∧ BookAt P w C H p dx lc ld lg cs ds ∧ CtAt H a c ∧ CtOk (cs.map (·.2)) ds c ∧
  (∀ (j : Nat) (b : Addr) (H' : Hp), cs[j]? = some (b, c) → Same H H' → Q (nV j) H') ∧ ((∀ q ∈ cs, q.2 ≠ c) → ∀ H', Same H H' → Q .non H')
section
variable {P : Program} {w : World} {K : PySem.W.Frag} {mg : Str → Option Value} {base : Heap} {C : Addr}
theorem ok_blen {f : Addr} {fd : FuncData} (T : Txt K mg) (F : Fun K "__len__" "Book.__len__" s_Book___len__ f fd) (K_Book : Kl K mg "Book" C ["contents", "depths", "given"]) : FnOk P w K mg base CX0 1 f fd ["self"] (spBLen P w C) := by
  have cl := K_Book.cl
  have n1 := K_Book.na "contents" (by simp)
  refine F.ok sc_Book___len__ (fun vs H Q E h => ?_) (fun cdv A outer s H vs Q E hr h => ?_)
  · obtain ⟨p, dx, lc, ld, lg, cs, ds, rfl, _⟩ := h
    rfl
  · obtain ⟨p, dx, lc, ld, lg, cs, ds, rfl, B, q⟩ := h
    have ob := B.ob
    have co := B.co
    refine ⟨_,
      (pss_one
        (ps_ret (pe_callB (r := rLen K) c_len (by rfl) T.n_len (by decide +kernel) (pa_cons (pe_fldK (K := K) rfl (pv 0) rfl) pa_nil))))
      , ?_⟩
    rw [show L2.start N_Book___len__ [V.ref p] = [some (.ref p)] from rfl]
    walk_at "x"
    rw [List.length_map]
    exact q
end
def dsOf (cs : List Ct) : List Nat := cs.foldl (fun ds c => ds ++ [depOf ds c]) []
theorem dsOf_snoc (cs : List Ct) (c : Ct) : dsOf (cs ++ [c]) = dsOf cs ++ [depOf (dsOf cs) c] := by
  unfold dsOf
  rw [List.foldl_append]
  rfl
/-- every content is good behind those ahead of it -/
def ScnOk (cs : List Ct) : Prop := ∀ i c, cs[i]? = some c → CtOk (cs.take i) (dsOf (cs.take i)) c
theorem nodup_at {α : Type} {l : List α} (nd : l.Nodup) {i j : Nat} {hi : i < l.length} {hj : j < l.length} (h : l[i] = l[j]) : i = j := by
  refine Classical.byContradiction fun hne => ?_
  rcases Nat.lt_or_gt_of_ne hne with g | g
  · exact List.pairwise_iff_getElem.mp nd i j hi hj g h
  · exact List.pairwise_iff_getElem.mp nd j i hj hi g h.symm
theorem ScnOk.nil : ScnOk [] := fun i c h => by simp at h
theorem ScnOk.snoc {cs : List Ct} {c : Ct} (h : ScnOk cs) (hc : CtOk cs (dsOf cs) c) : ScnOk (cs ++ [c]) := by
  intro i x hx
  by_cases hi : i < cs.length
  · rw [List.getElem?_append_left hi] at hx
    have e : (cs ++ [c]).take i = cs.take i := List.take_append_of_le_length (by omega)
    rw [e]
    exact h i x hx
  · have hi2 : i = cs.length := by
      have := (List.getElem?_eq_some_iff.mp hx).1
      rw [List.length_append] at this
      simp only [List.length_cons, List.length_nil] at this
      omega
    subst hi2
    have e : (cs ++ [c]).take cs.length = cs := by simp
    rw [e]
    have : x = c := by simpa using hx.symm
    rw [this]
    exact hc
/-! ### things and a book that grow alike -/
theorem dsl_foldl_len : ∀ (b : List Ct) (ds : List Nat), (b.foldl (fun ds c => ds ++ [depOf ds c]) ds).length = ds.length + b.length
  | [], ds => by simp
  | c :: b, ds => by
    rw [List.foldl_cons, dsl_foldl_len b, List.length_append]
    simp only [List.length_cons, List.length_nil]
    omega
theorem dsl_foldl : ∀ (b : List Ct) (ds : List Nat), ∃ t, b.foldl (fun ds c => ds ++ [depOf ds c]) ds = ds ++ t
  | [], ds => ⟨[], by simp⟩
  | c :: b, ds => by
    obtain ⟨t, e⟩ := dsl_foldl b (ds ++ [depOf ds c])
    exact ⟨depOf ds c :: t, by rw [List.foldl_cons, e, List.append_assoc]; rfl⟩
theorem dsl_len (a : List Ct) : (dsOf a).length = a.length := by
  unfold dsOf
  rw [dsl_foldl_len]
  simp
theorem dsl_pre (a b : List Ct) : ∃ t, dsOf (a ++ b) = dsOf a ++ t := by
  obtain ⟨t, e⟩ := dsl_foldl b (dsOf a)
  exact ⟨t, by unfold dsOf at *; rw [List.foldl_append, e]⟩
/-- how deep the name n is -/
def dpt (cs : List (Addr × Ct)) (n : Nat) : Nat := (dsOf (cs.map (·.2))).getD n 0
/-- naming (a, c) makes cs' of cs, c is at j -/
def Step (cs cs' : List (Addr × Ct)) (a : Addr) (c : Ct) (j : Nat) : Prop := (cs' = cs ∧ ∃ b, cs[j]? = some (b, c)) ∨ (cs' = cs ++ [(a, c)] ∧ j = cs.length ∧ ∀ q ∈ cs, q.2 ≠ c)
theorem Step.at {cs cs' : List (Addr × Ct)} {a : Addr} {c : Ct} {j : Nat} (s : Step cs cs' a c j) : ∃ b, cs'[j]? = some (b, c) := by
  rcases s with ⟨rfl, h⟩ | ⟨rfl, rfl, _⟩
  · exact h
  · exact ⟨a, by simp⟩
theorem Step.lt {cs cs' : List (Addr × Ct)} {a : Addr} {c : Ct} {j : Nat} (s : Step cs cs' a c j) : j < cs'.length := by
  obtain ⟨b, h⟩ := s.at
  exact (List.getElem?_eq_some_iff.mp h).1
theorem Step.len {cs cs' : List (Addr × Ct)} {a : Addr} {c : Ct} {j : Nat} (s : Step cs cs' a c j) : cs.length ≤ cs'.length ∧ cs'.length ≤ cs.length + 1 := by
  rcases s with ⟨rfl, h⟩ | ⟨rfl, rfl, _⟩
  · omega
  · simp
theorem Step.grow {cs cs' : List (Addr × Ct)} {a : Addr} {c : Ct} {j : Nat} (s : Step cs cs' a c j) {i : Nat} {x : Addr × Ct} (h : cs[i]? = some x) : cs'[i]? = some x := by
  rcases s with ⟨rfl, _⟩ | ⟨rfl, rfl, _⟩
  · exact h
  · rw [List.getElem?_append_left (List.getElem?_eq_some_iff.mp h).1]
    exact h
theorem Step.ok {cs cs' : List (Addr × Ct)} {a : Addr} {c : Ct} {j : Nat} (s : Step cs cs' a c j) (h : ScnOk (cs.map (·.2))) (hc : CtOk (cs.map (·.2)) (dsOf (cs.map (·.2))) c) : ScnOk (cs'.map (·.2)) := by
  rcases s with ⟨rfl, _⟩ | ⟨rfl, rfl, _⟩
  · exact h
  · rw [List.map_append]
    exact h.snoc hc
theorem Step.dpt {cs cs' : List (Addr × Ct)} {a : Addr} {c : Ct} {j : Nat} (s : Step cs cs' a c j) {n : Nat} (h : n < cs.length) : dpt cs' n = dpt cs n := by
  rcases s with ⟨rfl, _⟩ | ⟨rfl, rfl, _⟩
  · rfl
  · unfold FW.dpt
    obtain ⟨t, e⟩ := dsl_pre (cs.map (·.2)) ([(a, c)].map (·.2))
    rw [List.map_append, e, List.getD_eq_getElem?_getD, List.getD_eq_getElem?_getD, List.getElem?_append_left (by rw [dsl_len, List.length_map]; exact h)]
section
variable {P : Program} {w : World} {C : Addr}
theorem w_named3 {H : Hp} {Q : VK} {E : XK} {p dx lc ld lg a : Addr} {cs cs' : List (Addr × Ct)} {c : Ct} {j : Nat} (B : BookAt P w C H p dx lc ld lg cs (dsOf (cs.map (·.2)))) (hc : CtAt H a c) (ok : CtOk (cs.map (·.2)) (dsOf (cs.map (·.2))) c) (hl : cs.length < 400 ∨ ¬ ∀ q ∈ cs, q.2 ≠ c) (s : Step cs cs' a c j)
    (h : ∀ H', BookAt P w C H' p dx lc ld lg cs' (dsOf (cs'.map (·.2))) → Kp [lc, ld, lg] H H' → KT H H' → Q (nV j) H') : spNamed P w C ([V.ref p, V.ref a] ++ []) H Q E := by
  refine ⟨p, dx, lc, ld, lg, a, cs, _, c, rfl, B, hc, ok, hl, fun j' b H' hj' k => ?_, fun hno H' B' k t => ?_⟩
  · rcases s with ⟨rfl, b2, hj⟩ | ⟨rfl, rfl, hno⟩
    · have h1 : (cs'.map (·.2))[j']? = some c := by rw [List.getElem?_map, hj']; rfl
      have h2 : (cs'.map (·.2))[j]? = some c := by rw [List.getElem?_map, hj]; rfl
      obtain ⟨g1, g1'⟩ := List.getElem?_eq_some_iff.mp h1
      obtain ⟨g2, g2'⟩ := List.getElem?_eq_some_iff.mp h2
      have e := nodup_at B.nd (g1'.trans g2'.symm)
      subst e
      exact h H' (B.same k) (Kp.of k) (KT.of k)
    · exact absurd rfl (hno _ (List.mem_of_getElem? hj'))
  · rcases s with ⟨rfl, b2, hj⟩ | ⟨rfl, rfl, _⟩
    · exact absurd rfl (hno _ (List.mem_of_getElem? hj))
    · have e : dsOf ((cs ++ [(a, c)]).map (·.2)) = dsOf (cs.map (·.2)) ++ [depOf (dsOf (cs.map (·.2))) c] := by rw [List.map_append]; exact dsOf_snoc _ _
      exact h H' (by rw [e]; exact B') k t
end
/-- tables of code objects over what changes lists, dicts and things alone -/
theorem tabs_kp {T : List (Addr × Str)} {M : List Addr} {H H' : Hp} (t : LamX.Tabs T H) (k : Kp M H H') (hM : ∀ b ∈ M, ∃ o, H b = some o ∧ (∀ ps, o ≠ .tbl ps) ∧ ∀ c q, o ≠ LamX.CodeO c q) : LamX.Tabs T H' := fun p hp => by
  obtain ⟨ps, h1, h2, h3⟩ := t p hp
  refine ⟨ps, k _ _ (fun z => ?_) h1, h2, fun pos cv hc => ?_⟩
  · obtain ⟨o, e, n, _⟩ := hM _ z
    rw [h1] at e
    exact n ps (Option.some.inj e).symm
  · obtain ⟨c, e1, e2⟩ := h3 pos cv hc
    refine ⟨c, e1, k _ _ (fun z => ?_) e2⟩
    obtain ⟨o, e, _, n⟩ := hM _ z
    rw [e2] at e
    exact n c p.2 (Option.some.inj e).symm
theorem lst_notab (xs : List V) : (∀ ps, (HO.lst xs) ≠ .tbl ps) ∧ ∀ c q, (HO.lst xs) ≠ LamX.CodeO c q := by
  constructor
  · intro ps z
    cases z
  · intro c q z
    unfold LamX.CodeO at z
    cases z
theorem BookAt.extN {P : Program} {w : World} {C : Addr} {H H' : Hp} {p dx lc ld lg : Addr} {cs : List (Addr × Ct)} {ds : List Nat} (B : BookAt P w C H p dx lc ld lg cs ds) (k : LamX.ExtN H H') : BookAt P w C H' p dx lc ld lg cs ds := by
  have t : KT H H' := fun b xs e => k b _ e (fun ps z => nomatch z)
  exact ⟨k _ _ B.ob (fun ps z => nomatch z), k _ _ B.co (fun ps z => nomatch z), k _ _ B.de (fun ps z => nomatch z), ⟨k _ _ B.gi.at' (fun ps z => nomatch z), fun q hq => ⟨NAt.kt t _ _ (B.gi.keys q hq).1, (B.gi.keys q hq).2⟩⟩, fun q hq => (B.ct q hq).kt t, B.nd, B.dl, B.ne, B.few⟩
theorem Deck.extN {H H' : Hp} {d c : Addr} {n : Nat} (D : Deck H d c n) (k : LamX.ExtN H H') : Deck H' d c n := by
  obtain ⟨⟨ns, a, b, t, e1, e2, h⟩, ne⟩ := D
  exact ⟨⟨ns, a, b, t, k _ _ e1 (fun ps z => nomatch z), k _ _ e2 (fun ps z => nomatch z), h⟩, ne⟩
theorem KT.extN {H H' : Hp} (k : LamX.ExtN H H') : KT H H' := fun b xs e => k b _ e (fun ps z => nomatch z)
theorem nd_notab {P : Program} {w : World} {a : Addr} {xs : List NEnt} : (∀ ps, (NO P w a xs) ≠ .tbl ps) ∧ ∀ c q, (NO P w a xs) ≠ LamX.CodeO c q := by
  refine ⟨fun ps z => ?_, fun c q z => ?_⟩
  · unfold NO at z
    cases z
  · unfold NO LamX.CodeO at z
    injection z with z
    obtain ⟨ob, hob⟩ : ∃ ob : Obj, ob = { cls := .none, data := .fields #[.none, .str q default] } := ⟨_, rfl⟩
    have hd : ob.data = .fields #[.none, .str q default] := by rw [hob]
    have hget : ∀ (n : Nat) (o : Obj), (Heap.mk (Array.replicate (c + 1) ob) {}).get? n = some o → o = ob := fun n o e => by
      unfold Heap.get? at e
      by_cases hn : n < c + 1
      · have e1 : (Array.replicate (c + 1) ob)[n]? = some ob := by simp [hn]
        simp only [e1] at e
        rw [hob] at e ⊢
        exact (Option.some.inj e).symm
      · have e1 : (Array.replicate (c + 1) ob)[n]? = none := by simp; omega
        simp only [e1] at e
        cases e
    have hc : (Heap.mk (Array.replicate (c + 1) ob) {}).get? c = some ob := by
      unfold Heap.get?
      have e1 : (Array.replicate (c + 1) ob)[c]? = some ob := by simp
      simp only [e1]
      rw [hob]
    have r : ∃ (oc : Obj) (vs : Array Value) (t : Tok), (Heap.mk (Array.replicate (c + 1) ob) {}).get? c = some oc ∧ oc.data = .fields vs ∧ vs[1]? = some (.str q t) := ⟨ob, _, default, hc, hd, rfl⟩
    have e := congrFun z (Heap.mk (Array.replicate (c + 1) ob) {})
    rw [← e] at r
    obtain ⟨_, _, ys, _, o, es, ep, e1, _, e2, _⟩ := r
    rw [hget _ _ e1, hd] at e2
    cases e2
/-! ### contents looked for in any data -/
def EntV (cs : List Ct) (H : Hp) (x : V) (z : Str) (n : Nat) : Prop := ∃ e, x = .ref e ∧ H e = some (.tup [.str z, nV n]) ∧ LabOk z ∧ ∃ c, cs[n]? = some c ∧ c.word ≠ "version"
theorem EntV.same {cs : List Ct} {H H' : Hp} {x : V} {z : Str} {n : Nat} (h : EntV cs H x z n) (k : Same H H') : EntV cs H' x z n := by
  obtain ⟨e, h1, h2, h3⟩ := h
  exact ⟨e, h1, k _ _ h2, h3⟩
theorem EntV.back {B : Nat} {cs : List Ct} {H H' : Hp} {x : V} {z : Str} {n : Nat} (h : EntV cs H' x z n) (d : DatT B H x) (k : Same H H') : EntV cs H x z n := by
  obtain ⟨e, rfl, h2, h3⟩ := h
  exact ⟨e, rfl, d.back k h2, h3⟩
def RowsV (H : Hp) (x : V) (rows : List Str) : Prop := ∃ r, x = .ref r ∧ RwAt H r rows ∧ rows.length ≤ 40 ∧ ∀ z ∈ rows, LineOk z
def TreeV (cs : List Ct) (ds : List Nat) (H : Hp) (x : V) (es : List (Str × Nat)) : Prop := ∃ (r : Addr) (qs : List (Addr × Str × Nat)), x = .ref r ∧ H r = some (.tup (qs.map fun q => .ref q.1)) ∧ qs.map (·.2) = es ∧ (∀ q ∈ qs, H q.1 = some (.tup [.str q.2.1, nV q.2.2])) ∧ CtOk cs ds (.tree es)
def CtV (cs : List Ct) (ds : List Nat) (H : Hp) (x : V) (c : Ct) : Prop := ∃ a, x = .ref a ∧ CtAt H a c ∧ CtOk cs ds c
theorem CtAt.backT {B : Nat} {H H' : Hp} {a : Addr} {c : Ct} (h : CtAt H' a c) (d : DatT B H (.ref a)) (k : Same H H') : CtAt H a c := by
  cases c with
  | leaf rows =>
    obtain ⟨r, h1, h2⟩ := h
    have e1 := d.back k h1
    exact ⟨r, e1, ((d.elem e1).2 (.ref r) (by simp)).back k h2⟩
  | tree es =>
    obtain ⟨r, qs, h1, h2, h3, h4⟩ := h
    have e1 := d.back k h1
    have d2 := (d.elem e1).2 (.ref r) (by simp)
    have e2 := d2.back k h2
    exact ⟨r, qs, e1, e2, h3, fun q hq => ((d2.elem e2).2 (.ref q.1) (List.mem_map_of_mem (f := fun q : Addr × Str × Nat => V.ref q.1) hq)).back k (h4 q hq)⟩
  | ver ps root stamp =>
    obtain ⟨r, h1, h2⟩ := h
    have e1 := d.back k h1
    exact ⟨r, e1, ((d.elem e1).2 (.ref r) (by simp)).back k h2⟩
theorem CtV.same {cs : List Ct} {ds : List Nat} {H H' : Hp} {x : V} {c : Ct} (h : CtV cs ds H x c) (k : Same H H') : CtV cs ds H' x c := by
  obtain ⟨a, h1, h2, h3⟩ := h
  exact ⟨a, h1, h2.kt (KT.of k), h3⟩
theorem CtV.back {B : Nat} {cs : List Ct} {ds : List Nat} {H H' : Hp} {x : V} {c : Ct} (h : CtV cs ds H' x c) (d : DatT B H x) (k : Same H H') : CtV cs ds H x c := by
  obtain ⟨a, rfl, h2, h3⟩ := h
  exact ⟨a, rfl, h2.backT d k, h3⟩
def spIsLabelX : Sp := fun vs H Q _ => ∃ (x : V) (B : Nat), vs = [x] ∧ DatT B H x ∧ B ≤ 1000 ∧ (∀ z, x = .str z → LabOk z → ∀ H', Same H H' → Q (.bl true) H') ∧ ((∀ z, x = .str z → ¬ LabOk z) → ∀ H', Same H H' → Q (.bl false) H')
def spRiseX : Sp := fun vs H Q _ => ∃ (r : Addr) (zs : List Str), vs = [.ref r] ∧ H r = some (.lst (zs.map V.str)) ∧ zs.length ≤ 1000 ∧ (zs.Pairwise (fun x y => x.cps.toList < y.cps.toList) → ∀ H', Same H H' → Q (.bl true) H') ∧ (¬ zs.Pairwise (fun x y => x.cps.toList < y.cps.toList) → ∀ H', Same H H' → Q (.bl false) H')
def spAreRowsX : Sp := fun vs H Q _ => ∃ (x : V) (B : Nat), vs = [x] ∧ DatT B H x ∧ B ≤ 1000 ∧ (∀ rows, RowsV H x rows → ∀ H', Same H H' → Q (.bl true) H') ∧ ((∀ rows, ¬ RowsV H x rows) → ∀ H', Same H H' → Q (.bl false) H')
def spIsPairT : Sp := fun vs H Q _ => ∃ (x : V) (B : Nat), vs = [x] ∧ DatT B H x ∧ (∀ a u v, x = .ref a → H a = some (.tup [u, v]) → Q (.bl true) H) ∧ ((∀ a u v, x = .ref a → H a ≠ some (.tup [u, v])) → Q (.bl false) H)
def spIsEntryX (P : Program) (w : World) (C : Addr) : Sp := fun vs H Q _ => ∃ (p dx lc ld lg : Addr) (cs : List (Addr × Ct)) (ds : List Nat) (x : V) (Bd : Nat), vs = [.ref p, x] ∧ BookAt P w C H p dx lc ld lg cs ds ∧ DatT Bd H x ∧ Bd ≤ 1000 ∧ (∀ z n, EntV (cs.map (·.2)) H x z n → ∀ H', Same H H' → Q (.bl true) H') ∧ ((∀ z n, ¬ EntV (cs.map (·.2)) H x z n) → ∀ H', Same H H' → Q (.bl false) H')
def spIsTreeX (P : Program) (w : World) (C : Addr) : Sp := fun vs H Q _ => ∃ (p dx lc ld lg : Addr) (cs : List (Addr × Ct)) (ds : List Nat) (x : V) (Bd : Nat), vs = [.ref p, x] ∧ BookAt P w C H p dx lc ld lg cs ds ∧ DatT Bd H x ∧ Bd ≤ 1000 ∧ (∀ es, TreeV (cs.map (·.2)) ds H x es → ∀ H', Same H H' → Q (.bl true) H') ∧ ((∀ es, ¬ TreeV (cs.map (·.2)) ds H x es) → ∀ H', Same H H' → Q (.bl false) H')
def spIsVersionX (P : Program) (w : World) (C : Addr) : Sp := fun vs H Q _ => ∃ (p dx lc ld lg a : Addr) (cs : List (Addr × Ct)) (ds : List Nat) (u x y z : V) (Bd : Nat), vs = [.ref p, .ref a] ∧ BookAt P w C H p dx lc ld lg cs ds ∧ H a = some (.tup [u, x, y, z]) ∧ DatT Bd H (.ref a) ∧ Bd ≤ 1000 ∧ (∀ ps root stamp, NatsV H x ps → y = nV root → z = nV stamp → CtOk (cs.map (·.2)) ds (.ver ps root stamp) → ∀ H', Same H H' → Q (.bl true) H') ∧ ((∀ ps root stamp, NatsV H x ps → y = nV root → z = nV stamp → ¬ CtOk (cs.map (·.2)) ds (.ver ps root stamp)) → ∀ H', Same H H' → Q (.bl false) H')
def spIsContentX (P : Program) (w : World) (C : Addr) : Sp := fun vs H Q _ => ∃ (p dx lc ld lg : Addr) (cs : List (Addr × Ct)) (ds : List Nat) (x : V) (Bd : Nat), vs = [.ref p, x] ∧ BookAt P w C H p dx lc ld lg cs ds ∧ DatT Bd H x ∧ Bd ≤ 1000 ∧ (∀ c, CtV (cs.map (·.2)) ds H x c → ∀ H', Same H H' → Q (.bl true) H') ∧ ((∀ c, ¬ CtV (cs.map (·.2)) ds H x c) → ∀ H', Same H H' → Q (.bl false) H')
theorem all_at {xs : List V} {bs : List Bool} {Y : V → Prop} (hl : bs.length = xs.length) (h : ∀ (i : Nat) (b : Bool), bs[i]? = some b → ∀ z, xs[i]? = some z → (b = true ↔ Y z)) : (bs.all id = true ↔ ∀ y ∈ xs, Y y) := by
  rw [List.all_eq_true]
  constructor
  · intro hall y hy
    obtain ⟨i, hi, rfl⟩ := List.getElem_of_mem hy
    have hi2 : i < bs.length := by omega
    exact (h i bs[i] (List.getElem?_eq_getElem hi2) xs[i] (List.getElem?_eq_getElem hi)).mp (hall _ (List.getElem_mem hi2))
  · intro hall b hb
    obtain ⟨i, hi, rfl⟩ := List.getElem_of_mem hb
    have hi2 : i < xs.length := by omega
    exact (h i bs[i] (List.getElem?_eq_getElem hi) xs[i] (List.getElem?_eq_getElem hi2)).mpr (hall _ (List.getElem_mem hi2))
theorem strsX_of : ∀ {ys : List V} {Y : Str → Prop}, (∀ y ∈ ys, ∃ z, y = .str z ∧ Y z) → ∃ zs : List Str, ys = zs.map V.str ∧ ∀ z ∈ zs, Y z
  | [], _, _ => ⟨[], rfl, by simp⟩
  | y :: ys, Y, h => by
    obtain ⟨z, rfl, hz⟩ := h y (by simp)
    obtain ⟨zs, rfl, hzs⟩ := strsX_of fun y hy => h y (List.mem_cons_of_mem _ hy)
    exact ⟨z :: zs, rfl, fun u hu => by
      rcases List.mem_cons.mp hu with rfl | hu
      · exact hz
      · exact hzs u hu⟩
theorem ents_of {cs : List Ct} {H : Hp} : ∀ {ys : List V}, (∀ y ∈ ys, ∃ z n, EntV cs H y z n) → ∃ qs : List (Addr × Str × Nat), ys = qs.map (fun q => V.ref q.1) ∧ (∀ q ∈ qs, H q.1 = some (.tup [.str q.2.1, nV q.2.2])) ∧ ∀ q ∈ qs, LabOk q.2.1 ∧ ∃ c, cs[q.2.2]? = some c ∧ c.word ≠ "version"
  | [], _ => ⟨[], rfl, by simp, by simp⟩
  | y :: ys, h => by
    obtain ⟨z, n, e, rfl, h1, h2⟩ := h y (by simp)
    obtain ⟨qs, rfl, g1, g2⟩ := ents_of fun y hy => h y (List.mem_cons_of_mem _ hy)
    refine ⟨(e, z, n) :: qs, rfl, fun q hq => ?_, fun q hq => ?_⟩
    · rcases List.mem_cons.mp hq with rfl | hq
      · exact h1
      · exact g1 q hq
    · rcases List.mem_cons.mp hq with rfl | hq
      · exact h2
      · exact g2 q hq
section
variable {P : Program} {w : World} {K : PySem.W.Frag} {mg : Str → Option Value} {base : Heap} {C : Addr}
theorem ok_islabelX {f : Addr} {fd : FuncData} (T : Txt K mg) (F : Fun K "is_label" "is_label" s_is_label f fd) : FnOk P w K mg base CX0 1 f fd ["thing"] spIsLabelX := by
  obtain ⟨tk_LETTERS, g_LETTERS⟩ := T.g_LETTERS
  refine F.ok sc_is_label (fun vs H Q E h => ?_) (fun cdv A outer s H vs Q E hr h => ?_)
  · obtain ⟨x, B, rfl, _⟩ := h
    rfl
  · obtain ⟨x, B, rfl, hd, hB, q1, q2⟩ := h
    obtain ⟨a, t⟩ := hd.ty
    refine ⟨_,
      (pss_one
        (ps_ret (pe_and (pe_callB (r := rIsi K) call_isi (by rfl) T.n_isinstance (by decide +kernel) (pa_cons (pv 0) (pa_cons (pe_bltn (v := .ty "str") (u := .type "str") (by rfl) T.n_str (by decide +kernel) rfl) pa_nil))) (pe_and (pe_chain op_le op_le pe_int (pe_callB c_lenS (by rfl) T.n_len (by decide +kernel) (pa_cons (pv 0) pa_nil)) pe_int) (pe_one (pe_callB (r := rAll K) (cr_all rfl) (by rfl) T.n_all (by decide +kernel) (pa_cons (pe_lc (own := [("sign", 1)]) (g := (gName 1)) rfl sc_is_label.nd (pi_str (pv 0)) (blkOk_by (own := [("sign", 1)]) (N := N_is_label) (sc := defScope s_is_label) (by decide +kernel)) (fun _ _ _ _ _ => (pg_name (i := 1) sc_is_label.nd rfl (.inl rfl))) (fun _ _ _ _ _ => pts_nil) (fun _ _ _ _ _ => (pe_cmpR o_inS (pv 1) (pe_glob (v := .str "abcdefghijklmnopqrstuvwxyz") rfl g_LETTERS ⟨_, rfl⟩) rfl))) pa_nil)))))))
      , ?_⟩
    rw [show L2.start N_is_label [x] = [some x, none] from rfl]
    walk_at "x"
    refine w_isStr t ?_
    walk_at "g"
    refine w_ite (fun hs => ?_) (fun hs => ?_)
    rotate_left
    · exact q2 (fun z e => by subst e; exact absurd t.ofStr hs) H (fun _ _ z => z)
    obtain ⟨z, rfl⟩ := t.isStr hs
    have hzl := hd.len
    walk_at "g"
    refine w_lenS (Nat.le_trans hzl (Nat.le_trans hB (by decide))) ?_
    walk_at "g"
    refine w_ite (fun h1 => ?_) (fun h1 => ?_)
    rotate_left
    · walk_at "g"
      exact q2 (fun z' e hl => by cases e; exact h1 (by have := hl.1; omega)) H (fun _ _ z => z)
    walk_at "g"
    refine w_ite (fun h8 => ?_) (fun h8 => ?_)
    rotate_left
    · exact q2 (fun z' e hl => by cases e; exact h8 (by have := hl.2.1; omega)) H (fun _ _ z => z)
    walk_at "g"
    refine lcp_map (walk_str z) [] ((z.cps.toList.map fun c => decide (c ∈ LTR.cps.toList)).map V.bl) (by simp) (by show z.length ≤ 1000000; omega) (fun _ _ => trivial) ?_ (by simp) ?_
    · rintro i x H1 H2 R hi k1 ⟨rfl, c, hc, rfl⟩ hR
      refine w_name ⟨rfl, ?_⟩
      walk_at "g"
      refine hR _ _ ?_ Kp.refl
      rw [List.getElem?_map, List.getElem?_map, Array.getElem?_toList, hc]
      rfl
    · intro L H1 hL k1 eL
      walk_at "g"
      have hk := k1.same
      by_cases h : ∀ c ∈ z.cps.toList, c ∈ LTR.cps.toList
      · have e : (z.cps.toList.map fun c => decide (c ∈ LTR.cps.toList)).all id = true := by
          rw [List.all_eq_true]
          intro b hb
          obtain ⟨c, hc, rfl⟩ := List.mem_map.mp hb
          exact decide_eq_true (h c hc)
        rw [e]
        exact q1 z rfl ⟨by omega, by omega, h⟩ _ hk
      · have e : (z.cps.toList.map fun c => decide (c ∈ LTR.cps.toList)).all id = false := by
          rw [Bool.eq_false_iff]
          intro hall
          rw [List.all_eq_true] at hall
          exact h fun c hc => of_decide_eq_true (hall _ (List.mem_map_of_mem (f := fun c => decide (c ∈ LTR.cps.toList)) hc))
        rw [e]
        exact q2 (fun z' e' hl => by cases e'; exact h hl.2.2) _ hk
theorem ok_riseX {f : Addr} {fd : FuncData} (T : Txt K mg) (F : Fun K "rise" "rise" s_rise f fd) : FnOk P w K mg base CX0 1 f fd ["row"] spRiseX := by
  refine F.ok sc_rise (fun vs H Q E h => ?_) (fun cdv A outer s H vs Q E hr h => ?_)
  · obtain ⟨r, zs, rfl, _⟩ := h
    rfl
  · obtain ⟨r, zs, rfl, hr', hl, q1, q2⟩ := h
    refine ⟨_,
      (pss_one
        (ps_ret (pe_callB (r := rAll K) (cr_all rfl) (by rfl) T.n_all (by decide +kernel) (pa_cons (pe_lc (own := [("k", 1)]) (g := (gName 1)) rfl sc_rise.nd (pi_range2 (by rfl) T.n_range (pa_cons pe_int (pa_cons (pe_callB (r := rLen K) c_len (by rfl) T.n_len (by decide +kernel) (pa_cons (pv 0) pa_nil)) pa_nil))) (blkOk_by (own := [("k", 1)]) (N := N_rise) (sc := defScope s_rise) (by decide +kernel)) (fun _ _ _ _ _ => (pg_name (i := 1) sc_rise.nd rfl (.inl rfl))) (fun _ _ _ _ _ => pts_nil) (fun _ _ _ _ _ => (pe_cmpR o_ltS (pe_ix (r := rIxL K) ix_list (pv 0) (pe_op op_sub (pv 1) pe_int) (fun _ _ => rfl)) (pe_ix (r := rIxL K) ix_list (pv 0) (pv 1) (fun _ _ => rfl)) (nomark _)))) pa_nil))))
      , ?_⟩
    rw [show L2.start N_rise [V.ref r] = [some (.ref r), none] from rfl]
    walk_at "x"
    try refine w_rng2' (by simp only [List.length_map]; omega) ?_
    refine lcp_map (walk_range (lo := 1) (n := ((((zs.map V.str).length : Nat) : Int) - 1).toNat)) [] (((List.range (zs.length - 1)).map fun i => decide (txLt (zs.getD i "") (zs.getD (i + 1) ""))).map V.bl) (by simp only [List.length_map, List.length_range]; omega) (by simp only [List.length_map]; omega) (fun _ _ => trivial) ?_ (by simp) ?_
    · rintro i x H1 H2 R hi k1 ⟨rfl, rfl⟩ hR
      have hi' : i + 1 < zs.length := by
        simp only [List.length_map] at hi
        omega
      have hr1 := k1.same _ _ hr'
      have g1 := List.getElem?_eq_getElem (show i < zs.length by omega)
      have g2 := List.getElem?_eq_getElem hi'
      have at1 : atI (zs.map V.str) (1 + (i : Int) - 1) = some (.str zs[i]) := by
        rw [show (1 : Int) + (i : Int) - 1 = ((i : Nat) : Int) by omega]
        exact atI_nat (by rw [List.getElem?_map, g1]; rfl)
      have at2 : atI (zs.map V.str) (1 + (i : Int)) = some (.str zs[i + 1]) := by
        rw [show (1 : Int) + (i : Int) = ((i + 1 : Nat) : Int) by omega]
        exact atI_nat (by rw [List.getElem?_map, g2]; rfl)
      refine w_name ⟨rfl, ?_⟩
      walk_at "g"
      refine hR _ _ ?_ Kp.refl
      rw [List.getElem?_map, List.getElem?_map, List.getElem?_range (by omega)]
      show some (V.bl (decide (txLt (zs.getD i "") (zs.getD (i + 1) "")))) = _
      rw [List.getD_eq_getElem?_getD, List.getD_eq_getElem?_getD, g1, g2]
      rfl
    · intro L H1 hL k1 eL
      walk_at "g"
      by_cases h : zs.Pairwise (fun x y => x.cps.toList < y.cps.toList)
      · have e : ((List.range (zs.length - 1)).map fun i => decide (txLt (zs.getD i "") (zs.getD (i + 1) ""))).all id = true := by
          rw [List.all_eq_true]
          intro b hb
          obtain ⟨i, hi, rfl⟩ := List.mem_map.mp hb
          have hi' : i + 1 < zs.length := by have := List.mem_range.mp hi; omega
          have g1 := List.getElem?_eq_getElem (show i < zs.length by omega)
          have g2 := List.getElem?_eq_getElem hi'
          refine decide_eq_true ?_
          rw [List.getD_eq_getElem?_getD, List.getD_eq_getElem?_getD, g1, g2]
          exact adj_pw h g1 g2
        rw [e]
        exact q1 h _ k1.same
      · have e : ((List.range (zs.length - 1)).map fun i => decide (txLt (zs.getD i "") (zs.getD (i + 1) ""))).all id = false := by
          rw [Bool.eq_false_iff]
          intro hall
          rw [List.all_eq_true] at hall
          refine h (pw_adj (R := fun x y : Str => x.cps.toList < y.cps.toList) (fun a b c => List.lt_trans) fun i x y hx hy => ?_)
          have hi' := (List.getElem?_eq_some_iff.mp hy).1
          have := of_decide_eq_true (hall _ (List.mem_map_of_mem (f := fun i => decide (txLt (zs.getD i "") (zs.getD (i + 1) ""))) (List.mem_range.mpr (show i < zs.length - 1 by omega))))
          rw [List.getD_eq_getElem?_getD, List.getD_eq_getElem?_getD, hx, hy] at this
          exact this
        rw [e]
        exact q2 h _ k1.same
theorem ok_arerowsX {f fT : Addr} {fd fdT : FuncData} (T : Txt K mg) (F : Fun K "are_rows" "are_rows" s_are_rows f fd) (D_is_text : DfD K mg "is_text" s_is_text ["thing", "most"] [.int 40] fT fdT) : FnOk P w K mg base CX0 2 f fd ["thing"] spAreRowsX := by
  obtain ⟨ds_is_text, V_is_text, B_is_text⟩ := D_is_text.b
  have G_is_text : FnOk P w K mg base CX0 1 fT fdT ["thing", "most"] spIsText := ok_istext T D_is_text
  refine F.ok sc_are_rows (fun vs H Q E h => ?_) (fun cdv A outer s H vs Q E hr h => ?_)
  · obtain ⟨x, B, rfl, _⟩ := h
    rfl
  · obtain ⟨x, B, rfl, hd, hB, q1, q2⟩ := h
    refine ⟨_,
      (pss_one
        (ps_ret (pe_and (pe_callB (r := rIsi K) call_isi (by rfl) T.n_isinstance (by decide +kernel) (pa_cons (pv 0) (pa_cons (pe_bltn (v := .ty "tuple") (u := .type "tuple") (by rfl) T.n_tuple (by decide +kernel) rfl) pa_nil))) (pe_and (pe_cmpR op_le (pe_callB (r := rLen K) c_len (by rfl) T.n_len (by decide +kernel) (pa_cons (pv 0) pa_nil)) pe_int (nomark _)) (pe_one (pe_callB (r := rAll K) (cr_all rfl) (by rfl) T.n_all (by decide +kernel) (pa_cons (pe_lc (own := [("row", 1)]) (g := (gName 1)) rfl sc_are_rows.nd (pi_tup (pv 0)) (blkOk_by (own := [("row", 1)]) (N := N_are_rows) (sc := defScope s_are_rows) (by decide +kernel)) (fun _ _ _ _ _ => (pg_name (i := 1) sc_are_rows.nd rfl (.inl rfl))) (fun _ _ _ _ _ => pts_nil) (fun _ _ _ _ _ => (pe_call G_is_text (hr.mono (by omega)) (by rfl) D_is_text.g D_is_text.kp B_is_text V_is_text pass0 (pa_cons (pv 1) pa_nil)))) pa_nil)))))))
      , ?_⟩
    rw [show L2.start N_are_rows [x] = [some x, none] from rfl]
    walk_at "x"
    rcases hd.cases with ⟨ay, ty, hne⟩ | ⟨a, xs, rfl, ea, hxB, hxs⟩
    · refine w_isTup ty ?_
      rw [decide_eq_false hne]
      walk_at "g"
      refine q2 ?_ _ (fun _ _ z => z)
      rintro rows ⟨r, rfl, h, _⟩
      exact hne (ty.ofTup h)
    walk_at "g"
    refine w_ite (fun h40 => ?_) (fun h40 => ?_)
    rotate_left
    · refine q2 ?_ _ (fun _ _ z => z)
      rintro rows ⟨r, e, h, hl, _⟩
      cases e
      have h' : H a = some (.tup (rows.map V.str)) := h
      rw [ea] at h'
      have e := HO.tup.inj (Option.some.inj h')
      rw [e, List.length_map] at h40
      omega
    walk_at "g"
    refine lcp_gen (walk_tup (K := K) (a := a) (xs := xs)) [] (fun i y _ => ∃ bb : Bool, y = .bl bb ∧ ∀ z, xs[i]? = some z → (bb = true ↔ ∃ u, z = .str u ∧ LineOk u)) (fun _ _ => True) (by omega) (fun _ _ _ _ _ h => h) (fun _ _ _ _ _ _ => trivial) (fun _ H1 k _ => .of (k _ _ (by simp) ea)) trivial ?_ (by simp) ?_
    · rintro i y H2 H3 R hi k2 t2 _ ⟨rfl, hy⟩ hR
      have hdy := (hxs y (List.mem_of_getElem? hy)).kd (KD.of k2.same)
      refine w_name ⟨rfl, ?_⟩
      walk_at "g"
      refine ⟨y, B, rfl, hdy, by omega, fun u e hu H4 k4 => ?_, fun hn H4 k4 => ?_⟩
      · refine hR _ _ ⟨true, rfl, fun z hz => ⟨fun _ => ⟨u, ?_, hu⟩, fun _ => rfl⟩⟩ (Kp.of k4) (KT.of k4) trivial
        rw [hy] at hz
        cases hz
        exact e
      · refine hR _ _ ⟨false, rfl, fun z hz => ⟨fun h => Bool.noConfusion h, fun ⟨u, e, hu⟩ => ?_⟩⟩ (Kp.of k4) (KT.of k4) trivial
        rw [hy] at hz
        cases hz
        exact absurd hu (hn u e)
    · intro L H2 vs hvl hvp hL k2' t2 _ eL
      have k2 := k2'.same
      obtain ⟨bs, rfl, hbs⟩ := bls_of hvp
      rw [List.length_map] at hvl
      walk_at "g"
      have hiff := all_at (Y := fun z => ∃ u, z = .str u ∧ LineOk u) hvl hbs
      by_cases hall : ∀ y ∈ xs, ∃ u, y = .str u ∧ LineOk u
      · rw [hiff.mpr hall]
        obtain ⟨zs, rfl, hzs⟩ := strsX_of hall
        exact q1 zs ⟨a, rfl, ea, by rw [List.length_map] at h40; omega, hzs⟩ _ k2
      · rw [Bool.eq_false_iff.mpr fun h => hall (hiff.mp h)]
        refine q2 ?_ _ k2
        rintro rows ⟨r, e, h, _, hz⟩
        cases e
        have h' : H a = some (.tup (rows.map V.str)) := h
        rw [ea] at h'
        have e := HO.tup.inj (Option.some.inj h')
        exact hall fun y hy => by
          rw [e] at hy
          obtain ⟨u, hu, rfl⟩ := List.mem_map.mp hy
          exact ⟨u, rfl, hz u hu⟩
theorem ok_ispairT {f : Addr} {fd : FuncData} (T : Txt K mg) (F : Fun K "is_pair" "is_pair" s_is_pair f fd) : FnOk P w K mg base CX0 1 f fd ["thing"] spIsPairT := by
  refine F.ok sc_is_pair (fun vs H Q E h => ?_) (fun cdv A outer s H vs Q E hr h => ?_)
  · obtain ⟨x, B, rfl, _⟩ := h
    rfl
  · obtain ⟨x, B, rfl, hd, q1, q2⟩ := h
    refine ⟨_,
      (pss_one
        (ps_ret (pe_and (pe_callB (r := rIsi K) call_isi (by rfl) T.n_isinstance (by decide +kernel) (pa_cons (pv 0) (pa_cons (pe_bltn (v := .ty "tuple") (u := .type "tuple") (by rfl) T.n_tuple (by decide +kernel) rfl) pa_nil))) (pe_one (pe_cmpR op_eq (pe_callB (r := rLen K) c_len (by rfl) T.n_len (by decide +kernel) (pa_cons (pv 0) pa_nil)) pe_int (nomark _))))))
      , ?_⟩
    rw [show L2.start N_is_pair [x] = [some x] from rfl]
    walk_at "x"
    rcases hd.cases with ⟨ay, ty, hne⟩ | ⟨a, xs, rfl, ea, hxB, hxs⟩
    · refine w_isTup ty ?_
      rw [decide_eq_false hne]
      walk_at "g"
      exact q2 fun a u v e h => by subst e; exact hne (ty.ofTup h)
    walk_at "g"
    by_cases h2 : xs.length = 2
    · rw [decide_eq_true (by omega)]
      match xs, h2 with
      | [u, v], _ => exact q1 a u v rfl ea
    · rw [decide_eq_false (by omega)]
      refine q2 fun a' u v e h => ?_
      cases e
      rw [ea] at h
      cases h
      exact h2 rfl
theorem ok_isentryX {f fN fI fP fL : Addr} {fd fdN fdI fdP fdL : FuncData} (T : Txt K mg) (F : Fun K "is_entry" "is_entry" s_is_entry f fd) (K_Book : Kl K mg "Book" C ["contents", "depths", "given"]) (D_is_name : Df K mg "is_name" s_is_name ["book", "thing"] fN fdN) (D_is_int : DfD K mg "is_int" s_is_int ["thing", "least"] [.int 0] fI fdI) (D_is_pair : Df K mg "is_pair" s_is_pair ["thing"] fP fdP) (D_is_label : Df K mg "is_label" s_is_label ["thing"] fL fdL) : FnOk P w K mg base CX0 3 f fd ["book", "thing"] (spIsEntryX P w C) := by
  have G_is_name : FnOk P w K mg base CX0 2 fN fdN ["book", "thing"] (spIsName P w C) := ok_isname T D_is_name.fn K_Book D_is_int
  have G_is_pair : FnOk P w K mg base CX0 1 fP fdP ["thing"] spIsPairT := ok_ispairT T D_is_pair.fn
  have G_is_label : FnOk P w K mg base CX0 1 fL fdL ["thing"] spIsLabelX := ok_islabelX T D_is_label.fn
  have cl := K_Book.cl
  have n1 := K_Book.na "contents" (by simp)
  refine F.ok sc_is_entry (fun vs H Q E h => ?_) (fun cdv A outer s H vs Q E hr h => ?_)
  · obtain ⟨p, dx, lc, ld, lg, cs, ds, x, Bd, rfl, _⟩ := h
    rfl
  · obtain ⟨p, dx, lc, ld, lg, cs, ds, x, Bd, rfl, B, hd, hB, q1, q2⟩ := h
    refine ⟨_,
      (pss_cons
        (ps_if (PW.pt (pw_or (pt_not (pt_val (pe_call G_is_pair (hr.mono (by omega)) (by rfl) D_is_pair.g D_is_pair.fn.kp D_is_pair.b .nil pass0 (pa_cons (pv 1) pa_nil)))) (pw_or1 (pt_not (pt_val (pe_call G_is_label (hr.mono (by omega)) (by rfl) D_is_label.g D_is_label.fn.kp D_is_label.b .nil pass0 (pa_cons (pe_ix (r := rIxT K) ix_tup (pv 1) pe_int (fun _ _ => rfl)) pa_nil)))))))
          (pss_one
            (ps_ret pe_bl))
          pss_nil)
      (pss_one
        (ps_ret (pe_and (pe_call G_is_name (hr.mono (by omega)) (by rfl) D_is_name.g D_is_name.fn.kp D_is_name.b .nil pass0 (pa_cons (pv 0) (pa_cons (pe_ix (r := rIxT K) ix_tup (pv 1) pe_int (fun _ _ => rfl)) pa_nil))) (pe_one (pe_cmpR op_ne (pe_ix (r := rIxT K) ix_tup (pe_ix (r := rIxL K) ix_list (pe_fldK (K := K) rfl (pv 0) rfl) (pe_ix (r := rIxT K) ix_tup (pv 1) pe_int (fun _ _ => rfl)) (fun _ _ => rfl)) pe_int (fun _ _ => rfl)) pe_str (nomark _)))))))
      , ?_⟩
    rw [show L2.start N_is_entry [V.ref p, x] = [some (.ref p), some x] from rfl]
    refine w_seq ?_
    walk_at "x"
    refine ⟨x, Bd, rfl, hd, fun e u v hx he => ?_, fun hn => ?_⟩
    rotate_left
    · walk_at "g"
      refine q2 ?_ _ (fun _ _ z => z)
      rintro z n ⟨e, rfl, h1, _⟩
      exact hn e _ _ rfl h1
    subst hx
    have hde := (hd.elem he).2
    walk_at "g"
    refine ⟨u, Bd, rfl, hde u (by simp), hB, fun z e1 hz H1 k1 => ?_, fun hn H1 k1 => ?_⟩
    rotate_left
    · walk_at "g"
      refine q2 ?_ _ k1
      rintro z n ⟨e', e1, h1, hz, _⟩
      cases e1
      rw [he] at h1
      cases h1
      exact hn z rfl hz
    subst e1
    have B1 := B.same k1
    have ob1 := B1.ob
    have co1 := B1.co
    have he1 := k1 _ _ he
    obtain ⟨av, tv⟩ := ((hde v (by simp)).kd (KD.of k1)).ty
    walk_at "g"
    refine ⟨p, dx, lc, ld, lg, cs, ds, v, av, rfl, B1, tv, fun n hn hl => ?_, fun hn => ?_⟩
    rotate_left
    · walk_at "g"
      refine q2 ?_ _ k1
      rintro z n ⟨e', e1, h1, _, c, hc, _⟩
      cases e1
      rw [he] at h1
      cases h1
      have := (List.getElem?_eq_some_iff.mp hc).1
      rw [List.length_map] at this
      exact hn n rfl this
    subst hn
    have he2 : H1 e = some (.tup [.str z, .int (n : Int)]) := he1
    obtain ⟨q, hq⟩ : ∃ q, cs[n]? = some q := ⟨_, List.getElem?_eq_getElem hl⟩
    obtain ⟨xs, hh⟩ := (B1.ct q (List.mem_of_getElem? hq)).head
    have at1 : atI (cs.map fun q => V.ref q.1) (n : Int) = some (.ref q.1) := atI_nat (by rw [List.getElem?_map, hq]; rfl)
    have at0 : atI (V.str q.2.word :: xs) 0 = some (.str q.2.word) := atI_nat (j := 0) rfl
    walk_at "g"
    by_cases hw : q.2.word = "version"
    · rw [decide_eq_true hw]
      refine q2 ?_ _ k1
      rintro z' n' ⟨e', e1, h1, _, c, hc, hcw⟩
      cases e1
      rw [he] at h1
      have e2 := (List.cons.inj (List.cons.inj (HO.tup.inj (Option.some.inj h1))).2).1
      have e3 : n' = n := by have : (n : Int) = n' := V.int.inj e2; omega
      subst e3
      rw [List.getElem?_map, hq] at hc
      cases hc
      exact hcw hw
    · rw [decide_eq_false hw]
      exact q1 z n ⟨e, rfl, he, hz, q.2, by rw [List.getElem?_map, hq]; rfl, hw⟩ _ k1
theorem ok_istreeX {f fE fR fO fN fI fP fL : Addr} {fd fdE fdR fdO fdN fdI fdP fdL : FuncData} (T : Txt K mg) (F : Fun K "is_tree" "is_tree" s_is_tree f fd) (K_Book : Kl K mg "Book" C ["contents", "depths", "given"]) (D_is_entry : Df K mg "is_entry" s_is_entry ["book", "thing"] fE fdE) (D_rise : Df K mg "rise" s_rise ["row"] fR fdR) (D_depth_of : Df K mg "depth_of" s_depth_of ["book", "content"] fO fdO) (D_is_name : Df K mg "is_name" s_is_name ["book", "thing"] fN fdN) (D_is_int : DfD K mg "is_int" s_is_int ["thing", "least"] [.int 0] fI fdI) (D_is_pair : Df K mg "is_pair" s_is_pair ["thing"] fP fdP) (D_is_label : Df K mg "is_label" s_is_label ["thing"] fL fdL) : FnOk P w K mg base CX0 4 f fd ["book", "entries"] (spIsTreeX P w C) := by
  have G_is_entry : FnOk P w K mg base CX0 3 fE fdE ["book", "thing"] (spIsEntryX P w C) := ok_isentryX T D_is_entry.fn K_Book D_is_name D_is_int D_is_pair D_is_label
  have G_rise : FnOk P w K mg base CX0 1 fR fdR ["row"] spRiseX := ok_riseX T D_rise.fn
  have G_depth_of : FnOk P w K mg base CX0 1 fO fdO ["book", "content"] (spDepth C) := ok_depth T D_depth_of.fn K_Book
  obtain ⟨tk_DEEP, g_DEEP⟩ := T.g_DEEP
  refine F.ok sc_is_tree (fun vs H Q E h => ?_) (fun cdv A outer s H vs Q E hr h => ?_)
  · obtain ⟨p, dx, lc, ld, lg, cs, ds, x, Bd, rfl, _⟩ := h
    rfl
  · obtain ⟨p, dx, lc, ld, lg, cs, ds, x, Bd, rfl, B, hd, hB, q1, q2⟩ := h
    refine ⟨_,
      (pss_cons
        (ps_if (PW.pt (pw_or (pt_not (pt_val (pe_callB (r := rIsi K) call_isi (by rfl) T.n_isinstance (by decide +kernel) (pa_cons (pv 1) (pa_cons (pe_bltn (v := .ty "tuple") (u := .type "tuple") (by rfl) T.n_tuple (by decide +kernel) rfl) pa_nil))))) (pw_or1 (pt_cmpR op_gt (pe_callB (r := rLen K) c_len (by rfl) T.n_len (by decide +kernel) (pa_cons (pv 1) pa_nil)) pe_int (nomark _)))))
          (pss_one
            (ps_ret pe_bl))
          pss_nil)
      (pss_cons
        (ps_if (PW.pt (pw_or (pt_not (pt_val (pe_callB (r := rAll K) (cr_all rfl) (by rfl) T.n_all (by decide +kernel) (pa_cons (pe_lc (own := [("entry", 2)]) (g := (gName 2)) rfl sc_is_tree.nd (pi_tup (pv 1)) (blkOk_by (own := [("entry", 2)]) (N := N_is_tree) (sc := defScope s_is_tree) (by decide +kernel)) (fun _ _ _ _ _ => (pg_name (i := 2) sc_is_tree.nd rfl (.inl rfl))) (fun _ _ _ _ _ => pts_nil) (fun _ _ _ _ _ => (pe_call G_is_entry (hr.mono (by omega)) (by rfl) D_is_entry.g D_is_entry.fn.kp D_is_entry.b .nil pass0 (pa_cons (pv 0) (pa_cons (pv 2) pa_nil))))) pa_nil)))) (pw_or1 (pt_not (pt_val (pe_call G_rise (hr.mono (by omega)) (by rfl) D_rise.g D_rise.fn.kp D_rise.b .nil pass0 (pa_cons (pe_lc (own := [("entry", 2)]) (g := (gName 2)) rfl sc_is_tree.nd (pi_tup (pv 1)) (blkOk_by (own := [("entry", 2)]) (N := N_is_tree) (sc := defScope s_is_tree) (by decide +kernel)) (fun _ _ _ _ _ => (pg_name (i := 2) sc_is_tree.nd rfl (.inl rfl))) (fun _ _ _ _ _ => pts_nil) (fun _ _ _ _ _ => (pe_ix (r := rIxT K) ix_tup (pv 2) pe_int (fun _ _ => rfl)))) pa_nil)))))))
          (pss_one
            (ps_ret pe_bl))
          pss_nil)
      (pss_one
        (ps_ret (pe_cmpR op_le (pe_call G_depth_of (hr.mono (by omega)) (by rfl) D_depth_of.g D_depth_of.fn.kp D_depth_of.b .nil pass0 (pa_cons (pv 0) (pa_cons (pe_tup (pa_cons pe_str (pa_cons (pv 1) pa_nil))) pa_nil))) (pe_glob (v := .int 8) rfl g_DEEP ⟨_, rfl⟩) (nomark _))))))
      , ?_⟩
    rw [show L2.start N_is_tree [V.ref p, x] = [some (.ref p), some x, none] from rfl]
    refine w_seq ?_
    walk_at "x"
    rcases hd.cases with ⟨ay, ty, hne⟩ | ⟨r, xs, rfl, ea, hxB, hxs⟩
    · refine w_isTup ty ?_
      rw [decide_eq_false hne]
      walk_at "g"
      refine q2 ?_ _ (fun _ _ z => z)
      rintro es ⟨r, qs, rfl, h, _⟩
      exact hne (ty.ofTup h)
    have uniq : ∀ {es : List (Str × Nat)}, TreeV (cs.map (·.2)) ds H (.ref r) es → ∃ qs : List (Addr × Str × Nat), xs = qs.map (fun q => V.ref q.1) ∧ qs.map (·.2) = es ∧ (∀ q ∈ qs, H q.1 = some (.tup [.str q.2.1, nV q.2.2])) ∧ CtOk (cs.map (·.2)) ds (.tree es) := by
      rintro es ⟨r', qs, e, h1, h2, h3, h4⟩
      cases e
      rw [ea] at h1
      exact ⟨qs, HO.tup.inj (Option.some.inj h1), h2, h3, h4⟩
    walk_at "g"
    refine w_ite (fun h20 => ?_) (fun h20 => ?_)
    · walk_at "g"
      refine q2 ?_ _ (fun _ _ z => z)
      intro es h
      obtain ⟨qs, rfl, h2, _, h4⟩ := uniq h
      have := h4.1
      rw [← h2, List.length_map] at this
      rw [List.length_map] at h20
      omega
    walk_at "g"
    refine w_seq ?_
    walk_at "g"
    refine lcp_gen (walk_tup (K := K) (a := r) (xs := xs)) [] (fun i y _ => ∃ bb : Bool, y = .bl bb ∧ ∀ z, xs[i]? = some z → (bb = true ↔ ∃ u n, EntV (cs.map fun q : Addr × Ct => q.2) H z u n)) (fun _ _ => True) (by omega) (fun _ _ _ _ _ h => h) (fun _ _ _ _ _ _ => trivial) (fun _ H1 k _ => .of (k _ _ (by simp) ea)) trivial ?_ (by simp) ?_
    · rintro i y H2 H3 R hi k2 t2 _ ⟨rfl, hy⟩ hR
      have k2s := k2.same
      have hdy := hxs y (List.mem_of_getElem? hy)
      refine w_name ⟨rfl, ?_⟩
      walk_at "g"
      refine ⟨p, dx, lc, ld, lg, cs, ds, y, Bd, rfl, B.same k2s, hdy.kd (KD.of k2s), hB, fun u n hu H4 k4 => ?_, fun hn H4 k4 => ?_⟩
      · refine hR _ _ ⟨true, rfl, fun z hz => ⟨fun _ => ⟨u, n, ?_⟩, fun _ => rfl⟩⟩ (Kp.of k4) (KT.of k4) trivial
        rw [hy] at hz
        cases hz
        exact hu.back hdy k2s
      · refine hR _ _ ⟨false, rfl, fun z hz => ⟨fun h => Bool.noConfusion h, fun ⟨u, n, hu⟩ => ?_⟩⟩ (Kp.of k4) (KT.of k4) trivial
        rw [hy] at hz
        cases hz
        exact absurd (hu.same k2s) (hn u n)
    intro L H1 vs hvl hvp hL k1' t1 _ eL
    have k1 := k1'.same
    obtain ⟨bs, rfl, hbs⟩ := bls_of hvp
    rw [List.length_map] at hvl
    have hiff := all_at (Y := fun z => ∃ u n, EntV (cs.map (·.2)) H z u n) hvl hbs
    walk_at "g"
    by_cases hall : ∀ y ∈ xs, ∃ u n, EntV (cs.map (·.2)) H y u n
    rotate_left
    · rw [Bool.eq_false_iff.mpr fun h => hall (hiff.mp h)]
      walk_at "g"
      refine q2 ?_ _ k1
      intro es h
      obtain ⟨qs, rfl, h2, h3, h4⟩ := uniq h
      refine hall fun y hy => ?_
      obtain ⟨q, hq, rfl⟩ := List.mem_map.mp hy
      obtain ⟨g1, g2⟩ := h4.2.1 q.2 (by rw [← h2]; exact List.mem_map_of_mem hq)
      exact ⟨q.2.1, q.2.2, q.1, rfl, h3 q hq, g1, g2⟩
    rw [hiff.mpr hall]
    obtain ⟨qs, rfl, hqs, hlab⟩ := ents_of hall
    have hr1 := k1 _ _ ea
    have uniq2 : ∀ {es : List (Str × Nat)}, TreeV (cs.map (·.2)) ds H (.ref r) es → es = qs.map (·.2) ∧ CtOk (cs.map (·.2)) ds (.tree es) := fun {es} h => by
      obtain ⟨qs', e, h2, h3, h4⟩ := uniq h
      refine ⟨?_, h4⟩
      rw [← h2]
      refine List.ext_getElem? fun i => ?_
      have e1 := congrArg (fun l : List V => l[i]?) e
      simp only [List.getElem?_map] at e1 ⊢
      cases g1 : qs[i]? with
      | none =>
        rw [g1] at e1
        cases g2 : qs'[i]? with
        | none => rfl
        | some z => rw [g2] at e1; cases e1
      | some y =>
        rw [g1] at e1
        cases g2 : qs'[i]? with
        | none => rw [g2] at e1; cases e1
        | some z =>
          rw [g2] at e1
          have ea1 : y.1 = z.1 := V.ref.inj (Option.some.inj e1)
          have m1 := hqs y (List.mem_of_getElem? g1)
          have m2 := h3 z (List.mem_of_getElem? g2)
          rw [ea1, m2] at m1
          have e3 := HO.tup.inj (Option.some.inj m1)
          have e4 := V.str.inj (List.cons.inj e3).1
          have e5 : (z.2.2 : Int) = y.2.2 := V.int.inj (List.cons.inj (List.cons.inj e3).2).1
          exact congrArg some (Prod.ext e4 (by show z.2.2 = y.2.2; omega))
    rw [List.length_map] at h20
    walk_at "g"
    refine lcp_map (walk_tup (K := K) (a := r) (xs := qs.map fun q => V.ref q.1)) [] ((qs.map fun q => q.2.1).map V.str) (by simp) (by rw [List.length_map]; omega) (fun H' k => .of (k _ _ (by simp) hr1)) ?_ (by simp) ?_
    · rintro i x H2 H3 R hi k2 ⟨rfl, hx⟩ hR
      obtain ⟨z, hz, rfl⟩ := map_at hx
      have hzm := List.mem_of_getElem? hz
      have e1 : H3 z.1 = some (.tup [.str z.2.1, .int (z.2.2 : Int)]) := k2.same _ _ (k1 _ _ (hqs z hzm))
      refine w_name ⟨rfl, ?_⟩
      walk_at "g"
      refine hR _ _ ?_ Kp.refl
      rw [List.getElem?_map, List.getElem?_map, hz]
      rfl
    intro L2' H2 hL2 k2' eL2
    have k2 := k2'.same
    walk_at "g"
    refine ⟨L2', qs.map fun q => q.2.1, rfl, eL2, by rw [List.length_map]; omega, fun hp H3 k3 => ?_, fun hp H3 k3 => ?_⟩
    rotate_left
    · walk_at "g"
      refine q2 ?_ _ (Same.trans k1 (Same.trans k2 k3))
      intro es h
      obtain ⟨rfl, h4⟩ := uniq2 h
      have := h4.2.2.1
      rw [List.pairwise_map] at this hp
      exact hp this
    walk_at "g"
    refine w_new fun t H4 ht e4 k4 => ?_
    have k04 : Same H H4 := Same.trans k1 (Same.trans k2 (Same.trans k3 k4))
    walk_at "g"
    refine ⟨p, dx, lc, ld, lg, t, ds, .tree (qs.map (·.2)), rfl, k04 _ _ B.ob, k04 _ _ B.de, ⟨r, qs, e4, k04 _ _ ea, rfl, fun z hz => k04 _ _ (hqs z hz)⟩, fun es e => ?_, fun H5 k5 => ?_⟩
    · cases e
      refine ⟨by rw [List.length_map]; omega, fun z hz => ?_⟩
      obtain ⟨q, hq, rfl⟩ := List.mem_map.mp hz
      obtain ⟨_, c, g2, _⟩ := hlab q hq
      have := (List.getElem?_eq_some_iff.mp g2).1
      rw [B.dl]
      rwa [List.length_map] at this
    walk_at "g"
    by_cases h8 : depOf ds (.tree (qs.map (·.2))) ≤ 8
    · rw [decide_eq_true (by omega)]
      refine q1 (qs.map (·.2)) ⟨r, qs, rfl, ea, rfl, hqs, by rw [List.length_map]; omega, fun e he => ?_, by rw [List.pairwise_map] at hp ⊢; exact hp, h8⟩ _ (Same.trans k04 k5)
      obtain ⟨q, hq, rfl⟩ := List.mem_map.mp he
      exact hlab q hq
    · rw [decide_eq_false (by omega)]
      refine q2 ?_ _ (Same.trans k04 k5)
      intro es h
      obtain ⟨rfl, h4⟩ := uniq2 h
      exact h8 h4.2.2.2
theorem ok_isversionX {f fG fA fR fK fN fI : Addr} {fd fdG fdA fdR fdK fdN fdI : FuncData} (T : Txt K mg) (F : Fun K "is_version" "is_version" s_is_version f fd) (K_Book : Kl K mg "Book" C ["contents", "depths", "given"]) (D_rising_ints : Df K mg "rising_ints" s_rising_ints ["thing"] fG fdG) (D_are_ints : Df K mg "are_ints" s_are_ints ["thing"] fA fdA) (D_rise : Df K mg "rise" s_rise ["row"] fR fdR) (D_is_kind : Df K mg "is_kind" s_is_kind ["book", "thing", "kind"] fK fdK) (D_is_name : Df K mg "is_name" s_is_name ["book", "thing"] fN fdN) (D_is_int : DfD K mg "is_int" s_is_int ["thing", "least"] [.int 0] fI fdI) : FnOk P w K mg base CX0 4 f fd ["book", "content"] (spIsVersionX P w C) := by
  obtain ⟨ds_is_int, V_is_int, B_is_int⟩ := D_is_int.b
  have G_is_int : FnOk P w K mg base CX0 1 fI fdI ["thing", "least"] spIsInt := ok_isint T D_is_int
  have G_rising_ints : FnOk P w K mg base CX0 3 fG fdG ["thing"] spRisingInts := ok_risingints T D_rising_ints.fn D_are_ints D_rise D_is_int
  have G_is_kind : FnOk P w K mg base CX0 3 fK fdK ["book", "thing", "kind"] (spIsKind P w C) := ok_iskind T D_is_kind.fn K_Book D_is_name D_is_int
  refine F.ok sc_is_version (fun vs H Q E h => ?_) (fun cdv A outer s H vs Q E hr h => ?_)
  · obtain ⟨p, dx, lc, ld, lg, a, cs, ds, u, x, y, z, Bd, rfl, _⟩ := h
    rfl
  · obtain ⟨p, dx, lc, ld, lg, a, cs, ds, u, x, y, z, Bd, rfl, B, h1, hd, hB, q1, q2⟩ := h
    have hel := (hd.elem h1).2
    have hdx := hel x (by simp)
    refine ⟨_,
      (pss_cons
        (ps_set (i := 2) sc_is_version.nd rfl (.inl rfl) (pe_ix (r := rIxT K) ix_tup (pv 1) pe_int (fun _ _ => rfl)))
      (pss_cons
        (ps_if (PW.pt (pw_or (pt_not (pt_val (pe_call G_rising_ints (hr.mono (by omega)) (by rfl) D_rising_ints.g D_rising_ints.fn.kp D_rising_ints.b .nil pass0 (pa_cons (pv 2) pa_nil)))) (pw_or1 (pt_cmpR op_gt (pe_callB (r := rLen K) c_len (by rfl) T.n_len (by decide +kernel) (pa_cons (pv 2) pa_nil)) pe_int (nomark _)))))
          (pss_one
            (ps_ret pe_bl))
          pss_nil)
      (pss_cons
        (ps_if (PW.pt (pw_or (pt_not (pt_val (pe_callB (r := rAll K) (cr_all rfl) (by rfl) T.n_all (by decide +kernel) (pa_cons (pe_lc (own := [("parent", 3)]) (g := (gName 3)) rfl sc_is_version.nd (pi_tup (pv 2)) (blkOk_by (own := [("parent", 3)]) (N := N_is_version) (sc := defScope s_is_version) (by decide +kernel)) (fun _ _ _ _ _ => (pg_name (i := 3) sc_is_version.nd rfl (.inl rfl))) (fun _ _ _ _ _ => pts_nil) (fun _ _ _ _ _ => (pe_call G_is_kind (hr.mono (by omega)) (by rfl) D_is_kind.g D_is_kind.fn.kp D_is_kind.b .nil pass0 (pa_cons (pv 0) (pa_cons (pv 3) (pa_cons pe_str pa_nil)))))) pa_nil)))) (pw_or1 (pt_not (pt_val (pe_call G_is_kind (hr.mono (by omega)) (by rfl) D_is_kind.g D_is_kind.fn.kp D_is_kind.b .nil pass0 (pa_cons (pv 0) (pa_cons (pe_ix (r := rIxT K) ix_tup (pv 1) pe_int (fun _ _ => rfl)) (pa_cons pe_str pa_nil)))))))))
          (pss_one
            (ps_ret pe_bl))
          pss_nil)
      (pss_one
        (ps_ret (pe_and (pe_call G_is_int (hr.mono (by omega)) (by rfl) D_is_int.g D_is_int.kp B_is_int V_is_int pass0 (pa_cons (pe_ix (r := rIxT K) ix_tup (pv 1) pe_int (fun _ _ => rfl)) pa_nil)) (pe_one (pe_cmpR op_le (pe_ix (r := rIxT K) ix_tup (pv 1) pe_int (fun _ _ => rfl)) (pe_op op_pow pe_int pe_int) (nomark _)))))))))
      , ?_⟩
    rw [show L2.start N_is_version [V.ref p, V.ref a] = [some (.ref p), some (.ref a), none, none] from rfl]
    walk_at "x"
    refine w_seq ?_
    walk_at "g"
    refine ⟨x, Bd, rfl, hdx, hB, fun ps hns hp H1 k1 => ?_, fun hn H1 k1 => ?_⟩
    rotate_left
    · walk_at "g"
      refine q2 ?_ _ k1
      intro ps root stamp g1 _ _ g4
      exact hn ps g1 g4.1
    obtain ⟨r, rfl, h2⟩ := hns
    have uniq : ∀ {ps' : List Nat}, NatsV H (.ref r) ps' → ps' = ps := fun {ps'} ⟨r', e, h⟩ => by
      cases e
      rw [h2] at h
      exact (nV_inj (HO.tup.inj (Option.some.inj h))).symm
    have h11 := k1 _ _ h1
    have h21 := k1 _ _ h2
    walk_at "g"
    refine w_ite (fun hl4 => ?_) (fun hl4 => ?_)
    · walk_at "g"
      refine q2 ?_ _ k1
      intro ps' root stamp g1 _ _ g4
      have := g4.2.1
      rw [uniq g1] at this
      rw [List.length_map] at hl4
      omega
    rw [List.length_map] at hl4
    walk_at "g"
    refine w_seq ?_
    walk_at "g"
    refine lcp_gen (walk_tup (K := K) (a := r) (xs := ps.map nV)) [] (fun i y _ => ∃ bb : Bool, y = .bl bb ∧ ∀ z, (ps.map nV)[i]? = some z → (bb = true ↔ ∃ n c, z = nV n ∧ (cs.map fun q : Addr × Ct => q.2)[n]? = some c ∧ c.word = "version")) (fun _ _ => True) (by rw [List.length_map]; omega) (fun _ _ _ _ _ h => h) (fun _ _ _ _ _ _ => trivial) (fun _ H1 k _ => .of (k _ _ (by simp) h21)) trivial ?_ (by simp) ?_
    · rintro i v H2 H3 R hi k2 t2 _ ⟨rfl, hv⟩ hR
      have hv0 := hv
      obtain ⟨n, hn, rfl⟩ := map_at hv
      refine w_name ⟨rfl, ?_⟩
      walk_at "g"
      refine ⟨p, dx, lc, ld, lg, cs, ds, nV n, "int", "version", rfl, (B.same k1).same k2.same, .int _, fun m qm em hm => ?_, fun hm => ?_⟩
      · have en : n = m := by have : (n : Int) = m := V.int.inj em; omega
        subst en
        refine hR _ _ ⟨_, rfl, fun z hz => ?_⟩ Kp.refl KT.refl trivial
        rw [hv0] at hz
        cases hz
        rw [decide_eq_true_iff]
        constructor
        · intro hw
          exact ⟨n, qm.2, rfl, by rw [List.getElem?_map, hm]; rfl, hw⟩
        · rintro ⟨n', c, e, hc, hw⟩
          have en : n = n' := by have : (n : Int) = n' := V.int.inj e; omega
          subst en
          rw [List.getElem?_map, hm] at hc
          cases hc
          exact hw
      · refine hR _ _ ⟨false, rfl, fun z hz => ⟨fun h => Bool.noConfusion h, ?_⟩⟩ Kp.refl KT.refl trivial
        rw [hv0] at hz
        cases hz
        rintro ⟨n', c, e, hc, hw⟩
        have := (List.getElem?_eq_some_iff.mp hc).1
        rw [List.length_map] at this
        exact absurd this (hm n' e)
    intro L H2 vs hvl hvp hL k2' t2 _ eL
    have k2 := k2'.same
    obtain ⟨bs, rfl, hbs⟩ := bls_of hvp
    rw [List.length_map] at hvl
    have hiff := all_at (Y := fun z => ∃ n c, z = nV n ∧ (cs.map (·.2))[n]? = some c ∧ c.word = "version") hvl hbs
    have h12 := k2 _ _ h11
    have k12 := Same.trans k1 k2
    walk_at "g"
    by_cases hall : ∀ y ∈ ps.map nV, ∃ n c, y = nV n ∧ (cs.map (·.2))[n]? = some c ∧ c.word = "version"
    rotate_left
    · rw [Bool.eq_false_iff.mpr fun h => hall (hiff.mp h)]
      walk_at "g"
      refine q2 ?_ _ k12
      intro ps' root stamp g1 _ _ g4
      rw [uniq g1] at g4
      refine hall fun y hy => ?_
      obtain ⟨n, hn, rfl⟩ := List.mem_map.mp hy
      obtain ⟨c, g5, g6⟩ := g4.2.2.1 n hn
      exact ⟨n, c, rfl, g5, g6⟩
    rw [hiff.mpr hall]
    have hps : ∀ n ∈ ps, ∃ c, (cs.map (·.2))[n]? = some c ∧ c.word = "version" := fun n hn => by
      obtain ⟨n', c, e, g1, g2⟩ := hall (nV n) (List.mem_map_of_mem hn)
      have en : n = n' := by have : (n : Int) = n' := V.int.inj e; omega
      subst en
      exact ⟨c, g1, g2⟩
    obtain ⟨ay, ty⟩ := ((hel y (by simp)).kd (KD.of k12)).ty
    obtain ⟨az, tz⟩ := ((hel z (by simp)).kd (KD.of k12)).ty
    walk_at "g"
    refine ⟨p, dx, lc, ld, lg, cs, ds, y, ay, "tree", rfl, B.same k12, ty, fun root qm em hm => ?_, fun hm => ?_⟩
    rotate_left
    · walk_at "g"
      refine q2 ?_ _ k12
      intro ps' root stamp g1 g2 _ g4
      obtain ⟨c, g5, _⟩ := g4.2.2.2.1
      have := (List.getElem?_eq_some_iff.mp g5).1
      rw [List.length_map] at this
      exact hm root g2 this
    subst em
    by_cases hw : qm.2.word = "tree"
    rotate_left
    · rw [decide_eq_false hw]
      walk_at "g"
      refine q2 ?_ _ k12
      intro ps' root' stamp g1 g2 _ g4
      have en : root = root' := by have : (root : Int) = root' := V.int.inj g2; omega
      subst en
      obtain ⟨c, g5, g6⟩ := g4.2.2.2.1
      rw [List.getElem?_map, hm] at g5
      cases g5
      exact hw g6
    rw [decide_eq_true hw]
    walk_at "g"
    refine ⟨z, az, rfl, tz, fun stamp em => ?_, fun hn => ?_⟩
    rotate_left
    · walk_at "g"
      refine q2 ?_ _ k12
      intro ps' root' stamp _ _ g3 _
      exact hn stamp g3
    subst em
    walk_at "g"
    by_cases hst : stamp ≤ 10 ^ 18
    · rw [decide_eq_true (by rw [show (10 : Int) ^ Int.toNat 18 = 1000000000000000000 by decide]; omega)]
      exact q1 ps root stamp ⟨r, rfl, h2⟩ rfl rfl ⟨hp, by omega, hps, ⟨qm.2, by rw [List.getElem?_map, hm]; rfl, hw⟩, hst⟩ _ k12
    · rw [decide_eq_false (by rw [show (10 : Int) ^ Int.toNat 18 = 1000000000000000000 by decide]; omega)]
      refine q2 ?_ _ k12
      intro ps' root' stamp' _ _ g3 g4
      have en : stamp = stamp' := by have : (stamp : Int) = stamp' := V.int.inj g3; omega
      subst en
      exact hst g4.2.2.2.2
theorem ok_iscontentX {f fT fV fO fW fE fR fP fL fG fA fK fN fI fX : Addr} {fd fdT fdV fdO fdW fdE fdR fdP fdL fdG fdA fdK fdN fdI fdX : FuncData} (T : Txt K mg) (F : Fun K "is_content" "is_content" s_is_content f fd) (K_Book : Kl K mg "Book" C ["contents", "depths", "given"]) (D_is_tree : Df K mg "is_tree" s_is_tree ["book", "entries"] fT fdT) (D_is_version : Df K mg "is_version" s_is_version ["book", "content"] fV fdV) (D_depth_of : Df K mg "depth_of" s_depth_of ["book", "content"] fO fdO) (D_are_rows : Df K mg "are_rows" s_are_rows ["thing"] fW fdW) (D_is_entry : Df K mg "is_entry" s_is_entry ["book", "thing"] fE fdE) (D_rise : Df K mg "rise" s_rise ["row"] fR fdR) (D_is_pair : Df K mg "is_pair" s_is_pair ["thing"] fP fdP) (D_is_label : Df K mg "is_label" s_is_label ["thing"] fL fdL) (D_rising_ints : Df K mg "rising_ints" s_rising_ints ["thing"] fG fdG) (D_are_ints : Df K mg "are_ints" s_are_ints ["thing"] fA fdA) (D_is_kind : Df K mg "is_kind" s_is_kind ["book", "thing", "kind"] fK fdK) (D_is_name : Df K mg "is_name" s_is_name ["book", "thing"] fN fdN) (D_is_int : DfD K mg "is_int" s_is_int ["thing", "least"] [.int 0] fI fdI) (D_is_text : DfD K mg "is_text" s_is_text ["thing", "most"] [.int 40] fX fdX) : FnOk P w K mg base CX0 5 f fd ["book", "thing"] (spIsContentX P w C) := by
  have G_is_tree : FnOk P w K mg base CX0 4 fT fdT ["book", "entries"] (spIsTreeX P w C) := ok_istreeX T D_is_tree.fn K_Book D_is_entry D_rise D_depth_of D_is_name D_is_int D_is_pair D_is_label
  have G_is_version : FnOk P w K mg base CX0 4 fV fdV ["book", "content"] (spIsVersionX P w C) := ok_isversionX T D_is_version.fn K_Book D_rising_ints D_are_ints D_rise D_is_kind D_is_name D_is_int
  have G_are_rows : FnOk P w K mg base CX0 2 fW fdW ["thing"] spAreRowsX := ok_arerowsX T D_are_rows.fn D_is_text
  refine F.ok sc_is_content (fun vs H Q E h => ?_) (fun cdv A outer s H vs Q E hr h => ?_)
  · obtain ⟨p, dx, lc, ld, lg, cs, ds, x, Bd, rfl, _⟩ := h
    rfl
  · obtain ⟨p, dx, lc, ld, lg, cs, ds, x, Bd, rfl, B, hd, hB, q1, q2⟩ := h
    refine ⟨_,
      (pss_cons
        (ps_if (PW.pt (pw_or (pt_not (pt_val (pe_callB (r := rIsi K) call_isi (by rfl) T.n_isinstance (by decide +kernel) (pa_cons (pv 1) (pa_cons (pe_bltn (v := .ty "tuple") (u := .type "tuple") (by rfl) T.n_tuple (by decide +kernel) rfl) pa_nil))))) (pw_or (pt_cmpR op_lt (pe_callB (r := rLen K) c_len (by rfl) T.n_len (by decide +kernel) (pa_cons (pv 1) pa_nil)) pe_int (nomark _)) (pw_or1 (pt_not (pt_val (pe_callB (r := rIsi K) call_isi (by rfl) T.n_isinstance (by decide +kernel) (pa_cons (pe_ix (r := rIxT K) ix_tup (pv 1) pe_int (fun _ _ => rfl)) (pa_cons (pe_bltn (v := .ty "str") (u := .type "str") (by rfl) T.n_str (by decide +kernel) rfl) pa_nil)))))))))
          (pss_one
            (ps_ret pe_bl))
          pss_nil)
      (pss_cons
        (ps_if (pt_cmpR op_eq (pe_ix (r := rIxT K) ix_tup (pv 1) pe_int (fun _ _ => rfl)) pe_str (nomark _))
          (pss_one
            (ps_ret (pe_and (pe_cmpR op_eq (pe_callB (r := rLen K) c_len (by rfl) T.n_len (by decide +kernel) (pa_cons (pv 1) pa_nil)) pe_int (nomark _)) (pe_one (pe_call G_are_rows (hr.mono (by omega)) (by rfl) D_are_rows.g D_are_rows.fn.kp D_are_rows.b .nil pass0 (pa_cons (pe_ix (r := rIxT K) ix_tup (pv 1) pe_int (fun _ _ => rfl)) pa_nil))))))
          pss_nil)
      (pss_cons
        (ps_if (pt_cmpR op_eq (pe_ix (r := rIxT K) ix_tup (pv 1) pe_int (fun _ _ => rfl)) pe_str (nomark _))
          (pss_one
            (ps_ret (pe_and (pe_cmpR op_eq (pe_callB (r := rLen K) c_len (by rfl) T.n_len (by decide +kernel) (pa_cons (pv 1) pa_nil)) pe_int (nomark _)) (pe_one (pe_call G_is_tree (hr.mono (by omega)) (by rfl) D_is_tree.g D_is_tree.fn.kp D_is_tree.b .nil pass0 (pa_cons (pv 0) (pa_cons (pe_ix (r := rIxT K) ix_tup (pv 1) pe_int (fun _ _ => rfl)) pa_nil)))))))
          pss_nil)
      (pss_one
        (ps_ret (pe_and (pe_cmpR op_eq (pe_ix (r := rIxT K) ix_tup (pv 1) pe_int (fun _ _ => rfl)) pe_str (nomark _)) (pe_and (pe_cmpR op_eq (pe_callB (r := rLen K) c_len (by rfl) T.n_len (by decide +kernel) (pa_cons (pv 1) pa_nil)) pe_int (nomark _)) (pe_one (pe_call G_is_version (hr.mono (by omega)) (by rfl) D_is_version.g D_is_version.fn.kp D_is_version.b .nil pass0 (pa_cons (pv 0) (pa_cons (pv 1) pa_nil)))))))))))
      , ?_⟩
    rw [show L2.start N_is_content [V.ref p, x] = [some (.ref p), some x] from rfl]
    refine w_seq ?_
    walk_at "x"
    rcases hd.cases with ⟨ay, ty, hne⟩ | ⟨a, xs, rfl, ea, hxB, hxs⟩
    · refine w_isTup ty ?_
      rw [decide_eq_false hne]
      walk_at "g"
      refine q2 ?_ _ (fun _ _ z => z)
      rintro c ⟨a, rfl, h, _⟩
      obtain ⟨ys, hy⟩ := h.head
      exact hne (ty.ofTup hy)
    have two : ∀ {c : Ct}, CtV (cs.map (·.2)) ds H (.ref a) c → CtAt H a c ∧ CtOk (cs.map (·.2)) ds c ∧ ∃ ys, xs = .str c.word :: ys ∧ ys ≠ [] := by
      rintro c ⟨a', e, h, ok⟩
      cases e
      refine ⟨h, ok, ?_⟩
      cases c with
      | leaf rows =>
        obtain ⟨r, h1, _⟩ := h
        rw [ea] at h1
        exact ⟨_, HO.tup.inj (Option.some.inj h1), by simp⟩
      | tree es =>
        obtain ⟨r, qs, h1, _⟩ := h
        rw [ea] at h1
        exact ⟨_, HO.tup.inj (Option.some.inj h1), by simp⟩
      | ver ps root stamp =>
        obtain ⟨r, h1, _⟩ := h
        rw [ea] at h1
        exact ⟨_, HO.tup.inj (Option.some.inj h1), by simp⟩
    walk_at "g"
    refine w_ite (fun hl2 => ?_) (fun hl2 => ?_)
    · walk_at "g"
      refine q2 ?_ _ (fun _ _ z => z)
      intro c h
      obtain ⟨_, _, ys, rfl, hy⟩ := two h
      have := List.length_pos_iff.mpr hy
      rw [List.length_cons] at hl2
      omega
    obtain ⟨u, ys, rfl⟩ : ∃ u ys, xs = u :: ys := by
      cases xs with
      | nil => exact absurd (by decide) hl2
      | cons u ys => exact ⟨u, ys, rfl⟩
    have hlx : 1 ≤ ys.length := by simp only [List.length_cons] at hl2; omega
    have at0 : atI (u :: ys) 0 = some u := atI_nat (j := 0) rfl
    have hdu := hxs u (by simp)
    obtain ⟨au, tu⟩ := hdu.ty
    walk_at "g"
    refine w_isStr tu ?_
    walk_at "g"
    by_cases hs : au = "str"
    rotate_left
    · rw [decide_eq_false hs]
      walk_at "g"
      refine q2 ?_ _ (fun _ _ z => z)
      intro c h
      obtain ⟨_, _, ys, e, _⟩ := two h
      have e1 := (List.cons.inj e).1
      subst e1
      exact hs tu.ofStr
    rw [decide_eq_true hs]
    obtain ⟨wd, rfl⟩ := tu.isStr hs
    walk_at "g"
    have eqs : ∀ {c : Ct}, CtV (cs.map (·.2)) ds H (.ref a) c → wd = c.word := fun {c} h => by
      obtain ⟨_, _, zs, e, _⟩ := two h
      exact V.str.inj (List.cons.inj e).1
    have leafOf : ∀ {rows : List Str}, CtV (cs.map (·.2)) ds H (.ref a) (.leaf rows) → ∃ r, ys = [.ref r] ∧ RowsV H (.ref r) rows := by
      rintro rows ⟨a', e, ⟨r, h1, h2⟩, ok⟩
      cases e
      rw [ea] at h1
      exact ⟨r, (List.cons.inj (HO.tup.inj (Option.some.inj h1))).2, r, rfl, h2, ok.1, ok.2⟩
    have treeOf : ∀ {es : List (Str × Nat)}, CtV (cs.map (·.2)) ds H (.ref a) (.tree es) → ∃ r, ys = [.ref r] ∧ TreeV (cs.map (·.2)) ds H (.ref r) es := by
      rintro es ⟨a', e, ⟨r, qs, h1, h2, h3, h4⟩, ok⟩
      cases e
      rw [ea] at h1
      exact ⟨r, (List.cons.inj (HO.tup.inj (Option.some.inj h1))).2, r, qs, rfl, h2, h3, h4, ok⟩
    have verOf : ∀ {ps : List Nat} {root stamp : Nat}, CtV (cs.map (·.2)) ds H (.ref a) (.ver ps root stamp) → ∃ r, ys = [.ref r, nV root, nV stamp] ∧ NatsV H (.ref r) ps ∧ CtOk (cs.map (·.2)) ds (.ver ps root stamp) := by
      rintro ps root stamp ⟨a', e, ⟨r, h1, h2⟩, ok⟩
      cases e
      rw [ea] at h1
      exact ⟨r, (List.cons.inj (HO.tup.inj (Option.some.inj h1))).2, ⟨r, rfl, h2⟩, ok⟩
    refine w_seq ?_
    walk_at "g"
    refine w_ite (fun hw => ?_) (fun hw => ?_)
    · subst hw
      walk_at "g"
      refine w_ite (fun h2 => ?_) (fun h2 => ?_)
      rotate_left
      · walk_at "g"
        refine q2 ?_ _ (fun _ _ z => z)
        intro c h
        cases c with
        | leaf rows =>
          obtain ⟨r, rfl, _⟩ := leafOf h
          exact h2 rfl
        | tree es => exact absurd (eqs h) lit_ne1
        | ver ps root stamp => exact absurd (eqs h) lit_ne2
      obtain ⟨v, rfl⟩ : ∃ v, ys = [v] := by
        simp only [List.length_cons] at h2
        match ys, (show ys.length = 1 by omega) with
        | [v], _ => exact ⟨v, rfl⟩
      have at1 : atI [V.str "leaf", v] 1 = some v := rfl
      walk_at "g"
      refine ⟨v, Bd, rfl, hxs v (by simp), hB, fun rows hr H' k => ?_, fun hn H' k => ?_⟩
      · obtain ⟨r, rfl, g1, g2, g3⟩ := hr
        exact q1 (.leaf rows) ⟨a, rfl, ⟨r, ea, g1⟩, g2, g3⟩ _ k
      · refine q2 ?_ _ k
        intro c h
        cases c with
        | leaf rows =>
          obtain ⟨r, e, g⟩ := leafOf h
          cases e
          exact hn rows g
        | tree es => exact absurd (eqs h) lit_ne1
        | ver ps root stamp => exact absurd (eqs h) lit_ne2
    walk_at "g"
    refine w_seq ?_
    walk_at "g"
    refine w_ite (fun hw2 => ?_) (fun hw2 => ?_)
    · subst hw2
      walk_at "g"
      refine w_ite (fun h2 => ?_) (fun h2 => ?_)
      rotate_left
      · walk_at "g"
        refine q2 ?_ _ (fun _ _ z => z)
        intro c h
        cases c with
        | leaf rows => exact absurd (eqs h) lit_ne4
        | tree es =>
          obtain ⟨r, rfl, _⟩ := treeOf h
          exact h2 rfl
        | ver ps root stamp => exact absurd (eqs h) lit_ne3
      obtain ⟨v, rfl⟩ : ∃ v, ys = [v] := by
        simp only [List.length_cons] at h2
        match ys, (show ys.length = 1 by omega) with
        | [v], _ => exact ⟨v, rfl⟩
      have at1 : atI [V.str "tree", v] 1 = some v := rfl
      walk_at "g"
      refine ⟨p, dx, lc, ld, lg, cs, ds, v, Bd, rfl, B, hxs v (by simp), hB, fun es hr H' k => ?_, fun hn H' k => ?_⟩
      · obtain ⟨r, qs, rfl, g1, g2, g3, g4⟩ := hr
        exact q1 (.tree es) ⟨a, rfl, ⟨r, qs, ea, g1, g2, g3⟩, g4⟩ _ k
      · refine q2 ?_ _ k
        intro c h
        cases c with
        | leaf rows => exact absurd (eqs h) lit_ne4
        | tree es =>
          obtain ⟨r, e, g⟩ := treeOf h
          cases e
          exact hn es g
        | ver ps root stamp => exact absurd (eqs h) lit_ne3
    walk_at "g"
    have noV : ∀ c, (∀ ps root stamp, c ≠ .ver ps root stamp) → ¬ CtV (cs.map (·.2)) ds H (.ref a) c := fun c hc h => by
      cases c with
      | leaf rows => exact hw (eqs h)
      | tree es => exact hw2 (eqs h)
      | ver ps root stamp => exact hc ps root stamp rfl
    refine w_ite (fun hw3 => ?_) (fun hw3 => ?_)
    rotate_left
    · walk_at "g"
      refine q2 ?_ _ (fun _ _ z => z)
      intro c h
      cases c with
      | leaf rows => exact hw (eqs h)
      | tree es => exact hw2 (eqs h)
      | ver ps root stamp => exact hw3 (eqs h)
    subst hw3
    walk_at "g"
    refine w_ite (fun h4 => ?_) (fun h4 => ?_)
    rotate_left
    · walk_at "g"
      refine q2 ?_ _ (fun _ _ z => z)
      intro c h
      cases c with
      | leaf rows => exact hw (eqs h)
      | tree es => exact hw2 (eqs h)
      | ver ps root stamp =>
        obtain ⟨r, rfl, _⟩ := verOf h
        exact h4 rfl
    obtain ⟨v1, v2, v3, rfl⟩ : ∃ v1 v2 v3, ys = [v1, v2, v3] := by
      simp only [List.length_cons] at h4
      match ys, (show ys.length = 3 by omega) with
      | [v1, v2, v3], _ => exact ⟨v1, v2, v3, rfl⟩
    walk_at "g"
    refine ⟨p, dx, lc, ld, lg, a, cs, ds, _, v1, v2, v3, Bd, rfl, B, ea, hd, hB, fun ps root stamp g1 g2 g3 g4 H' k => ?_, fun hn H' k => ?_⟩
    · obtain ⟨r, rfl, g5⟩ := g1
      subst g2 g3
      exact q1 (.ver ps root stamp) ⟨a, rfl, ⟨r, ea, g5⟩, g4⟩ _ k
    · refine q2 ?_ _ k
      intro c h
      cases c with
      | leaf rows => exact hw (eqs h)
      | tree es => exact hw2 (eqs h)
      | ver ps root stamp =>
        obtain ⟨r, e, g, ok⟩ := verOf h
        cases e
        exact hn ps root stamp g rfl rfl ok
end
/-! ### named of what it refuses -/
/-- an error without a field is raised -/
def NoneRs (CN : Addr) (H : Hp) (E : XK) : Prop := ∀ H', Same H H' → E (.ref CN) none H'
def spNamedE (P : Program) (w : World) (C CN CT : Addr) : Sp := fun vs H Q E => ∃ (p dx lc ld lg : Addr) (cs : List (Addr × Ct)) (ds : List Nat) (x : V) (Bd : Nat), vs = [.ref p, x] ∧ BookAt P w C H p dx lc ld lg cs ds ∧ DatT Bd H x ∧ Bd ≤ 1000 ∧ (((∀ c, ¬ CtV (cs.map (·.2)) ds H x c) ∧ NoneRs CN H E) ∨ ∃ c, CtV (cs.map (·.2)) ds H x c ∧ (∀ q ∈ cs, q.2 ≠ c) ∧ 400 ≤ cs.length ∧ NoneRs CT H E)
section
variable {P : Program} {w : World} {K : PySem.W.Frag} {mg : Str → Option Value} {base : Heap} {C : Addr}
theorem ok_namedE {f fC C_NoThing C_TooMany : Addr} {fd fdC : FuncData} (T : Txt K mg) (F : Fun K "named" "Book.named" s_Book_named f fd) (K_Book : Kl K mg "Book" C ["contents", "depths", "given"]) (D_is_content : Df K mg "is_content" s_is_content ["book", "thing"] fC fdC) (G_is_content : FnOk P w K mg base CX0 5 fC fdC ["book", "thing"] (spIsContentX P w C)) (X_NoThing : Exn K mg "NoThing" C_NoThing) (X_TooMany : Exn K mg "TooMany" C_TooMany) : FnOk P w K mg base (L2.CX P w) 6 f fd ["self", "content"] (spNamedE P w C C_NoThing C_TooMany) := by
  obtain ⟨tk_MOST, g_MOST⟩ := T.g_MOST
  have cl := K_Book.cl
  have n1 := K_Book.na "contents" (by simp)
  have n2 := K_Book.na "depths" (by simp)
  have n3 := K_Book.na "given" (by simp)
  refine F.okX sc_Book_named (fun vs H Q E h => ?_) (fun cdv A outer s H vs Q E hr h => ?_)
  · obtain ⟨p, dx, lc, ld, lg, cs, ds, x, Bd, rfl, _⟩ := h
    rfl
  · obtain ⟨p, dx, lc, ld, lg, cs, ds, x, Bd, rfl, B, hd, hB, q1⟩ := h
    refine ⟨_,
      (pss_cons
        (ps_if (pt_not (pt_val (pe_call G_is_content (hr.mono (by omega)) (by rfl) D_is_content.g D_is_content.fn.kp D_is_content.b .nil pass0 (pa_cons (pv 0) (pa_cons (pv 1) pa_nil)))))
          (pss_one
            (ps_raise rfl (takes_of rfl rfl rfl rfl) (pmk_own PySem.F.excBase_ValueError X_NoThing.x X_NoThing.g X_NoThing.k (raises_own X_NoThing.b X_NoThing.t) rfl)))
          pss_nil)
      (pss_cons
        (ps_if (pt_cmp (pc_nin hr.units (pv 1) (pe_fldK (K := K) rfl (pv 0) rfl)))
          pss_never
          pss_nil)
      (pss_cons
        (ps_if (pt_cmpR op_ge (pe_callB (r := rLen K) c_len (by rfl) T.n_len (by decide +kernel) (pa_cons (pe_fldK (K := K) rfl (pv 0) rfl) pa_nil)) (pe_glob (v := .int 400) rfl g_MOST ⟨_, rfl⟩) (nomark _))
          (pss_one
            (ps_raise rfl (takes_of rfl rfl rfl rfl) (pmk_own PySem.F.excBase_ValueError X_TooMany.x X_TooMany.g X_TooMany.k (raises_own X_TooMany.b X_TooMany.t) rfl)))
          pss_nil)
      pss_never)))
      , ?_⟩
    rw [show L2.start N_Book_named [V.ref p, x] = [some (.ref p), some x] from rfl]
    refine w_seq ?_
    walk_at "x"
    rcases q1 with ⟨q1, q3⟩ | ⟨c, hc, hno, hful, q3⟩
    · refine ⟨p, dx, lc, ld, lg, cs, ds, x, Bd, rfl, B, hd, hB, fun c hc H1 k1 => absurd hc (q1 c), fun hn H1 k1 => ?_⟩
      walk_at "g"
      exact q3 H1 k1
    refine ⟨p, dx, lc, ld, lg, cs, ds, x, Bd, rfl, B, hd, hB, fun _ _ H1 k1 => ?_, fun hn H1 k1 => absurd hc (hn c)⟩
    obtain ⟨a, rfl, hct, ok⟩ := hc
    have B1 := B.same k1
    have hc1 := hct.kt (KT.of k1)
    have ob1 := B1.ob
    have co1 := B1.co
    walk_at "g"
    refine w_seq ?_
    walk_at "g"
    refine w_nin' B1.gi hc1.nk c.key_depth ?_
    walk_at "g"
    rw [ents_none cs 0 hno, Option.isSome_none]
    walk_at "g"
    refine w_seq ?_
    walk_at "g"
    refine w_yes (by rw [List.length_map]; omega) ?_
    walk_at "g"
    exact q3 H1 k1
end
/-! ### NoName raised -/
theorem mk1_sameR {K : PySem.W.Frag} {C : Addr} {f : Str} {x : V} {H : Hp} {Qx : XK} {a : Addr} (ha : H a = none) (h : ∀ d H', Same H H' → H d = none → H' d = some (.xd [(f, x)]) → Qx (.ref C) (some d) H') :
    spInit1 K C f [.ref a, x] (upd H a (exo a C none)) (fun v H2 => v = .non ∧ ∃ (d : Addr) (fs : List (Str × V)), H2 a = some (exo a C (some d)) ∧ H2 d = some (exd d fs) ∧ H d = none ∧ Qx (.ref C) (some d) (upd (del H2 a) d (.xd fs))) (fun _ _ _ => False) := by
  refine ⟨a, x, rfl, upd_same, fun dx hd hne => ⟨rfl, dx, _, upd_same, ?_, (upd_none hd).1, h dx _ (fun b o e => ?_) (upd_none hd).1 upd_same⟩⟩
  · rw [upd_ne hne, upd_same]
  · have n1 : b ≠ dx := ne_of_none e (upd_none hd).1
    have n2 : b ≠ a := ne_of_none e ha
    rw [upd_ne n1, del_ne n2, upd_ne n2, upd_ne n1, upd_ne n2]
    exact e
/-- NoName of x is raised -/
def NoNm (CN : Addr) (H : Hp) (E : XK) (x : V) : Prop := ∀ (d : Addr) (H' : Hp), Same H H' → H d = none → H' d = some (.xd [("name", x)]) → E (.ref CN) (some d) H'
section
variable {P : Program} {w : World} {K : PySem.W.Frag} {mg : Str → Option Value} {base : Heap}
theorem ok_nninit {f C : Addr} {fd : FuncData} (F : Fun K "__init__" "NoName.__init__" s_NoName___init__ f fd) (XT : OexC K C) (n1 : PySem.W.findIn K (.ref C) "name" = some none) : FnOk P w K mg base CX0 1 f fd ["self", "name"] (spInit1 K C "name") := by
  refine F.ok sc_NoName___init__ (fun vs H Q E h => ?_) (fun cdv A outer s H vs Q E hr h => ?_)
  · obtain ⟨a, x, rfl, _⟩ := h
    rfl
  · obtain ⟨a, x, rfl, e, q⟩ := h
    refine ⟨_,
      (pss_one
        (ps_ost (pv 0) (pv 1)))
      , ?_⟩
    rw [show L2.start N_NoName___init__ [V.ref a, x] = [some (.ref a), some x] from rfl]
    refine w_ost ?_
    walk_at "x"
    exact ⟨a, C, rfl, XT, n1, .inl ⟨e, fun dx hd hne => q dx hd hne⟩⟩
end
def spThingE (P : Program) (w : World) (C CN : Addr) : Sp := fun vs H Q E => ∃ (p dx lc ld lg : Addr) (cs : List (Addr × Ct)) (ds : List Nat) (x : V) (a : String), vs = [.ref p, x] ∧ BookAt P w C H p dx lc ld lg cs ds ∧ Ty H x a ∧ (∀ (n : Nat) (q : Addr × Ct), x = nV n → cs[n]? = some q → Q (.ref q.1) H) ∧ ((∀ n : Nat, x = nV n → ¬ n < cs.length) → NoNm CN H E x)
def spKindE (P : Program) (w : World) (C CN : Addr) : Sp := fun vs H Q E => ∃ (p dx lc ld lg : Addr) (cs : List (Addr × Ct)) (ds : List Nat) (x : V) (a : String), vs = [.ref p, x] ∧ BookAt P w C H p dx lc ld lg cs ds ∧ Ty H x a ∧ (∀ (n : Nat) (q : Addr × Ct), x = nV n → cs[n]? = some q → Q (.str q.2.word) H) ∧ ((∀ n : Nat, x = nV n → ¬ n < cs.length) → NoNm CN H E x)
section
variable {P : Program} {w : World} {K : PySem.W.Frag} {mg : Str → Option Value} {base : Heap} {C CH CN : Addr}
theorem ok_thingE {f fN fI fE C_NoName : Addr} {fd fdN fdI fdE : FuncData} (T : Txt K mg) (F : Fun K "thing" "Book.thing" s_Book_thing f fd) (K_Book : Kl K mg "Book" C ["contents", "depths", "given"]) (D_is_name : Df K mg "is_name" s_is_name ["book", "thing"] fN fdN) (D_is_int : DfD K mg "is_int" s_is_int ["thing", "least"] [.int 0] fI fdI)
    (FE : Fun K "__init__" "NoName.__init__" s_NoName___init__ fE fdE) (X_NoName : ExnI K mg "NoName" C_NoName fE fdE ["self", "name"] ["name"]) : FnOk P w K mg base (L2.CX P w) 3 f fd ["self", "name"] (spThingE P w C C_NoName) := by
  have G_is_name : FnOk P w K mg base CX0 2 fN fdN ["book", "thing"] (spIsName P w C) := ok_isname T D_is_name.fn K_Book D_is_int
  have G_NoName___init__ : FnOk P w K mg base CX0 1 fE fdE ["self", "name"] (spInit1 K C_NoName "name") := ok_nninit FE X_NoName.T (X_NoName.nf "name" (by simp))
  have cl := K_Book.cl
  have n1 := K_Book.na "contents" (by simp)
  refine F.okX sc_Book_thing (fun vs H Q E h => ?_) (fun cdv A outer s H vs Q E hr h => ?_)
  · obtain ⟨p, dx, lc, ld, lg, cs, ds, x, a, rfl, _⟩ := h
    rfl
  · obtain ⟨p, dx, lc, ld, lg, cs, ds, x, a, rfl, B, ty, q, qe⟩ := h
    have ob := B.ob
    have co := B.co
    refine ⟨_,
      (pss_cons
        (ps_if (pt_not (pt_val (pe_call G_is_name (hr.mono (by omega)) (by rfl) D_is_name.g D_is_name.fn.kp D_is_name.b .nil pass0 (pa_cons (pv 0) (pa_cons (pv 1) pa_nil)))))
          (pss_one
            (ps_raise rfl (takes_of rfl rfl rfl rfl) (pmk_oex X_NoName.T X_NoName.i X_NoName.t G_NoName___init__ (hr.mono (by omega)) X_NoName.b .nil pass0 (by rfl) X_NoName.g (pa_cons (pv 1) pa_nil))))
          pss_nil)
      (pss_one
        (ps_ret (pe_ix (r := rIxL K) ix_list (pe_fldK (K := K) rfl (pv 0) rfl) (pv 1) (fun _ _ => rfl)))))
      , ?_⟩
    rw [show L2.start N_Book_thing [V.ref p, x] = [some (.ref p), some x] from rfl]
    refine w_seq ?_
    walk_at "x"
    refine ⟨p, dx, lc, ld, lg, cs, ds, x, a, rfl, B, ty, fun n e hn => ?_, fun hn => ?_⟩
    · subst e
      have at1 : atI (cs.map fun q => V.ref q.1) (n : Int) = some (.ref (cs[n]).1) := atI_nat (by rw [List.getElem?_map, List.getElem?_eq_getElem hn]; rfl)
      walk_at "g"
      exact q n cs[n] rfl (List.getElem?_eq_getElem hn)
    · walk_at "g"
      refine w_mkO ?_
      walk_at "g"
      exact ⟨by simp, fun a ha => mk1_sameR ha fun d H4 k4 hd e4 => qe hn d H4 k4 hd e4⟩
theorem ok_kindE {f fG fN fI fE C_NoName : Addr} {fd fdG fdN fdI fdE : FuncData} (T : Txt K mg) (F : Fun K "kind" "Book.kind" s_Book_kind f fd) (K_Book : Kl K mg "Book" C ["contents", "depths", "given"]) (D_Book_thing : DfM K C "thing" "Book.thing" s_Book_thing ["self", "name"] fG fdG) (D_is_name : Df K mg "is_name" s_is_name ["book", "thing"] fN fdN) (D_is_int : DfD K mg "is_int" s_is_int ["thing", "least"] [.int 0] fI fdI)
    (FE : Fun K "__init__" "NoName.__init__" s_NoName___init__ fE fdE) (X_NoName : ExnI K mg "NoName" C_NoName fE fdE ["self", "name"] ["name"]) : FnOk P w K mg base (L2.CX P w) 4 f fd ["self", "name"] (spKindE P w C C_NoName) := by
  have G_Book_thing : FnOk P w K mg base (L2.CX P w) 3 fG fdG ["self", "name"] (spThingE P w C C_NoName) := ok_thingE T D_Book_thing.fn K_Book D_is_name D_is_int FE X_NoName
  refine F.okX sc_Book_kind (fun vs H Q E h => ?_) (fun cdv A outer s H vs Q E hr h => ?_)
  · obtain ⟨p, dx, lc, ld, lg, cs, ds, x, a, rfl, _⟩ := h
    rfl
  · obtain ⟨p, dx, lc, ld, lg, cs, ds, x, a, rfl, B, ty, q, qe⟩ := h
    have ob := B.ob
    refine ⟨_,
      (pss_one
        (ps_ret (pe_ix (r := rIxT K) ix_tup (pe_meth (pv 0) K_Book.cl D_Book_thing.m G_Book_thing (hr.mono (by omega)) D_Book_thing.b .nil (passes_call (takes_of rfl rfl rfl rfl) (fun _ _ _ _ h => h)) (pa_cons (pv 1) pa_nil)) pe_int (fun _ _ => rfl))))
      , ?_⟩
    rw [show L2.start N_Book_kind [V.ref p, x] = [some (.ref p), some x] from rfl]
    walk_at "x"
    refine ⟨p, dx, lc, ld, lg, cs, ds, x, a, rfl, B, ty, fun n qc e hn => ?_, fun hn => qe hn⟩
    obtain ⟨xs, hh⟩ := (B.ct qc (List.mem_of_getElem? hn)).head
    have at0 : atI (V.str qc.2.word :: xs) 0 = some (.str qc.2.word) := atI_nat (j := 0) rfl
    walk_at "g"
    exact q n qc e hn
end
/-! ### _law_why of a deed that is refused with NoName -/
local macro_rules | `(tactic| walk_at "s") => `(tactic| first
  | with_reducible refine w_xf ?_
  )
/-- pe_bm, the facts told by their name (within `except .. as e` the reading may not name the suite) -/
theorem pe_bmK {X : Cx} {K : PySem.W.Frag} {T id : String} {name : Str} {o e : Expr} {es : List Expr} {to : TE} {t : TA} {r : V → List V → Hp → VK → Prop} {apos cpos : Pos} (hK : X.K = K) (pa : PySem.PlainAttrs T) (slot : PySem.Slot T name id) (hty : typeOf (.builtin id) = pure (.type "method_descriptor")) (hm : MtR X id r) (ho : PE X o to) (ha : PA X (e :: es) t)
    (hbase : attributeBase o name X.env (eval o X.env) = eval o X.env := by rfl)
    (hfew : ((backTo cpos (starEach (e :: es) X.env)).all (fun x => !x.1) && (backToKw cpos (keywordEach [] X.env)).all (fun x => x.1.isSome)
      && decide ((e :: es).length + ([] : List Keyword).length + (if ([] : List Keyword).isEmpty then 0 else 1) < 30)) = true := by rfl)
    (hline : (apos.endLine == cpos.line) = true := by rfl) (hs : starEach (e :: es) X.env = (false, eval e X.env) :: starEach es X.env := by rfl) (hplain : (backTo cpos (starEach es X.env)).any (·.1) = false := by rfl) :
    PE X (.Call (.Attribute o name apos) (e :: es) [] cpos) (tBM K T r to t) := by
  subst hK
  exact pe_bm pa slot hty hm ho ha hbase hfew hline hs hplain
theorem pe_deedN {X : Cx} {n : Nat} {W : WX} {e : Expr} {R : XK → TE} (hn : X.N.length = n) (tk : Takes X W) (h : ∀ (W' : WX) (E : XK), Takes X W' → (∀ cls d σ' H', E cls d H' → W' cls d σ' H') → PE X e (R E)) : PE X e (tDeed n W R) := by
  subst hn
  exact pe_deed tk h
/-- what _law_why asks of it -/
def TWhyN (CN : Addr) : (XK → Hp → VK → Prop) → Hp → VK → Prop := fun tl H Q => ∀ (H1 : Hp) (Q0 : VK), Same H H1 → tl (fun cls d H' => cls = .ref CN ∧ ∃ (dd : Addr) (x : V), d = some dd ∧ H' dd = some (.xd [("name", x)]) ∧ ∀ (t2 : Addr) (H2 : Hp), Same H' H2 → H2 t2 = some (.tup [.str "NoName", x]) → Q (.ref t2) H2) H1 Q0
section
variable {P : Program} {w : World} {K : PySem.W.Frag} {mg : Str → Option Value} {base : Heap}
theorem why_gives {Nx : List Str} {qx : Str} {scx : Scope} {fx : Addr} {cdx : Value} {Ax : Around} {ox : List Env} {sx : Shared} {Hx : Hp} {Ex : XK} {q : Str} {fE C_NoName C_HouseError C_NoThing C_TooMany C_Lack g : Addr} {fdE : FuncData} {cdg : Value} (T : Txt K mg) (X_NoName : ExnI K mg "NoName" C_NoName fE fdE ["self", "name"] ["name"])
    (g_HouseError : mg "HouseError" = some (.ref C_HouseError)) (g_NoThing : mg "NoThing" = some (.ref C_NoThing)) (g_TooMany : mg "TooMany" = some (.ref C_TooMany)) (g_Lack : mg "Lack" = some (.ref C_Lack)) (xm_NoName_HouseError : PySem.W.exmOne K (.ref C_NoName) (.ref C_HouseError) = some true)
    (kq_NoName_NoThing : PySem.W.kitOne K (.ref C_NoName) (.ref C_NoThing) = some false) (kq_NoName_NoName : PySem.W.kitOne K (.ref C_NoName) (.ref C_NoName) = some true) (kq_NoName_TooMany : PySem.W.kitOne K (.ref C_NoName) (.ref C_TooMany) = some false) (kq_NoName_Lack : PySem.W.kitOne K (.ref C_NoName) (.ref C_Lack) = some false)
    (kq_NoName_ValueError : PySem.W.kitOne K (.ref C_NoName) (.type "ValueError") = some true) :
    LamX.GivesTo (cxOf CX0 P w K mg base Nx qx scx fx cdx Ax ox sx Hx Ex).nox N_law_why "_law_why" (defScope s_law_why) g cdg (defBody s_law_why) "_law_deed" q (TWhyN C_NoName) := by
  have g_NoName := X_NoName.g
  intro f c' s H Q tl act hc h
  refine ⟨_,
      (pss_cons
        (ps_set (i := 1) sc_law_why.nd rfl (.inl rfl) (pe_tup (pa_cons pe_str (pa_cons pe_non pa_nil))))
      (pss_cons
        (p_tryAs (i := 2) rfl rfl sc_law_why.nd rfl rfl ⟨rfl, by decide, .inl g_HouseError⟩ (fun W pn xe tk po =>
          (pss_one
            (ps_expr (pe_deedN (n := 4) (by rfl) tk fun W1 E1 tk1 hW1 => act W1 _ _ E1 _ _ tk1 hW1))))
        (fun a oe cls d pn hz hf => pss_guard (P := cls = .ref C_NoName) (fun hg =>
          (pss_cons
            (ps_set (i := 1) sc_law_why.nd rfl (.inl rfl) (pe_tup (pa_cons pe_str (pa_cons pe_non pa_nil))))
          (pss_cons
            (ps_set (i := 3) sc_law_why.nd rfl (.inl rfl) (pe_lst (pa_cons (pe_callB (r := rIsF K C_NoName a d) (call_isF X_NoName.ec hg hz hf) (by rfl) T.n_isinstance (by decide +kernel) (pa_cons (pv 2) (pa_cons (pe_glob (v := .ref C_NoThing) rfl g_NoThing rfl) pa_nil))) (pa_cons (pe_callB (r := rIsF K C_NoName a d) (call_isF X_NoName.ec hg hz hf) (by rfl) T.n_isinstance (by decide +kernel) (pa_cons (pv 2) (pa_cons (pe_glob (v := .ref C_NoName) rfl g_NoName rfl) pa_nil))) (pa_cons (pe_callB (r := rIsF K C_NoName a d) (call_isF X_NoName.ec hg hz hf) (by rfl) T.n_isinstance (by decide +kernel) (pa_cons (pv 2) (pa_cons (pe_glob (v := .ref C_TooMany) rfl g_TooMany rfl) pa_nil))) (pa_cons (pe_callB (r := rIsF K C_NoName a d) (call_isF X_NoName.ec hg hz hf) (by rfl) T.n_isinstance (by decide +kernel) (pa_cons (pv 2) (pa_cons (pe_glob (v := .ref C_Lack) rfl g_Lack rfl) pa_nil))) pa_nil))))))
          (pss_cons
            (ps_if (PW.pt (pw_and (pt_val (pe_callB (r := rIsF K C_NoName a d) (call_isF X_NoName.ec hg hz hf) (by rfl) T.n_isinstance (by decide +kernel) (pa_cons (pv 2) (pa_cons (pe_bltn (v := .ty "ValueError") (u := .type "ValueError") (by rfl) T.n_ValueError (by decide +kernel) rfl) pa_nil)))) (pw_and1 (pt_cmpR op_eq (pe_bmK (K := K) rfl (r := rCount K) PySem.F.plainAttrs_list PySem.F.slot_list_count PySem.F.type_list_count mt_countF (pv 3) (pa_cons pe_bl pa_nil)) pe_int (nomark _)))))
              (pss_one
                (ps_set (i := 1) sc_law_why.nd rfl (.inl rfl) (pe_tup (pa_cons (pe_ix (r := rIxL K) ix_list (pe_lst (pa_cons pe_str (pa_cons pe_str (pa_cons pe_str (pa_cons pe_str pa_nil))))) (pe_bmK (K := K) rfl (r := rIndex K) PySem.F.plainAttrs_list PySem.F.slot_list_index PySem.F.type_list_index mt_index (pv 3) (pa_cons pe_bl pa_nil)) (fun _ _ => rfl)) (pa_cons pe_non pa_nil)))))
              pss_nil)
          (pss_one
            (ps_if (PW.pt (pw_and (pt_cmpR op_eq (pe_ix (r := rIxT K) ix_tup (pv 1) pe_int (fun _ _ => rfl)) pe_str (nomark _)) (pw_and1 (pt_val (pe_callB (r := rIsF K C_NoName a d) (call_isF X_NoName.ec hg hz hf) (by rfl) T.n_isinstance (by decide +kernel) (pa_cons (pv 2) (pa_cons (pe_glob (v := .ref C_NoName) rfl g_NoName rfl) pa_nil)))))))
              (pss_one
                (ps_set (i := 1) sc_law_why.nd rfl (.inl rfl) (pe_tup (pa_cons pe_str (pa_cons (pe_xf X_NoName.f (X_NoName.nf "name" (by simp)) hz hf (pv 2)) pa_nil)))))
              pss_nil))))))))
      (pss_one
        (ps_ret (pv 1)))))
    , ?_⟩
  rw [show L2.start N_law_why [V.ref f] = [some (.ref f), none, none, none] from rfl]
  walk_at "x"
  refine w_new fun t1 H1 ht1 e1 k1 => ?_
  walk_at "g"
  refine w_seq ?_
  refine w_tryA ?_
  walk_at "g"
  refine w_deed _ (fun cls d σ' H' hE hl => ?_) ⟨rfl, k1 _ _ hc, h H1 _ k1⟩
  obtain ⟨rfl, dd, x, rfl, edd, q2⟩ := hE
  have hl' : σ'.length = 4 := hl
  obtain ⟨y0, y1, y2, y3, rfl⟩ : ∃ y0 y1 y2 y3, σ' = [y0, y1, y2, y3] := by
    match σ', hl' with
    | [a, b, c, d], _ => exact ⟨a, b, c, d, rfl⟩
  refine ⟨true, xm_NoName_HouseError, fun _ ea hea => ?_, fun z => nomatch z⟩
  refine w_guard rfl ?_
  walk_at "g"
  refine w_new fun t2 H2 ht2 e2 k2 => ?_
  walk_at "g"
  refine w_isF (k2 _ _ edd) kq_NoName_NoThing ?_
  walk_at "g"
  refine w_isF (k2 _ _ edd) kq_NoName_NoName ?_
  walk_at "g"
  refine w_isF (k2 _ _ edd) kq_NoName_TooMany ?_
  walk_at "g"
  refine w_isF (k2 _ _ edd) kq_NoName_Lack ?_
  walk_at "g"
  refine w_new fun kl H3 hkl e3 k3 => ?_
  have k13 := Same.trans k2 k3
  walk_at "g"
  refine w_seq ?_
  walk_at "g"
  refine w_isFt (k13 _ _ edd) kq_NoName_ValueError ?_
  walk_at "g"
  refine w_count (.of e3) rfl rfl ?_
  walk_at "g"
  rw [if_pos (by rfl)]
  walk_at "g"
  refine w_new fun ll H4 hll e4 k4 => ?_
  have k14 := Same.trans k13 k4
  have e34 := k4 _ _ e3
  walk_at "g"
  refine w_indexF 1 (.of e34) rfl rfl rfl rfl (fun m z' hm hz => ?_) ?_
  · obtain rfl : m = 0 := by omega
    cases hz
    rfl
  walk_at "g"
  refine w_new fun t5 H5 ht5 e5 k5 => ?_
  have k15 := Same.trans k14 k5
  walk_at "g"
  first | refine w_yes (by decide) ?_ | skip
  walk_at "g"
  refine w_isF (k15 _ _ edd) kq_NoName_NoName ?_
  walk_at "g"
  refine ⟨rfl, rfl, dd, _, x, rfl, k15 _ _ edd, rfl, ?_⟩
  walk_at "g"
  refine w_new fun t6 H6 ht6 e6 k6 => ?_
  walk_at "g"
  exact q2 t6 H6 (Same.trans k15 k6) e6
end
/-! ### _law_why of a deed that is refused with NoThing -/
/-- what _law_why asks of it -/
def TWhyNoThing (CN : Addr) : (XK → Hp → VK → Prop) → Hp → VK → Prop := fun tl H Q => ∀ (H1 : Hp) (Q0 : VK), Same H H1 → tl (fun cls d H' => cls = .ref CN ∧ d = none ∧ ∀ (t2 : Addr) (H2 : Hp), Same H' H2 → H2 t2 = some (.tup [.str "NoThing", .non]) → Q (.ref t2) H2) H1 Q0
section
variable {P : Program} {w : World} {K : PySem.W.Frag} {mg : Str → Option Value} {base : Heap}
theorem why_gives_NoThing {Nx : List Str} {qx : Str} {scx : Scope} {fx : Addr} {cdx : Value} {Ax : Around} {ox : List Env} {sx : Shared} {Hx : Hp} {Ex : XK} {q : Str} {C_NoName C_HouseError C_NoThing C_TooMany C_Lack g : Addr} {cdg : Value} (T : Txt K mg) (EC_NoThing : ExcC K C_NoThing)
    (g_HouseError : mg "HouseError" = some (.ref C_HouseError)) (g_NoThing : mg "NoThing" = some (.ref C_NoThing)) (g_NoName : mg "NoName" = some (.ref C_NoName)) (g_TooMany : mg "TooMany" = some (.ref C_TooMany)) (g_Lack : mg "Lack" = some (.ref C_Lack)) (xm_NoThing_HouseError : PySem.W.exmOne K (.ref C_NoThing) (.ref C_HouseError) = some true)
    (kq_NoThing_NoThing : PySem.W.kitOne K (.ref C_NoThing) (.ref C_NoThing) = some true) (kq_NoThing_NoName : PySem.W.kitOne K (.ref C_NoThing) (.ref C_NoName) = some false) (kq_NoThing_TooMany : PySem.W.kitOne K (.ref C_NoThing) (.ref C_TooMany) = some false) (kq_NoThing_Lack : PySem.W.kitOne K (.ref C_NoThing) (.ref C_Lack) = some false)
    (kq_NoThing_ValueError : PySem.W.kitOne K (.ref C_NoThing) (.type "ValueError") = some true) :
    LamX.GivesTo (cxOf CX0 P w K mg base Nx qx scx fx cdx Ax ox sx Hx Ex).nox N_law_why "_law_why" (defScope s_law_why) g cdg (defBody s_law_why) "_law_deed" q (TWhyNoThing C_NoThing) := by
  intro f c' s H Q tl act hc h
  refine ⟨_,
      (pss_cons
        (ps_set (i := 1) sc_law_why.nd rfl (.inl rfl) (pe_tup (pa_cons pe_str (pa_cons pe_non pa_nil))))
      (pss_cons
        (p_tryAs (i := 2) rfl rfl sc_law_why.nd rfl rfl ⟨rfl, by decide, .inl g_HouseError⟩ (fun W pn xe tk po =>
          (pss_one
            (ps_expr (pe_deedN (n := 4) (by rfl) tk fun W1 E1 tk1 hW1 => act W1 _ _ E1 _ _ tk1 hW1))))
        (fun a oe cls d pn hz hf => pss_guard (P := cls = .ref C_NoThing ∧ d = none) (fun hg =>
          (pss_cons
            (ps_set (i := 1) sc_law_why.nd rfl (.inl rfl) (pe_tup (pa_cons pe_str (pa_cons pe_non pa_nil))))
          (pss_cons
            (ps_set (i := 3) sc_law_why.nd rfl (.inl rfl) (pe_lst (pa_cons (pe_callB (r := rIsE K C_NoThing a) (call_isE EC_NoThing (zc_of hg hz) hf) (by rfl) T.n_isinstance (by decide +kernel) (pa_cons (pv 2) (pa_cons (pe_glob (v := .ref C_NoThing) rfl g_NoThing rfl) pa_nil))) (pa_cons (pe_callB (r := rIsE K C_NoThing a) (call_isE EC_NoThing (zc_of hg hz) hf) (by rfl) T.n_isinstance (by decide +kernel) (pa_cons (pv 2) (pa_cons (pe_glob (v := .ref C_NoName) rfl g_NoName rfl) pa_nil))) (pa_cons (pe_callB (r := rIsE K C_NoThing a) (call_isE EC_NoThing (zc_of hg hz) hf) (by rfl) T.n_isinstance (by decide +kernel) (pa_cons (pv 2) (pa_cons (pe_glob (v := .ref C_TooMany) rfl g_TooMany rfl) pa_nil))) (pa_cons (pe_callB (r := rIsE K C_NoThing a) (call_isE EC_NoThing (zc_of hg hz) hf) (by rfl) T.n_isinstance (by decide +kernel) (pa_cons (pv 2) (pa_cons (pe_glob (v := .ref C_Lack) rfl g_Lack rfl) pa_nil))) pa_nil))))))
          (pss_cons
            (ps_if (PW.pt (pw_and (pt_val (pe_callB (r := rIsE K C_NoThing a) (call_isE EC_NoThing (zc_of hg hz) hf) (by rfl) T.n_isinstance (by decide +kernel) (pa_cons (pv 2) (pa_cons (pe_bltn (v := .ty "ValueError") (u := .type "ValueError") (by rfl) T.n_ValueError (by decide +kernel) rfl) pa_nil)))) (pw_and1 (pt_cmpR op_eq (pe_bmK (K := K) rfl (r := rCount K) PySem.F.plainAttrs_list PySem.F.slot_list_count PySem.F.type_list_count mt_countF (pv 3) (pa_cons pe_bl pa_nil)) pe_int (nomark _)))))
              (pss_one
                (ps_set (i := 1) sc_law_why.nd rfl (.inl rfl) (pe_tup (pa_cons (pe_ix (r := rIxL K) ix_list (pe_lst (pa_cons pe_str (pa_cons pe_str (pa_cons pe_str (pa_cons pe_str pa_nil))))) (pe_bmK (K := K) rfl (r := rIndex K) PySem.F.plainAttrs_list PySem.F.slot_list_index PySem.F.type_list_index mt_index (pv 3) (pa_cons pe_bl pa_nil)) (fun _ _ => rfl)) (pa_cons pe_non pa_nil)))))
              pss_nil)
          (pss_one
            (ps_if (PW.pt (pw_and (pt_cmpR op_eq (pe_ix (r := rIxT K) ix_tup (pv 1) pe_int (fun _ _ => rfl)) pe_str (nomark _)) (pw_and1 (pt_val (pe_callB (r := rIsE K C_NoThing a) (call_isE EC_NoThing (zc_of hg hz) hf) (by rfl) T.n_isinstance (by decide +kernel) (pa_cons (pv 2) (pa_cons (pe_glob (v := .ref C_NoName) rfl g_NoName rfl) pa_nil)))))))
              pss_never
              pss_nil))))))))
      (pss_one
        (ps_ret (pv 1)))))
    , ?_⟩
  rw [show L2.start N_law_why [V.ref f] = [some (.ref f), none, none, none] from rfl]
  walk_at "x"
  refine w_new fun t1 H1 ht1 e1 k1 => ?_
  walk_at "g"
  refine w_seq ?_
  refine w_tryA ?_
  walk_at "g"
  refine w_deed _ (fun cls d σ' H' hE hl => ?_) ⟨rfl, k1 _ _ hc, h H1 _ k1⟩
  obtain ⟨rfl, rfl, q2⟩ := hE
  have hl' : σ'.length = 4 := hl
  obtain ⟨y0, y1, y2, y3, rfl⟩ : ∃ y0 y1 y2 y3, σ' = [y0, y1, y2, y3] := by
    match σ', hl' with
    | [a, b, c, d], _ => exact ⟨a, b, c, d, rfl⟩
  refine ⟨true, xm_NoThing_HouseError, fun _ ea hea => ?_, fun z => nomatch z⟩
  refine w_guard ⟨rfl, rfl⟩ ?_
  walk_at "g"
  refine w_new fun t2 H2 ht2 e2 k2 => ?_
  walk_at "g"
  refine w_isE kq_NoThing_NoThing ?_
  walk_at "g"
  refine w_isE kq_NoThing_NoName ?_
  walk_at "g"
  refine w_isE kq_NoThing_TooMany ?_
  walk_at "g"
  refine w_isE kq_NoThing_Lack ?_
  walk_at "g"
  refine w_new fun kl H3 hkl e3 k3 => ?_
  have k13 := Same.trans k2 k3
  walk_at "g"
  refine w_seq ?_
  walk_at "g"
  refine w_isEt kq_NoThing_ValueError ?_
  walk_at "g"
  refine w_count (.of e3) rfl rfl ?_
  walk_at "g"
  rw [if_pos (by rfl)]
  walk_at "g"
  refine w_new fun ll H4 hll e4 k4 => ?_
  have k14 := Same.trans k13 k4
  have e34 := k4 _ _ e3
  walk_at "g"
  refine w_indexF 0 (.of e34) rfl rfl rfl rfl (fun m z' hm hz => ?_) ?_
  · exact absurd hm (Nat.not_lt_zero _)
  walk_at "g"
  refine w_new fun t5 H5 ht5 e5 k5 => ?_
  have k15 := Same.trans k14 k5
  walk_at "g"
  first | refine w_no (by decide) ?_ | skip
  walk_at "g"
  exact q2 t5 H5 k15 e5
end
/-! ### bent contents -/
def BK : List Ct := [.leaf [], .leaf ["a", "b"], .tree [], .tree [("a", 0)], .tree [("b", 3)], .ver [] 2 7, .ver [5] 3 7, .ver [5, 6] 3 0, .ver [5, 6, 7] 3 (10 ^ 18), .ver [5, 6, 7, 8] 4 1]
theorem bk_len : BK.length = 10 := rfl
theorem bk_word {n : Nat} : (∃ c, BK[n]? = some c ∧ c.word ≠ "version") → n < 5 := by
  rintro ⟨c, h, hw⟩
  have hl := (List.getElem?_eq_some_iff.mp h).1
  rw [bk_len] at hl
  refine Classical.byContradiction fun hn => ?_
  rcases (by omega : n = 5 ∨ n = 6 ∨ n = 7 ∨ n = 8 ∨ n = 9) with rfl | rfl | rfl | rfl | rfl <;> (cases h; exact hw rfl)
theorem bk_tree {n : Nat} : (∃ c, BK[n]? = some c ∧ c.word = "tree") → 2 ≤ n ∧ n < 5 := by
  rintro ⟨c, h, hw⟩
  have hl := (List.getElem?_eq_some_iff.mp h).1
  rw [bk_len] at hl
  refine Classical.byContradiction fun hn => ?_
  rcases (by omega : n = 0 ∨ n = 1 ∨ n = 5 ∨ n = 6 ∨ n = 7 ∨ n = 8 ∨ n = 9) with rfl | rfl | rfl | rfl | rfl | rfl | rfl
  · cases h; exact lit_ne1 hw
  · cases h; exact lit_ne1 hw
  all_goals (cases h; exact lit_ne6 hw)
theorem bk_ver {n : Nat} : (∃ c, BK[n]? = some c ∧ c.word = "version") → 5 ≤ n ∧ n < 10 := by
  rintro ⟨c, h, hw⟩
  have hl := (List.getElem?_eq_some_iff.mp h).1
  rw [bk_len] at hl
  refine Classical.byContradiction fun hn => ?_
  rcases (by omega : n = 0 ∨ n = 1 ∨ n = 2 ∨ n = 3 ∨ n = 4) with rfl | rfl | rfl | rfl | rfl
  · cases h; exact lit_ne2 hw
  · cases h; exact lit_ne2 hw
  all_goals (cases h; exact lit_ne3 hw)
theorem DatT.backD {B : Nat} {H H1 : Hp} {a : Addr} {xs : List V} (d : DatT B H (.ref a)) (k : KD H H1) (e : H1 a = some (.tup xs)) : H a = some (.tup xs) := by
  rcases d.cases with ⟨s, t, hne⟩ | ⟨p, ys, e1, e2, _⟩
  · cases t with
    | lst h => obtain ⟨ys, z⟩ := k.l _ _ h; rw [e] at z; cases z
    | tup h => exact absurd rfl hne
    | dK h => obtain ⟨ys, z⟩ := k.d _ _ h; rw [e] at z; cases z
  · cases e1
    have z := k.t _ _ e2
    rw [e] at z
    cases z
    exact e2
theorem CtAt.backD {B : Nat} {H H' : Hp} {a : Addr} {c : Ct} (h : CtAt H' a c) (d : DatT B H (.ref a)) (k : KD H H') : CtAt H a c := by
  cases c with
  | leaf rows =>
    obtain ⟨r, h1, h2⟩ := h
    have e1 := d.backD k h1
    exact ⟨r, e1, ((d.elem e1).2 (.ref r) (by simp)).backD k h2⟩
  | tree es =>
    obtain ⟨r, qs, h1, h2, h3, h4⟩ := h
    have e1 := d.backD k h1
    have d2 := (d.elem e1).2 (.ref r) (by simp)
    have e2 := d2.backD k h2
    exact ⟨r, qs, e1, e2, h3, fun q hq => ((d2.elem e2).2 (.ref q.1) (List.mem_map_of_mem (f := fun q : Addr × Str × Nat => V.ref q.1) hq)).backD k (h4 q hq)⟩
  | ver ps root stamp =>
    obtain ⟨r, h1, h2⟩ := h
    have e1 := d.backD k h1
    exact ⟨r, e1, ((d.elem e1).2 (.ref r) (by simp)).backD k h2⟩
theorem ixN_nat {n j : Nat} (h : j < n) : ixN n (j : Int) = some j := by
  unfold ixN
  rw [if_pos (by omega), if_pos (by omega)]
  simp
abbrev LTS : Str := Str.ofString "abcdefghijklmnopqrst"
theorem w_repLB {H : Hp} {Q : VK} {l : Addr} {k : Int} {xs : List V} (h1 : H l = some (.lst xs)) (h2 : -(2 ^ 63) ≤ k) (h3 : k < 2 ^ 63) (h4 : xs.length * k.toNat ≤ sizeLine) (h : ∀ p H1, H p = none → H1 p = some (.lst (List.replicate k.toNat xs).flatten) → Same H H1 → Q (.ref p) H1) : rRep (.ref l) (.int k) H Q :=
  ⟨l, k, xs, rfl, rfl, h1, h2, h3, h4, fun p hp => w_new (h := h) p hp⟩
theorem rep_oneB {α : Type} (x : α) : ∀ k : Nat, (List.replicate k [x]).flatten = List.replicate k x
  | 0 => rfl
  | k + 1 => by rw [List.replicate_succ, List.flatten_cons, rep_oneB x k]; rfl
theorem KX.offN {d L : Addr} {H H1 H2 : Hp} (k : KX d H H1) (o : Off L H1 H2) (h : H L = none) : KX d H H2 where
  t := fun b xs e => o.get (ne_of_none e h) (k.t b xs e)
  l := fun b xs e => by
    obtain ⟨ys, e1⟩ := k.l b xs e
    exact ⟨ys, o.get (ne_of_none e h) e1⟩
  d := fun b xs e => by
    obtain ⟨ys, e1⟩ := k.d b xs e
    exact ⟨ys, o.get (ne_of_none e h) e1⟩
  p := fun b u hb e => o.get (ne_of_none e h) (k.p b u hb e)
/-- no content of the book -/
def Bent (H : Hp) (x : V) : Prop := DatT 100 H x ∧ ∀ c, ¬ CtV BK (dsOf BK) H x c
theorem Bent.kd {H H' : Hp} {x : V} (h : Bent H x) (k : KD H H') : Bent H' x := by
  refine ⟨h.1.kd k, fun c hc => h.2 c ?_⟩
  obtain ⟨a, rfl, h2, h3⟩ := hc
  exact ⟨a, rfl, h2.backD h.1 k, h3⟩
theorem Bent.sc {H : Hp} {x : V} (h : Sc x) (hz : ∀ z, x = .str z → z.length ≤ 100) : Bent H x := by
  refine ⟨?_, fun c hc => ?_⟩
  · cases x with
    | non => exact .leaf .non (by decide) hz
    | bl b => exact .leaf (.bl b) (by decide) hz
    | int i => exact .leaf (.int i) (by decide) hz
    | str z => exact .leaf (.str z) (by decide) hz
    | _ => exact absurd h (by simp [Sc])
  · obtain ⟨a, rfl, _⟩ := hc
    exact absurd h (by simp [Sc])
theorem Bent.lst {H : Hp} {a : Addr} {xs : List V} (h : H a = some (.lst xs)) : Bent H (.ref a) := by
  refine ⟨.leaf (.lst h) (by decide) (fun z e => by cases e), fun c hc => ?_⟩
  obtain ⟨a', e, hc, _⟩ := hc
  cases e
  obtain ⟨ys, hh⟩ := hc.head
  rw [h] at hh
  cases hh
theorem Bent.dk {H : Hp} {a : Addr} {xs : List (Key × V)} (h : H a = some (.dK xs)) : Bent H (.ref a) := by
  refine ⟨.leaf (.dK h) (by decide) (fun z e => by cases e), fun c hc => ?_⟩
  obtain ⟨a', e, hc, _⟩ := hc
  cases e
  obtain ⟨ys, hh⟩ := hc.head
  rw [h] at hh
  cases hh
/-- a tuple is none, where it is none of each kind -/
theorem Bent.tup {H : Hp} {a : Addr} {xs : List V} (h : H a = some (.tup xs)) (hl : xs.length ≤ 100) (hd : ∀ y ∈ xs, DatT 100 H y)
    (h1 : ∀ (r : Addr) (rows : List Str), xs = [.str "leaf", .ref r] → RwAt H r rows → ¬ CtOk BK (dsOf BK) (.leaf rows))
    (h2 : ∀ (r : Addr) (qs : List (Addr × Str × Nat)), xs = [.str "tree", .ref r] → H r = some (.tup (qs.map fun q => .ref q.1)) → (∀ q ∈ qs, H q.1 = some (.tup [.str q.2.1, nV q.2.2])) → ¬ CtOk BK (dsOf BK) (.tree (qs.map (·.2))))
    (h3 : ∀ (r : Addr) (ps : List Nat) (root st : Nat), xs = [.str "version", .ref r, nV root, nV st] → H r = some (.tup (ps.map nV)) → ¬ CtOk BK (dsOf BK) (.ver ps root st)) : Bent H (.ref a) := by
  refine ⟨.tup h hl hd, fun c hc => ?_⟩
  obtain ⟨a', e, hc, ok⟩ := hc
  cases e
  cases c with
  | leaf rows =>
    obtain ⟨r, g1, g2⟩ := hc
    rw [h] at g1
    exact h1 r rows (HO.tup.inj (Option.some.inj g1)) g2 ok
  | tree es =>
    obtain ⟨r, qs, g1, g2, g3, g4⟩ := hc
    rw [h] at g1
    rw [← g3] at ok
    exact h2 r qs (HO.tup.inj (Option.some.inj g1)) g2 g4 ok
  | ver ps root st =>
    obtain ⟨r, g1, g2⟩ := hc
    rw [h] at g1
    exact h3 r ps root st (HO.tup.inj (Option.some.inj g1)) g2 ok
theorem Bent.tupX {H : Hp} {a : Addr} {xs : List V} (h : H a = some (.tup xs)) (hl : xs.length ≤ 100) (hd : ∀ y ∈ xs, DatT 100 H y) (h1 : ∀ r, xs ≠ [.str "leaf", .ref r]) (h2 : ∀ r, xs ≠ [.str "tree", .ref r]) (h3 : ∀ r u v, xs ≠ [.str "version", .ref r, u, v]) : Bent H (.ref a) :=
  .tup h hl hd (fun r _ e => absurd e (h1 r)) (fun r _ e => absurd e (h2 r)) fun r _ _ _ e => absurd e (h3 r _ _)
theorem dI {H : Hp} (i : Int) : DatT 100 H (.int i) := .leaf (.int i) (by decide) fun z e => by cases e
theorem dS {H : Hp} {z : Str} (h : z.length ≤ 100) : DatT 100 H (.str z) := .leaf (.str z) (by decide) fun u e => by cases e; exact h
theorem dT0 {H : Hp} {a : Addr} (h : H a = some (.tup [])) : DatT 100 H (.ref a) := .tup h (by simp) (by simp)
theorem dT1 {H : Hp} {a : Addr} {x : V} (h : H a = some (.tup [x])) (hx : DatT 100 H x) : DatT 100 H (.ref a) := .tup h (by simp) fun y hy => by rw [List.mem_singleton.mp hy]; exact hx
theorem dT2 {H : Hp} {a : Addr} {x y : V} (h : H a = some (.tup [x, y])) (hx : DatT 100 H x) (hy : DatT 100 H y) : DatT 100 H (.ref a) := .tup h (by simp) fun z hz => by
  rcases List.mem_cons.mp hz with rfl | hz
  · exact hx
  · rw [List.mem_singleton.mp hz]
    exact hy
def spOddB : Sp := fun vs H Q _ => ∃ (d c : Addr) (n : Nat), vs = [.ref d] ∧ Deck H d c n ∧ n + 2 ≤ MOSTD ∧ ∀ H' x, Deck H' d c (n + 2) → KX d H H' → Bent H' x → Q x H'
def spBentLeaf : Sp := fun vs H Q _ => ∃ (d c : Addr) (n : Nat), vs = [.ref d] ∧ Deck H d c n ∧ n + 400 ≤ MOSTD ∧ ∀ H' x, Deck H' d c (n + 400) → KX d H H' → Bent H' x → Q x H'
section
variable {P : Program} {w : World} {K : PySem.W.Frag} {mg : Str → Option Value} {base : Heap}
theorem ok_oddB {f fM fD : Addr} {fd fdM fdD : FuncData} (T : Txt K mg) (F : Fun K "_law_odd" "_law_odd" s_law_odd f fd) (D_law_mixed : Df K mg "_law_mixed" s_law_mixed ["_law_cell", "_law_turn"] fM fdM) (D_law_draw : Df K mg "_law_draw" s_law_draw ["_law_deck_here", "_law_many"] fD fdD) : FnOk P w K mg base CX0 3 f fd ["_law_deck_here"] spOddB := by
  have G_law_draw : FnOk P w K mg base CX0 2 fD fdD ["_law_deck_here", "_law_many"] spDraw := ok_draw T D_law_draw.fn D_law_mixed
  refine F.ok sc_law_odd (fun vs H Q E h => ?_) (fun cdv A outer s H vs Q E hr h => ?_)
  · obtain ⟨d, c, n, rfl, _⟩ := h
    rfl
  · obtain ⟨d, c, n, rfl, D0, hn, q⟩ := h
    have hu := hu_of hr
    refine ⟨_,
      (pss_cons
        (ps_set (i := 1) sc_law_odd.nd rfl (.inl rfl) (pe_call G_law_draw (hr.mono (by omega)) (by rfl) D_law_draw.g D_law_draw.fn.kp D_law_draw.b .nil pass0 (pa_cons (pv 0) (pa_cons pe_int pa_nil))))
      (pss_cons
        (ps_set (i := 2) sc_law_odd.nd rfl (.inl rfl) (pe_call G_law_draw (hr.mono (by omega)) (by rfl) D_law_draw.g D_law_draw.fn.kp D_law_draw.b .nil pass0 (pa_cons (pv 0) (pa_cons (pe_op op_pow pe_int pe_int) pa_nil))))
      (pss_cons
        (ps_set (i := 3) sc_law_odd.nd rfl (.inl rfl) (pe_lst (pa_cons pe_non (pa_cons pe_bl (pa_cons pe_bl (pa_cons pe_str (pa_cons pe_str (pa_cons (pe_tup pa_nil) (pa_cons (pe_lst pa_nil) (pa_cons (pe_tup (pa_cons pe_int pa_nil)) (pa_cons pe_dnewK (pa_cons (pe_op op_sub (pe_un un_neg pe_int) (pv 2)) (pa_cons (pe_op op_add (pe_op op_pow pe_int pe_int) (pv 2)) (pa_cons (pe_tup (pa_cons pe_str pa_nil)) pa_nil))))))))))))))
      (pss_one
        (ps_ret (pe_ix (r := rIxL K) ix_list (pv 3) (pv 1) (fun _ _ => rfl)))))))
      , ?_⟩
    rw [show L2.start N_law_odd [V.ref d] = [some (.ref d), none, none, none] from rfl]
    walk_at "x"
    refine w_draw D0 (by omega) (by decide) (by decide) fun cell H1 hcell D1 o1 => ?_
    walk_at "g"
    refine w_draw D1 (by omega) (by decide) (by decide) fun far H2 hfar D2 o2 => ?_
    have x2 := (D0.kx D1 o1).trans (D1.kx D2 o2)
    walk_at "g"
    refine w_new fun a1 H3 ha1 e1 k1 => ?_
    walk_at "g"
    refine w_new fun a2 H4 ha2 e2 k2 => ?_
    walk_at "g"
    refine w_new fun a3 H5 ha3 e3 k3 => ?_
    walk_at "g"
    refine w_new fun a4 H6 ha4 e4 k4 => ?_
    walk_at "g"
    refine w_new fun a5 H7 ha5 e5 k5 => ?_
    walk_at "g"
    refine w_new fun l H8 hl el k6 => ?_
    have k68 := k6
    have k58 := Same.trans k5 k6
    have k48 := Same.trans k4 k58
    have k38 := Same.trans k3 k48
    have k28 := Same.trans k2 k38
    have k18 := Same.trans k1 k28
    have D8 : Deck H8 d c _ := D2.kp (M := []) (Kp.of k18) (by simp) (by simp)
    have x8 := x2.trans (KX.of k18)
    have f1 := k28 _ _ e1
    have f2 := k38 _ _ e2
    have f3 := k48 _ _ e3
    have f4 := k58 _ _ e4
    have f5 := k68 _ _ e5
    generalize hxs : ([_, _, _, _, _, _, _, _, _, _, _, _] : List V) = xs at el
    have hlen : xs.length = 12 := by rw [← hxs]; rfl
    have hall : ∀ y ∈ xs, Bent H8 y := by
      rw [← hxs]
      intro y hy
      simp only [List.mem_cons, List.not_mem_nil, or_false] at hy
      rcases hy with rfl | rfl | rfl | rfl | rfl | rfl | rfl | rfl | rfl | rfl | rfl | rfl
      · exact .sc trivial (fun z e => by cases e)
      · exact .sc trivial (fun z e => by cases e)
      · exact .sc trivial (fun z e => by cases e)
      · exact .sc trivial (fun z e => by cases e; decide)
      · exact .sc trivial (fun z e => by cases e; decide)
      · exact .tupX f1 (by simp) (by simp) (fun r => by simp) (fun r => by simp) (fun r u v => by simp)
      · exact .lst f2
      · exact .tupX f3 (by simp) (fun y hy => by rw [List.mem_singleton.mp hy]; exact dI _) (fun r => by simp) (fun r => by simp) (fun r u v => by simp)
      · exact .dk f4
      · exact .sc trivial (fun z e => by cases e)
      · exact .sc trivial (fun z e => by cases e)
      · exact .tupX f5 (by simp) (fun y hy => by rw [List.mem_singleton.mp hy]; exact dS (by decide)) (fun r => by simp) (fun r => by simp) (fun r u v => by simp)
    have hc12 : cell < xs.length := by omega
    have at1 : atI xs (cell : Int) = some xs[cell] := atI_nat (List.getElem?_eq_getElem hc12)
    walk_at "g"
    exact q H8 _ D8 x8 (hall _ (List.getElem_mem hc12))
theorem ok_bentleaf {f fM fD fT : Addr} {fd fdM fdD fdT : FuncData} (T : Txt K mg) (F : Fun K "_law_bent_leaf" "_law_bent_leaf" s_law_bent_leaf f fd) (D_law_mixed : Df K mg "_law_mixed" s_law_mixed ["_law_cell", "_law_turn"] fM fdM) (D_law_draw : Df K mg "_law_draw" s_law_draw ["_law_deck_here", "_law_many"] fD fdD) (D_law_text : Df K mg "_law_text" s_law_text ["_law_deck_here", "_law_most"] fT fdT) : FnOk P w K mg base CX0 4 f fd ["_law_deck_here"] spBentLeaf := by
  have G_law_draw : FnOk P w K mg base CX0 2 fD fdD ["_law_deck_here", "_law_many"] spDraw := ok_draw T D_law_draw.fn D_law_mixed
  have G_law_text : FnOk P w K mg base CX0 3 fT fdT ["_law_deck_here", "_law_most"] spText := ok_text T D_law_text.fn D_law_mixed D_law_draw
  refine F.ok sc_law_bent_leaf (fun vs H Q E h => ?_) (fun cdv A outer s H vs Q E hr h => ?_)
  · obtain ⟨d, c, n, rfl, _⟩ := h
    rfl
  · obtain ⟨d, c, n, rfl, D0, hn, q⟩ := h
    have hu := hu_of hr
    refine ⟨_,
      (pss_cons
        (ps_setLc (i := 1) (own := [("_law_k", 3)]) (g := (gName 3)) rfl sc_law_bent_leaf.nd rfl rfl (sw_true rfl rfl rfl (by decide +kernel)) (pi_range1 (by rfl) T.n_range (pa_cons (pe_op op_add pe_int (pe_call G_law_draw (hr.mono (by omega)) (by rfl) D_law_draw.g D_law_draw.fn.kp D_law_draw.b .nil pass0 (pa_cons (pv 0) (pa_cons pe_int pa_nil)))) pa_nil)) (blkOk_by (own := [("_law_k", 3)]) (N := N_law_bent_leaf) (sc := defScope s_law_bent_leaf) (by decide +kernel)) (fun _ _ _ _ _ => (pg_name (i := 3) sc_law_bent_leaf.nd rfl (.inl rfl))) (fun _ _ _ _ _ => pts_nil) (fun _ _ _ _ _ => (pe_call G_law_text (hr.mono (by omega)) (by rfl) D_law_text.g D_law_text.fn.kp D_law_text.b .nil pass0 (pa_cons (pv 0) (pa_cons pe_int pa_nil)))))
      (pss_cons
        (ps_set (i := 2) sc_law_bent_leaf.nd rfl (.inl rfl) (pe_call G_law_draw (hr.mono (by omega)) (by rfl) D_law_draw.g D_law_draw.fn.kp D_law_draw.b .nil pass0 (pa_cons (pv 0) (pa_cons (pe_callB (r := rLen K) c_len (by rfl) T.n_len (by decide +kernel) (pa_cons (pv 1) pa_nil)) pa_nil))))
      (pss_cons
        (ps_asg (pe_ix (r := rIxL K) ix_list (pe_lst (pa_cons (pe_op op_repS pe_str pe_int) (pa_cons pe_str (pa_cons pe_int (pa_cons pe_non (pa_cons (pe_tup (pa_cons pe_str pa_nil)) (pa_cons pe_str pa_nil))))))) (pe_call G_law_draw (hr.mono (by omega)) (by rfl) D_law_draw.g D_law_draw.fn.kp D_law_draw.b .nil pass0 (pa_cons (pv 0) (pa_cons pe_int pa_nil))) (fun _ _ => rfl)) (pg_sub (pv 1) (pv 2) set_list))
      (pss_cons
        (ps_if (pt_cmpR op_eq (pe_call G_law_draw (hr.mono (by omega)) (by rfl) D_law_draw.g D_law_draw.fn.kp D_law_draw.b .nil pass0 (pa_cons (pv 0) (pa_cons pe_int pa_nil))) pe_int (nomark _))
          (pss_one
            (ps_ret (pe_tup (pa_cons pe_str (pa_cons (pe_callTy (r := rTupOf K) c_tupOf (by rfl) T.n_tuple (by decide +kernel) (pa_cons (pe_op op_rep (pe_lst (pa_cons pe_str pa_nil)) (pe_op op_add pe_int (pe_call G_law_draw (hr.mono (by omega)) (by rfl) D_law_draw.g D_law_draw.fn.kp D_law_draw.b .nil pass0 (pa_cons (pv 0) (pa_cons pe_int pa_nil))))) pa_nil)) pa_nil)))))
          pss_nil)
      (pss_cons
        (ps_if (pt_cmpR op_eq (pe_call G_law_draw (hr.mono (by omega)) (by rfl) D_law_draw.g D_law_draw.fn.kp D_law_draw.b .nil pass0 (pa_cons (pv 0) (pa_cons pe_int pa_nil))) pe_int (nomark _))
          (pss_one
            (ps_ret (pe_tup (pa_cons pe_str (pa_cons (pe_lst (pa_cons (pe_ix (r := rIxL K) ix_list (pv 1) pe_int (fun _ _ => rfl)) pa_nil)) pa_nil)))))
          pss_nil)
      (pss_one
        (ps_ret (pe_tup (pa_cons pe_str (pa_cons (pe_callTy (r := rTupOf K) c_tupOf (by rfl) T.n_tuple (by decide +kernel) (pa_cons (pv 1) pa_nil)) pa_nil))))))))))
      , ?_⟩
    rw [show L2.start N_law_bent_leaf [V.ref d] = [some (.ref d), none, none, none] from rfl]
    walk_at "x"
    refine w_draw D0 (by omega) (by decide) (by decide) fun r H2 hr2 D2 o2 => ?_
    obtain ⟨⟨dx2, ed2⟩, _⟩ := D2.at
    have x2 := D0.kx D2 o2
    walk_at "g"
    refine lcp_gen (walk_range (lo := 0) (n := (1 + (r : Int)).toNat)) [d] (fun i y _ => ∃ z : Str, y = .str z ∧ LineOk z) (fun i H' => Deck H' d c (n + 1 + 42 * i)) (by omega) (fun _ _ _ _ _ h => h) (fun D hD i H1' o z => z.mut (D2.ne1 hD).1 (D2.ne1 hD).2) (fun _ _ _ _ => trivial) D2 ?_ (by intro b hb; have e : b = d := (by simpa using hb); subst e; exact ⟨_, ed2⟩) ?_
    · rintro i x H4 H5 R hi k4 t4 D4 ⟨rfl, rfl⟩ hR
      refine w_name ⟨rfl, ?_⟩
      walk_at "g"
      refine ⟨d, c, _, 4, rfl, D4, by omega, by omega, fun H6 z D6 k6 t6 hz => ?_⟩
      exact hR _ _ ⟨z, rfl, hz.1⟩ k6 t6 (by rw [show n + 1 + 42 * (i + 1) = n + 1 + 42 * i + 42 by omega]; exact D6)
    intro L H4 ys hyl hyp hL k4 t4 D4 eL
    obtain ⟨zs, rfl, hzk⟩ := strs_of (p := LineOk) (ys := ys) fun y hy => by
      obtain ⟨i, hi, e⟩ := List.getElem_of_mem hy
      exact hyp i y (by rw [List.getElem?_eq_getElem hi, e])
    rw [List.length_map] at hyl
    obtain ⟨Ld, Lc⟩ := D2.ne1 hL
    have x4 := x2.trans (D2.kxK D4 k4)
    have hL0 : H L = none := by
      cases e : H L with
      | none => rfl
      | some o =>
        rw [x2.p _ _ (by simpa using Ld) e] at hL
        cases hL
    have hz4 : zs.length ≤ 4 := by omega
    walk_at "g"
    refine w_draw D4 (by unfold MOSTD at *; omega) (by rw [List.length_map]; omega) (by rw [List.length_map]; omega) fun at0 H5 hat D5 o5 => ?_
    rw [List.length_map] at hat
    have hat' : at0 < zs.length := by omega
    have x5 := x4.trans (D4.kx D5 o5)
    have eL5 := o5.get Ld eL
    walk_at "g"
    refine w_repS (by decide +kernel) (by decide) (by decide) ?_
    walk_at "g"
    refine w_new fun ta H6 hta eta k6 => ?_
    walk_at "g"
    refine w_new fun l6 H7 hl6 el6 k7 => ?_
    have k57 := Same.trans k6 k7
    have D7 : Deck H7 d c _ := D5.kp (M := []) (Kp.of k57) (by simp) (by simp)
    walk_at "g"
    refine w_draw D7 (by unfold MOSTD at *; omega) (by decide) (by decide) fun pk H8 hpk D8 o8 => ?_
    have x58 : KX d H5 H8 := (KX.of k57).trans (D7.kx D8 o8)
    obtain ⟨⟨dx7, ed7⟩, _⟩ := D7.at
    have D6 : Deck H6 d c _ := D5.kp (M := []) (Kp.of k6) (by simp) (by simp)
    have l6d := (D6.ne1 hl6).1
    have el8 := o8.get l6d el6
    have eL8 := x58.p _ _ (by simpa using Ld) eL5
    have eta8 := (D7.kx D8 o8).t _ _ (k7 _ _ eta)
    generalize hbs : ([_, _, _, _, _, _] : List V) = bs at el6 el8
    have hbl : bs.length = 6 := by rw [← hbs]; rfl
    have hbad : ∀ y ∈ bs, DatT 100 H8 y ∧ ∀ z, y = .str z → ¬ LineOk z := by
      rw [← hbs]
      intro y hy
      simp only [List.mem_cons, List.not_mem_nil, or_false] at hy
      rcases hy with rfl | rfl | rfl | rfl | rfl | rfl
      · exact ⟨dS (by decide +kernel), fun z e => by cases e; unfold LineOk; decide +kernel⟩
      · exact ⟨dS (by decide +kernel), fun z e => by cases e; unfold LineOk; decide +kernel⟩
      · exact ⟨dI _, fun z e => by cases e⟩
      · exact ⟨.leaf .non (by decide) (fun z e => by cases e), fun z e => by cases e⟩
      · exact ⟨dT1 eta8 (dS (by decide +kernel)), fun z e => by cases e⟩
      · exact ⟨dS (by decide +kernel), fun z e => by cases e; unfold LineOk; decide +kernel⟩
    have hpk6 : pk < bs.length := by omega
    have at1 : atI bs (pk : Int) = some bs[pk] := atI_nat (List.getElem?_eq_getElem hpk6)
    obtain ⟨hbd, hbn⟩ := hbad _ (List.getElem_mem hpk6)
    generalize bs[pk] = bad at *
    walk_at "g"
    refine w_setL (j := at0) eL8 (by rw [List.length_map]; exact ixN_nat hat') rfl fun H9 e9 o9 => ?_
    have D9 : Deck H9 d c (n + 250) := (D8.kp (M := [L]) (o9.kp (by simp)) (by simpa using Ld.symm) (by simpa using Lc.symm)).mono (by omega)
    have x9 : KX d H H9 := (x5.trans x58).offN o9 hL0
    have k89 : KD H8 H9 := KD.off o9 eL8 e9
    have hset : (List.map V.str zs).set at0 bad = (List.map V.str zs).set at0 bad := rfl
    generalize hys : (List.map V.str zs).set at0 bad = ys at e9
    have hyl : ys.length ≤ 4 := by rw [← hys, List.length_set, List.length_map]; exact hz4
    have hyd : ∀ y ∈ ys, DatT 100 H9 y := fun y hy => by
      rw [← hys] at hy
      rcases List.mem_or_eq_of_mem_set hy with h | h
      · obtain ⟨z, hz, rfl⟩ := List.mem_map.mp h
        exact dS (by have := (hzk z hz).1; omega)
      · rw [h]
        exact hbd.kd k89
    have hyn : ∀ rows : List Str, ys = rows.map V.str → ¬ ∀ z ∈ rows, LineOk z := fun rows e h => by
      have g : (rows.map V.str)[at0]? = some bad := by rw [← e, ← hys, List.getElem?_set_self (by rw [List.length_map]; exact hat')]
      obtain ⟨z, hz, ez⟩ := map_at g
      exact hbn z ez (h z (List.mem_of_getElem? hz))
    have hyn0 : ys ≠ [] := fun e => by
      have := congrArg List.length hys
      rw [List.length_set, List.length_map, e] at this
      simp only [List.length_nil] at this
      omega
    refine w_seq ?_
    walk_at "g"
    refine w_draw D9 (by unfold MOSTD at *; omega) (by decide) (by decide) fun v1 H10 hv1 D10 o10 => ?_
    have x10 := x9.trans (D9.kx D10 o10)
    walk_at "g"
    refine w_ite (fun h => ?_) (fun h => ?_)
    · walk_at "g"
      refine w_new fun l11 H11 hl11 e11 k11 => ?_
      have D11 : Deck H11 d c _ := D10.kp (M := []) (Kp.of k11) (by simp) (by simp)
      have l11d := (D10.ne1 hl11).1
      walk_at "g"
      refine w_draw D11 (by unfold MOSTD at *; omega) (by decide) (by decide) fun v2 H12 hv2 D12 o12 => ?_
      have e12 := o12.get l11d e11
      have x12 := (x10.trans (KX.of k11)).trans (D11.kx D12 o12)
      walk_at "g"
      refine w_repLB e12 (by omega) (by omega) (Nat.le_trans (show _ ≤ 1000 by simp; omega) (by decide)) fun l13 H13 hl13 e13 k13 => ?_
      rw [show ((41 : Int) + (v2 : Int)).toNat = 41 + v2 by omega, rep_oneB] at e13
      walk_at "g"
      refine w_tupL (.of e13) fun t14 H14 ht14 e14 k14 => ?_
      walk_at "g"
      refine w_new fun a15 H15 ha15 e15 k15 => ?_
      have k1215 := Same.trans k13 (Same.trans k14 k15)
      have f14 := k15 _ _ e14
      walk_at "g"
      have hmem : ∀ y ∈ List.replicate (41 + v2) (V.str (Str.ofString "a")), DatT 100 H15 y := fun y hy => by rw [(List.mem_replicate.mp hy).2]; exact dS (by decide +kernel)
      refine q H15 _ ((D12.kp (M := []) (Kp.of k1215) (by simp) (by simp)).mono (by omega)) (x12.trans (KX.of k1215)) (.tup e15 (by simp) (fun y hy => ?_) (fun r rows e hr ok => ?_) (fun r qs e => ?_) (fun r ps rt st e => ?_))
      · rcases List.mem_cons.mp hy with rfl | hy
        · exact dS (by decide +kernel)
        · rw [List.mem_singleton.mp hy]
          exact .tup f14 (by rw [List.length_replicate]; omega) hmem
      · cases V.ref.inj (List.cons.inj (List.cons.inj e).2).1
        have hr' : H15 t14 = some (.tup (rows.map V.str)) := hr
        rw [f14] at hr'
        have := congrArg List.length (HO.tup.inj (Option.some.inj hr'))
        rw [List.length_replicate, List.length_map] at this
        have := ok.1
        omega
      · exact absurd (V.str.inj (List.cons.inj e).1) lit_ne1
      · exact absurd (V.str.inj (List.cons.inj e).1) lit_ne2
    have eL10 := o10.get Ld e9
    walk_at "g"
    refine w_seq ?_
    walk_at "g"
    refine w_draw D10 (by unfold MOSTD at *; omega) (by decide) (by decide) fun v3 H11 hv3 D11 o11 => ?_
    have x11 := x10.trans (D10.kx D11 o11)
    have x911 := (D9.kx D10 o10).trans (D10.kx D11 o11)
    have eL11 := o11.get Ld eL10
    walk_at "g"
    refine w_ite (fun h => ?_) (fun h => ?_)
    · obtain ⟨y0, hy0⟩ : ∃ y, ys[0]? = some y := ⟨_, List.getElem?_eq_getElem (List.length_pos_iff.mpr hyn0)⟩
      have at0' : atI ys 0 = some y0 := atI_nat (j := 0) hy0
      walk_at "g"
      refine w_new fun l12 H12 hl12 e12 k12 => ?_
      walk_at "g"
      refine w_new fun a13 H13 ha13 e13 k13 => ?_
      have f12 := k13 _ _ e12
      have k1113 := Same.trans k12 k13
      walk_at "g"
      refine q H13 _ ((D11.kp (M := []) (Kp.of k1113) (by simp) (by simp)).mono (by omega)) (x11.trans (KX.of k1113)) (.tup e13 (by simp) (fun y hy => ?_) (fun r rows e hr ok => ?_) (fun r qs e => ?_) (fun r ps rt st e => ?_))
      · rcases List.mem_cons.mp hy with rfl | hy
        · exact dS (by decide +kernel)
        · rw [List.mem_singleton.mp hy]
          exact .leaf (.lst f12) (by decide) (fun z e => by cases e)
      · cases V.ref.inj (List.cons.inj (List.cons.inj e).2).1
        have hr' : H13 l12 = some (.tup (rows.map V.str)) := hr
        rw [f12] at hr'
        cases hr'
      · exact absurd (V.str.inj (List.cons.inj e).1) lit_ne1
      · exact absurd (V.str.inj (List.cons.inj e).1) lit_ne2
    walk_at "g"
    refine w_tupL (.of eL11) fun t12 H12 ht12 e12 k12 => ?_
    walk_at "g"
    refine w_new fun a13 H13 ha13 e13 k13 => ?_
    have f12 := k13 _ _ e12
    have k1113 := Same.trans k12 k13
    have kd13 : KD H9 H13 := x911.toKD.trans (KD.of k1113)
    walk_at "g"
    refine q H13 _ ((D11.kp (M := []) (Kp.of k1113) (by simp) (by simp)).mono (by omega)) (x11.trans (KX.of k1113)) (.tup e13 (by simp) (fun y hy => ?_) (fun r rows e hr ok => ?_) (fun r qs e => ?_) (fun r ps rt st e => ?_))
    · rcases List.mem_cons.mp hy with rfl | hy
      · exact dS (by decide +kernel)
      · rw [List.mem_singleton.mp hy]
        exact .tup f12 (by omega) fun y hy => (hyd y hy).kd kd13
    · cases V.ref.inj (List.cons.inj (List.cons.inj e).2).1
      have hr' : H13 t12 = some (.tup (rows.map V.str)) := hr
      rw [f12] at hr'
      exact hyn rows (HO.tup.inj (Option.some.inj hr')) ok.2
    · exact absurd (V.str.inj (List.cons.inj e).1) lit_ne1
    · exact absurd (V.str.inj (List.cons.inj e).1) lit_ne2
end
/-! ### bent trees -/
def EB (u v : V) : Prop := (∀ z, u = .str z → ¬ LabOk z) ∨ (∀ n : Nat, v = nV n → ¬ n < 5)
def TBad (H : Hp) (ys : List V) : Prop := (∀ y ∈ ys, DatT 100 H y) ∧ ys.length ≤ 100 ∧ ∀ qs : List (Addr × Str × Nat), ys = qs.map (fun q => V.ref q.1) → (∀ q ∈ qs, H q.1 = some (.tup [.str q.2.1, nV q.2.2])) → ¬ CtOk BK (dsOf BK) (.tree (qs.map (·.2)))
theorem TBad.kd {H H' : Hp} {ys : List V} (h : TBad H ys) (k : KD H H') : TBad H' ys := by
  refine ⟨fun y hy => (h.1 y hy).kd k, h.2.1, fun qs e hq => h.2.2 qs e fun q hq' => ?_⟩
  have hd := h.1 (.ref q.1) (by rw [e]; exact List.mem_map_of_mem (f := fun q : Addr × Str × Nat => V.ref q.1) hq')
  exact hd.backD k (hq q hq')
theorem TBad.at {H : Hp} {ys : List V} {j : Nat} {e : Addr} {u v : V} (h1 : ∀ y ∈ ys, DatT 100 H y) (h2 : ys.length ≤ 100) (hj : ys[j]? = some (.ref e)) (he : H e = some (.tup [u, v])) (hb : EB u v) : TBad H ys := by
  refine ⟨h1, h2, fun qs eq hq ok => ?_⟩
  rw [eq] at hj
  obtain ⟨q, hqj, e2⟩ := map_at hj
  have hm := List.mem_of_getElem? hqj
  have h3 := hq q hm
  cases V.ref.inj e2
  rw [he] at h3
  have e4 := HO.tup.inj (Option.some.inj h3)
  obtain ⟨k1, k2⟩ := ok.2.1 q.2 (List.mem_map_of_mem hm)
  rcases hb with hb | hb
  · exact hb _ (List.cons.inj e4).1 k1
  · exact hb _ (List.cons.inj (List.cons.inj e4).2).1 (bk_word k2)
theorem TBad.ord {H : Hp} {e1 e2 : Addr} {z1 z2 : Str} {n1 n2 : Nat} {ys : List V} (h1 : ∀ y ∈ V.ref e1 :: V.ref e2 :: ys, DatT 100 H y) (h2 : (V.ref e1 :: V.ref e2 :: ys).length ≤ 100) (g1 : H e1 = some (.tup [.str z1, nV n1])) (g2 : H e2 = some (.tup [.str z2, nV n2])) (hz : ¬ z1.cps.toList < z2.cps.toList) : TBad H (.ref e1 :: .ref e2 :: ys) := by
  refine ⟨h1, h2, fun qs eq hq ok => ?_⟩
  match qs, eq with
  | q1 :: q2 :: r, eq =>
    have a1 := V.ref.inj (List.cons.inj eq).1
    have a2 := V.ref.inj (List.cons.inj (List.cons.inj eq).2).1
    have b1 := hq q1 (by simp)
    have b2 := hq q2 (by simp)
    rw [← a1, g1] at b1
    rw [← a2, g2] at b2
    have c1 := V.str.inj (List.cons.inj (HO.tup.inj (Option.some.inj b1))).1
    have c2 := V.str.inj (List.cons.inj (HO.tup.inj (Option.some.inj b2))).1
    have h3 := ok.2.2.1
    rw [List.map_cons, List.map_cons, List.pairwise_cons] at h3
    have h4 := h3.1 q2.2 (by simp)
    rw [← c1, ← c2] at h4
    exact hz h4
theorem TBad.long {H : Hp} {ys : List V} (h1 : ∀ y ∈ ys, DatT 100 H y) (h2 : ys.length ≤ 100) (h3 : 20 < ys.length) : TBad H ys :=
  ⟨h1, h2, fun qs eq _ ok => by
    have := ok.1
    rw [eq, List.length_map] at h3
    rw [List.length_map] at this
    omega⟩
def TRS : List V := [nV 2, nV 3, nV 4]
def STS : List V := [nV 5, nV 6, nV 7, nV 8, nV 9]
def spBentTree : Sp := fun vs H Q _ => ∃ (d c tl sl : Addr) (n : Nat), vs = [.ref d, .ref tl, .ref sl, nV 10] ∧ Deck H d c n ∧ n + 20 ≤ MOSTD ∧ H tl = some (.lst [nV 2, nV 3, nV 4]) ∧ H sl = some (.lst [nV 5, nV 6, nV 7, nV 8, nV 9]) ∧ tl ≠ d ∧ sl ≠ d ∧ ∀ H' x, Deck H' d c (n + 20) → KX d H H' → Bent H' x → Q x H'
section
variable {P : Program} {w : World} {K : PySem.W.Frag} {mg : Str → Option Value} {base : Heap}
theorem ok_benttree {f fM fD : Addr} {fd fdM fdD : FuncData} (T : Txt K mg) (F : Fun K "_law_bent_tree" "_law_bent_tree" s_law_bent_tree f fd) (D_law_mixed : Df K mg "_law_mixed" s_law_mixed ["_law_cell", "_law_turn"] fM fdM) (D_law_draw : Df K mg "_law_draw" s_law_draw ["_law_deck_here", "_law_many"] fD fdD) : FnOk P w K mg base CX0 3 f fd ["_law_deck_here", "_law_trees", "_law_stands", "_law_many"] spBentTree := by
  have G_law_draw : FnOk P w K mg base CX0 2 fD fdD ["_law_deck_here", "_law_many"] spDraw := ok_draw T D_law_draw.fn D_law_mixed
  refine F.ok sc_law_bent_tree (fun vs H Q E h => ?_) (fun cdv A outer s H vs Q E hr h => ?_)
  · obtain ⟨d, c, tl, sl, n, rfl, _⟩ := h
    rfl
  · obtain ⟨d, c, tl, sl, n, rfl, D0, hn, htl, hsl, ntd, nsd, q⟩ := h
    have hu := hu_of hr
    have atA : atI [nV 2, nV 3, nV 4] 0 = some (nV 2) := rfl
    have atB : atI [nV 2, nV 3, nV 4] (-1) = some (nV 4) := rfl
    refine ⟨_,
      (pss_cons
        (ps_set (i := 4) sc_law_bent_tree.nd rfl (.inl rfl) (pe_lst (pa_cons (pe_tup (pa_cons pe_str (pa_cons (pe_ix (r := rIxL K) ix_list (pv 1) pe_int (fun _ _ => rfl)) pa_nil))) (pa_cons (pe_tup (pa_cons pe_str (pa_cons pe_int pa_nil))) (pa_cons (pe_tup (pa_cons pe_str (pa_cons (pe_ix (r := rIxL K) ix_list (pv 1) (pe_un un_neg pe_int) (fun _ _ => rfl)) pa_nil))) pa_nil)))))
      (pss_cons
        (ps_set (i := 5) sc_law_bent_tree.nd rfl (.inl rfl) (pe_call G_law_draw (hr.mono (by omega)) (by rfl) D_law_draw.g D_law_draw.fn.kp D_law_draw.b .nil pass0 (pa_cons (pv 0) (pa_cons pe_int pa_nil))))
      (pss_cons
        (ps_asg (pe_ix (r := rIxL K) ix_list (pv 4) (pv 5) (fun _ _ => rfl)) (pg_tup rfl (pgs_cons (pg_name (i := 6) sc_law_bent_tree.nd rfl (.inl rfl)) (pgs_cons (pg_name (i := 7) sc_law_bent_tree.nd rfl (.inl rfl)) pgs_nil))))
      (pss_cons
        (ps_set (i := 8) sc_law_bent_tree.nd rfl (.inl rfl) (pe_call G_law_draw (hr.mono (by omega)) (by rfl) D_law_draw.g D_law_draw.fn.kp D_law_draw.b .nil pass0 (pa_cons (pv 0) (pa_cons pe_int pa_nil))))
      (pss_cons
        (ps_set (i := 9) sc_law_bent_tree.nd rfl (.inl rfl) (pe_ix (r := rIxL K) ix_list (pe_lst (pa_cons pe_str (pa_cons pe_str (pa_cons (pe_op op_repS pe_str pe_int) (pa_cons pe_str (pa_cons pe_str (pa_cons pe_int (pa_cons pe_non (pa_cons (pe_tup (pa_cons pe_str pa_nil)) pa_nil))))))))) (pv 8) (fun _ _ => rfl)))
      (pss_cons
        (ps_asg (pe_tup (pa_cons (pv 9) (pa_cons (pv 7) pa_nil))) (pg_sub (pv 4) (pv 5) set_list))
      (pss_cons
        (ps_if (pt_cmpR op_eq (pe_call G_law_draw (hr.mono (by omega)) (by rfl) D_law_draw.g D_law_draw.fn.kp D_law_draw.b .nil pass0 (pa_cons (pv 0) (pa_cons pe_int pa_nil))) pe_int (nomark _))
          (pss_one
            (ps_asg (pe_tup (pa_cons (pv 6) (pa_cons (pe_ix (r := rIxL K) ix_list (pe_lst (pa_cons (pe_ix (r := rIxL K) ix_list (pv 2) pe_int (fun _ _ => rfl)) (pa_cons (pv 3) (pa_cons (pe_un un_neg pe_int) (pa_cons pe_bl (pa_cons pe_non (pa_cons pe_str (pa_cons (pe_tup (pa_cons pe_int pa_nil)) (pa_cons (pe_op op_pow pe_int pe_int) pa_nil))))))))) (pv 8) (fun _ _ => rfl)) pa_nil))) (pg_sub (pv 4) (pv 5) set_list)))
          pss_nil)
      (pss_cons
        (ps_if (pt_cmpR op_eq (pe_call G_law_draw (hr.mono (by omega)) (by rfl) D_law_draw.g D_law_draw.fn.kp D_law_draw.b .nil pass0 (pa_cons (pv 0) (pa_cons pe_int pa_nil))) pe_int (nomark _))
          (pss_one
            (ps_set (i := 4) sc_law_bent_tree.nd rfl (.inl rfl) (pe_op op_cat (pe_lst (pa_cons (pe_tup (pa_cons pe_str (pa_cons pe_int pa_nil))) (pa_cons (pe_tup (pa_cons pe_str (pa_cons pe_int pa_nil))) pa_nil))) (pe_op op_rep (pe_lst (pa_cons (pe_tup (pa_cons pe_str (pa_cons pe_int pa_nil))) pa_nil)) (pe_call G_law_draw (hr.mono (by omega)) (by rfl) D_law_draw.g D_law_draw.fn.kp D_law_draw.b .nil pass0 (pa_cons (pv 0) (pa_cons pe_int pa_nil)))))))
          pss_nil)
      (pss_cons
        (ps_if (pt_cmpR op_eq (pe_call G_law_draw (hr.mono (by omega)) (by rfl) D_law_draw.g D_law_draw.fn.kp D_law_draw.b .nil pass0 (pa_cons (pv 0) (pa_cons pe_int pa_nil))) pe_int (nomark _))
          (pss_one
            (ps_set (i := 4) sc_law_bent_tree.nd rfl (.inl rfl) (pe_lst (pa_cons (pe_tup (pa_cons pe_str (pa_cons pe_int pa_nil))) (pa_cons (pe_tup (pa_cons pe_str (pa_cons pe_int pa_nil))) pa_nil)))))
          pss_nil)
      (pss_cons
        (ps_if (pt_cmpR op_eq (pe_call G_law_draw (hr.mono (by omega)) (by rfl) D_law_draw.g D_law_draw.fn.kp D_law_draw.b .nil pass0 (pa_cons (pv 0) (pa_cons pe_int pa_nil))) pe_int (nomark _))
          (pss_one
            (ps_setLc (i := 4) (own := [("_law_k", 10)]) (g := (gName 10)) rfl sc_law_bent_tree.nd rfl rfl (sw_true rfl rfl rfl (by decide +kernel)) (pi_range1 (by rfl) T.n_range (pa_cons pe_int pa_nil)) (blkOk_by (own := [("_law_k", 10)]) (N := N_law_bent_tree) (sc := defScope s_law_bent_tree) (by decide +kernel)) (fun _ _ _ _ _ => (pg_name (i := 10) sc_law_bent_tree.nd rfl (.inl rfl))) (fun _ _ _ _ _ => pts_nil) (fun _ _ _ _ _ => (pe_tup (pa_cons (pe_ix ix_str pe_str (pv 10) (fun _ _ => rfl)) (pa_cons pe_int pa_nil))))))
          pss_nil)
      (pss_one
        (ps_ret (pe_tup (pa_cons pe_str (pa_cons (pe_callTy (r := rTupOf K) c_tupOf (by rfl) T.n_tuple (by decide +kernel) (pa_cons (pv 4) pa_nil)) pa_nil)))))))))))))))
      , ?_⟩
    rw [show L2.start N_law_bent_tree [V.ref d, V.ref tl, V.ref sl, nV 10] = [some (.ref d), some (.ref tl), some (.ref sl), some (.int 10), none, none, none, none, none, none, none] from rfl]
    walk_at "x"
    refine w_new fun e1 H1 he1 ee1 k1 => ?_
    walk_at "g"
    refine w_new fun e2 H2 he2 ee2 k2 => ?_
    have htl2 := Same.trans k1 k2 _ _ htl
    walk_at "g"
    refine w_new fun e3 H3 he3 ee3 k3 => ?_
    walk_at "g"
    refine w_new fun L H4 hL eL k4 => ?_
    have k14 := Same.trans k1 (Same.trans k2 (Same.trans k3 k4))
    have D4 : Deck H4 d c n := D0.kp (M := []) (Kp.of k14) (by simp) (by simp)
    have f1 := k4 _ _ (k3 _ _ (k2 _ _ ee1))
    have f2 := k4 _ _ (k3 _ _ ee2)
    have f3 := k4 _ _ ee3
    have hL0 : H L = none := (Same.trans k1 (Same.trans k2 k3)).free hL
    obtain ⟨Ld, Lc⟩ := D0.ne1 hL0
    walk_at "g"
    refine w_draw D4 (by omega) (by decide) (by decide) fun at0 H5 hat D5 o5 => ?_
    have x45 := D4.kx D5 o5
    have x5 := (KX.of k14).trans x45
    have eL5 := o5.get Ld eL
    have g1 := x45.t _ _ f1
    have g2 := x45.t _ _ f2
    have g3 := x45.t _ _ f3
    obtain ⟨e, lab, nm, hsel, he, hlab⟩ : ∃ (e : Addr) (lab : Str) (nm : Nat), ([V.ref e1, V.ref e2, V.ref e3] : List V)[at0]? = some (.ref e) ∧ H5 e = some (.tup [.str lab, nV nm]) ∧ lab.length ≤ 100 := by
      rcases (by omega : at0 = 0 ∨ at0 = 1 ∨ at0 = 2) with rfl | rfl | rfl
      · exact ⟨e1, _, _, rfl, g1, by decide +kernel⟩
      · exact ⟨e2, _, 0, rfl, g2, by decide +kernel⟩
      · exact ⟨e3, _, _, rfl, g3, by decide +kernel⟩
    have hall5 : ∀ y ∈ ([V.ref e1, V.ref e2, V.ref e3] : List V), DatT 100 H5 y := by
      intro y hy
      simp only [List.mem_cons, List.not_mem_nil, or_false] at hy
      rcases hy with rfl | rfl | rfl
      · exact dT2 g1 (dS (by decide +kernel)) (dI _)
      · exact dT2 g2 (dS (by decide +kernel)) (dI _)
      · exact dT2 g3 (dS (by decide +kernel)) (dI _)
    generalize hxs : ([V.ref e1, V.ref e2, V.ref e3] : List V) = xs at eL5 hsel hall5
    have hxl : xs.length = 3 := by rw [← hxs]; rfl
    have at1 : atI xs (at0 : Int) = some (.ref e) := atI_nat hsel
    have hat3 : at0 < xs.length := by omega
    walk_at "g"
    refine w_draw D5 (by omega) (by decide) (by decide) fun pk H6 hpk D6 o6 => ?_
    have x56 := D5.kx D6 o6
    walk_at "g"
    refine w_repS (by decide +kernel) (by decide) (by decide) ?_
    walk_at "g"
    refine w_new fun ta H7 hta eta k7 => ?_
    walk_at "g"
    refine w_new fun l7 H8 hl7 el7 k8 => ?_
    have k68 := Same.trans k7 k8
    have eta8 := k8 _ _ eta
    generalize hbs : ([_, _, _, _, _, _, _, _] : List V) = bs at el7
    have hbl : bs.length = 8 := by rw [← hbs]; rfl
    have hbad : ∀ y ∈ bs, DatT 100 H8 y ∧ ∀ z, y = .str z → ¬ LabOk z := by
      rw [← hbs]
      intro y hy
      simp only [List.mem_cons, List.not_mem_nil, or_false] at hy
      rcases hy with rfl | rfl | rfl | rfl | rfl | rfl | rfl | rfl
      · exact ⟨dS (by decide +kernel), fun z e => by cases e; unfold LabOk; decide +kernel⟩
      · exact ⟨dS (by decide +kernel), fun z e => by cases e; unfold LabOk; decide +kernel⟩
      · exact ⟨dS (by decide +kernel), fun z e => by cases e; unfold LabOk; decide +kernel⟩
      · exact ⟨dS (by decide +kernel), fun z e => by cases e; unfold LabOk; decide +kernel⟩
      · exact ⟨dS (by decide +kernel), fun z e => by cases e; unfold LabOk; decide +kernel⟩
      · exact ⟨dI _, fun z e => by cases e⟩
      · exact ⟨.leaf .non (by decide) (fun z e => by cases e), fun z e => by cases e⟩
      · exact ⟨dT1 eta8 (dS (by decide +kernel)), fun z e => by cases e⟩
    have hpk8 : pk < bs.length := by omega
    have at2 : atI bs (pk : Int) = some bs[pk] := atI_nat (List.getElem?_eq_getElem hpk8)
    obtain ⟨hwd, hwn⟩ := hbad _ (List.getElem_mem hpk8)
    generalize bs[pk] = w0 at *
    walk_at "g"
    refine w_new fun e4 H9 he4 ee4 k9 => ?_
    have k69 := Same.trans k68 k9
    have x59 : KX d H5 H9 := x56.trans (KX.of k69)
    have eL9 := x59.p _ _ (by simpa using Ld) eL5
    walk_at "g"
    refine w_setL (j := at0) eL9 (ixN_nat hat3) rfl fun H10 e10 o10 => ?_
    have kd10 : KD H9 H10 := KD.off o10 eL9 e10
    have x10 : KX d H H10 := (x5.trans x59).offN o10 hL0
    have D9 : Deck H9 d c _ := D6.kp (M := []) (Kp.of k69) (by simp) (by simp)
    have D10 : Deck H10 d c _ := D9.kp (M := [L]) (o10.kp (by simp)) (by simpa using Ld.symm) (by simpa using Lc.symm)
    have ee10 : H10 e4 = some (.tup [w0, nV nm]) := kd10.t _ _ ee4
    have hde4 : DatT 100 H10 (.ref e4) := dT2 ee10 ((hwd.kd (KD.of k9)).kd kd10) (dI _)
    have hsetd : ∀ {Hx : Hp} {v : V}, (∀ y ∈ xs, DatT 100 Hx y) → DatT 100 Hx v → ∀ y ∈ xs.set at0 v, DatT 100 Hx y := fun {Hx v} h1 h2 y hy => by
      rcases List.mem_or_eq_of_mem_set hy with h | h
      · exact h1 y h
      · rw [h]; exact h2
    have hall10 : ∀ y ∈ xs, DatT 100 H10 y := fun y hy => ((hall5 y hy).kd x59.toKD).kd kd10
    have T10 : TBad H10 (xs.set at0 (.ref e4)) := .at (j := at0) (hsetd hall10 hde4) (by rw [List.length_set]; omega) (by rw [List.getElem?_set_self hat3]) ee10 (.inl hwn)
    refine w_seqJ (fun σ' H' => ∃ (L' : Addr) (ys : List V), σ' = [some (.ref d), some (.ref tl), some (.ref sl), some (.int 10), some (.ref L'), some (.int (at0 : Int)), some (.str lab), some (nV nm), some (.int (pk : Int)), some w0, none] ∧ H' L' = some (.lst ys) ∧ TBad H' ys ∧ Deck H' d c (n + 5) ∧ KX d H H' ∧ H L' = none) ?_ ?_
    rotate_left
    · intro U hU
      walk_at "g"
      refine w_draw D10 (by omega) (by decide) (by decide) fun v1 H11 hv1 D11 o11 => ?_
      have x1011 := D10.kx D11 o11
      have e11 := o11.get Ld e10
      walk_at "g"
      refine w_ite (fun h => ?_) (fun h => ?_)
      rotate_left
      · walk_at "g"
        exact hU _ _ ⟨L, _, rfl, e11, T10.kd x1011.toKD, D11.mono (by omega), x10.trans x1011, hL0⟩
      have hsl11 := (x10.trans x1011).p _ _ (by simpa using nsd) hsl
      have atS : atI [nV 5, nV 6, nV 7, nV 8, nV 9] 0 = some (nV 5) := rfl
      walk_at "g"
      refine w_new fun tb H12 htb etb k12 => ?_
      walk_at "g"
      refine w_new fun l12 H13 hl12 el12 k13 => ?_
      have k1113 := Same.trans k12 k13
      have etb13 := k13 _ _ etb
      generalize hbs2 : ([_, _, _, _, _, _, _, _] : List V) = bs2 at el12
      have hbl2 : bs2.length = 8 := by rw [← hbs2]; rfl
      have hbad2 : ∀ y ∈ bs2, DatT 100 H13 y ∧ ∀ n : Nat, y = nV n → ¬ n < 5 := by
        rw [← hbs2]
        intro y hy
        simp only [List.mem_cons, List.not_mem_nil, or_false] at hy
        rcases hy with rfl | rfl | rfl | rfl | rfl | rfl | rfl | rfl
        · exact ⟨dI _, fun n e => by have := V.int.inj e; omega⟩
        · exact ⟨dI _, fun n e => by have := V.int.inj e; omega⟩
        · exact ⟨dI _, fun n e => by have := V.int.inj e; omega⟩
        · exact ⟨.leaf (.bl _) (by decide) (fun z e => by cases e), fun n e => by cases e⟩
        · exact ⟨.leaf .non (by decide) (fun z e => by cases e), fun n e => by cases e⟩
        · exact ⟨dS (by decide +kernel), fun n e => by cases e⟩
        · exact ⟨dT1 etb13 (dI _), fun n e => by cases e⟩
        · exact ⟨dI _, fun n e => by have h1 := V.int.inj e; have h2 : (10 : Int) ^ Int.toNat 30 = 1000000000000000000000000000000 := by decide +kernel
                                     omega⟩
      have hpk8' : pk < bs2.length := by omega
      have at3 : atI bs2 (pk : Int) = some bs2[pk] := atI_nat (List.getElem?_eq_getElem hpk8')
      obtain ⟨hvd, hvn⟩ := hbad2 _ (List.getElem_mem hpk8')
      generalize bs2[pk] = v0 at *
      walk_at "g"
      refine w_new fun e5 H14 he5 ee5 k14 => ?_
      have k1114 := Same.trans k1113 k14
      have x1014 : KX d H10 H14 := x1011.trans (KX.of k1114)
      have e14 := x1014.p _ _ (by simpa using Ld) e10
      walk_at "g"
      refine w_setL (j := at0) e14 (by rw [List.length_set]; exact ixN_nat hat3) (List.set_set ..) fun H15 e15 o15 => ?_
      have kd15 : KD H14 H15 := KD.off o15 e14 e15
      have x15 : KX d H H15 := (x10.trans x1014).offN o15 hL0
      have D14 : Deck H14 d c _ := D11.kp (M := []) (Kp.of k1114) (by simp) (by simp)
      have D15 : Deck H15 d c _ := D14.kp (M := [L]) (o15.kp (by simp)) (by simpa using Ld.symm) (by simpa using Lc.symm)
      have ee15 : H15 e5 = some (.tup [.str lab, v0]) := kd15.t _ _ ee5
      have hde5 : DatT 100 H15 (.ref e5) := dT2 ee15 (dS hlab) ((hvd.kd (KD.of k14)).kd kd15)
      walk_at "g"
      exact hU _ _ ⟨L, _, rfl, e15, .at (j := at0) (hsetd (fun y hy => ((hall10 y hy).kd x1014.toKD).kd kd15) hde5) (by rw [List.length_set]; omega) (by rw [List.getElem?_set_self hat3]) ee15 (.inr hvn), D15.mono (by omega), x15, hL0⟩
    rintro σ2 H16 ⟨L2', ys2, rfl, e16, T16, D16, x16, hL2⟩
    clear T10 e10 D10
    have L2d := D0.ne1 hL2
    refine w_seqJ (fun σ' H' => ∃ (L' : Addr) (ys : List V), σ' = [some (.ref d), some (.ref tl), some (.ref sl), some (.int 10), some (.ref L'), some (.int (at0 : Int)), some (.str lab), some (nV nm), some (.int (pk : Int)), some w0, none] ∧ H' L' = some (.lst ys) ∧ TBad H' ys ∧ Deck H' d c (n + 8) ∧ KX d H H' ∧ H L' = none) ?_ ?_
    rotate_left
    · intro U hU
      walk_at "g"
      refine w_draw D16 (by omega) (by decide) (by decide) fun v1 H17 hv1 D17 o17 => ?_
      have x1617 := D16.kx D17 o17
      have e17 := o17.get L2d.1 e16
      walk_at "g"
      refine w_ite (fun h => ?_) (fun h => ?_)
      rotate_left
      · walk_at "g"
        exact hU _ _ ⟨L2', _, rfl, e17, T16.kd x1617.toKD, D17.mono (by omega), x16.trans x1617, hL2⟩
      walk_at "g"
      refine w_new fun b1 H18 hb1 eb1 k18 => ?_
      walk_at "g"
      refine w_new fun b2 H19 hb2 eb2 k19 => ?_
      walk_at "g"
      refine w_new fun la H20 hla ela k20 => ?_
      walk_at "g"
      refine w_new fun b3 H21 hb3 eb3 k21 => ?_
      walk_at "g"
      refine w_new fun lb H22 hlb elb k22 => ?_
      have k1722 := Same.trans k18 (Same.trans k19 (Same.trans k20 (Same.trans k21 k22)))
      have D22 : Deck H22 d c _ := D17.kp (M := []) (Kp.of k1722) (by simp) (by simp)
      have D21 : Deck H21 d c _ := D17.kp (M := []) (Kp.of (Same.trans k18 (Same.trans k19 (Same.trans k20 k21)))) (by simp) (by simp)
      have D19 : Deck H19 d c _ := D17.kp (M := []) (Kp.of (Same.trans k18 k19)) (by simp) (by simp)
      have nlb := (D21.ne1 hlb).1
      have nla := (D19.ne1 hla).1
      walk_at "g"
      refine w_draw D22 (by omega) (by decide) (by decide) fun v2 H23 hv2 D23 o23 => ?_
      have x2223 := D22.kx D23 o23
      have elb23 := o23.get nlb elb
      walk_at "g"
      refine w_repLB elb23 (by omega) (by omega) (Nat.le_trans (show _ ≤ 1000 by simp; omega) (by decide)) fun lc H24 hlc elc k24 => ?_
      rw [show ((v2 : Int)).toNat = v2 by omega, rep_oneB] at elc
      have ela24 := k24 _ _ (o23.get nla (k22 _ _ (k21 _ _ ela)))
      walk_at "g"
      refine w_cat ela24 elc (by rw [List.length_replicate]; simp only [List.length_cons, List.length_nil]; exact Nat.le_trans (show 2 + v2 ≤ 1000 by omega) (by decide)) fun ld H25 hld eld k25 => ?_
      have x25 : KX d H17 H25 := (KX.of k1722).trans (x2223.trans (KX.of (Same.trans k24 k25)))
      have t1925 : KT H19 H25 := (KT.of (Same.trans k20 (Same.trans k21 k22))).trans (x2223.t.trans (KT.of (Same.trans k24 k25)))
      have fb2 := t1925 _ _ eb2
      have fb1 := t1925 _ _ (k19 _ _ eb1)
      have fb3 : H25 b3 = some (.tup [.str "c", .int 0]) := ((KT.of k22).trans (x2223.t.trans (KT.of (Same.trans k24 k25)))) _ _ eb3
      have hld0 : H ld = none := by
        have x24 : KX d H H24 := x16.trans (x1617.trans ((KX.of k1722).trans (x2223.trans (KX.of k24))))
        have D24 := D23.kp (M := []) (Kp.of k24) (by simp) (by simp)
        have ndl := (D24.ne1 hld).1
        cases e : H ld with
        | none => rfl
        | some o =>
          rw [x24.p _ _ (by simpa using ndl) e] at hld
          cases hld
      walk_at "g"
      refine hU _ _ ⟨ld, _, rfl, eld, ?_, (D23.kp (M := []) (Kp.of (Same.trans k24 k25)) (by simp) (by simp)).mono (by omega), (x16.trans x1617).trans x25, hld0⟩
      refine .ord (fun y hy => ?_) (by simp; omega) fb1 fb2 (by decide +kernel)
      rcases List.mem_cons.mp hy with rfl | hy
      · exact dT2 fb1 (dS (by decide +kernel)) (dI _)
      rcases List.mem_cons.mp hy with rfl | hy
      · exact dT2 fb2 (dS (by decide +kernel)) (dI _)
      · have : y = .ref b3 := (List.mem_replicate.mp (by simpa using hy)).2
        rw [this]
        exact dT2 fb3 (dS (by decide +kernel)) (dI _)
    rintro σ3 H26 ⟨L3, ys3, rfl, e26, T26, D26, x26, hL3⟩
    clear T16 e16 D16
    have L3d := D0.ne1 hL3
    have free0 : ∀ {Hx : Hp} {a : Addr} {m : Nat}, KX d H Hx → Deck Hx d c m → Hx a = none → H a = none := fun {Hx a m} x D h => by
      have nd := (D.ne1 h).1
      cases e : H a with
      | none => rfl
      | some o =>
        rw [x.p _ _ (by simpa using nd) e] at h
        cases h
    refine w_seqJ (fun σ' H' => ∃ (L' : Addr) (ys : List V), σ' = [some (.ref d), some (.ref tl), some (.ref sl), some (.int 10), some (.ref L'), some (.int (at0 : Int)), some (.str lab), some (nV nm), some (.int (pk : Int)), some w0, none] ∧ H' L' = some (.lst ys) ∧ TBad H' ys ∧ Deck H' d c (n + 9) ∧ KX d H H' ∧ H L' = none) ?_ ?_
    rotate_left
    · intro U hU
      walk_at "g"
      refine w_draw D26 (by omega) (by decide) (by decide) fun v1 H27 hv1 D27 o27 => ?_
      have x2627 := D26.kx D27 o27
      have e27 := o27.get L3d.1 e26
      walk_at "g"
      refine w_ite (fun h => ?_) (fun h => ?_)
      rotate_left
      · walk_at "g"
        exact hU _ _ ⟨L3, _, rfl, e27, T26.kd x2627.toKD, D27.mono (by omega), x26.trans x2627, hL3⟩
      walk_at "g"
      refine w_new fun b1 H28 hb1 eb1 k28 => ?_
      walk_at "g"
      refine w_new fun b2 H29 hb2 eb2 k29 => ?_
      walk_at "g"
      refine w_new fun la H30 hla ela k30 => ?_
      have k2730 := Same.trans k28 (Same.trans k29 k30)
      have k2729 := Same.trans k28 k29
      have fb1 := k30 _ _ (k29 _ _ eb1)
      have fb2 := k30 _ _ eb2
      walk_at "g"
      refine hU _ _ ⟨la, _, rfl, ela, ?_, (D27.kp (M := []) (Kp.of k2730) (by simp) (by simp)).mono (by omega), (x26.trans x2627).trans (KX.of k2730), free0 ((x26.trans x2627).trans (KX.of k2729)) (D27.kp (M := []) (Kp.of k2729) (by simp) (by simp)) hla⟩
      refine .ord (fun y hy => ?_) (by simp) fb1 fb2 (by decide +kernel)
      rcases List.mem_cons.mp hy with rfl | hy
      · exact dT2 fb1 (dS (by decide +kernel)) (dI _)
      · rw [List.mem_singleton.mp hy]
        exact dT2 fb2 (dS (by decide +kernel)) (dI _)
    rintro σ4 H31 ⟨L4, ys4, rfl, e31, T31, D31, x31, hL4⟩
    clear T26 e26 D26
    have L4d := D0.ne1 hL4
    refine w_seqJ (fun σ' H' => ∃ (L' : Addr) (ys : List V), σ' = [some (.ref d), some (.ref tl), some (.ref sl), some (.int 10), some (.ref L'), some (.int (at0 : Int)), some (.str lab), some (nV nm), some (.int (pk : Int)), some w0, none] ∧ H' L' = some (.lst ys) ∧ TBad H' ys ∧ Deck H' d c (n + 10) ∧ KX d H H' ∧ H L' = none) ?_ ?_
    rotate_left
    · intro U hU
      walk_at "g"
      refine w_draw D31 (by omega) (by decide) (by decide) fun v1 H32 hv1 D32 o32 => ?_
      have x3132 := D31.kx D32 o32
      have e32 := o32.get L4d.1 e31
      walk_at "g"
      refine w_ite (fun h => ?_) (fun h => ?_)
      rotate_left
      · walk_at "g"
        exact hU _ _ ⟨L4, _, rfl, e32, T31.kd x3132.toKD, D32.mono (by omega), x31.trans x3132, hL4⟩
      walk_at "g"
      refine lcp_gen (walk_range (lo := 0) (n := 21)) [] (fun i y H' => ∃ (e : Addr) (z : Str), y = .ref e ∧ H' e = some (.tup [.str z, .int 0]) ∧ z.length ≤ 100) (fun _ _ => True) (by omega) (fun i y Ha Hb kt ⟨e, z, g1, g2, g3⟩ => ⟨e, z, g1, kt _ _ g2, g3⟩) (fun _ _ _ _ _ h => h) (fun _ _ _ _ => trivial) trivial ?_ (by simp) ?_
      · rintro i x Ha Hb R hi ka ta _ ⟨rfl, rfl⟩ hR
        have hl : i < (Str.ofString "abcdefghijklmnopqrstu").cps.toList.length := by
          have : (Str.ofString "abcdefghijklmnopqrstu").cps.toList.length = 21 := by decide +kernel
          omega
        have ech : atI (Str.ofString "abcdefghijklmnopqrstu").cps.toList (i : Int) = some (Str.ofString "abcdefghijklmnopqrstu").cps.toList[i] := atI_nat (List.getElem?_eq_getElem hl)
        refine w_name ⟨rfl, ?_⟩
        walk_at "g"
        rw [show (0 : Int) + (i : Int) = (i : Int) by omega]
        refine w_ixS (by decide +kernel) ech ?_
        walk_at "g"
        refine w_new fun e H5 he ee k5 => ?_
        exact hR _ _ ⟨e, _, rfl, ee, show (1 : Nat) ≤ 100 by decide⟩ (Kp.of k5) (KT.of k5) trivial
      · intro W H33 ys hyl hyp hW k33 t33 _ eW
        walk_at "g"
        have hyd : ∀ y ∈ ys, DatT 100 H33 y := fun y hy => by
          obtain ⟨i, hi, ei⟩ := List.getElem_of_mem hy
          obtain ⟨e, z, rfl, g2, g3⟩ := hyp i y (by rw [List.getElem?_eq_getElem hi, ei])
          exact dT2 g2 (dS g3) (dI _)
        exact hU _ _ ⟨W, ys, rfl, eW, .long hyd (by omega) (by omega), (D32.kp k33 (by simp) (by simp)).mono (by omega), (x31.trans x3132).trans (KX.of k33.same), free0 (x31.trans x3132) D32 hW⟩
    rintro σ5 H34 ⟨L5, ys5, rfl, e34, T34, D34, x34, hL5⟩
    walk_at "g"
    refine w_tupL (.of e34) fun t35 H35 ht35 e35 k35 => ?_
    walk_at "g"
    refine w_new fun a36 H36 ha36 e36 k36 => ?_
    have k3436 := Same.trans k35 k36
    have f35 := k36 _ _ e35
    have T36 := T34.kd (KD.of k3436)
    walk_at "g"
    refine q H36 _ ((D34.kp (M := []) (Kp.of k3436) (by simp) (by simp)).mono (by omega)) (x34.trans (KX.of k3436)) (.tup e36 (by simp) (fun y hy => ?_) (fun r rows e => ?_) (fun r qs e h1 h2 => ?_) (fun r ps rt st e => ?_))
    · rcases List.mem_cons.mp hy with rfl | hy
      · exact dS (by decide +kernel)
      · rw [List.mem_singleton.mp hy]
        exact .tup f35 T36.2.1 T36.1
    · exact absurd (V.str.inj (List.cons.inj e).1) lit_ne4
    · cases V.ref.inj (List.cons.inj (List.cons.inj e).2).1
      rw [f35] at h1
      exact T36.2.2 qs (HO.tup.inj (Option.some.inj h1)) h2
    · exact absurd (V.str.inj (List.cons.inj e).1) lit_ne3
end
/-! ### bent versions -/
def VBad (H : Hp) (ys : List V) : Prop := (∀ y ∈ ys, DatT 100 H y) ∧ ys.length ≤ 100 ∧ (∀ (r : Addr) (ps : List Nat) (root st : Nat), ys = [.str "version", .ref r, nV root, nV st] → H r = some (.tup (ps.map nV)) → ¬ CtOk BK (dsOf BK) (.ver ps root st)) ∧ ∃ t, ys = .str "version" :: t
theorem VBad.kd {H H' : Hp} {ys : List V} (h : VBad H ys) (k : KD H H') : VBad H' ys := by
  refine ⟨fun y hy => (h.1 y hy).kd k, h.2.1, fun r ps root st e hr => h.2.2.1 r ps root st e ?_, h.2.2.2⟩
  exact (h.1 (.ref r) (by rw [e]; simp)).backD k hr
def PB (H : Hp) (v : V) : Prop := ∀ (r : Addr) (ps : List Nat), v = .ref r → H r = some (.tup (ps.map nV)) → ¬ (ps.Pairwise (· < ·) ∧ ps.length ≤ 4 ∧ ∀ p ∈ ps, 5 ≤ p ∧ p < 10)
theorem PB.of {H : Hp} {a : Addr} {ns : List Nat} (h : H a = some (.tup (ns.map nV))) (hb : ¬ (ns.Pairwise (· < ·) ∧ ns.length ≤ 4 ∧ ∀ p ∈ ns, 5 ≤ p ∧ p < 10)) : PB H (.ref a) := fun r ps e hr => by
  cases e
  rw [h] at hr
  rw [← nV_inj (HO.tup.inj (Option.some.inj hr))]
  exact hb
theorem PB.no {H : Hp} {a : Addr} {x : V} (h : H a = some (.tup [x])) (hb : ∀ n : Nat, x ≠ nV n) : PB H (.ref a) := fun r ps e hr => by
  cases e
  rw [h] at hr
  have e2 := HO.tup.inj (Option.some.inj hr)
  match ps, e2 with
  | [p], e2 => exact absurd (List.cons.inj e2).1 (hb p)
theorem VBad.p {H : Hp} {v y2 y3 : V} (h1 : DatT 100 H v) (h2 : DatT 100 H y2) (h3 : DatT 100 H y3) (hb : PB H v) : VBad H [.str "version", v, y2, y3] := by
  refine ⟨fun y hy => ?_, by simp, fun r ps root st e hr ok => ?_, ⟨_, rfl⟩⟩
  · simp only [List.mem_cons, List.not_mem_nil, or_false] at hy
    rcases hy with rfl | rfl | rfl | rfl
    · exact dS (by decide +kernel)
    · exact h1
    · exact h2
    · exact h3
  · exact hb r ps (List.cons.inj (List.cons.inj e).2).1 hr ⟨ok.1, ok.2.1, fun p hp => bk_ver (ok.2.2.1 p hp)⟩
theorem VBad.r {H : Hp} {v y1 y3 : V} (h1 : DatT 100 H y1) (h2 : DatT 100 H v) (h3 : DatT 100 H y3) (hb : ∀ n : Nat, v = nV n → ¬ (2 ≤ n ∧ n < 5)) : VBad H [.str "version", y1, v, y3] := by
  refine ⟨fun y hy => ?_, by simp, fun r ps root st e hr ok => ?_, ⟨_, rfl⟩⟩
  · simp only [List.mem_cons, List.not_mem_nil, or_false] at hy
    rcases hy with rfl | rfl | rfl | rfl
    · exact dS (by decide +kernel)
    · exact h1
    · exact h2
    · exact h3
  · exact hb root (List.cons.inj (List.cons.inj (List.cons.inj e).2).2).1 (bk_tree ok.2.2.2.1)
theorem VBad.s {H : Hp} {v y1 y2 : V} (h1 : DatT 100 H y1) (h2 : DatT 100 H y2) (h3 : DatT 100 H v) (hb : ∀ n : Nat, v = nV n → ¬ n ≤ 10 ^ 18) : VBad H [.str "version", y1, y2, v] := by
  refine ⟨fun y hy => ?_, by simp, fun r ps root st e hr ok => ?_, ⟨_, rfl⟩⟩
  · simp only [List.mem_cons, List.not_mem_nil, or_false] at hy
    rcases hy with rfl | rfl | rfl | rfl
    · exact dS (by decide +kernel)
    · exact h1
    · exact h2
    · exact h3
  · exact hb st (List.cons.inj (List.cons.inj (List.cons.inj (List.cons.inj e).2).2).2).1 ok.2.2.2.2
theorem VBad.len {H : Hp} {ys : List V} (h1 : ∀ y ∈ ys, DatT 100 H y) (h2 : ys.length ≤ 100) (h3 : ys.length ≠ 4) (h4 : ∃ t, ys = .str "version" :: t) : VBad H ys := ⟨h1, h2, fun r ps root st e _ _ => h3 (by rw [e]; rfl), h4⟩
def spBentVersion : Sp := fun vs H Q _ => ∃ (d c tl sl : Addr) (n : Nat), vs = [.ref d, .ref tl, .ref sl, nV 10] ∧ Deck H d c n ∧ n + 20 ≤ MOSTD ∧ H tl = some (.lst [nV 2, nV 3, nV 4]) ∧ H sl = some (.lst [nV 5, nV 6, nV 7, nV 8, nV 9]) ∧ tl ≠ d ∧ sl ≠ d ∧ ∀ H' x, Deck H' d c (n + 20) → KX d H H' → Bent H' x → Q x H'
theorem dN {H : Hp} : DatT 100 H .non := .leaf .non (by decide) fun z e => by cases e
theorem dB {H : Hp} (b : Bool) : DatT 100 H (.bl b) := .leaf (.bl b) (by decide) fun z e => by cases e
theorem dL {H : Hp} {a : Addr} {xs : List V} (h : H a = some (.lst xs)) : DatT 100 H (.ref a) := .leaf (.lst h) (by decide) fun z e => by cases e
theorem p18 : (10 : Int) ^ Int.toNat 18 = 1000000000000000000 := by decide +kernel
theorem p40 : (10 : Int) ^ Int.toNat 40 = 10000000000000000000000000000000000000000 := by decide +kernel
section
variable {P : Program} {w : World} {K : PySem.W.Frag} {mg : Str → Option Value} {base : Heap}
theorem ok_bentversion {f fM fD : Addr} {fd fdM fdD : FuncData} (T : Txt K mg) (F : Fun K "_law_bent_version" "_law_bent_version" s_law_bent_version f fd) (D_law_mixed : Df K mg "_law_mixed" s_law_mixed ["_law_cell", "_law_turn"] fM fdM) (D_law_draw : Df K mg "_law_draw" s_law_draw ["_law_deck_here", "_law_many"] fD fdD) : FnOk P w K mg base CX0 3 f fd ["_law_deck_here", "_law_trees", "_law_stands", "_law_many"] spBentVersion := by
  have G_law_draw : FnOk P w K mg base CX0 2 fD fdD ["_law_deck_here", "_law_many"] spDraw := ok_draw T D_law_draw.fn D_law_mixed
  refine F.ok sc_law_bent_version (fun vs H Q E h => ?_) (fun cdv A outer s H vs Q E hr h => ?_)
  · obtain ⟨d, c, tl, sl, n, rfl, _⟩ := h
    rfl
  · obtain ⟨d, c, tl, sl, n, rfl, D0, hn, htl, hsl, ntd, nsd, q⟩ := h
    have hu := hu_of hr
    have atA : atI [nV 2, nV 3, nV 4] 0 = some (nV 2) := rfl
    have atS : atI [nV 5, nV 6, nV 7, nV 8, nV 9] 0 = some (nV 5) := rfl
    have atT : atI [nV 5, nV 6, nV 7, nV 8, nV 9] 1 = some (nV 6) := rfl
    have free0 : ∀ {Hx : Hp} {a : Addr} {m : Nat}, KX d H Hx → Deck Hx d c m → Hx a = none → H a = none := fun {Hx a m} x D h => by
      have nd := (D.ne1 h).1
      cases e : H a with
      | none => rfl
      | some o =>
        rw [x.p _ _ (by simpa using nd) e] at h
        cases h
    refine ⟨_,
      (pss_cons
        (ps_set (i := 4) sc_law_bent_version.nd rfl (.inl rfl) (pe_lst (pa_cons pe_str (pa_cons (pe_tup pa_nil) (pa_cons (pe_ix (r := rIxL K) ix_list (pv 1) pe_int (fun _ _ => rfl)) (pa_cons (pe_op op_pow pe_int pe_int) pa_nil))))))
      (pss_cons
        (ps_set (i := 5) sc_law_bent_version.nd rfl (.inl rfl) (pe_call G_law_draw (hr.mono (by omega)) (by rfl) D_law_draw.g D_law_draw.fn.kp D_law_draw.b .nil pass0 (pa_cons (pv 0) (pa_cons pe_int pa_nil))))
      (pss_cons
        (ps_set (i := 6) sc_law_bent_version.nd rfl (.inl rfl) (pe_op op_add pe_int (pe_call G_law_draw (hr.mono (by omega)) (by rfl) D_law_draw.g D_law_draw.fn.kp D_law_draw.b .nil pass0 (pa_cons (pv 0) (pa_cons pe_int pa_nil)))))
      (pss_cons
        (ps_if (pt_cmpR op_eq (pv 6) pe_int (nomark _))
          (pss_one
            (ps_asg (pe_ix (r := rIxL K) ix_list (pe_lst (pa_cons (pe_tup (pa_cons pe_int pa_nil)) (pa_cons (pe_tup (pa_cons (pe_ix (r := rIxL K) ix_list (pv 1) pe_int (fun _ _ => rfl)) pa_nil)) (pa_cons (pe_tup (pa_cons (pv 3) pa_nil)) (pa_cons (pe_lst (pa_cons (pe_ix (r := rIxL K) ix_list (pv 2) pe_int (fun _ _ => rfl)) pa_nil)) (pa_cons (pe_tup (pa_cons (pe_un un_neg pe_int) pa_nil)) (pa_cons (pe_tup (pa_cons (pe_ix (r := rIxL K) ix_list (pv 2) pe_int (fun _ _ => rfl)) (pa_cons (pe_ix (r := rIxL K) ix_list (pv 2) pe_int (fun _ _ => rfl)) pa_nil))) (pa_cons pe_non (pa_cons (pe_tup (pa_cons pe_str pa_nil)) pa_nil))))))))) (pv 5) (fun _ _ => rfl)) (pg_sub (pv 4) pe_int set_list)))
          pss_nil)
      (pss_cons
        (ps_if (pt_cmpR op_eq (pv 6) pe_int (nomark _))
          (pss_one
            (ps_asg (pe_ix (r := rIxL K) ix_list (pe_lst (pa_cons (pe_ix (r := rIxL K) ix_list (pv 2) pe_int (fun _ _ => rfl)) (pa_cons pe_int (pa_cons (pv 3) (pa_cons (pe_un un_neg pe_int) (pa_cons pe_bl (pa_cons pe_non (pa_cons pe_str (pa_cons (pe_tup (pa_cons (pe_ix (r := rIxL K) ix_list (pv 1) pe_int (fun _ _ => rfl)) pa_nil)) pa_nil))))))))) (pv 5) (fun _ _ => rfl)) (pg_sub (pv 4) pe_int set_list)))
          pss_nil)
      (pss_cons
        (ps_if (pt_cmpR op_eq (pv 6) pe_int (nomark _))
          (pss_one
            (ps_asg (pe_ix (r := rIxL K) ix_list (pe_lst (pa_cons (pe_un un_neg pe_int) (pa_cons (pe_op op_add (pe_op op_pow pe_int pe_int) pe_int) (pa_cons pe_bl (pa_cons pe_bl (pa_cons pe_non (pa_cons pe_str (pa_cons (pe_tup (pa_cons pe_int pa_nil)) (pa_cons (pe_op op_pow pe_int pe_int) pa_nil))))))))) (pv 5) (fun _ _ => rfl)) (pg_sub (pv 4) pe_int set_list)))
          pss_nil)
      (pss_cons
        (ps_if (pt_cmpR op_eq (pe_call G_law_draw (hr.mono (by omega)) (by rfl) D_law_draw.g D_law_draw.fn.kp D_law_draw.b .nil pass0 (pa_cons (pv 0) (pa_cons pe_int pa_nil))) pe_int (nomark _))
          (pss_one
            (ps_set (i := 4) sc_law_bent_version.nd rfl (.inl rfl) (pe_lst (pa_cons pe_str (pa_cons (pe_tup (pa_cons (pe_ix (r := rIxL K) ix_list (pv 2) pe_int (fun _ _ => rfl)) (pa_cons (pe_ix (r := rIxL K) ix_list (pv 2) pe_int (fun _ _ => rfl)) pa_nil))) (pa_cons (pe_ix (r := rIxL K) ix_list (pv 1) pe_int (fun _ _ => rfl)) (pa_cons pe_int pa_nil)))))))
          pss_nil)
      (pss_cons
        (ps_if (pt_cmpR op_eq (pe_call G_law_draw (hr.mono (by omega)) (by rfl) D_law_draw.g D_law_draw.fn.kp D_law_draw.b .nil pass0 (pa_cons (pv 0) (pa_cons pe_int pa_nil))) pe_int (nomark _))
          (pss_one
            (ps_set (i := 4) sc_law_bent_version.nd rfl (.inl rfl) (pe_lst (pa_cons pe_str (pa_cons (pe_callTy (r := rTupOf K) c_tupOf (by rfl) T.n_tuple (by decide +kernel) (pa_cons (pv 2) pa_nil)) (pa_cons (pe_ix (r := rIxL K) ix_list (pv 1) pe_int (fun _ _ => rfl)) (pa_cons pe_int pa_nil)))))))
          pss_nil)
      (pss_cons
        (ps_if (pt_cmpR op_eq (pe_call G_law_draw (hr.mono (by omega)) (by rfl) D_law_draw.g D_law_draw.fn.kp D_law_draw.b .nil pass0 (pa_cons (pv 0) (pa_cons pe_int pa_nil))) pe_int (nomark _))
          (pss_one
            (ps_set (i := 4) sc_law_bent_version.nd rfl (.inl rfl) (pe_lst (pa_cons pe_str (pa_cons (pe_tup pa_nil) (pa_cons (pe_ix (r := rIxL K) ix_list (pv 1) pe_int (fun _ _ => rfl)) pa_nil))))))
          pss_nil)
      (pss_cons
        (ps_if (pt_cmpR op_eq (pe_call G_law_draw (hr.mono (by omega)) (by rfl) D_law_draw.g D_law_draw.fn.kp D_law_draw.b .nil pass0 (pa_cons (pv 0) (pa_cons pe_int pa_nil))) pe_int (nomark _))
          (pss_one
            (ps_set (i := 4) sc_law_bent_version.nd rfl (.inl rfl) (pe_lst (pa_cons pe_str (pa_cons (pe_tup pa_nil) (pa_cons (pe_ix (r := rIxL K) ix_list (pv 1) pe_int (fun _ _ => rfl)) (pa_cons pe_int (pa_cons pe_int pa_nil))))))))
          pss_nil)
      (pss_one
        (ps_ret (pe_callTy (r := rTupOf K) c_tupOf (by rfl) T.n_tuple (by decide +kernel) (pa_cons (pv 4) pa_nil))))))))))))))
      , ?_⟩
    rw [show L2.start N_law_bent_version [V.ref d, V.ref tl, V.ref sl, nV 10] = [some (.ref d), some (.ref tl), some (.ref sl), some (.int 10), none, none, none] from rfl]
    walk_at "x"
    refine w_new fun r0 H1 hr0 er0 k1 => ?_
    have htl1 := k1 _ _ htl
    walk_at "g"
    refine w_new fun L H4 hL eL k4 => ?_
    have k14 := Same.trans k1 k4
    have D4 : Deck H4 d c n := D0.kp (M := []) (Kp.of k14) (by simp) (by simp)
    have f0 := k4 _ _ er0
    have hL0 : H L = none := k1.free hL
    obtain ⟨Ld, Lc⟩ := D0.ne1 hL0
    walk_at "g"
    refine w_draw D4 (by omega) (by decide) (by decide) fun pk H5 hpk D5 o5 => ?_
    walk_at "g"
    refine w_draw D5 (by omega) (by decide) (by decide) fun u H6 hu6 D6 o6 => ?_
    have x46 := (D4.kx D5 o5).trans (D5.kx D6 o6)
    have x6 := (KX.of k14).trans x46
    have eL6 := o6.get Ld (o5.get Ld eL)
    have g0 := x46.t _ _ f0
    walk_at "g"
    refine w_seqJ (fun σ' H' => ∃ ys : List V, σ' = [some (.ref d), some (.ref tl), some (.ref sl), some (.int 10), some (.ref L), some (.int (pk : Int)), some (.int (1 + (u : Int)))] ∧ H' L = some (.lst ys) ∧ (u = 0 → VBad H' ys) ∧ (¬ u = 0 → ys = [V.str "version", .ref r0, .int 2, .int ((10 : Int) ^ Int.toNat 18)]) ∧ Deck H' d c (n + 2) ∧ KX d H H' ∧ H' r0 = some (.tup [])) ?_ ?_
    rotate_left
    · intro U hU
      walk_at "g"
      refine w_ite (fun h => ?_) (fun h => ?_)
      rotate_left
      · walk_at "g"
        exact hU _ _ ⟨_, rfl, eL6, fun e => absurd (show (1 : Int) + (u : Int) = 1 by omega) h, fun _ => rfl, D6, x6, g0⟩
      have hu0 : u = 0 := by omega
      have htl6 := x6.p _ _ (by simpa using ntd) htl
      have hsl6 := x6.p _ _ (by simpa using nsd) hsl
      walk_at "g"
      refine w_new fun b1 A1 hb1 eb1 ka1 => ?_
      have htlA := ka1 _ _ htl6
      walk_at "g"
      refine w_new fun b2 A2 hb2 eb2 ka2 => ?_
      walk_at "g"
      refine w_new fun b3 A3 hb3 eb3 ka3 => ?_
      have hslA3 := (Same.trans ka1 (Same.trans ka2 ka3)) _ _ hsl6
      walk_at "g"
      refine w_new fun b4 A4 hb4 eb4 ka4 => ?_
      walk_at "g"
      refine w_new fun b5 A5 hb5 eb5 ka5 => ?_
      have hslA5 := (Same.trans ka4 ka5) _ _ hslA3
      walk_at "g"
      refine w_new fun b6 A6 hb6 eb6 ka6 => ?_
      walk_at "g"
      refine w_new fun b7 A7 hb7 eb7 ka7 => ?_
      walk_at "g"
      refine w_new fun lx A8 hlx elx ka8 => ?_
      have m7 := ka8
      have m6 := Same.trans ka7 m7
      have m5 := Same.trans ka6 m6
      have m4 := Same.trans ka5 m5
      have m3 := Same.trans ka4 m4
      have m2 := Same.trans ka3 m3
      have m1 := Same.trans ka2 m2
      have m0 := Same.trans ka1 m1
      have c1 := m1 _ _ eb1
      have c2 := m2 _ _ eb2
      have c3 := m3 _ _ eb3
      have c4 := m4 _ _ eb4
      have c5 := m5 _ _ eb5
      have c6 := m6 _ _ eb6
      have c7 := m7 _ _ eb7
      have eL8 := m0 _ _ eL6
      generalize hbs : ([_, _, _, _, _, _, _, _] : List V) = bs at elx
      have hbl : bs.length = 8 := by rw [← hbs]; rfl
      have hbad : ∀ y ∈ bs, DatT 100 A8 y ∧ ∀ H' : Hp, KD A8 H' → PB H' y := by
        rw [← hbs]
        intro y hy
        simp only [List.mem_cons, List.not_mem_nil, or_false] at hy
        rcases hy with rfl | rfl | rfl | rfl | rfl | rfl | rfl | rfl
        · exact ⟨dT1 c1 (dI _), fun H' k => .of (ns := [0]) (k.t _ _ c1) (by decide)⟩
        · exact ⟨dT1 c2 (dI _), fun H' k => .of (ns := [2]) (k.t _ _ c2) (by decide)⟩
        · exact ⟨dT1 c3 (dI _), fun H' k => .of (ns := [10]) (k.t _ _ c3) (by decide)⟩
        · refine ⟨dL c4, fun H' k r ps e hr => ?_⟩
          cases e
          obtain ⟨ys, z⟩ := k.l _ _ c4
          rw [hr] at z
          cases z
        · exact ⟨dT1 c5 (dI _), fun H' k => .no (k.t _ _ c5) fun n e => by have := V.int.inj e; omega⟩
        · exact ⟨dT2 c6 (dI _) (dI _), fun H' k => .of (ns := [5, 5]) (k.t _ _ c6) (by decide)⟩
        · exact ⟨dN, fun H' k r ps e => by cases e⟩
        · exact ⟨dT1 c7 (dS (by decide +kernel)), fun H' k => .no (k.t _ _ c7) fun n e => by cases e⟩
      have hpk8 : pk < bs.length := by omega
      have at2 : atI bs (pk : Int) = some bs[pk] := atI_nat (List.getElem?_eq_getElem hpk8)
      obtain ⟨hwd, hwn⟩ := hbad _ (List.getElem_mem hpk8)
      generalize bs[pk] = w0 at *
      walk_at "g"
      refine w_setL (j := 1) eL8 rfl rfl fun H10 e10 o10 => ?_
      have kd10 : KD A8 H10 := KD.off o10 eL8 e10
      have x10 : KX d H H10 := (x6.trans (KX.of m0)).offN o10 hL0
      have D8 : Deck A8 d c _ := D6.kp (M := []) (Kp.of m0) (by simp) (by simp)
      have D10 : Deck H10 d c _ := D8.kp (M := [L]) (o10.kp (by simp)) (by simpa using Ld.symm) (by simpa using Lc.symm)
      walk_at "g"
      exact hU _ _ ⟨_, rfl, e10, fun _ => .p (hwd.kd kd10) (dI _) (dI _) (hwn _ kd10), fun z => absurd hu0 z, D10, x10, kd10.t _ _ (m0 _ _ g0)⟩
    rintro σ1 H11 ⟨ys1, rfl, e11, b11, n11, D11, x11, g11⟩
    refine w_seqJ (fun σ' H' => ∃ ys : List V, σ' = [some (.ref d), some (.ref tl), some (.ref sl), some (.int 10), some (.ref L), some (.int (pk : Int)), some (.int (1 + (u : Int)))] ∧ H' L = some (.lst ys) ∧ (u < 2 → VBad H' ys) ∧ (¬ u < 2 → ys = [V.str "version", .ref r0, .int 2, .int ((10 : Int) ^ Int.toNat 18)]) ∧ Deck H' d c (n + 2) ∧ KX d H H' ∧ H' r0 = some (.tup [])) ?_ ?_
    rotate_left
    · intro U hU
      walk_at "g"
      refine w_ite (fun h => ?_) (fun h => ?_)
      rotate_left
      · walk_at "g"
        exact hU _ _ ⟨_, rfl, e11, fun e => b11 (by omega), fun e => n11 (by omega), D11, x11, g11⟩
      have hu0 : u = 1 := by omega
      have hys := n11 (by omega)
      subst hys
      have hsl6 := x11.p _ _ (by simpa using nsd) hsl
      have htl6 := x11.p _ _ (by simpa using ntd) htl
      walk_at "g"
      refine w_new fun b1 A1 hb1 eb1 ka1 => ?_
      walk_at "g"
      refine w_new fun lx A8 hlx elx ka8 => ?_
      have m0 := Same.trans ka1 ka8
      have c1 := ka8 _ _ eb1
      have eL8 := m0 _ _ e11
      generalize hbs : ([_, _, _, _, _, _, _, _] : List V) = bs at elx
      have hbl : bs.length = 8 := by rw [← hbs]; rfl
      have hbad : ∀ y ∈ bs, DatT 100 A8 y ∧ ∀ n : Nat, y = nV n → ¬ (2 ≤ n ∧ n < 5) := by
        rw [← hbs]
        intro y hy
        simp only [List.mem_cons, List.not_mem_nil, or_false] at hy
        rcases hy with rfl | rfl | rfl | rfl | rfl | rfl | rfl | rfl
        · exact ⟨dI _, fun n e => by have := V.int.inj e; omega⟩
        · exact ⟨dI _, fun n e => by have := V.int.inj e; omega⟩
        · exact ⟨dI _, fun n e => by have := V.int.inj e; omega⟩
        · exact ⟨dI _, fun n e => by have := V.int.inj e; omega⟩
        · exact ⟨dB _, fun n e => by cases e⟩
        · exact ⟨dN, fun n e => by cases e⟩
        · exact ⟨dS (by decide +kernel), fun n e => by cases e⟩
        · exact ⟨dT1 c1 (dI _), fun n e => by cases e⟩
      have hpk8 : pk < bs.length := by omega
      have at2 : atI bs (pk : Int) = some bs[pk] := atI_nat (List.getElem?_eq_getElem hpk8)
      obtain ⟨hwd, hwn⟩ := hbad _ (List.getElem_mem hpk8)
      generalize bs[pk] = w0 at *
      walk_at "g"
      refine w_setL (j := 2) eL8 rfl rfl fun H10 e10 o10 => ?_
      have kd10 : KD A8 H10 := KD.off o10 eL8 e10
      have x10 : KX d H H10 := (x11.trans (KX.of m0)).offN o10 hL0
      have D8 : Deck A8 d c _ := D11.kp (M := []) (Kp.of m0) (by simp) (by simp)
      have D10 : Deck H10 d c _ := D8.kp (M := [L]) (o10.kp (by simp)) (by simpa using Ld.symm) (by simpa using Lc.symm)
      have h10 := kd10.t _ _ (m0 _ _ g11)
      walk_at "g"
      exact hU _ _ ⟨_, rfl, e10, fun _ => .r (dT0 h10) (hwd.kd kd10) (dI _) hwn, fun z => absurd (show u < 2 by omega) z, D10, x10, h10⟩
    rintro σ2 H12 ⟨ys2, rfl, e12, b12, n12, D12, x12, g12⟩
    refine w_seqJ (fun σ' H' => ∃ (L' : Addr) (ys : List V), σ' = [some (.ref d), some (.ref tl), some (.ref sl), some (.int 10), some (.ref L'), some (.int (pk : Int)), some (.int (1 + (u : Int)))] ∧ H' L' = some (.lst ys) ∧ VBad H' ys ∧ Deck H' d c (n + 2) ∧ KX d H H' ∧ H L' = none) ?_ ?_
    rotate_left
    · intro U hU
      walk_at "g"
      refine w_ite (fun h => ?_) (fun h => ?_)
      rotate_left
      · walk_at "g"
        exact hU _ _ ⟨L, _, rfl, e12, b12 (by omega), D12, x12, hL0⟩
      have hu0 : u = 2 := by omega
      have hys := n12 (by omega)
      subst hys
      walk_at "g"
      refine w_new fun b1 A1 hb1 eb1 ka1 => ?_
      walk_at "g"
      refine w_new fun lx A8 hlx elx ka8 => ?_
      have m0 := Same.trans ka1 ka8
      have c1 := ka8 _ _ eb1
      have eL8 := m0 _ _ e12
      generalize hbs : ([_, _, _, _, _, _, _, _] : List V) = bs at elx
      have hbl : bs.length = 8 := by rw [← hbs]; rfl
      have hbad : ∀ y ∈ bs, DatT 100 A8 y ∧ ∀ n : Nat, y = nV n → ¬ n ≤ 10 ^ 18 := by
        rw [← hbs]
        intro y hy
        simp only [List.mem_cons, List.not_mem_nil, or_false] at hy
        rcases hy with rfl | rfl | rfl | rfl | rfl | rfl | rfl | rfl
        · exact ⟨dI _, fun n e => by have := V.int.inj e; omega⟩
        · exact ⟨dI _, fun n e => by have := V.int.inj e; have := p18; omega⟩
        · exact ⟨dB _, fun n e => by cases e⟩
        · exact ⟨dB _, fun n e => by cases e⟩
        · exact ⟨dN, fun n e => by cases e⟩
        · exact ⟨dS (by decide +kernel), fun n e => by cases e⟩
        · exact ⟨dT1 c1 (dI _), fun n e => by cases e⟩
        · exact ⟨dI _, fun n e => by have := V.int.inj e; have := p40; omega⟩
      have hpk8 : pk < bs.length := by omega
      have at2 : atI bs (pk : Int) = some bs[pk] := atI_nat (List.getElem?_eq_getElem hpk8)
      obtain ⟨hwd, hwn⟩ := hbad _ (List.getElem_mem hpk8)
      generalize bs[pk] = w0 at *
      walk_at "g"
      refine w_setL (j := 3) eL8 rfl rfl fun H10 e10 o10 => ?_
      have kd10 : KD A8 H10 := KD.off o10 eL8 e10
      have x10 : KX d H H10 := (x12.trans (KX.of m0)).offN o10 hL0
      have D8 : Deck A8 d c _ := D12.kp (M := []) (Kp.of m0) (by simp) (by simp)
      have D10 : Deck H10 d c _ := D8.kp (M := [L]) (o10.kp (by simp)) (by simpa using Ld.symm) (by simpa using Lc.symm)
      have h10 := kd10.t _ _ (m0 _ _ g12)
      walk_at "g"
      exact hU _ _ ⟨L, _, rfl, e10, .s (dT0 h10) (dI _) (hwd.kd kd10) hwn, D10, x10, hL0⟩
    rintro σ3 H13 ⟨L3, ys3, rfl, e13, T13, D13, x13, hL3⟩
    clear b11 n11 b12 n12 e11 e12 D11 D12 eL6 eL
    have L3d := D0.ne1 hL3
    refine w_seqJ (fun σ' H' => ∃ (L' : Addr) (ys : List V), σ' = [some (.ref d), some (.ref tl), some (.ref sl), some (.int 10), some (.ref L'), some (.int (pk : Int)), some (.int (1 + (u : Int)))] ∧ H' L' = some (.lst ys) ∧ VBad H' ys ∧ Deck H' d c (n + 3) ∧ KX d H H' ∧ H L' = none) ?_ ?_
    rotate_left
    · intro U hU
      walk_at "g"
      refine w_draw D13 (by omega) (by decide) (by decide) fun vv HN hvv DN oN => ?_
      have xN := x13.trans (D13.kx DN oN)
      have eN := oN.get L3d.1 e13
      walk_at "g"
      refine w_ite (fun h => ?_) (fun h => ?_)
      rotate_left
      · walk_at "g"
        exact hU _ _ ⟨L3, _, rfl, eN, T13.kd (D13.kx DN oN).toKD, DN, xN, hL3⟩
      have htlN := xN.p _ _ (by simpa using ntd) htl
      have hslN := xN.p _ _ (by simpa using nsd) hsl
      walk_at "g"
      refine w_new fun b1 A1 hb1 eb1 ka1 => ?_
      have htlA := ka1 _ _ htlN
      walk_at "g"
      refine w_new fun lx A2 hlx elx ka2 => ?_
      have m0 := Same.trans ka1 ka2
      have c1 := ka2 _ _ eb1
      walk_at "g"
      refine hU _ _ ⟨lx, _, rfl, elx, ?_, DN.kp (M := []) (Kp.of m0) (by simp) (by simp), xN.trans (KX.of m0), free0 (xN.trans (KX.of ka1)) (DN.kp (M := []) (Kp.of ka1) (by simp) (by simp)) hlx⟩
      exact .p (dT2 c1 (dI _) (dI _)) (dI _) (dI _) (.of (ns := [6, 5]) c1 (by decide))
    rintro σ4 H14 ⟨L4, ys4, rfl, e14, T14, D14, x14, hL4⟩
    have L4d := D0.ne1 hL4
    refine w_seqJ (fun σ' H' => ∃ (L' : Addr) (ys : List V), σ' = [some (.ref d), some (.ref tl), some (.ref sl), some (.int 10), some (.ref L'), some (.int (pk : Int)), some (.int (1 + (u : Int)))] ∧ H' L' = some (.lst ys) ∧ VBad H' ys ∧ Deck H' d c (n + 4) ∧ KX d H H' ∧ H L' = none) ?_ ?_
    rotate_left
    · intro U hU
      walk_at "g"
      refine w_draw D14 (by omega) (by decide) (by decide) fun vv HN hvv DN oN => ?_
      have xN := x14.trans (D14.kx DN oN)
      have eN := oN.get L4d.1 e14
      walk_at "g"
      refine w_ite (fun h => ?_) (fun h => ?_)
      rotate_left
      · walk_at "g"
        exact hU _ _ ⟨L4, _, rfl, eN, T14.kd (D14.kx DN oN).toKD, DN, xN, hL4⟩
      have htlN := xN.p _ _ (by simpa using ntd) htl
      have hslN := xN.p _ _ (by simpa using nsd) hsl
      walk_at "g"
      refine w_tupL (.of hslN) fun b1 A1 hb1 eb1 ka1 => ?_
      have htlA := ka1 _ _ htlN
      walk_at "g"
      refine w_new fun lx A2 hlx elx ka2 => ?_
      have m0 := Same.trans ka1 ka2
      have c1 := ka2 _ _ eb1
      walk_at "g"
      refine hU _ _ ⟨lx, _, rfl, elx, ?_, DN.kp (M := []) (Kp.of m0) (by simp) (by simp), xN.trans (KX.of m0), free0 (xN.trans (KX.of ka1)) (DN.kp (M := []) (Kp.of ka1) (by simp) (by simp)) hlx⟩
      exact .p (.tup c1 (by simp) fun y hy => by simp only [List.mem_cons, List.not_mem_nil, or_false] at hy; rcases hy with rfl | rfl | rfl | rfl | rfl <;> exact dI _) (dI _) (dI _) (.of (ns := [5, 6, 7, 8, 9]) c1 (by decide))
    rintro σ5 H15 ⟨L5, ys5, rfl, e15, T15, D15, x15, hL5⟩
    have L5d := D0.ne1 hL5
    refine w_seqJ (fun σ' H' => ∃ (L' : Addr) (ys : List V), σ' = [some (.ref d), some (.ref tl), some (.ref sl), some (.int 10), some (.ref L'), some (.int (pk : Int)), some (.int (1 + (u : Int)))] ∧ H' L' = some (.lst ys) ∧ VBad H' ys ∧ Deck H' d c (n + 5) ∧ KX d H H' ∧ H L' = none) ?_ ?_
    rotate_left
    · intro U hU
      walk_at "g"
      refine w_draw D15 (by omega) (by decide) (by decide) fun vv HN hvv DN oN => ?_
      have xN := x15.trans (D15.kx DN oN)
      have eN := oN.get L5d.1 e15
      walk_at "g"
      refine w_ite (fun h => ?_) (fun h => ?_)
      rotate_left
      · walk_at "g"
        exact hU _ _ ⟨L5, _, rfl, eN, T15.kd (D15.kx DN oN).toKD, DN, xN, hL5⟩
      have htlN := xN.p _ _ (by simpa using ntd) htl
      have hslN := xN.p _ _ (by simpa using nsd) hsl
      walk_at "g"
      refine w_new fun b1 A1 hb1 eb1 ka1 => ?_
      have htlA := ka1 _ _ htlN
      walk_at "g"
      refine w_new fun lx A2 hlx elx ka2 => ?_
      have m0 := Same.trans ka1 ka2
      have c1 := ka2 _ _ eb1
      walk_at "g"
      refine hU _ _ ⟨lx, _, rfl, elx, ?_, DN.kp (M := []) (Kp.of m0) (by simp) (by simp), xN.trans (KX.of m0), free0 (xN.trans (KX.of ka1)) (DN.kp (M := []) (Kp.of ka1) (by simp) (by simp)) hlx⟩
      exact .len (fun y hy => by simp only [List.mem_cons, List.not_mem_nil, or_false] at hy; rcases hy with rfl | rfl | rfl <;> first | exact dS (by decide +kernel) | exact dT0 c1 | exact dI _) (by simp) (by simp) ⟨_, rfl⟩
    rintro σ6 H16 ⟨L6, ys6, rfl, e16, T16, D16, x16, hL6⟩
    have L6d := D0.ne1 hL6
    refine w_seqJ (fun σ' H' => ∃ (L' : Addr) (ys : List V), σ' = [some (.ref d), some (.ref tl), some (.ref sl), some (.int 10), some (.ref L'), some (.int (pk : Int)), some (.int (1 + (u : Int)))] ∧ H' L' = some (.lst ys) ∧ VBad H' ys ∧ Deck H' d c (n + 6) ∧ KX d H H' ∧ H L' = none) ?_ ?_
    rotate_left
    · intro U hU
      walk_at "g"
      refine w_draw D16 (by omega) (by decide) (by decide) fun vv HN hvv DN oN => ?_
      have xN := x16.trans (D16.kx DN oN)
      have eN := oN.get L6d.1 e16
      walk_at "g"
      refine w_ite (fun h => ?_) (fun h => ?_)
      rotate_left
      · walk_at "g"
        exact hU _ _ ⟨L6, _, rfl, eN, T16.kd (D16.kx DN oN).toKD, DN, xN, hL6⟩
      have htlN := xN.p _ _ (by simpa using ntd) htl
      have hslN := xN.p _ _ (by simpa using nsd) hsl
      walk_at "g"
      refine w_new fun b1 A1 hb1 eb1 ka1 => ?_
      have htlA := ka1 _ _ htlN
      walk_at "g"
      refine w_new fun lx A2 hlx elx ka2 => ?_
      have m0 := Same.trans ka1 ka2
      have c1 := ka2 _ _ eb1
      walk_at "g"
      refine hU _ _ ⟨lx, _, rfl, elx, ?_, DN.kp (M := []) (Kp.of m0) (by simp) (by simp), xN.trans (KX.of m0), free0 (xN.trans (KX.of ka1)) (DN.kp (M := []) (Kp.of ka1) (by simp) (by simp)) hlx⟩
      exact .len (fun y hy => by simp only [List.mem_cons, List.not_mem_nil, or_false] at hy; rcases hy with rfl | rfl | rfl | rfl | rfl <;> first | exact dS (by decide +kernel) | exact dT0 c1 | exact dI _) (by simp) (by simp) ⟨_, rfl⟩
    rintro σ7 H17 ⟨L7, ys7, rfl, e17, T17, D17, x17, hL7⟩
    walk_at "g"
    refine w_tupL (.of e17) fun t35 H35 ht35 e35 k35 => ?_
    have T35 := T17.kd (KD.of k35)
    walk_at "g"
    obtain ⟨tt, ett⟩ := T35.2.2.2
    refine q H35 _ ((D17.kp (M := []) (Kp.of k35) (by simp) (by simp)).mono (by omega)) (x17.trans (KX.of k35)) (.tup e35 T35.2.1 T35.1 (fun r rows e => ?_) (fun r qs e => ?_) T35.2.2.1)
    · rw [ett] at e
      exact absurd (V.str.inj (List.cons.inj e).1) lit_ne5
    · rw [ett] at e
      exact absurd (V.str.inj (List.cons.inj e).1) lit_ne6
end
/-! ### any bent content -/
def spBentB : Sp := fun vs H Q _ => ∃ (d c tl sl : Addr) (n : Nat), vs = [.ref d, .ref tl, .ref sl, nV 10] ∧ Deck H d c n ∧ n + 410 ≤ MOSTD ∧ H tl = some (.lst [nV 2, nV 3, nV 4]) ∧ H sl = some (.lst [nV 5, nV 6, nV 7, nV 8, nV 9]) ∧ tl ≠ d ∧ sl ≠ d ∧ ∀ H' x, Deck H' d c (n + 410) → KX d H H' → Bent H' x → Q x H'
section
variable {P : Program} {w : World} {K : PySem.W.Frag} {mg : Str → Option Value} {base : Heap}
theorem ok_bentB {f fM fD fT fO fL fR fV : Addr} {fd fdM fdD fdT fdO fdL fdR fdV : FuncData} (T : Txt K mg) (F : Fun K "_law_bent" "_law_bent" s_law_bent f fd) (D_law_mixed : Df K mg "_law_mixed" s_law_mixed ["_law_cell", "_law_turn"] fM fdM) (D_law_draw : Df K mg "_law_draw" s_law_draw ["_law_deck_here", "_law_many"] fD fdD) (D_law_text : Df K mg "_law_text" s_law_text ["_law_deck_here", "_law_most"] fT fdT) (D_law_odd : Df K mg "_law_odd" s_law_odd ["_law_deck_here"] fO fdO) (D_law_bent_leaf : Df K mg "_law_bent_leaf" s_law_bent_leaf ["_law_deck_here"] fL fdL) (D_law_bent_tree : Df K mg "_law_bent_tree" s_law_bent_tree ["_law_deck_here", "_law_trees", "_law_stands", "_law_many"] fR fdR) (D_law_bent_version : Df K mg "_law_bent_version" s_law_bent_version ["_law_deck_here", "_law_trees", "_law_stands", "_law_many"] fV fdV) : FnOk P w K mg base CX0 5 f fd ["_law_deck_here", "_law_trees", "_law_stands", "_law_many"] spBentB := by
  have G_law_draw : FnOk P w K mg base CX0 2 fD fdD ["_law_deck_here", "_law_many"] spDraw := ok_draw T D_law_draw.fn D_law_mixed
  have G_law_odd : FnOk P w K mg base CX0 3 fO fdO ["_law_deck_here"] spOddB := ok_oddB T D_law_odd.fn D_law_mixed D_law_draw
  have G_law_bent_leaf : FnOk P w K mg base CX0 4 fL fdL ["_law_deck_here"] spBentLeaf := ok_bentleaf T D_law_bent_leaf.fn D_law_mixed D_law_draw D_law_text
  have G_law_bent_tree : FnOk P w K mg base CX0 3 fR fdR ["_law_deck_here", "_law_trees", "_law_stands", "_law_many"] spBentTree := ok_benttree T D_law_bent_tree.fn D_law_mixed D_law_draw
  have G_law_bent_version : FnOk P w K mg base CX0 3 fV fdV ["_law_deck_here", "_law_trees", "_law_stands", "_law_many"] spBentVersion := ok_bentversion T D_law_bent_version.fn D_law_mixed D_law_draw
  refine F.ok sc_law_bent (fun vs H Q E h => ?_) (fun cdv A outer s H vs Q E hr h => ?_)
  · obtain ⟨d, c, tl, sl, n, rfl, _⟩ := h
    rfl
  · obtain ⟨d, c, tl, sl, n, rfl, D0, hn, htl, hsl, ntd, nsd, q⟩ := h
    have hu := hu_of hr
    refine ⟨_,
      (pss_cons
        (ps_set (i := 4) sc_law_bent.nd rfl (.inl rfl) (pe_call G_law_draw (hr.mono (by omega)) (by rfl) D_law_draw.g D_law_draw.fn.kp D_law_draw.b .nil pass0 (pa_cons (pv 0) (pa_cons pe_int pa_nil))))
      (pss_cons
        (ps_if (pt_cmpR op_eq (pv 4) pe_int (nomark _))
          (pss_one
            (ps_ret (pe_call G_law_bent_leaf (hr.mono (by omega)) (by rfl) D_law_bent_leaf.g D_law_bent_leaf.fn.kp D_law_bent_leaf.b .nil pass0 (pa_cons (pv 0) pa_nil))))
          pss_nil)
      (pss_cons
        (ps_if (pt_cmpR op_eq (pv 4) pe_int (nomark _))
          (pss_one
            (ps_ret (pe_call G_law_bent_tree (hr.mono (by omega)) (by rfl) D_law_bent_tree.g D_law_bent_tree.fn.kp D_law_bent_tree.b .nil pass0 (pa_cons (pv 0) (pa_cons (pv 1) (pa_cons (pv 2) (pa_cons (pv 3) pa_nil)))))))
          pss_nil)
      (pss_cons
        (ps_if (pt_cmpR op_eq (pv 4) pe_int (nomark _))
          (pss_one
            (ps_ret (pe_call G_law_bent_version (hr.mono (by omega)) (by rfl) D_law_bent_version.g D_law_bent_version.fn.kp D_law_bent_version.b .nil pass0 (pa_cons (pv 0) (pa_cons (pv 1) (pa_cons (pv 2) (pa_cons (pv 3) pa_nil)))))))
          pss_nil)
      (pss_one
        (ps_ret (pe_ix (r := rIxL K) ix_list (pe_lst (pa_cons (pe_call G_law_odd (hr.mono (by omega)) (by rfl) D_law_odd.g D_law_odd.fn.kp D_law_odd.b .nil pass0 (pa_cons (pv 0) pa_nil)) (pa_cons (pe_tup (pa_cons pe_str (pa_cons (pe_tup pa_nil) (pa_cons (pe_tup pa_nil) pa_nil)))) (pa_cons (pe_tup (pa_cons pe_str (pa_cons (pe_tup pa_nil) pa_nil))) (pa_cons (pe_lst (pa_cons pe_str (pa_cons (pe_tup pa_nil) pa_nil))) (pa_cons (pe_tup (pa_cons pe_str (pa_cons (pe_tup (pa_cons pe_str pa_nil)) (pa_cons pe_int pa_nil)))) pa_nil)))))) (pe_call G_law_draw (hr.mono (by omega)) (by rfl) D_law_draw.g D_law_draw.fn.kp D_law_draw.b .nil pass0 (pa_cons (pv 0) (pa_cons pe_int pa_nil))) (fun _ _ => rfl))))))))
      , ?_⟩
    rw [show L2.start N_law_bent [V.ref d, V.ref tl, V.ref sl, nV 10] = [some (.ref d), some (.ref tl), some (.ref sl), some (.int 10), none] from rfl]
    walk_at "x"
    refine w_draw D0 (by omega) (by decide) (by decide) fun kd H1 hkd D1 o1 => ?_
    have x1 := D0.kx D1 o1
    have htl1 := o1.get ntd htl
    have hsl1 := o1.get nsd hsl
    walk_at "g"
    refine w_seq ?_
    walk_at "g"
    refine w_ite (fun h => ?_) (fun h => ?_)
    · walk_at "g"
      refine ⟨d, c, _, rfl, D1, by omega, fun H2 x D2 x2 hb => ?_⟩
      exact q H2 x (D2.mono (by omega)) (x1.trans x2) hb
    walk_at "g"
    refine w_seq ?_
    walk_at "g"
    refine w_ite (fun h => ?_) (fun h => ?_)
    · walk_at "g"
      refine ⟨d, c, tl, sl, _, rfl, D1, by omega, htl1, hsl1, ntd, nsd, fun H2 x D2 x2 hb => ?_⟩
      exact q H2 x (D2.mono (by omega)) (x1.trans x2) hb
    walk_at "g"
    refine w_seq ?_
    walk_at "g"
    refine w_ite (fun h => ?_) (fun h => ?_)
    · walk_at "g"
      refine ⟨d, c, tl, sl, _, rfl, D1, by omega, htl1, hsl1, ntd, nsd, fun H2 x D2 x2 hb => ?_⟩
      exact q H2 x (D2.mono (by omega)) (x1.trans x2) hb
    walk_at "g"
    refine ⟨d, c, _, rfl, D1, by omega, fun H2 ox D2 x2 hb => ?_⟩
    walk_at "g"
    refine w_new fun a1 H3 ha1 ea1 k3 => ?_
    walk_at "g"
    refine w_new fun a2 H4 ha2 ea2 k4 => ?_
    walk_at "g"
    refine w_new fun a3 H5 ha3 ea3 k5 => ?_
    walk_at "g"
    refine w_new fun a4 H6 ha4 ea4 k6 => ?_
    walk_at "g"
    refine w_new fun a5 H7 ha5 ea5 k7 => ?_
    walk_at "g"
    refine w_new fun a6 H8 ha6 ea6 k8 => ?_
    walk_at "g"
    refine w_new fun a7 H9 ha7 ea7 k9 => ?_
    walk_at "g"
    refine w_new fun a8 H10 ha8 ea8 k10 => ?_
    walk_at "g"
    refine w_new fun a9 H11 ha9 ea9 k11 => ?_
    walk_at "g"
    refine w_new fun l H12 hl el k12 => ?_
    have m11 := Same.trans k11 k12
    have m10 := Same.trans k10 m11
    have m9 := Same.trans k9 m10
    have m8 := Same.trans k8 m9
    have m7 := Same.trans k7 m8
    have m6 := Same.trans k6 m7
    have m5 := Same.trans k5 m6
    have m4 := Same.trans k4 m5
    have m3 := Same.trans k3 m4
    have D12 : Deck H12 d c _ := D2.kp (M := []) (Kp.of m3) (by simp) (by simp)
    have D11 : Deck H11 d c _ := D2.kp (M := []) (Kp.of (Same.trans k3 (Same.trans k4 (Same.trans k5 (Same.trans k6 (Same.trans k7 (Same.trans k8 (Same.trans k9 (Same.trans k10 k11))))))))) (by simp) (by simp)
    have nld := (D11.ne1 hl).1
    walk_at "g"
    refine w_draw D12 (by omega) (by decide) (by decide) fun v H13 hv D13 o13 => ?_
    have x1213 := D12.kx D13 o13
    have t := x1213.t
    have el13 := o13.get nld el
    have c1 := t _ _ (m4 _ _ ea1)
    have c2 := t _ _ (m5 _ _ ea2)
    have c3 := t _ _ (m6 _ _ ea3)
    have c4 := t _ _ (m7 _ _ ea4)
    have c5 := t _ _ (m8 _ _ ea5)
    have n7 : a7 ≠ d := by
      have D8 : Deck H8 d c _ := D2.kp (M := []) (Kp.of (Same.trans k3 (Same.trans k4 (Same.trans k5 (Same.trans k6 (Same.trans k7 k8)))))) (by simp) (by simp)
      exact (D8.ne1 ha7).1
    have c7 := o13.get n7 (m10 _ _ ea7)
    have c8 := t _ _ (m11 _ _ ea8)
    have c9 := t _ _ (k12 _ _ ea9)
    have hox := (hb.kd (KD.of m3)).kd x1213.toKD
    have hlf : ¬ (Str.ofString "Leaf") = "leaf" ∧ ¬ (Str.ofString "Leaf") = "tree" := by decide +kernel
    generalize hbs : ([_, _, _, _, _] : List V) = bs at el13
    have hbl : bs.length = 5 := by rw [← hbs]; rfl
    have hbad : ∀ y ∈ bs, Bent H13 y := by
      rw [← hbs]
      intro y hy
      simp only [List.mem_cons, List.not_mem_nil, or_false] at hy
      rcases hy with rfl | rfl | rfl | rfl | rfl
      · exact hox
      · exact .tupX c3 (by simp) (fun y hy => by simp only [List.mem_cons, List.not_mem_nil, or_false] at hy; rcases hy with rfl | rfl | rfl <;> first | exact dS (by decide +kernel) | exact dT0 c1 | exact dT0 c2) (fun r => by simp) (fun r => by simp) (fun r u v => by simp)
      · exact .tupX c5 (by simp) (fun y hy => by simp only [List.mem_cons, List.not_mem_nil, or_false] at hy; rcases hy with rfl | rfl <;> first | exact dS (by decide +kernel) | exact dT0 c4) (fun r e => hlf.1 (V.str.inj (List.cons.inj e).1)) (fun r e => hlf.2 (V.str.inj (List.cons.inj e).1)) (fun r u v => by simp)
      · exact .lst c7
      · exact .tupX c9 (by simp) (fun y hy => by simp only [List.mem_cons, List.not_mem_nil, or_false] at hy; rcases hy with rfl | rfl | rfl <;> first | exact dS (by decide +kernel) | exact dT1 c8 (dS (by decide +kernel)) | exact dI _) (fun r => by simp) (fun r => by simp) (fun r u v => by simp)
    have hv5 : v < bs.length := by omega
    have at1 : atI bs (v : Int) = some bs[v] := atI_nat (List.getElem?_eq_getElem hv5)
    walk_at "g"
    exact q H13 _ (D13.mono (by omega)) (((x1.trans x2).trans (KX.of m3)).trans x1213) (hbad _ (List.getElem_mem hv5))
end
/-! ### what is no name is refused by thing, kind and parts -/
theorem KD.extN {H H' : Hp} (k : LamX.ExtN H H') : KD H H' := ⟨KT.extN k, fun b xs e => ⟨xs, k _ _ e (fun ps z => nomatch z)⟩, fun b kvs e => ⟨kvs, k _ _ e (fun ps z => nomatch z)⟩⟩
theorem DatT.extN {B : Nat} {H H' : Hp} {x : V} (h : DatT B H x) (k : LamX.ExtN H H') : DatT B H' x := h.kd (KD.extN k)
def spPartsE (P : Program) (w : World) (C CN : Addr) : Sp := fun vs H Q E => ∃ (p dx lc ld lg : Addr) (cs : List (Addr × Ct)) (ds : List Nat) (x : V) (a : String), vs = [.ref p, x] ∧ BookAt P w C H p dx lc ld lg cs ds ∧ Ty H x a ∧ (∀ n : Nat, x = nV n → ¬ n < cs.length) ∧ NoNm CN H E x
def QA : Str := (PyProof.Rows.envOfC "_law_asked" (defScope s_law_asked) 0 0 .none).qual ++ "<lambda>"
def QL : Str := (PyProof.Rows.envOfC "law" (defScope s_law) 0 0 .none).qual ++ "<lambda>"
def TLs (PK PL : Addr) : List (Addr × Str) := [(PK, QL), (PL, QA)]
def spLAsked (P : Program) (w : World) (C PK PL : Addr) : Sp := fun vs H Q _ => ∃ (p dx lc ld lg : Addr) (cs : List (Addr × Ct)) (ds : List Nat) (x : V) (a : String), vs = [.ref p, x] ∧ BookAt P w C H p dx lc ld lg cs ds ∧ Ty H x a ∧ (∀ n : Nat, x = nV n → ¬ n < cs.length) ∧ (∀ H', KT H H' → SD 2 H' x x) ∧ LamX.Tabs (TLs PK PL) H ∧ ∀ H', LamX.ExtN H H' → LamX.Tabs (TLs PK PL) H' → Q (.bl true) H'
section
variable {P : Program} {w : World} {K : PySem.W.Frag} {mg : Str → Option Value} {base : Heap} {C : Addr}
theorem ok_partsE {f fG fN fI fE C_NoName : Addr} {fd fdG fdN fdI fdE : FuncData} (T : Txt K mg) (F : Fun K "parts" "Book.parts" s_Book_parts f fd) (K_Book : Kl K mg "Book" C ["contents", "depths", "given"]) (D_Book_thing : DfM K C "thing" "Book.thing" s_Book_thing ["self", "name"] fG fdG) (D_is_name : Df K mg "is_name" s_is_name ["book", "thing"] fN fdN) (D_is_int : DfD K mg "is_int" s_is_int ["thing", "least"] [.int 0] fI fdI)
    (FE : Fun K "__init__" "NoName.__init__" s_NoName___init__ fE fdE) (X_NoName : ExnI K mg "NoName" C_NoName fE fdE ["self", "name"] ["name"]) : FnOk P w K mg base (L2.CX P w) 4 f fd ["self", "name"] (spPartsE P w C C_NoName) := by
  have G_Book_thing : FnOk P w K mg base (L2.CX P w) 3 fG fdG ["self", "name"] (spThingE P w C C_NoName) := ok_thingE T D_Book_thing.fn K_Book D_is_name D_is_int FE X_NoName
  refine F.okX sc_Book_parts (fun vs H Q E h => ?_) (fun cdv A outer s H vs Q E hr h => ?_)
  · obtain ⟨p, dx, lc, ld, lg, cs, ds, x, a, rfl, _⟩ := h
    rfl
  · obtain ⟨p, dx, lc, ld, lg, cs, ds, x, a, rfl, B, ty, hno, qe⟩ := h
    have ob := B.ob
    refine ⟨_,
      (pss_cons
        (ps_set (i := 2) sc_Book_parts.nd rfl (.inl rfl) (pe_meth (pv 0) K_Book.cl D_Book_thing.m G_Book_thing (hr.mono (by omega)) D_Book_thing.b .nil (passes_call (takes_of rfl rfl rfl rfl) (fun _ _ _ _ h => h)) (pa_cons (pv 1) pa_nil)))
      (pss_cons
        (ps_if (pt_cmpR op_eq (pe_ix (r := rIxT K) ix_tup (pv 2) pe_int (fun _ _ => rfl)) pe_str (nomark _))
          (pss_one
            (ps_ret (pe_tup pa_nil)))
          pss_nil)
      (pss_cons
        (ps_if (pt_cmpR op_eq (pe_ix (r := rIxT K) ix_tup (pv 2) pe_int (fun _ _ => rfl)) pe_str (nomark _))
          (pss_one
            (ps_ret (pe_callTy (r := rTupOf K) c_tupOf (by rfl) T.n_tuple (by decide +kernel) (pa_cons (pe_lc (own := [("label", 3), ("part", 4)]) (g := (gTup K 2 (gCons (gName 3) (gCons (gName 4) gNil)))) rfl sc_Book_parts.nd (pi_tup (pe_ix (r := rIxT K) ix_tup (pv 2) pe_int (fun _ _ => rfl))) (blkOk_by (own := [("label", 3), ("part", 4)]) (N := N_Book_parts) (sc := defScope s_Book_parts) (by decide +kernel)) (fun _ _ _ _ _ => (pg_tup rfl (pgs_cons (pg_name (i := 3) sc_Book_parts.nd rfl (.inl rfl)) (pgs_cons (pg_name (i := 4) sc_Book_parts.nd rfl (.inl rfl)) pgs_nil)))) (fun _ _ _ _ _ => pts_nil) (fun _ _ _ _ _ => (pv 4))) pa_nil))))
          pss_nil)
      (pss_one
        (ps_ret (pe_op op_catA (pe_ix (r := rIxT K) ix_tup (pv 2) pe_int (fun _ _ => rfl)) (pe_tup (pa_cons (pe_ix (r := rIxT K) ix_tup (pv 2) pe_int (fun _ _ => rfl)) pa_nil))))))))
      , ?_⟩
    rw [show L2.start N_Book_parts [V.ref p, x] = [some (.ref p), some x, none, none, none] from rfl]
    walk_at "x"
    exact ⟨p, dx, lc, ld, lg, cs, ds, x, a, rfl, B, ty, fun n qc e hn => absurd (List.getElem?_eq_some_iff.mp hn).1 (hno n e), fun _ => qe⟩
theorem ok_lasked {f fA fW fG fK fPp fN fI fE C_NoName C_HouseError C_NoThing C_TooMany C_Lack cL PL PK : Addr} {fd fdA fdW fdG fdK fdPp fdN fdI fdE : FuncData} (T : Txt K mg) (D_law_asked : Df K mg "_law_asked" s_law_asked ["_law_book", "_law_name"] f fd) (D_law_alike : Df K mg "_law_alike" s_law_alike ["_law_found", "_law_due"] fA fdA) (D_law_why : Df K mg "_law_why" s_law_why ["_law_deed"] fW fdW) (K_Book : Kl K mg "Book" C ["contents", "depths", "given"])
    (D_Book_thing : DfM K C "thing" "Book.thing" s_Book_thing ["self", "name"] fG fdG) (D_Book_kind : DfM K C "kind" "Book.kind" s_Book_kind ["self", "name"] fK fdK) (D_Book_parts : DfM K C "parts" "Book.parts" s_Book_parts ["self", "name"] fPp fdPp) (D_is_name : Df K mg "is_name" s_is_name ["book", "thing"] fN fdN) (D_is_int : DfD K mg "is_int" s_is_int ["thing", "least"] [.int 0] fI fdI)
    (FE : Fun K "__init__" "NoName.__init__" s_NoName___init__ fE fdE) (X_NoName : ExnI K mg "NoName" C_NoName fE fdE ["self", "name"] ["name"]) (g_HouseError : mg "HouseError" = some (.ref C_HouseError)) (g_NoThing : mg "NoThing" = some (.ref C_NoThing)) (g_TooMany : mg "TooMany" = some (.ref C_TooMany)) (g_Lack : mg "Lack" = some (.ref C_Lack)) (xm_NoName_HouseError : PySem.W.exmOne K (.ref C_NoName) (.ref C_HouseError) = some true)
    (kq_NoName_NoThing : PySem.W.kitOne K (.ref C_NoName) (.ref C_NoThing) = some false) (kq_NoName_NoName : PySem.W.kitOne K (.ref C_NoName) (.ref C_NoName) = some true) (kq_NoName_TooMany : PySem.W.kitOne K (.ref C_NoName) (.ref C_TooMany) = some false) (kq_NoName_Lack : PySem.W.kitOne K (.ref C_NoName) (.ref C_Lack) = some false) (kq_NoName_ValueError : PySem.W.kitOne K (.ref C_NoName) (.type "ValueError") = some true)
    (TB : LamX.TabB base mg cL PL) (hcode : fd.code = .ref cL) (hPK : PK ≠ PL) : FnOk P w K mg base CX0 9 f fd ["_law_book", "_law_name"] (spLAsked P w C PK PL) := by
  have G_law_alike : FnOk P w K mg base CX0 4 fA fdA ["_law_found", "_law_due"] (spAlike 3) := ok_alike T D_law_alike 3
  have GX_Book_thing : FnOk P w K mg base (L2.CX P w) 3 fG fdG ["self", "name"] (spThingE P w C C_NoName) := ok_thingE T D_Book_thing.fn K_Book D_is_name D_is_int FE X_NoName
  have GX_Book_kind : FnOk P w K mg base (L2.CX P w) 4 fK fdK ["self", "name"] (spKindE P w C C_NoName) := ok_kindE T D_Book_kind.fn K_Book D_Book_thing D_is_name D_is_int FE X_NoName
  have GX_Book_parts : FnOk P w K mg base (L2.CX P w) 4 fPp fdPp ["self", "name"] (spPartsE P w C C_NoName) := ok_partsE T D_Book_parts.fn K_Book D_Book_thing D_is_name D_is_int FE X_NoName
  have cl := K_Book.cl
  refine D_law_asked.fn.okT sc_law_asked (fun vs H Q E h => ?_) (fun cdv A outer s H vs Q E hcd hr h => ?_)
  · obtain ⟨p, dx, lc, ld, lg, cs, ds, x, a, rfl, _⟩ := h
    rfl
  · obtain ⟨p, dx, lc, ld, lg, cs, ds, x, a, rfl, B, ty, hno, hsd, Tb, q⟩ := h
    obtain rfl : cdv = .ref cL := hcd.symm.trans hcode
    have ob := B.ob
    refine ⟨_,
      (pss_cons
        (ps_set (i := 2) sc_law_asked.nd rfl (.inl rfl) (pe_tup (pa_cons pe_str (pa_cons (pv 1) pa_nil))))
      (pss_cons
        (ps_if (pt_not (pt_val (pe_call G_law_alike (hr.mono (by omega)) (by rfl) D_law_alike.g D_law_alike.fn.kp D_law_alike.b .nil pass0 (pa_cons (pe_lamT (TLs PK PL) (k := 5) (Ng := N_law_why) D_law_why.fn D_law_why.b D_law_why.g (by rfl) (by rfl) sc_law_why (.inl rfl) (fun cdg => (why_gives T X_NoName g_HouseError g_NoThing g_TooMany g_Lack xm_NoName_HouseError kq_NoName_NoThing kq_NoName_NoName kq_NoName_TooMany kq_NoName_Lack kq_NoName_ValueError)) TB rfl (.tail _ (.head _)) (twoT hPK) (hr.mono (by omega)) (LamX.lamS_by (by rfl)) rfl (fun _ _ _ _ _ => rfl) (fun A2 outer2 s2 H2 E2 f2 c2 hr => (pe_meth (pv 0) K_Book.cl D_Book_thing.m GX_Book_thing (hr.mono (by omega)) D_Book_thing.b .nil (passes_call (takes_of rfl rfl rfl rfl) (fun _ _ _ _ h => h)) (pa_cons (pv 1) pa_nil)))) (pa_cons (pv 2) pa_nil)))))
          (pss_one
            (ps_ret pe_bl))
          pss_nil)
      (pss_cons
        (ps_if (pt_not (pt_val (pe_call G_law_alike (hr.mono (by omega)) (by rfl) D_law_alike.g D_law_alike.fn.kp D_law_alike.b .nil pass0 (pa_cons (pe_lamT (TLs PK PL) (k := 5) (Ng := N_law_why) D_law_why.fn D_law_why.b D_law_why.g (by rfl) (by rfl) sc_law_why (.inl rfl) (fun cdg => (why_gives T X_NoName g_HouseError g_NoThing g_TooMany g_Lack xm_NoName_HouseError kq_NoName_NoThing kq_NoName_NoName kq_NoName_TooMany kq_NoName_Lack kq_NoName_ValueError)) TB rfl (.tail _ (.head _)) (twoT hPK) (hr.mono (by omega)) (LamX.lamS_by (by rfl)) rfl (fun _ _ _ _ _ => rfl) (fun A2 outer2 s2 H2 E2 f2 c2 hr => (pe_meth (pv 0) K_Book.cl D_Book_kind.m GX_Book_kind (hr.mono (by omega)) D_Book_kind.b .nil (passes_call (takes_of rfl rfl rfl rfl) (fun _ _ _ _ h => h)) (pa_cons (pv 1) pa_nil)))) (pa_cons (pv 2) pa_nil)))))
          (pss_one
            (ps_ret pe_bl))
          pss_nil)
      (pss_one
        (ps_ret (pe_call G_law_alike (hr.mono (by omega)) (by rfl) D_law_alike.g D_law_alike.fn.kp D_law_alike.b .nil pass0 (pa_cons (pe_lamT (TLs PK PL) (k := 5) (Ng := N_law_why) D_law_why.fn D_law_why.b D_law_why.g (by rfl) (by rfl) sc_law_why (.inl rfl) (fun cdg => (why_gives T X_NoName g_HouseError g_NoThing g_TooMany g_Lack xm_NoName_HouseError kq_NoName_NoThing kq_NoName_NoName kq_NoName_TooMany kq_NoName_Lack kq_NoName_ValueError)) TB rfl (.tail _ (.head _)) (twoT hPK) (hr.mono (by omega)) (LamX.lamS_by (by rfl)) rfl (fun _ _ _ _ _ => rfl) (fun A2 outer2 s2 H2 E2 f2 c2 hr => (pe_meth (pv 0) K_Book.cl D_Book_parts.m GX_Book_parts (hr.mono (by omega)) D_Book_parts.b .nil (passes_call (takes_of rfl rfl rfl rfl) (fun _ _ _ _ h => h)) (pa_cons (pv 1) pa_nil)))) (pa_cons (pv 2) pa_nil))))))))
      , ?_⟩
    rw [show L2.start N_law_asked [V.ref p, x] = [some (.ref p), some x, none] from rfl]
    walk_at "x"
    refine w_new fun t1 H1 ht1 et1 k1 => ?_
    walk_at "g"
    have X0 : LamX.ExtN H H1 := LamX.ExtN.of k1
    have Tb0 := Tb.ext k1
    refine w_seq ?_
    have ob0 := (B.extN X0).ob
    walk_at "g"
    refine w_lam Tb0 fun A0 eA0 TA0 => ?_
    intro C0 Q0 kc0
    have xc0 := X0.trans (eA0.trans (LamX.ExtN.of kc0))
    have Bc0 := B.extN xc0
    have obc0 := Bc0.ob
    walk_at "x"
    refine ⟨p, dx, lc, ld, lg, cs, ds, x, a, rfl, Bc0, ty.kd (KD.extN xc0), fun n qc e hn => absurd (List.getElem?_eq_some_iff.mp hn).1 (hno n e), fun _ => ?_⟩
    refine fun dd0 C20 kd0 hdd0 edd0 => ⟨rfl, dd0, x, rfl, edd0, fun t20 D0 kt0 et20 => ?_⟩
    have xd0 := xc0.trans (LamX.ExtN.of (Same.trans kd0 kt0))
    have Td0 := TA0.ext (Same.trans kc0 (Same.trans kd0 kt0))
    have f10 : D0 t1 = some (.tup [.str "NoName", x]) := KT.extN ((eA0.trans (LamX.ExtN.of (Same.trans kc0 (Same.trans kd0 kt0))))) _ _ et1
    walk_at "x"
    refine ⟨_, _, rfl, SD.tup et20 f10 (by simp) (fun y hy => ?_), fun E0 ke0 => ?_⟩
    · rcases List.mem_cons.mp hy with rfl | hy
      · exact SD.sc trivial
      · rw [List.mem_singleton.mp hy]
        exact hsd _ (KT.extN xd0)
    have X1 := xd0.trans (LamX.ExtN.of ke0)
    have Tb1 := Td0.ext ke0
    have g11 := ke0 _ _ f10
    walk_at "g"
    refine w_seq ?_
    have ob1 := (B.extN X1).ob
    walk_at "g"
    refine w_lam Tb1 fun A1 eA1 TA1 => ?_
    intro C1 Q1 kc1
    have xc1 := X1.trans (eA1.trans (LamX.ExtN.of kc1))
    have Bc1 := B.extN xc1
    have obc1 := Bc1.ob
    walk_at "x"
    refine ⟨p, dx, lc, ld, lg, cs, ds, x, a, rfl, Bc1, ty.kd (KD.extN xc1), fun n qc e hn => absurd (List.getElem?_eq_some_iff.mp hn).1 (hno n e), fun _ => ?_⟩
    refine fun dd1 C21 kd1 hdd1 edd1 => ⟨rfl, dd1, x, rfl, edd1, fun t21 D1 kt1 et21 => ?_⟩
    have xd1 := xc1.trans (LamX.ExtN.of (Same.trans kd1 kt1))
    have Td1 := TA1.ext (Same.trans kc1 (Same.trans kd1 kt1))
    have f11 : D1 t1 = some (.tup [.str "NoName", x]) := KT.extN ((eA1.trans (LamX.ExtN.of (Same.trans kc1 (Same.trans kd1 kt1))))) _ _ g11
    walk_at "x"
    refine ⟨_, _, rfl, SD.tup et21 f11 (by simp) (fun y hy => ?_), fun E1 ke1 => ?_⟩
    · rcases List.mem_cons.mp hy with rfl | hy
      · exact SD.sc trivial
      · rw [List.mem_singleton.mp hy]
        exact hsd _ (KT.extN xd1)
    have X2 := xd1.trans (LamX.ExtN.of ke1)
    have Tb2 := Td1.ext ke1
    have g12 := ke1 _ _ f11
    walk_at "g"
    have ob2 := (B.extN X2).ob
    walk_at "g"
    refine w_lam Tb2 fun A2 eA2 TA2 => ?_
    intro C2 Q2 kc2
    have xc2 := X2.trans (eA2.trans (LamX.ExtN.of kc2))
    have Bc2 := B.extN xc2
    have obc2 := Bc2.ob
    walk_at "x"
    refine ⟨p, dx, lc, ld, lg, cs, ds, x, a, rfl, Bc2, ty.kd (KD.extN xc2), hno, ?_⟩
    refine fun dd2 C22 kd2 hdd2 edd2 => ⟨rfl, dd2, x, rfl, edd2, fun t22 D2 kt2 et22 => ?_⟩
    have xd2 := xc2.trans (LamX.ExtN.of (Same.trans kd2 kt2))
    have Td2 := TA2.ext (Same.trans kc2 (Same.trans kd2 kt2))
    have f12 : D2 t1 = some (.tup [.str "NoName", x]) := KT.extN ((eA2.trans (LamX.ExtN.of (Same.trans kc2 (Same.trans kd2 kt2))))) _ _ g12
    walk_at "x"
    refine ⟨_, _, rfl, SD.tup et22 f12 (by simp) (fun y hy => ?_), fun E2 ke2 => ?_⟩
    · rcases List.mem_cons.mp hy with rfl | hy
      · exact SD.sc trivial
      · rw [List.mem_singleton.mp hy]
        exact hsd _ (KT.extN xd2)
    have X3 := xd2.trans (LamX.ExtN.of ke2)
    have Tb3 := Td2.ext ke2
    have g13 := ke2 _ _ f12
    walk_at "g"
    exact q _ X3 Tb3
end
def spLaw (K : PySem.W.Frag) (PL PA : Addr) : Sp := fun vs H Q _ => ∃ (a : Addr) (ns : List Int), vs = [.ref a] ∧ SqL K H a (ns.map V.int) ∧ ns.length ≤ 63 ∧ H PL = some (.tbl #[]) ∧ H PA = some (.tbl #[]) ∧ ∀ H', Q (.bl true) H'
theorem line_lit {z : Str} (h : z.length ≤ 40 ∧ z.cps.toList.all (fun c => decide (c ∈ SG.cps.toList)) = true) : LineOk z := ⟨h.1, fun c hc => of_decide_eq_true (List.all_eq_true.mp h.2 c hc)⟩
theorem lab_lit {z : Str} (h : 1 ≤ z.length ∧ z.length ≤ 8 ∧ z.cps.toList.all (fun c => decide (c ∈ LTR.cps.toList)) = true) : LabOk z := ⟨h.1, h.2.1, fun c hc => of_decide_eq_true (List.all_eq_true.mp h.2.2 c hc)⟩
theorem ThAt.extN {H H' : Hp} {th : Addr} {cs : List (Addr × Ct)} (T : ThAt H th cs) (k : LamX.ExtN H H') : ThAt H' th cs := ⟨k _ _ T.at' (fun ps z => nomatch z), fun q hq => (T.ct q hq).kt (KT.extN k)⟩
theorem bk_nd : BK.Nodup := by
  unfold BK
  simp
theorem bk_scn : ScnOk BK := by
  have la : LabOk "a" := lab_lit (by decide +kernel)
  have lb : LabOk "b" := lab_lit (by decide +kernel)
  have ia : LineOk "a" := line_lit (by decide +kernel)
  have ib : LineOk "b" := line_lit (by decide +kernel)
  intro i c h
  have hl := (List.getElem?_eq_some_iff.mp h).1
  rw [bk_len] at hl
  rcases (by omega : i = 0 ∨ i = 1 ∨ i = 2 ∨ i = 3 ∨ i = 4 ∨ i = 5 ∨ i = 6 ∨ i = 7 ∨ i = 8 ∨ i = 9) with rfl | rfl | rfl | rfl | rfl | rfl | rfl | rfl | rfl | rfl <;> cases h
  · exact ⟨by decide, fun z hz => by cases hz⟩
  · refine ⟨by decide, fun z hz => ?_⟩
    rcases List.mem_cons.mp hz with rfl | hz
    · exact ia
    · rw [List.mem_singleton.mp hz]
      exact ib
  · exact ⟨by decide, fun e he => (by cases he), .nil, by decide⟩
  · refine ⟨by decide, fun e he => ?_, List.pairwise_singleton _ _, by decide⟩
    rw [List.mem_singleton.mp he]
    exact ⟨la, _, rfl, lit_ne2⟩
  · refine ⟨by decide, fun e he => ?_, List.pairwise_singleton _ _, by decide⟩
    rw [List.mem_singleton.mp he]
    exact ⟨lb, _, rfl, lit_ne3⟩
  · exact ⟨by decide, by decide, fun p hp => (by cases hp), ⟨_, rfl, rfl⟩, by decide⟩
  · refine ⟨by decide, by decide, fun p hp => ?_, ⟨_, rfl, rfl⟩, by decide⟩
    rw [List.mem_singleton.mp hp]
    exact ⟨_, rfl, rfl⟩
  · refine ⟨by decide, by decide, fun p hp => ?_, ⟨_, rfl, rfl⟩, by decide⟩
    simp only [List.mem_cons, List.not_mem_nil, or_false] at hp
    rcases hp with rfl | rfl <;> exact ⟨_, rfl, rfl⟩
  · refine ⟨by decide, by decide, fun p hp => ?_, ⟨_, rfl, rfl⟩, by decide⟩
    simp only [List.mem_cons, List.not_mem_nil, or_false] at hp
    rcases hp with rfl | rfl | rfl <;> exact ⟨_, rfl, rfl⟩
  · refine ⟨by decide, by decide, fun p hp => ?_, ⟨_, rfl, rfl⟩, by decide⟩
    simp only [List.mem_cons, List.not_mem_nil, or_false] at hp
    rcases hp with rfl | rfl | rfl | rfl <;> exact ⟨_, rfl, rfl⟩
theorem bk_all : ∀ (i : Nat) (c : Ct), BK[i]? = some c → CtOk BK (dsOf BK) c := by
  have la : LabOk "a" := lab_lit (by decide +kernel)
  have lb : LabOk "b" := lab_lit (by decide +kernel)
  have ia : LineOk "a" := line_lit (by decide +kernel)
  have ib : LineOk "b" := line_lit (by decide +kernel)
  intro i c h
  have hl := (List.getElem?_eq_some_iff.mp h).1
  rw [bk_len] at hl
  rcases (by omega : i = 0 ∨ i = 1 ∨ i = 2 ∨ i = 3 ∨ i = 4 ∨ i = 5 ∨ i = 6 ∨ i = 7 ∨ i = 8 ∨ i = 9) with rfl | rfl | rfl | rfl | rfl | rfl | rfl | rfl | rfl | rfl <;> cases h
  · exact ⟨by decide, fun z hz => by cases hz⟩
  · refine ⟨by decide, fun z hz => ?_⟩
    rcases List.mem_cons.mp hz with rfl | hz
    · exact ia
    · rw [List.mem_singleton.mp hz]
      exact ib
  · exact ⟨by decide, fun e he => (by cases he), .nil, by decide⟩
  · refine ⟨by decide, fun e he => ?_, List.pairwise_singleton _ _, by decide⟩
    rw [List.mem_singleton.mp he]
    exact ⟨la, _, rfl, lit_ne2⟩
  · refine ⟨by decide, fun e he => ?_, List.pairwise_singleton _ _, by decide⟩
    rw [List.mem_singleton.mp he]
    exact ⟨lb, _, rfl, lit_ne3⟩
  · exact ⟨by decide, by decide, fun p hp => (by cases hp), ⟨_, rfl, rfl⟩, by decide⟩
  · refine ⟨by decide, by decide, fun p hp => ?_, ⟨_, rfl, rfl⟩, by decide⟩
    rw [List.mem_singleton.mp hp]
    exact ⟨_, rfl, rfl⟩
  · refine ⟨by decide, by decide, fun p hp => ?_, ⟨_, rfl, rfl⟩, by decide⟩
    simp only [List.mem_cons, List.not_mem_nil, or_false] at hp
    rcases hp with rfl | rfl <;> exact ⟨_, rfl, rfl⟩
  · refine ⟨by decide, by decide, fun p hp => ?_, ⟨_, rfl, rfl⟩, by decide⟩
    simp only [List.mem_cons, List.not_mem_nil, or_false] at hp
    rcases hp with rfl | rfl | rfl <;> exact ⟨_, rfl, rfl⟩
  · refine ⟨by decide, by decide, fun p hp => ?_, ⟨_, rfl, rfl⟩, by decide⟩
    simp only [List.mem_cons, List.not_mem_nil, or_false] at hp
    rcases hp with rfl | rfl | rfl | rfl <;> exact ⟨_, rfl, rfl⟩
def spNameOfX (P : Program) (w : World) (C : Addr) : Sp := fun vs H Q _ => ∃ (p dx lc ld lg : Addr) (cs : List (Addr × Ct)) (ds : List Nat) (x : V) (Bd : Nat), vs = [.ref p, x] ∧ BookAt P w C H p dx lc ld lg cs ds ∧ DatT Bd H x ∧ Bd ≤ 1000 ∧ (∀ c, ¬ CtV (cs.map (·.2)) ds H x c) ∧ ∀ H', Same H H' → Q .non H'
section
variable {P : Program} {w : World} {K : PySem.W.Frag} {mg : Str → Option Value} {base : Heap} {C : Addr}
theorem ok_nameofX {f fC : Addr} {fd fdC : FuncData} (T : Txt K mg) (F : Fun K "name_of" "Book.name_of" s_Book_name_of f fd) (K_Book : Kl K mg "Book" C ["contents", "depths", "given"]) (D_is_content : Df K mg "is_content" s_is_content ["book", "thing"] fC fdC) (G_is_content : FnOk P w K mg base CX0 5 fC fdC ["book", "thing"] (spIsContentX P w C)) : FnOk P w K mg base CX0 6 f fd ["self", "thing"] (spNameOfX P w C) := by
  have cl := K_Book.cl
  have n3 := K_Book.na "given" (by simp)
  refine F.ok sc_Book_name_of (fun vs H Q E h => ?_) (fun cdv A outer s H vs Q E hr h => ?_)
  · obtain ⟨p, dx, lc, ld, lg, cs, ds, x, Bd, rfl, _⟩ := h
    rfl
  · obtain ⟨p, dx, lc, ld, lg, cs, ds, x, Bd, rfl, B, hd, hB, hno, q⟩ := h
    refine ⟨_,
      (pss_cons
        (ps_if (pt_not (pt_val (pe_call G_is_content (hr.mono (by omega)) (by rfl) D_is_content.g D_is_content.fn.kp D_is_content.b .nil pass0 (pa_cons (pv 0) (pa_cons (pv 1) pa_nil)))))
          (pss_one
            (ps_ret pe_non))
          pss_nil)
      (pss_one
        (ps_ret (pe_nget1 hr.units (pe_fldK (K := K) rfl (pv 0) rfl) (pv 1) ⟨rfl, rfl, rfl, rfl⟩))))
      , ?_⟩
    rw [show L2.start N_Book_name_of [V.ref p, x] = [some (.ref p), some x] from rfl]
    refine w_seq ?_
    walk_at "x"
    refine ⟨p, dx, lc, ld, lg, cs, ds, x, Bd, rfl, B, hd, hB, fun c hc => absurd hc (hno c), fun _ H1 k1 => ?_⟩
    walk_at "g"
    exact q H1 k1
end
section
variable {P : Program} {w : World} {K : PySem.W.Frag} {mg : Str → Option Value} {base : Heap}
theorem ok_law {f_NoName___init__ f_is_int f_is_text f_is_label f_rise f_are_ints f_rising_ints f_is_pair f_are_rows f_Book___init__ f_Book___len__ f_Book_named f_Book_name_of f_Book_thing f_Book_kind f_Book_parts f_is_name f_is_kind f_is_entry f_is_tree f_depth_of f_is_version f_is_content f_law_deck f_law_mixed f_law_draw f_law_text f_law_alike f_law_why f_law_odd f_law_bent_leaf f_law_bent_tree f_law_bent_version f_law_bent f_law_asked f C_Book C_NoThing C_TooMany C_NoName C_HouseError C_Lack cL PL cL_law_asked PL_law_asked : Addr} {fd_NoName___init__ fd_is_int fd_is_text fd_is_label fd_rise fd_are_ints fd_rising_ints fd_is_pair fd_are_rows fd_Book___init__ fd_Book___len__ fd_Book_named fd_Book_name_of fd_Book_thing fd_Book_kind fd_Book_parts fd_is_name fd_is_kind fd_is_entry fd_is_tree fd_depth_of fd_is_version fd_is_content fd_law_deck fd_law_mixed fd_law_draw fd_law_text fd_law_alike fd_law_why fd_law_odd fd_law_bent_leaf fd_law_bent_tree fd_law_bent_version fd_law_bent fd_law_asked fd : FuncData} (T : Txt K mg)
    (F_NoName___init__ : Fun K "__init__" "NoName.__init__" s_NoName___init__ f_NoName___init__ fd_NoName___init__)
    (D_is_int : DfD K mg "is_int" s_is_int ["thing", "least"] [.int 0] f_is_int fd_is_int)
    (D_is_text : DfD K mg "is_text" s_is_text ["thing", "most"] [.int 40] f_is_text fd_is_text)
    (D_is_label : Df K mg "is_label" s_is_label ["thing"] f_is_label fd_is_label)
    (D_rise : Df K mg "rise" s_rise ["row"] f_rise fd_rise)
    (D_are_ints : Df K mg "are_ints" s_are_ints ["thing"] f_are_ints fd_are_ints)
    (D_rising_ints : Df K mg "rising_ints" s_rising_ints ["thing"] f_rising_ints fd_rising_ints)
    (D_is_pair : Df K mg "is_pair" s_is_pair ["thing"] f_is_pair fd_is_pair)
    (D_are_rows : Df K mg "are_rows" s_are_rows ["thing"] f_are_rows fd_are_rows)
    (D_Book___init__ : DfM K C_Book "__init__" "Book.__init__" s_Book___init__ ["self"] f_Book___init__ fd_Book___init__)
    (D_Book___len__ : DfM K C_Book "__len__" "Book.__len__" s_Book___len__ ["self"] f_Book___len__ fd_Book___len__)
    (D_Book_named : DfM K C_Book "named" "Book.named" s_Book_named ["self", "content"] f_Book_named fd_Book_named)
    (D_Book_name_of : DfM K C_Book "name_of" "Book.name_of" s_Book_name_of ["self", "thing"] f_Book_name_of fd_Book_name_of)
    (D_Book_thing : DfM K C_Book "thing" "Book.thing" s_Book_thing ["self", "name"] f_Book_thing fd_Book_thing)
    (D_Book_kind : DfM K C_Book "kind" "Book.kind" s_Book_kind ["self", "name"] f_Book_kind fd_Book_kind)
    (D_Book_parts : DfM K C_Book "parts" "Book.parts" s_Book_parts ["self", "name"] f_Book_parts fd_Book_parts)
    (D_is_name : Df K mg "is_name" s_is_name ["book", "thing"] f_is_name fd_is_name)
    (D_is_kind : Df K mg "is_kind" s_is_kind ["book", "thing", "kind"] f_is_kind fd_is_kind)
    (D_is_entry : Df K mg "is_entry" s_is_entry ["book", "thing"] f_is_entry fd_is_entry)
    (D_is_tree : Df K mg "is_tree" s_is_tree ["book", "entries"] f_is_tree fd_is_tree)
    (D_depth_of : Df K mg "depth_of" s_depth_of ["book", "content"] f_depth_of fd_depth_of)
    (D_is_version : Df K mg "is_version" s_is_version ["book", "content"] f_is_version fd_is_version)
    (D_is_content : Df K mg "is_content" s_is_content ["book", "thing"] f_is_content fd_is_content)
    (D_law_deck : Df K mg "_law_deck" s_law_deck ["_law_script"] f_law_deck fd_law_deck)
    (D_law_mixed : Df K mg "_law_mixed" s_law_mixed ["_law_cell", "_law_turn"] f_law_mixed fd_law_mixed)
    (D_law_draw : Df K mg "_law_draw" s_law_draw ["_law_deck_here", "_law_many"] f_law_draw fd_law_draw)
    (D_law_text : Df K mg "_law_text" s_law_text ["_law_deck_here", "_law_most"] f_law_text fd_law_text)
    (D_law_alike : Df K mg "_law_alike" s_law_alike ["_law_found", "_law_due"] f_law_alike fd_law_alike)
    (D_law_why : Df K mg "_law_why" s_law_why ["_law_deed"] f_law_why fd_law_why)
    (D_law_odd : Df K mg "_law_odd" s_law_odd ["_law_deck_here"] f_law_odd fd_law_odd)
    (D_law_bent_leaf : Df K mg "_law_bent_leaf" s_law_bent_leaf ["_law_deck_here"] f_law_bent_leaf fd_law_bent_leaf)
    (D_law_bent_tree : Df K mg "_law_bent_tree" s_law_bent_tree ["_law_deck_here", "_law_trees", "_law_stands", "_law_many"] f_law_bent_tree fd_law_bent_tree)
    (D_law_bent_version : Df K mg "_law_bent_version" s_law_bent_version ["_law_deck_here", "_law_trees", "_law_stands", "_law_many"] f_law_bent_version fd_law_bent_version)
    (D_law_bent : Df K mg "_law_bent" s_law_bent ["_law_deck_here", "_law_trees", "_law_stands", "_law_many"] f_law_bent fd_law_bent)
    (D_law_asked : Df K mg "_law_asked" s_law_asked ["_law_book", "_law_name"] f_law_asked fd_law_asked)
    (D_law : Df K mg "law" s_law ["_law_script"] f fd)
    (K_Book : Kl K mg "Book" C_Book ["contents", "depths", "given"]) (M_Book : Mk K C_Book f_Book___init__)
    (X_NoThing : Exn K mg "NoThing" C_NoThing)
    (X_TooMany : Exn K mg "TooMany" C_TooMany)
    (X_NoName : ExnI K mg "NoName" C_NoName f_NoName___init__ fd_NoName___init__ ["self", "name"] ["name"])
    (g_HouseError : mg "HouseError" = some (.ref C_HouseError))
    (g_Lack : mg "Lack" = some (.ref C_Lack))
    (xm_NoThing_HouseError : PySem.W.exmOne K (.ref C_NoThing) (.ref C_HouseError) = some true)
    (xm_NoName_HouseError : PySem.W.exmOne K (.ref C_NoName) (.ref C_HouseError) = some true)
    (kq_NoThing_NoThing : PySem.W.kitOne K (.ref C_NoThing) (.ref C_NoThing) = some true)
    (kq_NoThing_NoName : PySem.W.kitOne K (.ref C_NoThing) (.ref C_NoName) = some false)
    (kq_NoThing_TooMany : PySem.W.kitOne K (.ref C_NoThing) (.ref C_TooMany) = some false)
    (kq_NoThing_Lack : PySem.W.kitOne K (.ref C_NoThing) (.ref C_Lack) = some false)
    (kq_NoThing_ValueError : PySem.W.kitOne K (.ref C_NoThing) (.type "ValueError") = some true)
    (kq_NoName_NoName : PySem.W.kitOne K (.ref C_NoName) (.ref C_NoName) = some true)
    (kq_NoName_NoThing : PySem.W.kitOne K (.ref C_NoName) (.ref C_NoThing) = some false)
    (kq_NoName_TooMany : PySem.W.kitOne K (.ref C_NoName) (.ref C_TooMany) = some false)
    (kq_NoName_Lack : PySem.W.kitOne K (.ref C_NoName) (.ref C_Lack) = some false)
    (kq_NoName_ValueError : PySem.W.kitOne K (.ref C_NoName) (.type "ValueError") = some true)
    (EC_NoThing : ExcC K C_NoThing)
    (TB : LamX.TabB base mg cL PL) (hcode : fd.code = .ref cL)
    (TB_law_asked : LamX.TabB base mg cL_law_asked PL_law_asked) (hcode_law_asked : fd_law_asked.code = .ref cL_law_asked)
    (hPP_law_asked : PL ≠ PL_law_asked)
    : FnOk P w K mg base CX0 10 f fd ["_law_script"] (spLaw K PL PL_law_asked) := by
  obtain ⟨ds_is_int, V_is_int, B_is_int⟩ := D_is_int.b
  obtain ⟨ds_is_text, V_is_text, B_is_text⟩ := D_is_text.b
  obtain ⟨tk_SIGNS, g_SIGNS⟩ := T.g_SIGNS
  obtain ⟨tk_LETTERS, g_LETTERS⟩ := T.g_LETTERS
  obtain ⟨tk_MOST, g_MOST⟩ := T.g_MOST
  obtain ⟨tk_DEEP, g_DEEP⟩ := T.g_DEEP
  have g_NoThing := X_NoThing.g
  have g_TooMany := X_TooMany.g
  have g_NoName := X_NoName.g
  have G_law_deck : FnOk P w K mg base CX0 1 f_law_deck fd_law_deck ["_law_script"] (spDeck K) := ok_deck T D_law_deck.fn
  have G_law_draw : FnOk P w K mg base CX0 2 f_law_draw fd_law_draw ["_law_deck_here", "_law_many"] spDraw := ok_draw T D_law_draw.fn D_law_mixed
  have G_law_text : FnOk P w K mg base CX0 3 f_law_text fd_law_text ["_law_deck_here", "_law_most"] spText := ok_text T D_law_text.fn D_law_mixed D_law_draw
  have G_law_bent : FnOk P w K mg base CX0 5 f_law_bent fd_law_bent ["_law_deck_here", "_law_trees", "_law_stands", "_law_many"] spBentB := ok_bentB T D_law_bent.fn D_law_mixed D_law_draw D_law_text D_law_odd D_law_bent_leaf D_law_bent_tree D_law_bent_version
  have G_Book___init__ : FnOk P w K mg base CX0 1 f_Book___init__ fd_Book___init__ ["self"] (spBookInit P w C_Book) := ok_bookinit T D_Book___init__.fn K_Book
  have G_Book_thing : FnOk P w K mg base CX0 3 f_Book_thing fd_Book_thing ["self", "name"] (spThing P w C_Book) := ok_thing T D_Book_thing.fn K_Book D_is_name D_is_int
  have G_is_content : FnOk P w K mg base CX0 5 f_is_content fd_is_content ["book", "thing"] (spIsContent P w C_Book) := ok_iscontent T D_is_content.fn K_Book D_is_tree D_is_version D_depth_of D_are_rows D_is_entry D_rise D_is_pair D_is_label D_rising_ints D_are_ints D_is_kind D_is_name D_is_int D_is_text
  have G_is_contentX : FnOk P w K mg base CX0 5 f_is_content fd_is_content ["book", "thing"] (spIsContentX P w C_Book) := ok_iscontentX T D_is_content.fn K_Book D_is_tree D_is_version D_depth_of D_are_rows D_is_entry D_rise D_is_pair D_is_label D_rising_ints D_are_ints D_is_kind D_is_name D_is_int D_is_text
  have G_Book_named : FnOk P w K mg base CX0 6 f_Book_named fd_Book_named ["self", "content"] (spNamed P w C_Book) := ok_named T D_Book_named.fn K_Book D_is_content D_depth_of G_is_content
  have GX_Book_named : FnOk P w K mg base (L2.CX P w) 6 f_Book_named fd_Book_named ["self", "content"] (spNamedE P w C_Book C_NoThing C_TooMany) := ok_namedE T D_Book_named.fn K_Book D_is_content G_is_contentX X_NoThing X_TooMany
  have G_Book_name_of : FnOk P w K mg base CX0 6 f_Book_name_of fd_Book_name_of ["self", "thing"] (spNameOfX P w C_Book) := ok_nameofX T D_Book_name_of.fn K_Book D_is_content G_is_contentX
  have G_law_alike : FnOk P w K mg base CX0 4 f_law_alike fd_law_alike ["_law_found", "_law_due"] (spAlike 3) := ok_alike T D_law_alike 3
  have G_Book___len__ : FnOk P w K mg base CX0 1 f_Book___len__ fd_Book___len__ ["self"] (spBLen P w C_Book) := ok_blen T D_Book___len__.fn K_Book
  have G_law_asked : FnOk P w K mg base CX0 9 f_law_asked fd_law_asked ["_law_book", "_law_name"] (spLAsked P w C_Book PL PL_law_asked) := ok_lasked T D_law_asked D_law_alike D_law_why K_Book D_Book_thing D_Book_kind D_Book_parts D_is_name D_is_int F_NoName___init__ X_NoName g_HouseError g_NoThing g_TooMany g_Lack xm_NoName_HouseError kq_NoName_NoThing kq_NoName_NoName kq_NoName_TooMany kq_NoName_Lack kq_NoName_ValueError TB_law_asked hcode_law_asked hPP_law_asked
  have cl := K_Book.cl
  refine D_law.fn.okT sc_law (fun vs H Q E h => ?_) (fun cdv A outer s H vs Q E hcd hr h => ?_)
  · obtain ⟨a, ns, rfl, _⟩ := h
    rfl
  · obtain ⟨a0, ns0, rfl, hS0, hl0, hPL, hPA, q'⟩ := h
    obtain rfl : cdv = .ref cL := hcd.symm.trans hcode
    refine ⟨_,
      (pss_cons
        (ps_set (i := 1) sc_law.nd rfl (.inl rfl) (pe_call G_law_deck (hr.mono (by omega)) (by rfl) D_law_deck.g D_law_deck.fn.kp D_law_deck.b .nil pass0 (pa_cons (pv 0) pa_nil)))
      (pss_cons
        (ps_set (i := 2) sc_law.nd rfl (.inl rfl) (pe_lst (pa_cons (pe_tup (pa_cons pe_str (pa_cons (pe_tup pa_nil) pa_nil))) (pa_cons (pe_tup (pa_cons pe_str (pa_cons (pe_tup (pa_cons pe_str (pa_cons pe_str pa_nil))) pa_nil))) (pa_cons (pe_tup (pa_cons pe_str (pa_cons (pe_tup pa_nil) pa_nil))) (pa_cons (pe_tup (pa_cons pe_str (pa_cons (pe_tup (pa_cons (pe_tup (pa_cons pe_str (pa_cons pe_int pa_nil))) pa_nil)) pa_nil))) (pa_cons (pe_tup (pa_cons pe_str (pa_cons (pe_tup (pa_cons (pe_tup (pa_cons pe_str (pa_cons pe_int pa_nil))) pa_nil)) pa_nil))) pa_nil)))))))
      (pss_cons
        (ps_set (i := 2) sc_law.nd rfl (.inl rfl) (pe_op op_cat (pv 2) (pe_lst (pa_cons (pe_tup (pa_cons pe_str (pa_cons (pe_tup pa_nil) (pa_cons pe_int (pa_cons pe_int pa_nil))))) (pa_cons (pe_tup (pa_cons pe_str (pa_cons (pe_tup (pa_cons pe_int pa_nil)) (pa_cons pe_int (pa_cons pe_int pa_nil))))) (pa_cons (pe_tup (pa_cons pe_str (pa_cons (pe_tup (pa_cons pe_int (pa_cons pe_int pa_nil))) (pa_cons pe_int (pa_cons pe_int pa_nil))))) pa_nil))))))
      (pss_cons
        (ps_set (i := 2) sc_law.nd rfl (.inl rfl) (pe_op op_cat (pv 2) (pe_lst (pa_cons (pe_tup (pa_cons pe_str (pa_cons (pe_tup (pa_cons pe_int (pa_cons pe_int (pa_cons pe_int pa_nil)))) (pa_cons pe_int (pa_cons (pe_op op_pow pe_int pe_int) pa_nil))))) (pa_cons (pe_tup (pa_cons pe_str (pa_cons (pe_tup (pa_cons pe_int (pa_cons pe_int (pa_cons pe_int (pa_cons pe_int pa_nil))))) (pa_cons pe_int (pa_cons pe_int pa_nil))))) pa_nil)))))
      (pss_cons
        (ps_set (i := 3) sc_law.nd rfl (.inr rfl) (pe_make0 M_Book G_Book___init__ (hr.mono (by omega)) (by rfl) K_Book.g D_Book___init__.b .nil pass0))
      (pss_cons
        (ps_for PassesOwn.never rfl (pi_list (pv 2)) (pg_name (i := 4) sc_law.nd rfl (.inl rfl))
          (pss_one
            (ps_expr (pe_meth (pv 3) K_Book.cl D_Book_named.m G_Book_named (hr.mono (by omega)) D_Book_named.b .nil pass0 (pa_cons (pv 4) pa_nil)))))
      (pss_cons
        (ps_for PassesOwn.never rfl (pi_range1 (by rfl) T.n_range (pa_cons pe_int pa_nil)) (pg_name (i := 5) sc_law.nd rfl (.inl rfl))
          (pss_cons
            (ps_set (i := 6) sc_law.nd rfl (.inr rfl) (pe_call G_law_bent (hr.mono (by omega)) (by rfl) D_law_bent.g D_law_bent.fn.kp D_law_bent.b .nil pass0 (pa_cons (pv 1) (pa_cons (pe_lst (pa_cons pe_int (pa_cons pe_int (pa_cons pe_int pa_nil)))) (pa_cons (pe_lst (pa_cons pe_int (pa_cons pe_int (pa_cons pe_int (pa_cons pe_int (pa_cons pe_int pa_nil)))))) (pa_cons (pe_callB (r := rLen K) c_len (by rfl) T.n_len (by decide +kernel) (pa_cons (pv 2) pa_nil)) pa_nil))))))
          (pss_cons
            (ps_if (pt_not (pt_val (pe_call G_law_alike (hr.mono (by omega)) (by rfl) D_law_alike.g D_law_alike.fn.kp D_law_alike.b .nil pass0 (pa_cons (pe_lamT (TLs PL PL_law_asked) (k := 7) (Ng := N_law_why) D_law_why.fn D_law_why.b D_law_why.g (by rfl) (by rfl) sc_law_why (.inl rfl) (fun cdg => (why_gives_NoThing T EC_NoThing g_HouseError g_NoThing g_NoName g_TooMany g_Lack xm_NoThing_HouseError kq_NoThing_NoThing kq_NoThing_NoName kq_NoThing_TooMany kq_NoThing_Lack kq_NoThing_ValueError)) TB rfl (.head _) (twoH hPP_law_asked) (hr.mono (by omega)) (LamX.lamS_by (by rfl)) rfl (fun _ _ _ _ _ => rfl) (fun A2 outer2 s2 H2 E2 f2 c2 hr => (pe_meth (pv 3) K_Book.cl D_Book_named.m GX_Book_named (hr.mono (by omega)) D_Book_named.b .nil (passes_call (takes_of rfl rfl rfl rfl) (fun _ _ _ _ h => h)) (pa_cons (pv 6) pa_nil)))) (pa_cons (pe_tup (pa_cons pe_str (pa_cons pe_non pa_nil))) pa_nil)))))
              (pss_one
                (ps_ret pe_bl))
              pss_nil)
          (pss_cons
            (ps_if (PW.pt (pw_or (pt_cmpR o_notN (pe_meth (pv 3) K_Book.cl D_Book_name_of.m G_Book_name_of (hr.mono (by omega)) D_Book_name_of.b .nil pass0 (pa_cons (pv 6) pa_nil)) pe_non (nomark _)) (pw_or1 (pt_cmpR op_ne (pe_callB (c_lenO D_Book___len__.m G_Book___len__ (hr.mono (by omega)) D_Book___len__.b pass0) (by rfl) T.n_len (by decide +kernel) (pa_cons (pv 3) pa_nil)) (pe_callB (r := rLen K) c_len (by rfl) T.n_len (by decide +kernel) (pa_cons (pv 2) pa_nil)) (nomark _)))))
              (pss_one
                (ps_ret pe_bl))
              pss_nil)
          (pss_cons
            (ps_if (PW.pt (pw_or (pt_not (pt_val (pe_call G_law_asked (hr.mono (by omega)) (by rfl) D_law_asked.g D_law_asked.fn.kp D_law_asked.b .nil pass0 (pa_cons (pv 3) (pa_cons (pe_op op_add (pe_callB (r := rLen K) c_len (by rfl) T.n_len (by decide +kernel) (pa_cons (pv 2) pa_nil)) (pe_call G_law_draw (hr.mono (by omega)) (by rfl) D_law_draw.g D_law_draw.fn.kp D_law_draw.b .nil pass0 (pa_cons (pv 1) (pa_cons pe_int pa_nil)))) pa_nil))))) (pw_or1 (pt_not (pt_val (pe_call G_law_asked (hr.mono (by omega)) (by rfl) D_law_asked.g D_law_asked.fn.kp D_law_asked.b .nil pass0 (pa_cons (pv 3) (pa_cons (pe_op op_sub (pe_un un_neg pe_int) (pe_call G_law_draw (hr.mono (by omega)) (by rfl) D_law_draw.g D_law_draw.fn.kp D_law_draw.b .nil pass0 (pa_cons (pv 1) (pa_cons pe_int pa_nil)))) pa_nil))))))))
              (pss_one
                (ps_ret pe_bl))
              pss_nil)
          (pss_one
            (ps_if (pt_not (pt_val (pe_call G_law_asked (hr.mono (by omega)) (by rfl) D_law_asked.g D_law_asked.fn.kp D_law_asked.b .nil pass0 (pa_cons (pv 3) (pa_cons (pe_ix (r := rIxL K) ix_list (pe_lst (pa_cons pe_non (pa_cons pe_bl (pa_cons pe_str (pa_cons (pe_tup (pa_cons pe_int pa_nil)) (pa_cons pe_str (pa_cons (pe_op op_pow pe_int pe_int) pa_nil))))))) (pe_call G_law_draw (hr.mono (by omega)) (by rfl) D_law_draw.g D_law_draw.fn.kp D_law_draw.b .nil pass0 (pa_cons (pv 1) (pa_cons pe_int pa_nil))) (fun _ _ => rfl)) pa_nil)))))
              (pss_one
                (ps_ret pe_bl))
              pss_nil)))))))
      (pss_cons
        (ps_for PassesOwn.never rfl (pi_range1 (by rfl) T.n_range (pa_cons (pe_callB (r := rLen K) c_len (by rfl) T.n_len (by decide +kernel) (pa_cons (pv 2) pa_nil)) pa_nil)) (pg_name (i := 7) sc_law.nd rfl (.inl rfl))
          (pss_one
            (ps_if (PW.pt (pw_or (pt_not (pt_val (pe_call G_law_alike (hr.mono (by omega)) (by rfl) D_law_alike.g D_law_alike.fn.kp D_law_alike.b .nil pass0 (pa_cons (pe_meth (pv 3) K_Book.cl D_Book_thing.m G_Book_thing (hr.mono (by omega)) D_Book_thing.b .nil pass0 (pa_cons (pv 7) pa_nil)) (pa_cons (pe_ix (r := rIxL K) ix_list (pv 2) (pv 7) (fun _ _ => rfl)) pa_nil))))) (pw_or1 (pt_cmpR op_ne (pe_meth (pv 3) K_Book.cl D_Book_named.m G_Book_named (hr.mono (by omega)) D_Book_named.b .nil pass0 (pa_cons (pe_ix (r := rIxL K) ix_list (pv 2) (pv 7) (fun _ _ => rfl)) pa_nil)) (pv 7) (nomark _)))))
              (pss_one
                (ps_ret pe_bl))
              pss_nil)))
      (pss_one
        (ps_ret (pe_call G_law_alike (hr.mono (by omega)) (by rfl) D_law_alike.g D_law_alike.fn.kp D_law_alike.b .nil pass0 (pa_cons (pe_meth (pv 3) K_Book.cl D_Book_named.m G_Book_named (hr.mono (by omega)) D_Book_named.b .nil pass0 (pa_cons (pe_tup (pa_cons pe_str (pa_cons (pe_tup (pa_cons (pe_op o_addS (pe_call G_law_text (hr.mono (by omega)) (by rfl) D_law_text.g D_law_text.fn.kp D_law_text.b .nil pass0 (pa_cons (pv 1) (pa_cons pe_int pa_nil))) pe_str) pa_nil)) pa_nil))) pa_nil)) (pa_cons (pe_callB (r := rLen K) c_len (by rfl) T.n_len (by decide +kernel) (pa_cons (pv 2) pa_nil)) pa_nil)))))))))))))
      , ?_⟩
    rw [show L2.start N_law [V.ref a0] = [some (.ref a0), none, none, none, none, none, none, none] from rfl]
    walk_at "x"
    refine w_deck hS0 fun H1 d c k1 hd0 hc0 D1 => ?_
    walk_at "g"
    refine w_new fun r0 G2 hr0 fr0 kk2 => ?_
    walk_at "g"
    refine w_new fun t0 G3 ht0 ft0 kk3 => ?_
    walk_at "g"
    refine w_new fun r1 G4 hr1 fr1 kk4 => ?_
    walk_at "g"
    refine w_new fun t1 G5 ht1 ft1 kk5 => ?_
    walk_at "g"
    refine w_new fun r2 G6 hr2 fr2 kk6 => ?_
    walk_at "g"
    refine w_new fun t2 G7 ht2 ft2 kk7 => ?_
    walk_at "g"
    refine w_new fun e3 G8 he3 fe3 kk8 => ?_
    walk_at "g"
    refine w_new fun r3 G9 hr3 fr3 kk9 => ?_
    walk_at "g"
    refine w_new fun t3 G10 ht3 ft3 kk10 => ?_
    walk_at "g"
    refine w_new fun e4 G11 he4 fe4 kk11 => ?_
    walk_at "g"
    refine w_new fun r4 G12 hr4 fr4 kk12 => ?_
    walk_at "g"
    refine w_new fun t4 G13 ht4 ft4 kk13 => ?_
    walk_at "g"
    refine w_new fun la G14 hla fla kk14 => ?_
    walk_at "g"
    refine w_new fun r5 G15 hr5 fr5 kk15 => ?_
    walk_at "g"
    refine w_new fun t5 G16 ht5 ft5 kk16 => ?_
    walk_at "g"
    refine w_new fun r6 G17 hr6 fr6 kk17 => ?_
    walk_at "g"
    refine w_new fun t6 G18 ht6 ft6 kk18 => ?_
    walk_at "g"
    refine w_new fun r7 G19 hr7 fr7 kk19 => ?_
    walk_at "g"
    refine w_new fun t7 G20 ht7 ft7 kk20 => ?_
    walk_at "g"
    refine w_new fun lb G21 hlb flb kk21 => ?_
    walk_at "g"
    refine w_cat ((Same.trans kk15 (Same.trans kk16 (Same.trans kk17 (Same.trans kk18 (Same.trans kk19 (Same.trans kk20 kk21)))))) _ _ fla) flb (show (5 + 3 : Nat) ≤ sizeLine by decide) fun lcc G22 hlcc flc kk22 => ?_
    walk_at "g"
    refine w_new fun r8 G23 hr8 fr8 kk23 => ?_
    walk_at "g"
    refine w_new fun t8 G24 ht8 ft8 kk24 => ?_
    walk_at "g"
    refine w_new fun r9 G25 hr9 fr9 kk25 => ?_
    walk_at "g"
    refine w_new fun t9 G26 ht9 ft9 kk26 => ?_
    walk_at "g"
    refine w_new fun ld G27 hld fld kk27 => ?_
    walk_at "g"
    refine w_cat ((Same.trans kk23 (Same.trans kk24 (Same.trans kk25 (Same.trans kk26 kk27)))) _ _ flc) fld (show (8 + 2 : Nat) ≤ sizeLine by decide) fun th G28 hth fth kk28 => ?_
    walk_at "g"
    have m27 : Same H1 G27 := (Same.trans kk2 (Same.trans kk3 (Same.trans kk4 (Same.trans kk5 (Same.trans kk6 (Same.trans kk7 (Same.trans kk8 (Same.trans kk9 (Same.trans kk10 (Same.trans kk11 (Same.trans kk12 (Same.trans kk13 (Same.trans kk14 (Same.trans kk15 (Same.trans kk16 (Same.trans kk17 (Same.trans kk18 (Same.trans kk19 (Same.trans kk20 (Same.trans kk21 (Same.trans kk22 (Same.trans kk23 (Same.trans kk24 (Same.trans kk25 (Same.trans kk26 kk27)))))))))))))))))))))))))
    have mm28 : Same G27 G28 := kk28
    have mm27 : Same G26 G28 := Same.trans kk27 mm28
    have mm26 : Same G25 G28 := Same.trans kk26 mm27
    have mm25 : Same G24 G28 := Same.trans kk25 mm26
    have mm24 : Same G23 G28 := Same.trans kk24 mm25
    have mm23 : Same G22 G28 := Same.trans kk23 mm24
    have mm22 : Same G21 G28 := Same.trans kk22 mm23
    have mm21 : Same G20 G28 := Same.trans kk21 mm22
    have mm20 : Same G19 G28 := Same.trans kk20 mm21
    have mm19 : Same G18 G28 := Same.trans kk19 mm20
    have mm18 : Same G17 G28 := Same.trans kk18 mm19
    have mm17 : Same G16 G28 := Same.trans kk17 mm18
    have mm16 : Same G15 G28 := Same.trans kk16 mm17
    have mm15 : Same G14 G28 := Same.trans kk15 mm16
    have mm14 : Same G13 G28 := Same.trans kk14 mm15
    have mm13 : Same G12 G28 := Same.trans kk13 mm14
    have mm12 : Same G11 G28 := Same.trans kk12 mm13
    have mm11 : Same G10 G28 := Same.trans kk11 mm12
    have mm10 : Same G9 G28 := Same.trans kk10 mm11
    have mm9 : Same G8 G28 := Same.trans kk9 mm10
    have mm8 : Same G7 G28 := Same.trans kk8 mm9
    have mm7 : Same G6 G28 := Same.trans kk7 mm8
    have mm6 : Same G5 G28 := Same.trans kk6 mm7
    have mm5 : Same G4 G28 := Same.trans kk5 mm6
    have mm4 : Same G3 G28 := Same.trans kk4 mm5
    have mm3 : Same G2 G28 := Same.trans kk3 mm4
    have mm2 : Same H1 G28 := Same.trans kk2 mm3
    have xr0 := mm3 _ _ fr0
    have xt0 := mm4 _ _ ft0
    have xr1 := mm5 _ _ fr1
    have xt1 := mm6 _ _ ft1
    have xr2 := mm7 _ _ fr2
    have xt2 := mm8 _ _ ft2
    have xe3 := mm9 _ _ fe3
    have xr3 := mm10 _ _ fr3
    have xt3 := mm11 _ _ ft3
    have xe4 := mm12 _ _ fe4
    have xr4 := mm13 _ _ fr4
    have xt4 := mm14 _ _ ft4
    have xr5 := mm16 _ _ fr5
    have xt5 := mm17 _ _ ft5
    have xr6 := mm18 _ _ fr6
    have xt6 := mm19 _ _ ft6
    have xr7 := mm20 _ _ fr7
    have xt7 := mm21 _ _ ft7
    have xr8 := mm24 _ _ fr8
    have xt8 := mm25 _ _ ft8
    have xr9 := mm26 _ _ fr9
    have xt9 := mm27 _ _ ft9
    have D28 : Deck G28 d c 0 := D1.kp (M := []) (Kp.of mm2) (by simp) (by simp)
    obtain ⟨cs, hcs, T28⟩ : ∃ cs : List (Addr × Ct), cs.map (·.2) = BK ∧ ThAt G28 th cs := by
      refine ⟨[(t0, .leaf []), (t1, .leaf ["a", "b"]), (t2, .tree []), (t3, .tree [("a", 0)]), (t4, .tree [("b", 3)]), (t5, .ver [] 2 7), (t6, .ver [5] 3 7), (t7, .ver [5, 6] 3 0), (t8, .ver [5, 6, 7] 3 (10 ^ 18)), (t9, .ver [5, 6, 7, 8] 4 1)], rfl, fth, fun q hq => ?_⟩
      simp only [List.mem_cons, List.not_mem_nil, or_false] at hq
      rcases hq with rfl | rfl | rfl | rfl | rfl | rfl | rfl | rfl | rfl | rfl
      · exact ⟨r0, xt0, xr0⟩
      · exact ⟨r1, xt1, xr1⟩
      · exact ⟨r2, [], xt2, xr2, rfl, by simp⟩
      · exact ⟨r3, [(e3, "a", 0)], xt3, xr3, rfl, fun q hq => by rw [List.mem_singleton.mp hq]; exact xe3⟩
      · exact ⟨r4, [(e4, "b", 3)], xt4, xr4, rfl, fun q hq => by rw [List.mem_singleton.mp hq]; exact xe4⟩
      · exact ⟨r5, xt5, xr5⟩
      · exact ⟨r6, xt6, xr6⟩
      · exact ⟨r7, xt7, xr7⟩
      · exact ⟨r8, by rw [xt8, p18]; rfl, xr8⟩
      · exact ⟨r9, xt9, xr9⟩
    have s028 : Same H G28 := Same.trans k1 mm2
    have Tb28 : LamX.Tabs (TLs PL PL_law_asked) G28 := tabs2 (s028 _ _ hPL) (s028 _ _ hPA)
    clear xr0 xt0 xr1 xt1 xr2 xt2 xe3 xr3 xt3 xe4 xr4 xt4 xr5 xt5 xr6 xt6 xr7 xt7 xr8 xt8 xr9 xt9 fth
    clear mm2 mm3 mm4 mm5 mm6 mm7 mm8 mm9 mm10 mm11 mm12 mm13 mm14 mm15 mm16 mm17 mm18 mm19 mm20 mm21 mm22 mm23 mm24 mm25 mm26 mm27 mm28
    have hcl : cs.length = 10 := by
      have := congrArg List.length hcs
      rw [List.length_map, bk_len] at this
      exact this
    have hth28 := T28.at'
    have hthd : th ≠ d := by
      obtain ⟨⟨xd, exd⟩, _⟩ := D1.at
      have : G27 d = some (.lst xd) := m27 _ _ exd
      exact (ne_of_none this hth).symm
    refine w_make' fun p dx H2 hp hdx hne e2 k2 => ?_
    refine ⟨p, dx, rfl, e2, fun lc ld lg H3 hlc hld hlg B3 k3 => ⟨rfl, ?_⟩⟩
    have s3 : Same G28 H3 := fun b o e => k3 _ _ (by simpa using ne_of_none e hp) (k2 _ _ e)
    have D3 : Deck H3 d c _ := D28.kp (M := []) (Kp.of s3) (by simp) (by simp)
    have D2 : Deck H2 d c _ := D28.kp (M := []) (Kp.of k2) (by simp) (by simp)
    have T3 := T28.same s3
    have Tb3 := Tb28.ext s3
    have npd := (D28.ne1 hp).1
    have nlcd := (D2.ne1 hlc).1
    have nldd := (D2.ne1 hld).1
    have nlgd := (D2.ne1 hlg).1
    have ndM : d ∉ [lc, ld, lg] := by simp [nlcd.symm, nldd.symm, nlgd.symm]
    have ncM : c ∉ [lc, ld, lg] := by simp [(D2.ne1 hlc).2.symm, (D2.ne1 hld).2.symm, (D2.ne1 hlg).2.symm]
    have hth2 := k2 _ _ hth28
    have nthM : th ∉ [lc, ld, lg] := by
      simp only [List.mem_cons, List.not_mem_nil, or_false, not_or]
      exact ⟨ne_of_none hth2 hlc, ne_of_none hth2 hld, ne_of_none hth2 hlg⟩
    have dB : ∀ {H1 H2 : Hp} {cs : List (Addr × Ct)} {ds : List Nat}, BookAt P w C_Book H1 p dx lc ld lg cs ds → Kp [d] H1 H2 → KT H1 H2 → BookAt P w C_Book H2 p dx lc ld lg cs ds := fun {H1 H2 cs ds} b k t => b.kp k t (by simpa using npd) (by simpa using nlcd) (by simpa using nldd) (by simpa using nlgd)
    have tbB : ∀ {H1 H2 : Hp} {cs : List (Addr × Ct)} {ds : List Nat}, BookAt P w C_Book H1 p dx lc ld lg cs ds → LamX.Tabs (TLs PL PL_law_asked) H1 → Kp [lc, ld, lg] H1 H2 → LamX.Tabs (TLs PL PL_law_asked) H2 := fun b t k => tabs_kp t k fun b' hb => by
      rcases List.mem_cons.mp hb with rfl | hb
      · exact ⟨_, b.co, lst_notab _⟩
      rcases List.mem_cons.mp hb with rfl | hb
      · exact ⟨_, b.de, lst_notab _⟩
      obtain rfl := List.mem_singleton.mp hb
      exact ⟨_, b.gi.at', nd_notab⟩
    have hth3 := T3.at'
    walk_at "g"
    refine lp_list (xs := cs.map fun q => V.ref q.1) (fun i σ H' => ∃ (y4 : Option V), σ = [some (.ref a0), some (.ref d), some (.ref th), some (.ref p), y4, none, none, none] ∧ Deck H' d c 0 ∧ ThAt H' th cs ∧ BookAt P w C_Book H' p dx lc ld lg (cs.take i) (dsOf ((cs.take i).map (·.2))) ∧ LamX.Tabs (TLs PL PL_law_asked) H') ⟨_, rfl, D3, T3, B3, Tb3⟩ (fun i σ H' _ ⟨_, _, _, t, _⟩ => .of t.at') ?_ ?_
    · rintro i x σ H15 hx ⟨y4, rfl, D15, T15, B15, Tb15⟩
      obtain ⟨⟨a, ct⟩, hn, rfl⟩ := map_at hx
      have hi' := (List.getElem?_eq_some_iff.mp hn).1
      have hlt : (cs.take i).length = i := by rw [List.length_take]; omega
      have hct2 : (cs.map (·.2))[i]? = some ct := by rw [List.getElem?_map, hn]; rfl
      have ok : CtOk ((cs.take i).map (·.2)) (dsOf ((cs.take i).map (·.2))) ct := by
        rw [List.map_take, hcs]
        rw [hcs] at hct2
        exact bk_scn i ct hct2
      have hno : ∀ q ∈ cs.take i, q.2 ≠ ct := fun q hq e => by
        obtain ⟨j, hj, ej⟩ := List.getElem_of_mem hq
        rw [hlt] at hj
        rw [List.getElem_take] at ej
        have g1 : (cs.map (·.2))[j]? = some ct := by rw [List.getElem?_map, List.getElem?_eq_getElem (by omega), ej, ← e]; rfl
        rw [hcs] at g1 hct2
        obtain ⟨l1, e1⟩ := List.getElem?_eq_some_iff.mp g1
        obtain ⟨l2, e2⟩ := List.getElem?_eq_some_iff.mp hct2
        have := nodup_at bk_nd (e1.trans e2.symm)
        omega
      have ob15 := B15.ob
      walk_at "g"
      refine w_named3 B15 (T15.ct _ (List.mem_of_getElem? hn)) ok (.inl (by omega)) (.inr ⟨rfl, rfl, hno⟩) fun H16 B16 k16 t16 => ?_
      have etk : cs.take (i + 1) = cs.take i ++ [(a, ct)] := by rw [List.take_add_one, hn]; rfl
      rw [← etk] at B16
      walk_at "g"
      exact ⟨_, rfl, D15.kp k16 ndM ncM, T15.kp k16 t16 nthM, B16, tbB B15 Tb15 k16⟩
    rintro σ H15 ⟨y4, rfl, D15, T15, B15, Tb15⟩
    rw [List.length_map, List.take_length] at B15
    walk_at "g"
    refine lp_range (fun i σ H' => ∃ (y5 y6 : Option V), σ = [some (.ref a0), some (.ref d), some (.ref th), some (.ref p), y4, y5, y6, none] ∧ Deck H' d c (420 * i) ∧ ThAt H' th cs ∧ BookAt P w C_Book H' p dx lc ld lg cs (dsOf (cs.map (·.2))) ∧ LamX.Tabs (TLs PL PL_law_asked) H') ⟨_, _, rfl, D15, T15, B15, Tb15⟩ ?_ ?_
    · rintro i σ H16 hi ⟨y5, y6, rfl, D16, T16, B16, Tb16⟩
      have hth16 := T16.at'
      walk_at "g"
      refine w_new fun l1 H17 hl1 el1 k17 => ?_
      walk_at "g"
      refine w_new fun l2 H18 hl2 el2 k18 => ?_
      have k1618 := Same.trans k17 k18
      have D17 : Deck H17 d c _ := D16.kp (M := []) (Kp.of k17) (by simp) (by simp)
      have D18 : Deck H18 d c _ := D16.kp (M := []) (Kp.of k1618) (by simp) (by simp)
      have n1d := (D16.ne1 hl1).1
      have n2d := (D17.ne1 hl2).1
      have el1' := k18 _ _ el1
      have hth18 := (T16.same k1618).at'
      walk_at "g"
      refine ⟨d, c, l1, l2, _, by rw [List.length_map, hcl]; rfl, D18, by unfold MOSTD; omega, el1', el2, n1d, n2d, fun H19 x D19 x19 hb => ?_⟩
      have x1619 := (KX.of k1618).trans x19
      have B19 := dB B16 x1619.p x1619.t
      obtain ⟨⟨xd16, exd16⟩, _⟩ := D16.at
      have Tb19 := tabs_kp Tb16 x1619.p fun b hb => by
        obtain rfl := List.mem_singleton.mp hb
        exact ⟨_, exd16, lst_notab _⟩
      have T19 := T16.kp x1619.p x1619.t (by simpa using hthd)
      walk_at "g"
      refine w_seq ?_
      walk_at "g"
      refine w_lam Tb19 fun H27 eN27 Tb27 => ?_
      intro H28 Q0 k28
      have x28 := eN27.trans (LamX.ExtN.of k28)
      have B28 := B19.extN x28
      have ob28 := B28.ob
      have hb28 := hb.kd (KD.extN x28)
      walk_at "x"
      refine ⟨p, dx, lc, ld, lg, cs, _, x, 100, rfl, B28, hb28.1, by decide, .inl ⟨by rw [hcs]; exact hb28.2, fun H29 k29 => ⟨rfl, rfl, fun t2 H30 k30 et2 => ?_⟩⟩⟩
      have x30 := x28.trans (LamX.ExtN.of (Same.trans k29 k30))
      have Tb30 := Tb27.ext (Same.trans k28 (Same.trans k29 k30))
      walk_at "x"
      refine w_new fun td H31 htd etd k31 => ?_
      walk_at "g"
      refine ⟨_, _, rfl, SD.tup (k31 _ _ et2) etd (by simp) (fun x hx => ?_), fun H32 k32 => ?_⟩
      · rcases List.mem_cons.mp hx with rfl | hx
        · exact SD.sc trivial
        · rw [List.mem_singleton.mp hx]
          exact SD.sc trivial
      have x32 := x30.trans (LamX.ExtN.of (Same.trans k31 k32))
      have Tb32 := Tb30.ext (Same.trans k31 k32)
      have B32 := B19.extN x32
      have ob32 := B32.ob
      have hb32 := hb.kd (KD.extN x32)
      have T32 := T19.extN x32
      walk_at "g"
      refine w_seq ?_
      walk_at "g"
      refine ⟨p, dx, lc, ld, lg, cs, _, x, 100, rfl, B32, hb32.1, by decide, by rw [hcs]; exact hb32.2, fun H33 k33 => ?_⟩
      have x33 := x32.trans (LamX.ExtN.of k33)
      have Tb33 := Tb32.ext k33
      have B33 := B19.extN x33
      have ob33 := B33.ob
      have T33 := T19.extN x33
      have hth33 := T33.at'
      have D33 := D19.extN x33
      walk_at "g"
      try rw [show decide (V.non = V.non) = true from rfl]
      walk_at "g"
      refine w_lenO ob33 ?_
      refine ⟨p, dx, lc, ld, lg, cs, _, rfl, B33, cs.length, rfl, by omega, ?_⟩
      walk_at "g"
      rw [List.length_map]
      refine w_nyes rfl ?_
      walk_at "g"
      refine w_seq ?_
      walk_at "g"
      refine w_draw D33 (by unfold MOSTD; omega) (by decide) (by decide) fun v1 H34 hv1 D34 o34 => ?_
      have x34 := D33.kx D34 o34
      have B34 := dB B33 x34.p x34.t
      have T34 := T33.kp x34.p x34.t (by simpa using hthd)
      obtain ⟨⟨xd33, exd33⟩, _⟩ := D33.at
      have Tb34 := tabs_kp Tb33 x34.p fun b hb => by
        obtain rfl := List.mem_singleton.mp hb
        exact ⟨_, exd33, lst_notab _⟩
      walk_at "g"
      refine ⟨p, dx, lc, ld, lg, cs, _, _, _, rfl, B34, .int _, fun n e => by have := V.int.inj e; rw [List.length_map] at this; omega, fun H' _ => SD.sc trivial, Tb34, fun H35 x35 Tb35 => ?_⟩
      have D35 := D34.extN x35
      have B35 := B34.extN x35
      have T35 := T34.extN x35
      walk_at "g"
      refine w_draw D35 (by unfold MOSTD; omega) (by decide) (by decide) fun v2 H36 hv2 D36 o36 => ?_
      have x36 := D35.kx D36 o36
      have B36 := dB B35 x36.p x36.t
      have T36 := T35.kp x36.p x36.t (by simpa using hthd)
      obtain ⟨⟨xd35, exd35⟩, _⟩ := D35.at
      have Tb36 := tabs_kp Tb35 x36.p fun b hb => by
        obtain rfl := List.mem_singleton.mp hb
        exact ⟨_, exd35, lst_notab _⟩
      walk_at "g"
      refine ⟨p, dx, lc, ld, lg, cs, _, _, _, rfl, B36, .int _, fun n e => by have := V.int.inj e; omega, fun H' _ => SD.sc trivial, Tb36, fun H37 x37 Tb37 => ?_⟩
      have D37 := D36.extN x37
      have B37 := B36.extN x37
      have T37 := T36.extN x37
      walk_at "g"
      refine w_new fun tz H38 htz etz k38 => ?_
      walk_at "g"
      refine w_new fun lz H39 hlz elz k39 => ?_
      have k3739 := Same.trans k38 k39
      have D39 : Deck H39 d c _ := D37.kp (M := []) (Kp.of k3739) (by simp) (by simp)
      have D38 : Deck H38 d c _ := D37.kp (M := []) (Kp.of k38) (by simp) (by simp)
      have nlz := (D38.ne1 hlz).1
      walk_at "g"
      refine w_draw D39 (by unfold MOSTD; omega) (by decide) (by decide) fun v3 H40 hv3 D40 o40 => ?_
      have x40 := D39.kx D40 o40
      have elz40 := o40.get nlz elz
      have etz40 := x40.t _ _ (k39 _ _ etz)
      have B40 := dB (B37.same k3739) x40.p x40.t
      have T40 := (T37.same k3739).kp x40.p x40.t (by simpa using hthd)
      obtain ⟨⟨xd39, exd39⟩, _⟩ := D39.at
      have Tb40 := tabs_kp (Tb37.ext k3739) x40.p fun b hb => by
        obtain rfl := List.mem_singleton.mp hb
        exact ⟨_, exd39, lst_notab _⟩
      generalize hbs : ([_, _, _, _, _, _] : List V) = bs at elz40
      have hbl : bs.length = 6 := by rw [← hbs]; rfl
      have hodd : ∀ y ∈ bs, (∃ a, Ty H40 y a) ∧ (∀ n : Nat, y = nV n → ¬ n < cs.length) ∧ ∀ H', KT H40 H' → SD 2 H' y y := by
        rw [← hbs]
        intro y hy
        simp only [List.mem_cons, List.not_mem_nil, or_false] at hy
        rcases hy with rfl | rfl | rfl | rfl | rfl | rfl
        · exact ⟨⟨_, .non⟩, fun n e => (by cases e), fun _ _ => SD.sc trivial⟩
        · exact ⟨⟨_, .bl _⟩, fun n e => (by cases e), fun _ _ => SD.sc trivial⟩
        · exact ⟨⟨_, .str _⟩, fun n e => (by cases e), fun _ _ => SD.sc trivial⟩
        · exact ⟨⟨_, .tup etz40⟩, fun n e => (by cases e), fun H' k => SD.tup (k _ _ etz40) (k _ _ etz40) (by simp) fun x hx => by rw [List.mem_singleton.mp hx]; exact SD.sc trivial⟩
        · exact ⟨⟨_, .str _⟩, fun n e => (by cases e), fun _ _ => SD.sc trivial⟩
        · refine ⟨⟨_, .int _⟩, fun n e => ?_, fun _ _ => SD.sc trivial⟩
          have h1 := V.int.inj e
          have h2 : (10 : Int) ^ Int.toNat 30 = 1000000000000000000000000000000 := by decide +kernel
          omega
      have hv6 : v3 < bs.length := by omega
      have at1 : atI bs (v3 : Int) = some bs[v3] := atI_nat (List.getElem?_eq_getElem hv6)
      obtain ⟨⟨ay, hty⟩, hny, hsy⟩ := hodd _ (List.getElem_mem hv6)
      generalize bs[v3] = y0 at *
      walk_at "g"
      refine ⟨p, dx, lc, ld, lg, cs, _, _, _, rfl, B40, hty, hny, hsy, Tb40, fun H41 x41 Tb41 => ?_⟩
      walk_at "g"
      exact ⟨_, _, rfl, (D40.extN x41).mono (by omega), T40.extN x41, B40.extN x41, Tb41⟩
    · rintro σ H16 ⟨y5, y6, rfl, D16, T16, B16, Tb16⟩
      have hth16 := T16.at'
      walk_at "g"
      refine w_rng1' (by rw [List.length_map]; omega) (by rw [List.length_map]; omega) ?_
      refine lp_range (fun i σ H' => ∃ (y7 : Option V), σ = [some (.ref a0), some (.ref d), some (.ref th), some (.ref p), y4, y5, y6, y7] ∧ Deck H' d c 1260 ∧ ThAt H' th cs ∧ BookAt P w C_Book H' p dx lc ld lg cs (dsOf (cs.map (·.2)))) ⟨_, rfl, D16.mono (by decide), T16, B16⟩ ?_ ?_
      · rintro i σ H17 hi ⟨y7, rfl, D17, T17, B17⟩
        rw [List.length_map] at hi
        have hi' : i < cs.length := by omega
        have hq : cs[i]? = some cs[i] := List.getElem?_eq_getElem hi'
        have hct2 : (cs.map (·.2))[i]? = some (cs[i]).2 := by rw [List.getElem?_map, hq]; rfl
        have ok1 : CtOk (cs.map (·.2)) (dsOf (cs.map (·.2))) (cs[i]).2 := by
          rw [hcs] at hct2 ⊢
          exact bk_all i _ hct2
        have at1 : atI (cs.map fun q => V.ref q.1) (i : Int) = some (.ref (cs[i]).1) := atI_nat (by rw [List.getElem?_map, hq]; rfl)
        have e0i : (0 : Int) + (i : Int) = ((i : Nat) : Int) := by omega
        have hth17 := T17.at'
        have ob17 := B17.ob
        walk_at "g"
        rw [e0i]
        refine ⟨p, dx, lc, ld, lg, cs, _, i, _, rfl, B17, hq, ?_⟩
        walk_at "g"
        refine ⟨_, _, rfl, (T17.ct _ (List.mem_of_getElem? hq)).sd ok1, fun H18 k18 => ?_⟩
        have B18 := B17.same k18
        have ob18 := B18.ob
        have T18 := T17.same k18
        have hth18 := T18.at'
        walk_at "g"
        refine w_named3 B18 (T18.ct _ (List.mem_of_getElem? hq)) ok1 (.inr fun h => h _ (List.mem_of_getElem? hq) rfl) (.inl ⟨rfl, _, hq⟩) fun H19 B19 k19 t19 => ?_
        walk_at "g"
        refine w_nyes rfl ?_
        walk_at "g"
        exact ⟨_, rfl, (D17.kp (M := []) (Kp.of k18) (by simp) (by simp)).kp k19 ndM ncM, T18.kp k19 t19 nthM, B19⟩
      · rintro σ H17 ⟨y7, rfl, D17, T17, B17⟩
        have ob17 := B17.ob
        walk_at "g"
        refine ⟨d, c, _, 9, rfl, D17, by unfold MOSTD; omega, by omega, fun H18 z D18 k18 t18 hz => ?_⟩
        have hzl := hz.2
        have e3 : (Str.ofString "new").length = 3 := by decide +kernel
        walk_at "g"
        refine w_addS (Nat.le_trans (show _ ≤ 1000 by omega) (by decide)) ?_
        walk_at "g"
        refine w_new fun r19 H19 hr19 er19 k19 => ?_
        walk_at "g"
        refine w_new fun a20 H20 ha20 ea20 k20 => ?_
        have B20 := (dB B17 k18 t18).same (Same.trans k19 k20)
        have T20 := (T17.kp k18 t18 (by simpa using hthd)).same (Same.trans k19 k20)
        have ob20 := B20.ob
        have hct : CtAt H20 a20 (.leaf [z ++ Str.ofString "new"]) := ⟨r19, ea20, k20 _ _ er19⟩
        have hline : LineOk (z ++ Str.ofString "new") := by
          refine ⟨?_, fun ch hch => ?_⟩
          · show (z.cps ++ (Str.ofString "new").cps).size ≤ 40
            rw [Array.size_append]
            have h1 : z.cps.size ≤ 9 := hzl
            have h2 : (Str.ofString "new").cps.size = 3 := e3
            omega
          · have hch' : ch ∈ (z.cps ++ (Str.ofString "new").cps).toList := hch
            rw [Array.toList_append] at hch'
            rcases List.mem_append.mp hch' with h | h
            · exact hz.1.2 ch h
            · exact (line_lit (z := "new") (by decide +kernel)).2 ch h
        have hno : ∀ q ∈ cs, q.2 ≠ .leaf [z ++ Str.ofString "new"] := fun q hq e => by
          have hm : Ct.leaf [z ++ Str.ofString "new"] ∈ BK := by
            rw [← hcs, ← e]
            exact List.mem_map_of_mem hq
          unfold BK at hm
          simp at hm
        walk_at "g"
        refine w_named3 B20 hct ⟨by simp, fun u hu => by rw [List.mem_singleton.mp hu]; exact hline⟩ (.inl (by omega)) (.inr ⟨rfl, rfl, hno⟩) fun H21 B21 k21 t21 => ?_
        have T21 := T20.kp k21 t21 nthM
        have hth21 := T21.at'
        walk_at "g"
        refine ⟨_, _, rfl, ?_, fun H22 k22 => ?_⟩
        · rw [List.length_map]
          exact SD.sc trivial
        exact q' _
end
theorem all_mk {l : PySem.W.OpenLaw} {w : World} {K : PySem.W.Frag} {h : Heap} {mg : Str → Option Value} {fa f_NoName___init__ f_is_int f_is_text f_is_label f_rise f_are_ints f_rising_ints f_is_pair f_are_rows f_Book___init__ f_Book___len__ f_Book_named f_Book_name_of f_Book_thing f_Book_kind f_Book_parts f_is_name f_is_kind f_is_entry f_is_tree f_depth_of f_is_version f_is_content f_law_deck f_law_mixed f_law_draw f_law_text f_law_alike f_law_why f_law_odd f_law_bent_leaf f_law_bent_tree f_law_bent_version f_law_bent f_law_asked f_law C_Book cL PL cL_law_asked PL_law_asked : Addr} (X : K.In h) (G : h.Ns mainGlobals mg) (hfa : mg "law" = some (.ref fa))
    (own : LamX.OwnTab K fa h)
    {od_NoName___init__ an_NoName___init__ : Option Addr} {sl_NoName___init__ : Array (Option Value)} {oc_NoName___init__ kV_NoName___init__ dc_NoName___init__ pm_NoName___init__ cd_NoName___init__ ct_NoName___init__ : Value}
    (l_NoName___init__ : K.lookup f_NoName___init__ = some ⟨oc_NoName___init__, od_NoName___init__, .func (PySem.W.fnOf "__init__" "NoName.__init__" (defArgs s_NoName___init__) (defBody s_NoName___init__) (defScope s_NoName___init__) .none kV_NoName___init__ dc_NoName___init__ pm_NoName___init__ an_NoName___init__ cd_NoName___init__ ct_NoName___init__), sl_NoName___init__⟩) (c_NoName___init__ : PySem.W.codeIn K cd_NoName___init__ "NoName.__init__" = true) (k_NoName___init__ : PySem.W.keepIn K (.ref f_NoName___init__) = true)
    {od_is_int an_is_int : Option Addr} {sl_is_int : Array (Option Value)} {oc_is_int kV_is_int dc_is_int pm_is_int cd_is_int ct_is_int : Value}
    (a_is_int : PySem.W.nsIn K mainGlobals "is_int" = some (some (.ref f_is_int)))
    {dt_is_int : Addr} {do_is_int : Value} {dd_is_int : Option Addr} {dn_is_int : Nat} {ds_is_int : Array (Option Value)} {dk_is_int_least : Tok}
    (l_is_int : K.lookup f_is_int = some ⟨oc_is_int, od_is_int, .func (PySem.W.fnOf "is_int" "is_int" (defArgs s_is_int) (defBody s_is_int) (defScope s_is_int) (.ref dt_is_int) kV_is_int dc_is_int pm_is_int an_is_int cd_is_int ct_is_int), sl_is_int⟩) (c_is_int : PySem.W.codeIn K cd_is_int "is_int" = true) (k_is_int : PySem.W.keepIn K (.ref f_is_int) = true)
    (dl_is_int : K.lookup dt_is_int = some ⟨do_is_int, dd_is_int, .seq #[.int 0 dk_is_int_least] dn_is_int, ds_is_int⟩)
    {od_is_text an_is_text : Option Addr} {sl_is_text : Array (Option Value)} {oc_is_text kV_is_text dc_is_text pm_is_text cd_is_text ct_is_text : Value}
    (a_is_text : PySem.W.nsIn K mainGlobals "is_text" = some (some (.ref f_is_text)))
    {dt_is_text : Addr} {do_is_text : Value} {dd_is_text : Option Addr} {dn_is_text : Nat} {ds_is_text : Array (Option Value)} {dk_is_text_most : Tok}
    (l_is_text : K.lookup f_is_text = some ⟨oc_is_text, od_is_text, .func (PySem.W.fnOf "is_text" "is_text" (defArgs s_is_text) (defBody s_is_text) (defScope s_is_text) (.ref dt_is_text) kV_is_text dc_is_text pm_is_text an_is_text cd_is_text ct_is_text), sl_is_text⟩) (c_is_text : PySem.W.codeIn K cd_is_text "is_text" = true) (k_is_text : PySem.W.keepIn K (.ref f_is_text) = true)
    (dl_is_text : K.lookup dt_is_text = some ⟨do_is_text, dd_is_text, .seq #[.int 40 dk_is_text_most] dn_is_text, ds_is_text⟩)
    {od_is_label an_is_label : Option Addr} {sl_is_label : Array (Option Value)} {oc_is_label kV_is_label dc_is_label pm_is_label cd_is_label ct_is_label : Value}
    (a_is_label : PySem.W.nsIn K mainGlobals "is_label" = some (some (.ref f_is_label)))
    (l_is_label : K.lookup f_is_label = some ⟨oc_is_label, od_is_label, .func (PySem.W.fnOf "is_label" "is_label" (defArgs s_is_label) (defBody s_is_label) (defScope s_is_label) .none kV_is_label dc_is_label pm_is_label an_is_label cd_is_label ct_is_label), sl_is_label⟩) (c_is_label : PySem.W.codeIn K cd_is_label "is_label" = true) (k_is_label : PySem.W.keepIn K (.ref f_is_label) = true)
    {od_rise an_rise : Option Addr} {sl_rise : Array (Option Value)} {oc_rise kV_rise dc_rise pm_rise cd_rise ct_rise : Value}
    (a_rise : PySem.W.nsIn K mainGlobals "rise" = some (some (.ref f_rise)))
    (l_rise : K.lookup f_rise = some ⟨oc_rise, od_rise, .func (PySem.W.fnOf "rise" "rise" (defArgs s_rise) (defBody s_rise) (defScope s_rise) .none kV_rise dc_rise pm_rise an_rise cd_rise ct_rise), sl_rise⟩) (c_rise : PySem.W.codeIn K cd_rise "rise" = true) (k_rise : PySem.W.keepIn K (.ref f_rise) = true)
    {od_are_ints an_are_ints : Option Addr} {sl_are_ints : Array (Option Value)} {oc_are_ints kV_are_ints dc_are_ints pm_are_ints cd_are_ints ct_are_ints : Value}
    (a_are_ints : PySem.W.nsIn K mainGlobals "are_ints" = some (some (.ref f_are_ints)))
    (l_are_ints : K.lookup f_are_ints = some ⟨oc_are_ints, od_are_ints, .func (PySem.W.fnOf "are_ints" "are_ints" (defArgs s_are_ints) (defBody s_are_ints) (defScope s_are_ints) .none kV_are_ints dc_are_ints pm_are_ints an_are_ints cd_are_ints ct_are_ints), sl_are_ints⟩) (c_are_ints : PySem.W.codeIn K cd_are_ints "are_ints" = true) (k_are_ints : PySem.W.keepIn K (.ref f_are_ints) = true)
    {od_rising_ints an_rising_ints : Option Addr} {sl_rising_ints : Array (Option Value)} {oc_rising_ints kV_rising_ints dc_rising_ints pm_rising_ints cd_rising_ints ct_rising_ints : Value}
    (a_rising_ints : PySem.W.nsIn K mainGlobals "rising_ints" = some (some (.ref f_rising_ints)))
    (l_rising_ints : K.lookup f_rising_ints = some ⟨oc_rising_ints, od_rising_ints, .func (PySem.W.fnOf "rising_ints" "rising_ints" (defArgs s_rising_ints) (defBody s_rising_ints) (defScope s_rising_ints) .none kV_rising_ints dc_rising_ints pm_rising_ints an_rising_ints cd_rising_ints ct_rising_ints), sl_rising_ints⟩) (c_rising_ints : PySem.W.codeIn K cd_rising_ints "rising_ints" = true) (k_rising_ints : PySem.W.keepIn K (.ref f_rising_ints) = true)
    {od_is_pair an_is_pair : Option Addr} {sl_is_pair : Array (Option Value)} {oc_is_pair kV_is_pair dc_is_pair pm_is_pair cd_is_pair ct_is_pair : Value}
    (a_is_pair : PySem.W.nsIn K mainGlobals "is_pair" = some (some (.ref f_is_pair)))
    (l_is_pair : K.lookup f_is_pair = some ⟨oc_is_pair, od_is_pair, .func (PySem.W.fnOf "is_pair" "is_pair" (defArgs s_is_pair) (defBody s_is_pair) (defScope s_is_pair) .none kV_is_pair dc_is_pair pm_is_pair an_is_pair cd_is_pair ct_is_pair), sl_is_pair⟩) (c_is_pair : PySem.W.codeIn K cd_is_pair "is_pair" = true) (k_is_pair : PySem.W.keepIn K (.ref f_is_pair) = true)
    {od_are_rows an_are_rows : Option Addr} {sl_are_rows : Array (Option Value)} {oc_are_rows kV_are_rows dc_are_rows pm_are_rows cd_are_rows ct_are_rows : Value}
    (a_are_rows : PySem.W.nsIn K mainGlobals "are_rows" = some (some (.ref f_are_rows)))
    (l_are_rows : K.lookup f_are_rows = some ⟨oc_are_rows, od_are_rows, .func (PySem.W.fnOf "are_rows" "are_rows" (defArgs s_are_rows) (defBody s_are_rows) (defScope s_are_rows) .none kV_are_rows dc_are_rows pm_are_rows an_are_rows cd_are_rows ct_are_rows), sl_are_rows⟩) (c_are_rows : PySem.W.codeIn K cd_are_rows "are_rows" = true) (k_are_rows : PySem.W.keepIn K (.ref f_are_rows) = true)
    {od_Book___init__ an_Book___init__ : Option Addr} {sl_Book___init__ : Array (Option Value)} {oc_Book___init__ kV_Book___init__ dc_Book___init__ pm_Book___init__ cd_Book___init__ ct_Book___init__ : Value}
    (a_Book___init__ : PySem.W.findIn K (.ref C_Book) "__init__" = some (some (.ref f_Book___init__))) (i_Book___init__ : PySem.W.isFn K (.ref f_Book___init__) = true)
    (l_Book___init__ : K.lookup f_Book___init__ = some ⟨oc_Book___init__, od_Book___init__, .func (PySem.W.fnOf "__init__" "Book.__init__" (defArgs s_Book___init__) (defBody s_Book___init__) (defScope s_Book___init__) .none kV_Book___init__ dc_Book___init__ pm_Book___init__ an_Book___init__ cd_Book___init__ ct_Book___init__), sl_Book___init__⟩) (c_Book___init__ : PySem.W.codeIn K cd_Book___init__ "Book.__init__" = true) (k_Book___init__ : PySem.W.keepIn K (.ref f_Book___init__) = true)
    {od_Book___len__ an_Book___len__ : Option Addr} {sl_Book___len__ : Array (Option Value)} {oc_Book___len__ kV_Book___len__ dc_Book___len__ pm_Book___len__ cd_Book___len__ ct_Book___len__ : Value}
    (a_Book___len__ : PySem.W.findIn K (.ref C_Book) "__len__" = some (some (.ref f_Book___len__))) (i_Book___len__ : PySem.W.isFn K (.ref f_Book___len__) = true)
    (l_Book___len__ : K.lookup f_Book___len__ = some ⟨oc_Book___len__, od_Book___len__, .func (PySem.W.fnOf "__len__" "Book.__len__" (defArgs s_Book___len__) (defBody s_Book___len__) (defScope s_Book___len__) .none kV_Book___len__ dc_Book___len__ pm_Book___len__ an_Book___len__ cd_Book___len__ ct_Book___len__), sl_Book___len__⟩) (c_Book___len__ : PySem.W.codeIn K cd_Book___len__ "Book.__len__" = true) (k_Book___len__ : PySem.W.keepIn K (.ref f_Book___len__) = true)
    {od_Book_named an_Book_named : Option Addr} {sl_Book_named : Array (Option Value)} {oc_Book_named kV_Book_named dc_Book_named pm_Book_named cd_Book_named ct_Book_named : Value}
    (a_Book_named : PySem.W.findIn K (.ref C_Book) "named" = some (some (.ref f_Book_named))) (i_Book_named : PySem.W.isFn K (.ref f_Book_named) = true)
    (l_Book_named : K.lookup f_Book_named = some ⟨oc_Book_named, od_Book_named, .func (PySem.W.fnOf "named" "Book.named" (defArgs s_Book_named) (defBody s_Book_named) (defScope s_Book_named) .none kV_Book_named dc_Book_named pm_Book_named an_Book_named cd_Book_named ct_Book_named), sl_Book_named⟩) (c_Book_named : PySem.W.codeIn K cd_Book_named "Book.named" = true) (k_Book_named : PySem.W.keepIn K (.ref f_Book_named) = true)
    {od_Book_name_of an_Book_name_of : Option Addr} {sl_Book_name_of : Array (Option Value)} {oc_Book_name_of kV_Book_name_of dc_Book_name_of pm_Book_name_of cd_Book_name_of ct_Book_name_of : Value}
    (a_Book_name_of : PySem.W.findIn K (.ref C_Book) "name_of" = some (some (.ref f_Book_name_of))) (i_Book_name_of : PySem.W.isFn K (.ref f_Book_name_of) = true)
    (l_Book_name_of : K.lookup f_Book_name_of = some ⟨oc_Book_name_of, od_Book_name_of, .func (PySem.W.fnOf "name_of" "Book.name_of" (defArgs s_Book_name_of) (defBody s_Book_name_of) (defScope s_Book_name_of) .none kV_Book_name_of dc_Book_name_of pm_Book_name_of an_Book_name_of cd_Book_name_of ct_Book_name_of), sl_Book_name_of⟩) (c_Book_name_of : PySem.W.codeIn K cd_Book_name_of "Book.name_of" = true) (k_Book_name_of : PySem.W.keepIn K (.ref f_Book_name_of) = true)
    {od_Book_thing an_Book_thing : Option Addr} {sl_Book_thing : Array (Option Value)} {oc_Book_thing kV_Book_thing dc_Book_thing pm_Book_thing cd_Book_thing ct_Book_thing : Value}
    (a_Book_thing : PySem.W.findIn K (.ref C_Book) "thing" = some (some (.ref f_Book_thing))) (i_Book_thing : PySem.W.isFn K (.ref f_Book_thing) = true)
    (l_Book_thing : K.lookup f_Book_thing = some ⟨oc_Book_thing, od_Book_thing, .func (PySem.W.fnOf "thing" "Book.thing" (defArgs s_Book_thing) (defBody s_Book_thing) (defScope s_Book_thing) .none kV_Book_thing dc_Book_thing pm_Book_thing an_Book_thing cd_Book_thing ct_Book_thing), sl_Book_thing⟩) (c_Book_thing : PySem.W.codeIn K cd_Book_thing "Book.thing" = true) (k_Book_thing : PySem.W.keepIn K (.ref f_Book_thing) = true)
    {od_Book_kind an_Book_kind : Option Addr} {sl_Book_kind : Array (Option Value)} {oc_Book_kind kV_Book_kind dc_Book_kind pm_Book_kind cd_Book_kind ct_Book_kind : Value}
    (a_Book_kind : PySem.W.findIn K (.ref C_Book) "kind" = some (some (.ref f_Book_kind))) (i_Book_kind : PySem.W.isFn K (.ref f_Book_kind) = true)
    (l_Book_kind : K.lookup f_Book_kind = some ⟨oc_Book_kind, od_Book_kind, .func (PySem.W.fnOf "kind" "Book.kind" (defArgs s_Book_kind) (defBody s_Book_kind) (defScope s_Book_kind) .none kV_Book_kind dc_Book_kind pm_Book_kind an_Book_kind cd_Book_kind ct_Book_kind), sl_Book_kind⟩) (c_Book_kind : PySem.W.codeIn K cd_Book_kind "Book.kind" = true) (k_Book_kind : PySem.W.keepIn K (.ref f_Book_kind) = true)
    {od_Book_parts an_Book_parts : Option Addr} {sl_Book_parts : Array (Option Value)} {oc_Book_parts kV_Book_parts dc_Book_parts pm_Book_parts cd_Book_parts ct_Book_parts : Value}
    (a_Book_parts : PySem.W.findIn K (.ref C_Book) "parts" = some (some (.ref f_Book_parts))) (i_Book_parts : PySem.W.isFn K (.ref f_Book_parts) = true)
    (l_Book_parts : K.lookup f_Book_parts = some ⟨oc_Book_parts, od_Book_parts, .func (PySem.W.fnOf "parts" "Book.parts" (defArgs s_Book_parts) (defBody s_Book_parts) (defScope s_Book_parts) .none kV_Book_parts dc_Book_parts pm_Book_parts an_Book_parts cd_Book_parts ct_Book_parts), sl_Book_parts⟩) (c_Book_parts : PySem.W.codeIn K cd_Book_parts "Book.parts" = true) (k_Book_parts : PySem.W.keepIn K (.ref f_Book_parts) = true)
    {od_is_name an_is_name : Option Addr} {sl_is_name : Array (Option Value)} {oc_is_name kV_is_name dc_is_name pm_is_name cd_is_name ct_is_name : Value}
    (a_is_name : PySem.W.nsIn K mainGlobals "is_name" = some (some (.ref f_is_name)))
    (l_is_name : K.lookup f_is_name = some ⟨oc_is_name, od_is_name, .func (PySem.W.fnOf "is_name" "is_name" (defArgs s_is_name) (defBody s_is_name) (defScope s_is_name) .none kV_is_name dc_is_name pm_is_name an_is_name cd_is_name ct_is_name), sl_is_name⟩) (c_is_name : PySem.W.codeIn K cd_is_name "is_name" = true) (k_is_name : PySem.W.keepIn K (.ref f_is_name) = true)
    {od_is_kind an_is_kind : Option Addr} {sl_is_kind : Array (Option Value)} {oc_is_kind kV_is_kind dc_is_kind pm_is_kind cd_is_kind ct_is_kind : Value}
    (a_is_kind : PySem.W.nsIn K mainGlobals "is_kind" = some (some (.ref f_is_kind)))
    (l_is_kind : K.lookup f_is_kind = some ⟨oc_is_kind, od_is_kind, .func (PySem.W.fnOf "is_kind" "is_kind" (defArgs s_is_kind) (defBody s_is_kind) (defScope s_is_kind) .none kV_is_kind dc_is_kind pm_is_kind an_is_kind cd_is_kind ct_is_kind), sl_is_kind⟩) (c_is_kind : PySem.W.codeIn K cd_is_kind "is_kind" = true) (k_is_kind : PySem.W.keepIn K (.ref f_is_kind) = true)
    {od_is_entry an_is_entry : Option Addr} {sl_is_entry : Array (Option Value)} {oc_is_entry kV_is_entry dc_is_entry pm_is_entry cd_is_entry ct_is_entry : Value}
    (a_is_entry : PySem.W.nsIn K mainGlobals "is_entry" = some (some (.ref f_is_entry)))
    (l_is_entry : K.lookup f_is_entry = some ⟨oc_is_entry, od_is_entry, .func (PySem.W.fnOf "is_entry" "is_entry" (defArgs s_is_entry) (defBody s_is_entry) (defScope s_is_entry) .none kV_is_entry dc_is_entry pm_is_entry an_is_entry cd_is_entry ct_is_entry), sl_is_entry⟩) (c_is_entry : PySem.W.codeIn K cd_is_entry "is_entry" = true) (k_is_entry : PySem.W.keepIn K (.ref f_is_entry) = true)
    {od_is_tree an_is_tree : Option Addr} {sl_is_tree : Array (Option Value)} {oc_is_tree kV_is_tree dc_is_tree pm_is_tree cd_is_tree ct_is_tree : Value}
    (a_is_tree : PySem.W.nsIn K mainGlobals "is_tree" = some (some (.ref f_is_tree)))
    (l_is_tree : K.lookup f_is_tree = some ⟨oc_is_tree, od_is_tree, .func (PySem.W.fnOf "is_tree" "is_tree" (defArgs s_is_tree) (defBody s_is_tree) (defScope s_is_tree) .none kV_is_tree dc_is_tree pm_is_tree an_is_tree cd_is_tree ct_is_tree), sl_is_tree⟩) (c_is_tree : PySem.W.codeIn K cd_is_tree "is_tree" = true) (k_is_tree : PySem.W.keepIn K (.ref f_is_tree) = true)
    {od_depth_of an_depth_of : Option Addr} {sl_depth_of : Array (Option Value)} {oc_depth_of kV_depth_of dc_depth_of pm_depth_of cd_depth_of ct_depth_of : Value}
    (a_depth_of : PySem.W.nsIn K mainGlobals "depth_of" = some (some (.ref f_depth_of)))
    (l_depth_of : K.lookup f_depth_of = some ⟨oc_depth_of, od_depth_of, .func (PySem.W.fnOf "depth_of" "depth_of" (defArgs s_depth_of) (defBody s_depth_of) (defScope s_depth_of) .none kV_depth_of dc_depth_of pm_depth_of an_depth_of cd_depth_of ct_depth_of), sl_depth_of⟩) (c_depth_of : PySem.W.codeIn K cd_depth_of "depth_of" = true) (k_depth_of : PySem.W.keepIn K (.ref f_depth_of) = true)
    {od_is_version an_is_version : Option Addr} {sl_is_version : Array (Option Value)} {oc_is_version kV_is_version dc_is_version pm_is_version cd_is_version ct_is_version : Value}
    (a_is_version : PySem.W.nsIn K mainGlobals "is_version" = some (some (.ref f_is_version)))
    (l_is_version : K.lookup f_is_version = some ⟨oc_is_version, od_is_version, .func (PySem.W.fnOf "is_version" "is_version" (defArgs s_is_version) (defBody s_is_version) (defScope s_is_version) .none kV_is_version dc_is_version pm_is_version an_is_version cd_is_version ct_is_version), sl_is_version⟩) (c_is_version : PySem.W.codeIn K cd_is_version "is_version" = true) (k_is_version : PySem.W.keepIn K (.ref f_is_version) = true)
    {od_is_content an_is_content : Option Addr} {sl_is_content : Array (Option Value)} {oc_is_content kV_is_content dc_is_content pm_is_content cd_is_content ct_is_content : Value}
    (a_is_content : PySem.W.nsIn K mainGlobals "is_content" = some (some (.ref f_is_content)))
    (l_is_content : K.lookup f_is_content = some ⟨oc_is_content, od_is_content, .func (PySem.W.fnOf "is_content" "is_content" (defArgs s_is_content) (defBody s_is_content) (defScope s_is_content) .none kV_is_content dc_is_content pm_is_content an_is_content cd_is_content ct_is_content), sl_is_content⟩) (c_is_content : PySem.W.codeIn K cd_is_content "is_content" = true) (k_is_content : PySem.W.keepIn K (.ref f_is_content) = true)
    {od_law_deck an_law_deck : Option Addr} {sl_law_deck : Array (Option Value)} {oc_law_deck kV_law_deck dc_law_deck pm_law_deck cd_law_deck ct_law_deck : Value}
    (a_law_deck : PySem.W.nsIn K mainGlobals "_law_deck" = some (some (.ref f_law_deck)))
    (l_law_deck : K.lookup f_law_deck = some ⟨oc_law_deck, od_law_deck, .func (PySem.W.fnOf "_law_deck" "_law_deck" (defArgs s_law_deck) (defBody s_law_deck) (defScope s_law_deck) .none kV_law_deck dc_law_deck pm_law_deck an_law_deck cd_law_deck ct_law_deck), sl_law_deck⟩) (c_law_deck : PySem.W.codeIn K cd_law_deck "_law_deck" = true) (k_law_deck : PySem.W.keepIn K (.ref f_law_deck) = true)
    {od_law_mixed an_law_mixed : Option Addr} {sl_law_mixed : Array (Option Value)} {oc_law_mixed kV_law_mixed dc_law_mixed pm_law_mixed cd_law_mixed ct_law_mixed : Value}
    (a_law_mixed : PySem.W.nsIn K mainGlobals "_law_mixed" = some (some (.ref f_law_mixed)))
    (l_law_mixed : K.lookup f_law_mixed = some ⟨oc_law_mixed, od_law_mixed, .func (PySem.W.fnOf "_law_mixed" "_law_mixed" (defArgs s_law_mixed) (defBody s_law_mixed) (defScope s_law_mixed) .none kV_law_mixed dc_law_mixed pm_law_mixed an_law_mixed cd_law_mixed ct_law_mixed), sl_law_mixed⟩) (c_law_mixed : PySem.W.codeIn K cd_law_mixed "_law_mixed" = true) (k_law_mixed : PySem.W.keepIn K (.ref f_law_mixed) = true)
    {od_law_draw an_law_draw : Option Addr} {sl_law_draw : Array (Option Value)} {oc_law_draw kV_law_draw dc_law_draw pm_law_draw cd_law_draw ct_law_draw : Value}
    (a_law_draw : PySem.W.nsIn K mainGlobals "_law_draw" = some (some (.ref f_law_draw)))
    (l_law_draw : K.lookup f_law_draw = some ⟨oc_law_draw, od_law_draw, .func (PySem.W.fnOf "_law_draw" "_law_draw" (defArgs s_law_draw) (defBody s_law_draw) (defScope s_law_draw) .none kV_law_draw dc_law_draw pm_law_draw an_law_draw cd_law_draw ct_law_draw), sl_law_draw⟩) (c_law_draw : PySem.W.codeIn K cd_law_draw "_law_draw" = true) (k_law_draw : PySem.W.keepIn K (.ref f_law_draw) = true)
    {od_law_text an_law_text : Option Addr} {sl_law_text : Array (Option Value)} {oc_law_text kV_law_text dc_law_text pm_law_text cd_law_text ct_law_text : Value}
    (a_law_text : PySem.W.nsIn K mainGlobals "_law_text" = some (some (.ref f_law_text)))
    (l_law_text : K.lookup f_law_text = some ⟨oc_law_text, od_law_text, .func (PySem.W.fnOf "_law_text" "_law_text" (defArgs s_law_text) (defBody s_law_text) (defScope s_law_text) .none kV_law_text dc_law_text pm_law_text an_law_text cd_law_text ct_law_text), sl_law_text⟩) (c_law_text : PySem.W.codeIn K cd_law_text "_law_text" = true) (k_law_text : PySem.W.keepIn K (.ref f_law_text) = true)
    {od_law_alike an_law_alike : Option Addr} {sl_law_alike : Array (Option Value)} {oc_law_alike kV_law_alike dc_law_alike pm_law_alike cd_law_alike ct_law_alike : Value}
    (a_law_alike : PySem.W.nsIn K mainGlobals "_law_alike" = some (some (.ref f_law_alike)))
    (l_law_alike : K.lookup f_law_alike = some ⟨oc_law_alike, od_law_alike, .func (PySem.W.fnOf "_law_alike" "_law_alike" (defArgs s_law_alike) (defBody s_law_alike) (defScope s_law_alike) .none kV_law_alike dc_law_alike pm_law_alike an_law_alike cd_law_alike ct_law_alike), sl_law_alike⟩) (c_law_alike : PySem.W.codeIn K cd_law_alike "_law_alike" = true) (k_law_alike : PySem.W.keepIn K (.ref f_law_alike) = true)
    {od_law_why an_law_why : Option Addr} {sl_law_why : Array (Option Value)} {oc_law_why kV_law_why dc_law_why pm_law_why cd_law_why ct_law_why : Value}
    (a_law_why : PySem.W.nsIn K mainGlobals "_law_why" = some (some (.ref f_law_why)))
    (l_law_why : K.lookup f_law_why = some ⟨oc_law_why, od_law_why, .func (PySem.W.fnOf "_law_why" "_law_why" (defArgs s_law_why) (defBody s_law_why) (defScope s_law_why) .none kV_law_why dc_law_why pm_law_why an_law_why cd_law_why ct_law_why), sl_law_why⟩) (c_law_why : PySem.W.codeIn K cd_law_why "_law_why" = true) (k_law_why : PySem.W.keepIn K (.ref f_law_why) = true)
    {od_law_odd an_law_odd : Option Addr} {sl_law_odd : Array (Option Value)} {oc_law_odd kV_law_odd dc_law_odd pm_law_odd cd_law_odd ct_law_odd : Value}
    (a_law_odd : PySem.W.nsIn K mainGlobals "_law_odd" = some (some (.ref f_law_odd)))
    (l_law_odd : K.lookup f_law_odd = some ⟨oc_law_odd, od_law_odd, .func (PySem.W.fnOf "_law_odd" "_law_odd" (defArgs s_law_odd) (defBody s_law_odd) (defScope s_law_odd) .none kV_law_odd dc_law_odd pm_law_odd an_law_odd cd_law_odd ct_law_odd), sl_law_odd⟩) (c_law_odd : PySem.W.codeIn K cd_law_odd "_law_odd" = true) (k_law_odd : PySem.W.keepIn K (.ref f_law_odd) = true)
    {od_law_bent_leaf an_law_bent_leaf : Option Addr} {sl_law_bent_leaf : Array (Option Value)} {oc_law_bent_leaf kV_law_bent_leaf dc_law_bent_leaf pm_law_bent_leaf cd_law_bent_leaf ct_law_bent_leaf : Value}
    (a_law_bent_leaf : PySem.W.nsIn K mainGlobals "_law_bent_leaf" = some (some (.ref f_law_bent_leaf)))
    (l_law_bent_leaf : K.lookup f_law_bent_leaf = some ⟨oc_law_bent_leaf, od_law_bent_leaf, .func (PySem.W.fnOf "_law_bent_leaf" "_law_bent_leaf" (defArgs s_law_bent_leaf) (defBody s_law_bent_leaf) (defScope s_law_bent_leaf) .none kV_law_bent_leaf dc_law_bent_leaf pm_law_bent_leaf an_law_bent_leaf cd_law_bent_leaf ct_law_bent_leaf), sl_law_bent_leaf⟩) (c_law_bent_leaf : PySem.W.codeIn K cd_law_bent_leaf "_law_bent_leaf" = true) (k_law_bent_leaf : PySem.W.keepIn K (.ref f_law_bent_leaf) = true)
    {od_law_bent_tree an_law_bent_tree : Option Addr} {sl_law_bent_tree : Array (Option Value)} {oc_law_bent_tree kV_law_bent_tree dc_law_bent_tree pm_law_bent_tree cd_law_bent_tree ct_law_bent_tree : Value}
    (a_law_bent_tree : PySem.W.nsIn K mainGlobals "_law_bent_tree" = some (some (.ref f_law_bent_tree)))
    (l_law_bent_tree : K.lookup f_law_bent_tree = some ⟨oc_law_bent_tree, od_law_bent_tree, .func (PySem.W.fnOf "_law_bent_tree" "_law_bent_tree" (defArgs s_law_bent_tree) (defBody s_law_bent_tree) (defScope s_law_bent_tree) .none kV_law_bent_tree dc_law_bent_tree pm_law_bent_tree an_law_bent_tree cd_law_bent_tree ct_law_bent_tree), sl_law_bent_tree⟩) (c_law_bent_tree : PySem.W.codeIn K cd_law_bent_tree "_law_bent_tree" = true) (k_law_bent_tree : PySem.W.keepIn K (.ref f_law_bent_tree) = true)
    {od_law_bent_version an_law_bent_version : Option Addr} {sl_law_bent_version : Array (Option Value)} {oc_law_bent_version kV_law_bent_version dc_law_bent_version pm_law_bent_version cd_law_bent_version ct_law_bent_version : Value}
    (a_law_bent_version : PySem.W.nsIn K mainGlobals "_law_bent_version" = some (some (.ref f_law_bent_version)))
    (l_law_bent_version : K.lookup f_law_bent_version = some ⟨oc_law_bent_version, od_law_bent_version, .func (PySem.W.fnOf "_law_bent_version" "_law_bent_version" (defArgs s_law_bent_version) (defBody s_law_bent_version) (defScope s_law_bent_version) .none kV_law_bent_version dc_law_bent_version pm_law_bent_version an_law_bent_version cd_law_bent_version ct_law_bent_version), sl_law_bent_version⟩) (c_law_bent_version : PySem.W.codeIn K cd_law_bent_version "_law_bent_version" = true) (k_law_bent_version : PySem.W.keepIn K (.ref f_law_bent_version) = true)
    {od_law_bent an_law_bent : Option Addr} {sl_law_bent : Array (Option Value)} {oc_law_bent kV_law_bent dc_law_bent pm_law_bent cd_law_bent ct_law_bent : Value}
    (a_law_bent : PySem.W.nsIn K mainGlobals "_law_bent" = some (some (.ref f_law_bent)))
    (l_law_bent : K.lookup f_law_bent = some ⟨oc_law_bent, od_law_bent, .func (PySem.W.fnOf "_law_bent" "_law_bent" (defArgs s_law_bent) (defBody s_law_bent) (defScope s_law_bent) .none kV_law_bent dc_law_bent pm_law_bent an_law_bent cd_law_bent ct_law_bent), sl_law_bent⟩) (c_law_bent : PySem.W.codeIn K cd_law_bent "_law_bent" = true) (k_law_bent : PySem.W.keepIn K (.ref f_law_bent) = true)
    {od_law_asked an_law_asked : Option Addr} {sl_law_asked : Array (Option Value)} {oc_law_asked kV_law_asked dc_law_asked pm_law_asked  ct_law_asked : Value}
    (a_law_asked : PySem.W.nsIn K mainGlobals "_law_asked" = some (some (.ref f_law_asked)))
    (l_law_asked : K.lookup f_law_asked = some ⟨oc_law_asked, od_law_asked, .func (PySem.W.fnOf "_law_asked" "_law_asked" (defArgs s_law_asked) (defBody s_law_asked) (defScope s_law_asked) .none kV_law_asked dc_law_asked pm_law_asked an_law_asked (.ref cL_law_asked) ct_law_asked), sl_law_asked⟩) (c_law_asked : PySem.W.codeIn K (.ref cL_law_asked) "_law_asked" = true) (k_law_asked : PySem.W.keepIn K (.ref f_law_asked) = true)
    {od_law an_law : Option Addr} {sl_law : Array (Option Value)} {oc_law kV_law dc_law pm_law  ct_law : Value}
    (a_law : PySem.W.nsIn K mainGlobals "law" = some (some (.ref f_law)))
    (l_law : K.lookup f_law = some ⟨oc_law, od_law, .func (PySem.W.fnOf "law" "law" (defArgs s_law) (defBody s_law) (defScope s_law) .none kV_law dc_law pm_law an_law (.ref cL) ct_law), sl_law⟩) (c_law : PySem.W.codeIn K (.ref cL) "law" = true) (k_law : PySem.W.keepIn K (.ref f_law) = true)
    (kga_Book : PySem.W.nsIn K mainGlobals "Book" = some (some (.ref C_Book))) (kpg_Book : PySem.W.plainGet K C_Book Str.empty = true) (khd_Book : PySem.W.hasDictIn K C_Book = true) (kpo_Book : PySem.W.plainOver K C_Book = true) (ksa_Book : PySem.W.findIn K (.ref C_Book) "__setattr__" = some (some (.builtin "object.__setattr__"))) (kmk_Book : PySem.W.makesIn K C_Book = true) (kkc_Book : PySem.W.keepIn K (.ref C_Book) = true)
    (kna_Book_contents : PySem.W.findIn K (.ref C_Book) "contents" = some none)
    (kna_Book_depths : PySem.W.findIn K (.ref C_Book) "depths" = some none)
    (kna_Book_given : PySem.W.findIn K (.ref C_Book) "given" = some none)
    (z_len : PySem.W.nsIn K mainGlobals "len" = some none)
    (z_list : PySem.W.nsIn K mainGlobals "list" = some none)
    (z_isinstance : PySem.W.nsIn K mainGlobals "isinstance" = some none)
    (z_int : PySem.W.nsIn K mainGlobals "int" = some none)
    (z_bool : PySem.W.nsIn K mainGlobals "bool" = some none)
    (z_str : PySem.W.nsIn K mainGlobals "str" = some none)
    (z_tuple : PySem.W.nsIn K mainGlobals "tuple" = some none)
    (z_dict : PySem.W.nsIn K mainGlobals "dict" = some none)
    (z_range : PySem.W.nsIn K mainGlobals "range" = some none)
    (z_all : PySem.W.nsIn K mainGlobals "all" = some none)
    (z_min : PySem.W.nsIn K mainGlobals "min" = some none)
    (z_max : PySem.W.nsIn K mainGlobals "max" = some none)
    (z_sorted : PySem.W.nsIn K mainGlobals "sorted" = some none)
    (z_ValueError : PySem.W.nsIn K mainGlobals "ValueError" = some none)
    {t_SIGNS : Tok} (y_SIGNS : PySem.W.nsIn K mainGlobals "SIGNS" = some (some (.str " !\"#$&'()*+,-./0123456789:;<=>?@ABCDEFGHIJKLMNOPQRSTUVWXYZ[\\]^_`abcdefghijklmnopqrstuvwxyz{|}~" t_SIGNS)))
    {t_LETTERS : Tok} (y_LETTERS : PySem.W.nsIn K mainGlobals "LETTERS" = some (some (.str "abcdefghijklmnopqrstuvwxyz" t_LETTERS)))
    {t_MOST : Tok} (y_MOST : PySem.W.nsIn K mainGlobals "MOST" = some (some (.int 400 t_MOST)))
    {t_DEEP : Tok} (y_DEEP : PySem.W.nsIn K mainGlobals "DEEP" = some (some (.int 8 t_DEEP)))
    {C_NoThing : Addr} (xa_NoThing : PySem.W.nsIn K mainGlobals "NoThing" = some (some (.ref C_NoThing))) (xx_NoThing : PySem.W.excIn K C_NoThing [.type "ValueError", .type "Exception", .type "BaseException", .type "object"] "ValueError.__new__" = true) (xk_NoThing : PySem.W.keepIn K (.ref C_NoThing) = true) (xb_NoThing : PySem.W.subIn K (.ref C_NoThing) (.type "BaseException") = some true) (xt_NoThing : PySem.W.typeIn K (.ref C_NoThing) = some (.type "type")) (xi_NoThing : PySem.W.isClsIn K C_NoThing = true) (xs_NoThing : PySem.W.subIn K (.ref C_NoThing) (.ref C_NoThing) = some true)
    {C_TooMany : Addr} (xa_TooMany : PySem.W.nsIn K mainGlobals "TooMany" = some (some (.ref C_TooMany))) (xx_TooMany : PySem.W.excIn K C_TooMany [.type "ValueError", .type "Exception", .type "BaseException", .type "object"] "ValueError.__new__" = true) (xk_TooMany : PySem.W.keepIn K (.ref C_TooMany) = true) (xb_TooMany : PySem.W.subIn K (.ref C_TooMany) (.type "BaseException") = some true) (xt_TooMany : PySem.W.typeIn K (.ref C_TooMany) = some (.type "type")) (xi_TooMany : PySem.W.isClsIn K C_TooMany = true) (xs_TooMany : PySem.W.subIn K (.ref C_TooMany) (.ref C_TooMany) = some true)
    {C_HouseError : Addr} (ga_HouseError : PySem.W.nsIn K mainGlobals "HouseError" = some (some (.ref C_HouseError))) (hb_HouseError : PySem.W.subIn K (.ref C_HouseError) (.type "BaseException") = some true) (hi_HouseError : PySem.W.isClsIn K C_HouseError = true) (ht_HouseError : PySem.W.typeIn K (.ref C_HouseError) = some (.type "type"))
    {C_Lack : Addr} (ga_Lack : PySem.W.nsIn K mainGlobals "Lack" = some (some (.ref C_Lack))) (hb_Lack : PySem.W.subIn K (.ref C_Lack) (.type "BaseException") = some true) (hi_Lack : PySem.W.isClsIn K C_Lack = true) (ht_Lack : PySem.W.typeIn K (.ref C_Lack) = some (.type "type"))
    {C_NoName : Addr} {nm_NoName q_NoName : Str} {N_NoName : Addr} {bs_NoName : List Value} {sn_NoName : List Str} {sub_NoName : List Value} {ab_NoName : Bool} {col_NoName : Option Bool} {dd_NoName : Option Addr} {m0_NoName m1_NoName m2_NoName m3_NoName m5_NoName : Option Value}
    (ga_NoName : PySem.W.nsIn K mainGlobals "NoName" = some (some (.ref C_NoName))) (xl_NoName : K.lookup C_NoName = some (excClassObj nm_NoName q_NoName C_NoName N_NoName bs_NoName [.ref C_HouseError, .type "ValueError", .type "Exception", .type "BaseException", .type "object"] true sn_NoName sub_NoName ab_NoName col_NoName dd_NoName m0_NoName m1_NoName m2_NoName m3_NoName m5_NoName "ValueError.__new__"))
    (hb_NoName : PySem.W.subIn K (.ref C_NoName) (.type "BaseException") = some true) (hi_NoName : PySem.W.isClsIn K C_NoName = true) (ht_NoName : PySem.W.typeIn K (.ref C_NoName) = some (.type "type")) (xk_NoName : PySem.W.keepIn K (.ref C_NoName) = true) (sa_NoName : PySem.W.findIn K (.ref C_NoName) "__setattr__" = some (some (.builtin "object.__setattr__")))
    (xg_NoName : PySem.W.findIn K (.ref C_NoName) "__getattribute__" = some (some (.builtin "BaseException.__getattribute__"))) (xh_NoName : PySem.W.findIn K (.ref C_NoName) "__getattr__" = some none) (xd_NoName : PySem.W.hasDictIn K C_NoName = true)
    (xo_NoName : PySem.W.findIn K (.ref C_NoName) "__class__" = some (some (.builtin "object.__class__"))) (xp_NoName : PySem.W.specialIn K (.builtin "object.__class__") "__get__" = some (some (.builtin "getset_descriptor.__get__"))) (xq_NoName : PySem.W.takesIn K (.builtin "object.__class__") = some true) (xr_NoName : PySem.W.mroIn K C_NoName (.type "object") = some true)
    (xi_NoName : PySem.W.findIn K (.ref C_NoName) "__init__" = some (some (.ref f_NoName___init__))) (xj_NoName : PySem.W.typeIn K (.ref f_NoName___init__) = some (.type "function"))
    (nf_NoName_name : PySem.W.findIn K (.ref C_NoName) "name" = some none)
    (es_NoThing_HouseError : PySem.W.subIn K (.ref C_NoThing) (.ref C_HouseError) = some true)
    (es_NoName_HouseError : PySem.W.subIn K (.ref C_NoName) (.ref C_HouseError) = some true)
    (kq_NoThing_NoThing : PySem.W.kitOne K (.ref C_NoThing) (.ref C_NoThing) = some true)
    (kq_NoThing_NoName : PySem.W.kitOne K (.ref C_NoThing) (.ref C_NoName) = some false)
    (kq_NoThing_TooMany : PySem.W.kitOne K (.ref C_NoThing) (.ref C_TooMany) = some false)
    (kq_NoThing_Lack : PySem.W.kitOne K (.ref C_NoThing) (.ref C_Lack) = some false)
    (kq_NoThing_ValueError : PySem.W.kitOne K (.ref C_NoThing) (.type "ValueError") = some true)
    (kq_NoName_NoName : PySem.W.kitOne K (.ref C_NoName) (.ref C_NoName) = some true)
    (kq_NoName_NoThing : PySem.W.kitOne K (.ref C_NoName) (.ref C_NoThing) = some false)
    (kq_NoName_TooMany : PySem.W.kitOne K (.ref C_NoName) (.ref C_TooMany) = some false)
    (kq_NoName_Lack : PySem.W.kitOne K (.ref C_NoName) (.ref C_Lack) = some false)
    (kq_NoName_ValueError : PySem.W.kitOne K (.ref C_NoName) (.type "ValueError") = some true)
     (e_hg_NoThing : PySem.W.findIn K (.ref C_NoThing) "__getattribute__" = some (some (.builtin "BaseException.__getattribute__")))
     (e_hk_NoThing : PySem.W.findIn K (.ref C_NoThing) "__getattr__" = some none)
     (e_hd_NoThing : PySem.W.hasDictIn K C_NoThing = true)
     (e_ha_NoThing : PySem.W.findIn K (.ref C_NoThing) "__class__" = some (some (.builtin "object.__class__")))
     (e_hn_NoThing : PySem.W.specialIn K (.builtin "object.__class__") "__get__" = some (some (.builtin "getset_descriptor.__get__")))
     (e_ht_NoThing : PySem.W.takesIn K (.builtin "object.__class__") = some true)
     (e_hm_NoThing : PySem.W.mroIn K C_NoThing (.type "object") = some true)
    {eL : Value} {dL : Option Addr} {vL : Array Value} {sL : Array (Option Value)} (lk_L : K.lookup cL = some ⟨eL, dL, .fields vL, sL⟩) (v11_L : vL[11]? = some (.ref PL)) (hd_L : PySem.W.codeHdIn K cL PL = true) (np_L : K.lookup PL = none)
    {eL_law_asked : Value} {dL_law_asked : Option Addr} {vL_law_asked : Array Value} {sL_law_asked : Array (Option Value)} (lk_law_asked : K.lookup cL_law_asked = some ⟨eL_law_asked, dL_law_asked, .fields vL_law_asked, sL_law_asked⟩) (v11_law_asked : vL_law_asked[11]? = some (.ref PL_law_asked)) (hd_law_asked : PySem.W.codeHdIn K cL_law_asked PL_law_asked = true) (np_law_asked : K.lookup PL_law_asked = none) (tb_law_asked : h.get? PL_law_asked = some { cls := .none, data := .fields #[] })
    (npp_law_asked : PL ≠ PL_law_asked)
    : LamX.LawAtS l w K CX0 10 63 "_law_script" mg fa h := by
  have e := hfa.symm.trans (PySem.W.mg_of X G a_law)
  cases e
  have F_NoName___init__ := fun_mk (st := s_NoName___init__) l_NoName___init__ c_NoName___init__ k_NoName___init__
  have F_is_int : FunD K "is_int" "is_int" (defArgs s_is_int) (defBody s_is_int) (defScope s_is_int) [V.int 0] [] f_is_int _ := ⟨⟨_, _, _, _, _, _, _, _, _, _, rfl, l_is_int, c_is_int, .inr ⟨by simp, _, _, [.int 0 dk_is_int_least], _, rfl, dl_is_int, rfl, .cons ⟨_, rfl⟩ (.nil)⟩, .inl rfl⟩, k_is_int⟩
  have D_is_int : DfD K mg "is_int" s_is_int ["thing", "least"] [V.int 0] _ _ := ⟨F_is_int, PySem.W.mg_of X G a_is_int, k_is_int, F_is_int.binds1 (ps := ["thing", "least"]) 1 0 (by simp) rfl fun _ _ _ _ _ _ _ us its hu hi => match us, its, hu, hi with | [_], [_], _, _ => ⟨_, rfl, rfl⟩⟩
  have F_is_text : FunD K "is_text" "is_text" (defArgs s_is_text) (defBody s_is_text) (defScope s_is_text) [V.int 40] [] f_is_text _ := ⟨⟨_, _, _, _, _, _, _, _, _, _, rfl, l_is_text, c_is_text, .inr ⟨by simp, _, _, [.int 40 dk_is_text_most], _, rfl, dl_is_text, rfl, .cons ⟨_, rfl⟩ (.nil)⟩, .inl rfl⟩, k_is_text⟩
  have D_is_text : DfD K mg "is_text" s_is_text ["thing", "most"] [V.int 40] _ _ := ⟨F_is_text, PySem.W.mg_of X G a_is_text, k_is_text, F_is_text.binds1 (ps := ["thing", "most"]) 1 0 (by simp) rfl fun _ _ _ _ _ _ _ us its hu hi => match us, its, hu, hi with | [_], [_], _, _ => ⟨_, rfl, rfl⟩⟩
  have F_is_label := fun_mk (st := s_is_label) l_is_label c_is_label k_is_label
  have D_is_label : Df K mg "is_label" s_is_label ["thing"] _ _ := ⟨F_is_label, F_is_label.binds (ps := ["thing"]) fun _ _ _ _ _ _ us hl => match us, hl with | [_], _ => rfl, PySem.W.mg_of X G a_is_label⟩
  have F_rise := fun_mk (st := s_rise) l_rise c_rise k_rise
  have D_rise : Df K mg "rise" s_rise ["row"] _ _ := ⟨F_rise, F_rise.binds (ps := ["row"]) fun _ _ _ _ _ _ us hl => match us, hl with | [_], _ => rfl, PySem.W.mg_of X G a_rise⟩
  have F_are_ints := fun_mk (st := s_are_ints) l_are_ints c_are_ints k_are_ints
  have D_are_ints : Df K mg "are_ints" s_are_ints ["thing"] _ _ := ⟨F_are_ints, F_are_ints.binds (ps := ["thing"]) fun _ _ _ _ _ _ us hl => match us, hl with | [_], _ => rfl, PySem.W.mg_of X G a_are_ints⟩
  have F_rising_ints := fun_mk (st := s_rising_ints) l_rising_ints c_rising_ints k_rising_ints
  have D_rising_ints : Df K mg "rising_ints" s_rising_ints ["thing"] _ _ := ⟨F_rising_ints, F_rising_ints.binds (ps := ["thing"]) fun _ _ _ _ _ _ us hl => match us, hl with | [_], _ => rfl, PySem.W.mg_of X G a_rising_ints⟩
  have F_is_pair := fun_mk (st := s_is_pair) l_is_pair c_is_pair k_is_pair
  have D_is_pair : Df K mg "is_pair" s_is_pair ["thing"] _ _ := ⟨F_is_pair, F_is_pair.binds (ps := ["thing"]) fun _ _ _ _ _ _ us hl => match us, hl with | [_], _ => rfl, PySem.W.mg_of X G a_is_pair⟩
  have F_are_rows := fun_mk (st := s_are_rows) l_are_rows c_are_rows k_are_rows
  have D_are_rows : Df K mg "are_rows" s_are_rows ["thing"] _ _ := ⟨F_are_rows, F_are_rows.binds (ps := ["thing"]) fun _ _ _ _ _ _ us hl => match us, hl with | [_], _ => rfl, PySem.W.mg_of X G a_are_rows⟩
  have F_Book___init__ := fun_mk (st := s_Book___init__) l_Book___init__ c_Book___init__ k_Book___init__
  have D_Book___init__ : DfM K C_Book "__init__" "Book.__init__" s_Book___init__ ["self"] _ _ := ⟨F_Book___init__, F_Book___init__.binds (ps := ["self"]) fun _ _ _ _ _ _ us hl => match us, hl with | [_], _ => rfl, ⟨a_Book___init__, i_Book___init__, k_Book___init__⟩⟩
  have F_Book___len__ := fun_mk (st := s_Book___len__) l_Book___len__ c_Book___len__ k_Book___len__
  have D_Book___len__ : DfM K C_Book "__len__" "Book.__len__" s_Book___len__ ["self"] _ _ := ⟨F_Book___len__, F_Book___len__.binds (ps := ["self"]) fun _ _ _ _ _ _ us hl => match us, hl with | [_], _ => rfl, ⟨a_Book___len__, i_Book___len__, k_Book___len__⟩⟩
  have F_Book_named := fun_mk (st := s_Book_named) l_Book_named c_Book_named k_Book_named
  have D_Book_named : DfM K C_Book "named" "Book.named" s_Book_named ["self", "content"] _ _ := ⟨F_Book_named, F_Book_named.binds (ps := ["self", "content"]) fun _ _ _ _ _ _ us hl => match us, hl with | [_, _], _ => rfl, ⟨a_Book_named, i_Book_named, k_Book_named⟩⟩
  have F_Book_name_of := fun_mk (st := s_Book_name_of) l_Book_name_of c_Book_name_of k_Book_name_of
  have D_Book_name_of : DfM K C_Book "name_of" "Book.name_of" s_Book_name_of ["self", "thing"] _ _ := ⟨F_Book_name_of, F_Book_name_of.binds (ps := ["self", "thing"]) fun _ _ _ _ _ _ us hl => match us, hl with | [_, _], _ => rfl, ⟨a_Book_name_of, i_Book_name_of, k_Book_name_of⟩⟩
  have F_Book_thing := fun_mk (st := s_Book_thing) l_Book_thing c_Book_thing k_Book_thing
  have D_Book_thing : DfM K C_Book "thing" "Book.thing" s_Book_thing ["self", "name"] _ _ := ⟨F_Book_thing, F_Book_thing.binds (ps := ["self", "name"]) fun _ _ _ _ _ _ us hl => match us, hl with | [_, _], _ => rfl, ⟨a_Book_thing, i_Book_thing, k_Book_thing⟩⟩
  have F_Book_kind := fun_mk (st := s_Book_kind) l_Book_kind c_Book_kind k_Book_kind
  have D_Book_kind : DfM K C_Book "kind" "Book.kind" s_Book_kind ["self", "name"] _ _ := ⟨F_Book_kind, F_Book_kind.binds (ps := ["self", "name"]) fun _ _ _ _ _ _ us hl => match us, hl with | [_, _], _ => rfl, ⟨a_Book_kind, i_Book_kind, k_Book_kind⟩⟩
  have F_Book_parts := fun_mk (st := s_Book_parts) l_Book_parts c_Book_parts k_Book_parts
  have D_Book_parts : DfM K C_Book "parts" "Book.parts" s_Book_parts ["self", "name"] _ _ := ⟨F_Book_parts, F_Book_parts.binds (ps := ["self", "name"]) fun _ _ _ _ _ _ us hl => match us, hl with | [_, _], _ => rfl, ⟨a_Book_parts, i_Book_parts, k_Book_parts⟩⟩
  have F_is_name := fun_mk (st := s_is_name) l_is_name c_is_name k_is_name
  have D_is_name : Df K mg "is_name" s_is_name ["book", "thing"] _ _ := ⟨F_is_name, F_is_name.binds (ps := ["book", "thing"]) fun _ _ _ _ _ _ us hl => match us, hl with | [_, _], _ => rfl, PySem.W.mg_of X G a_is_name⟩
  have F_is_kind := fun_mk (st := s_is_kind) l_is_kind c_is_kind k_is_kind
  have D_is_kind : Df K mg "is_kind" s_is_kind ["book", "thing", "kind"] _ _ := ⟨F_is_kind, F_is_kind.binds (ps := ["book", "thing", "kind"]) fun _ _ _ _ _ _ us hl => match us, hl with | [_, _, _], _ => rfl, PySem.W.mg_of X G a_is_kind⟩
  have F_is_entry := fun_mk (st := s_is_entry) l_is_entry c_is_entry k_is_entry
  have D_is_entry : Df K mg "is_entry" s_is_entry ["book", "thing"] _ _ := ⟨F_is_entry, F_is_entry.binds (ps := ["book", "thing"]) fun _ _ _ _ _ _ us hl => match us, hl with | [_, _], _ => rfl, PySem.W.mg_of X G a_is_entry⟩
  have F_is_tree := fun_mk (st := s_is_tree) l_is_tree c_is_tree k_is_tree
  have D_is_tree : Df K mg "is_tree" s_is_tree ["book", "entries"] _ _ := ⟨F_is_tree, F_is_tree.binds (ps := ["book", "entries"]) fun _ _ _ _ _ _ us hl => match us, hl with | [_, _], _ => rfl, PySem.W.mg_of X G a_is_tree⟩
  have F_depth_of := fun_mk (st := s_depth_of) l_depth_of c_depth_of k_depth_of
  have D_depth_of : Df K mg "depth_of" s_depth_of ["book", "content"] _ _ := ⟨F_depth_of, F_depth_of.binds (ps := ["book", "content"]) fun _ _ _ _ _ _ us hl => match us, hl with | [_, _], _ => rfl, PySem.W.mg_of X G a_depth_of⟩
  have F_is_version := fun_mk (st := s_is_version) l_is_version c_is_version k_is_version
  have D_is_version : Df K mg "is_version" s_is_version ["book", "content"] _ _ := ⟨F_is_version, F_is_version.binds (ps := ["book", "content"]) fun _ _ _ _ _ _ us hl => match us, hl with | [_, _], _ => rfl, PySem.W.mg_of X G a_is_version⟩
  have F_is_content := fun_mk (st := s_is_content) l_is_content c_is_content k_is_content
  have D_is_content : Df K mg "is_content" s_is_content ["book", "thing"] _ _ := ⟨F_is_content, F_is_content.binds (ps := ["book", "thing"]) fun _ _ _ _ _ _ us hl => match us, hl with | [_, _], _ => rfl, PySem.W.mg_of X G a_is_content⟩
  have F_law_deck := fun_mk (st := s_law_deck) l_law_deck c_law_deck k_law_deck
  have D_law_deck : Df K mg "_law_deck" s_law_deck ["_law_script"] _ _ := ⟨F_law_deck, F_law_deck.binds (ps := ["_law_script"]) fun _ _ _ _ _ _ us hl => match us, hl with | [_], _ => rfl, PySem.W.mg_of X G a_law_deck⟩
  have F_law_mixed := fun_mk (st := s_law_mixed) l_law_mixed c_law_mixed k_law_mixed
  have D_law_mixed : Df K mg "_law_mixed" s_law_mixed ["_law_cell", "_law_turn"] _ _ := ⟨F_law_mixed, F_law_mixed.binds (ps := ["_law_cell", "_law_turn"]) fun _ _ _ _ _ _ us hl => match us, hl with | [_, _], _ => rfl, PySem.W.mg_of X G a_law_mixed⟩
  have F_law_draw := fun_mk (st := s_law_draw) l_law_draw c_law_draw k_law_draw
  have D_law_draw : Df K mg "_law_draw" s_law_draw ["_law_deck_here", "_law_many"] _ _ := ⟨F_law_draw, F_law_draw.binds (ps := ["_law_deck_here", "_law_many"]) fun _ _ _ _ _ _ us hl => match us, hl with | [_, _], _ => rfl, PySem.W.mg_of X G a_law_draw⟩
  have F_law_text := fun_mk (st := s_law_text) l_law_text c_law_text k_law_text
  have D_law_text : Df K mg "_law_text" s_law_text ["_law_deck_here", "_law_most"] _ _ := ⟨F_law_text, F_law_text.binds (ps := ["_law_deck_here", "_law_most"]) fun _ _ _ _ _ _ us hl => match us, hl with | [_, _], _ => rfl, PySem.W.mg_of X G a_law_text⟩
  have F_law_alike := fun_mk (st := s_law_alike) l_law_alike c_law_alike k_law_alike
  have D_law_alike : Df K mg "_law_alike" s_law_alike ["_law_found", "_law_due"] _ _ := ⟨F_law_alike, F_law_alike.binds (ps := ["_law_found", "_law_due"]) fun _ _ _ _ _ _ us hl => match us, hl with | [_, _], _ => rfl, PySem.W.mg_of X G a_law_alike⟩
  have F_law_why := fun_mk (st := s_law_why) l_law_why c_law_why k_law_why
  have D_law_why : Df K mg "_law_why" s_law_why ["_law_deed"] _ _ := ⟨F_law_why, F_law_why.binds (ps := ["_law_deed"]) fun _ _ _ _ _ _ us hl => match us, hl with | [_], _ => rfl, PySem.W.mg_of X G a_law_why⟩
  have F_law_odd := fun_mk (st := s_law_odd) l_law_odd c_law_odd k_law_odd
  have D_law_odd : Df K mg "_law_odd" s_law_odd ["_law_deck_here"] _ _ := ⟨F_law_odd, F_law_odd.binds (ps := ["_law_deck_here"]) fun _ _ _ _ _ _ us hl => match us, hl with | [_], _ => rfl, PySem.W.mg_of X G a_law_odd⟩
  have F_law_bent_leaf := fun_mk (st := s_law_bent_leaf) l_law_bent_leaf c_law_bent_leaf k_law_bent_leaf
  have D_law_bent_leaf : Df K mg "_law_bent_leaf" s_law_bent_leaf ["_law_deck_here"] _ _ := ⟨F_law_bent_leaf, F_law_bent_leaf.binds (ps := ["_law_deck_here"]) fun _ _ _ _ _ _ us hl => match us, hl with | [_], _ => rfl, PySem.W.mg_of X G a_law_bent_leaf⟩
  have F_law_bent_tree := fun_mk (st := s_law_bent_tree) l_law_bent_tree c_law_bent_tree k_law_bent_tree
  have D_law_bent_tree : Df K mg "_law_bent_tree" s_law_bent_tree ["_law_deck_here", "_law_trees", "_law_stands", "_law_many"] _ _ := ⟨F_law_bent_tree, F_law_bent_tree.binds (ps := ["_law_deck_here", "_law_trees", "_law_stands", "_law_many"]) fun _ _ _ _ _ _ us hl => match us, hl with | [_, _, _, _], _ => rfl, PySem.W.mg_of X G a_law_bent_tree⟩
  have F_law_bent_version := fun_mk (st := s_law_bent_version) l_law_bent_version c_law_bent_version k_law_bent_version
  have D_law_bent_version : Df K mg "_law_bent_version" s_law_bent_version ["_law_deck_here", "_law_trees", "_law_stands", "_law_many"] _ _ := ⟨F_law_bent_version, F_law_bent_version.binds (ps := ["_law_deck_here", "_law_trees", "_law_stands", "_law_many"]) fun _ _ _ _ _ _ us hl => match us, hl with | [_, _, _, _], _ => rfl, PySem.W.mg_of X G a_law_bent_version⟩
  have F_law_bent := fun_mk (st := s_law_bent) l_law_bent c_law_bent k_law_bent
  have D_law_bent : Df K mg "_law_bent" s_law_bent ["_law_deck_here", "_law_trees", "_law_stands", "_law_many"] _ _ := ⟨F_law_bent, F_law_bent.binds (ps := ["_law_deck_here", "_law_trees", "_law_stands", "_law_many"]) fun _ _ _ _ _ _ us hl => match us, hl with | [_, _, _, _], _ => rfl, PySem.W.mg_of X G a_law_bent⟩
  have F_law_asked := fun_mk (st := s_law_asked) l_law_asked c_law_asked k_law_asked
  have D_law_asked : Df K mg "_law_asked" s_law_asked ["_law_book", "_law_name"] _ _ := ⟨F_law_asked, F_law_asked.binds (ps := ["_law_book", "_law_name"]) fun _ _ _ _ _ _ us hl => match us, hl with | [_, _], _ => rfl, PySem.W.mg_of X G a_law_asked⟩
  have F_law := fun_mk (st := s_law) l_law c_law k_law
  have D_law : Df K mg "law" s_law ["_law_script"] _ _ := ⟨F_law, F_law.binds (ps := ["_law_script"]) fun _ _ _ _ _ _ us hl => match us, hl with | [_], _ => rfl, PySem.W.mg_of X G a_law⟩
  have X_NoName : ExnI K mg "NoName" C_NoName f_NoName___init__ _ ["self", "name"] ["name"] := ⟨PySem.W.mg_of X G ga_NoName, ⟨⟨_, _, _, _, _, _, _, _, _, _, _, _, _, _, _, xl_NoName, (show PySem.HandSPX.refsVE [.type "ValueError", .type "Exception", .type "BaseException", .type "object"] = true by decide +kernel)⟩, sa_NoName, hb_NoName, ht_NoName, xk_NoName⟩, xi_NoName, xj_NoName, F_NoName___init__.binds (ps := ["self", "name"]) fun _ _ _ _ _ _ us hl => match us, hl with | [_, _], _ => rfl, ⟨xg_NoName, xh_NoName, hb_NoName, xd_NoName⟩, ⟨xg_NoName, xh_NoName, hb_NoName, xd_NoName, xo_NoName, xp_NoName, xq_NoName, xr_NoName⟩, fun y hy => by
    rcases (by simpa using hy : y = "name") with rfl
    · exact nf_NoName_name⟩
  have K_Book : Kl K mg "Book" C_Book ["contents", "depths", "given"] := ⟨PySem.W.mg_of X G kga_Book, ⟨kpg_Book, khd_Book, kpo_Book, ksa_Book⟩, fun y hy => by
    rcases (by simpa using hy : y = "contents" ∨ y = "depths" ∨ y = "given") with rfl | rfl | rfl
    · exact kna_Book_contents
    · exact kna_Book_depths
    · exact kna_Book_given⟩
  have M_Book : Mk K C_Book f_Book___init__ := ⟨kmk_Book, a_Book___init__, i_Book___init__, kkc_Book⟩
  have T : Txt K mg := ⟨PySem.W.mg_none_of X G z_len, PySem.W.mg_none_of X G z_list, PySem.W.mg_none_of X G z_isinstance, PySem.W.mg_none_of X G z_int, PySem.W.mg_none_of X G z_bool, PySem.W.mg_none_of X G z_str, PySem.W.mg_none_of X G z_tuple, PySem.W.mg_none_of X G z_dict, PySem.W.mg_none_of X G z_range, PySem.W.mg_none_of X G z_all, PySem.W.mg_none_of X G z_min, PySem.W.mg_none_of X G z_max, PySem.W.mg_none_of X G z_sorted, PySem.W.mg_none_of X G z_ValueError, ⟨_, PySem.W.mg_of X G y_SIGNS⟩, ⟨_, PySem.W.mg_of X G y_LETTERS⟩, ⟨_, PySem.W.mg_of X G y_MOST⟩, ⟨_, PySem.W.mg_of X G y_DEEP⟩⟩
  have X_NoThing : Exn K mg "NoThing" C_NoThing := ⟨PySem.W.mg_of X G xa_NoThing, xx_NoThing, xk_NoThing, xb_NoThing, xt_NoThing, exm_is xb_NoThing xi_NoThing xt_NoThing xs_NoThing⟩
  have X_TooMany : Exn K mg "TooMany" C_TooMany := ⟨PySem.W.mg_of X G xa_TooMany, xx_TooMany, xk_TooMany, xb_TooMany, xt_TooMany, exm_is xb_TooMany xi_TooMany xt_TooMany xs_TooMany⟩
  exact ⟨PySem.W.fnOf "law" "law" (defArgs s_law) (defBody s_law) (defScope s_law) .none kV_law dc_law pm_law an_law (.ref cL) ct_law, [(cL, PL), (cL_law_asked, PL_law_asked)], spLaw K PL PL_law_asked, (fun p hp => by
      rcases (by simpa using hp : p = (cL, PL) ∨ p = (cL_law_asked, PL_law_asked)) with rfl | rfl
      · exact own cL PL _ _ _ _ _ _ l_law rfl rfl lk_L v11_L
      · exact tb_law_asked), (fun p hp => by
      rcases (by simpa using hp : p = (cL, PL) ∨ p = (cL_law_asked, PL_law_asked)) with rfl | rfl
      · exact np_L
      · exact np_law_asked), (fun p hp => by
      rcases (by simpa using hp : p = (cL, PL) ∨ p = (cL_law_asked, PL_law_asked)) with rfl | rfl
      · exact PySem.W.codeHd_of_K X hd_L
      · exact PySem.W.codeHd_of_K X hd_law_asked), fun s v => .of_eq rfl, (fun H a ns hl hb hT hS => ⟨a, ns, rfl, hS, hl, hT (cL, PL) (by simp), hT (cL_law_asked, PL_law_asked) (by simp), fun _ => rfl⟩), fun base _ _ TB => ok_law T F_NoName___init__ D_is_int D_is_text D_is_label D_rise D_are_ints D_rising_ints D_is_pair D_are_rows D_Book___init__ D_Book___len__ D_Book_named D_Book_name_of D_Book_thing D_Book_kind D_Book_parts D_is_name D_is_kind D_is_entry D_is_tree D_depth_of D_is_version D_is_content D_law_deck D_law_mixed D_law_draw D_law_text D_law_alike D_law_why D_law_odd D_law_bent_leaf D_law_bent_tree D_law_bent_version D_law_bent D_law_asked D_law K_Book M_Book X_NoThing X_TooMany X_NoName (PySem.W.mg_of X G ga_HouseError) (PySem.W.mg_of X G ga_Lack) (exm_is hb_HouseError hi_HouseError ht_HouseError es_NoThing_HouseError) (exm_is hb_HouseError hi_HouseError ht_HouseError es_NoName_HouseError) kq_NoThing_NoThing kq_NoThing_NoName kq_NoThing_TooMany kq_NoThing_Lack kq_NoThing_ValueError kq_NoName_NoName kq_NoName_NoThing kq_NoName_TooMany kq_NoName_Lack kq_NoName_ValueError ⟨e_hg_NoThing, e_hk_NoThing, xb_NoThing, e_hd_NoThing, e_ha_NoThing, e_hn_NoThing, e_ht_NoThing, e_hm_NoThing⟩ (TB (cL, PL) (by simp)) rfl (TB (cL_law_asked, PL_law_asked) (by simp)) rfl npp_law_asked⟩
end FW
open PySem PySem.W PyProof.Rows
set_option maxRecDepth 100000 in
set_option maxHeartbeats 0 in
theorem PySem.Challenge.cw_fewasks_k02_no_contents_holds : PySem.Challenge.rw_fewasks_k02_no_contents.Holds := by
  w_on; o_law; k_head; (case hw => w_witness2)
  k_fill
  refine LamX.walk_ofOwn (l := PySem.Challenge.rw_fewasks_k02_no_contents) (n := 63) (k := 10) (x := "_law_script") (CX := fun _ => L2.CX0) rfl (by decide) rfl ⟨rfl, by decide, by decide⟩ (by decide +kernel) (fun w h Y => PySem.W.km_in_of Y) ?F (fun _ _ _ _ _ h => h)
  case F =>
    intro w mg fa h Y KX G hmg own
    refine' FW.all_mk KX G hmg own ?l_NoName___init__ ?c_NoName___init__ ?k_NoName___init__ ?a_is_int ?l_is_int ?c_is_int ?k_is_int ?dl_is_int ?a_is_text ?l_is_text ?c_is_text ?k_is_text ?dl_is_text ?a_is_label ?l_is_label ?c_is_label ?k_is_label ?a_rise ?l_rise ?c_rise ?k_rise ?a_are_ints ?l_are_ints ?c_are_ints ?k_are_ints ?a_rising_ints ?l_rising_ints ?c_rising_ints ?k_rising_ints ?a_is_pair ?l_is_pair ?c_is_pair ?k_is_pair ?a_are_rows ?l_are_rows ?c_are_rows ?k_are_rows ?a_Book___init__ ?i_Book___init__ ?l_Book___init__ ?c_Book___init__ ?k_Book___init__ ?a_Book___len__ ?i_Book___len__ ?l_Book___len__ ?c_Book___len__ ?k_Book___len__ ?a_Book_named ?i_Book_named ?l_Book_named ?c_Book_named ?k_Book_named ?a_Book_name_of ?i_Book_name_of ?l_Book_name_of ?c_Book_name_of ?k_Book_name_of ?a_Book_thing ?i_Book_thing ?l_Book_thing ?c_Book_thing ?k_Book_thing ?a_Book_kind ?i_Book_kind ?l_Book_kind ?c_Book_kind ?k_Book_kind ?a_Book_parts ?i_Book_parts ?l_Book_parts ?c_Book_parts ?k_Book_parts ?a_is_name ?l_is_name ?c_is_name ?k_is_name ?a_is_kind ?l_is_kind ?c_is_kind ?k_is_kind ?a_is_entry ?l_is_entry ?c_is_entry ?k_is_entry ?a_is_tree ?l_is_tree ?c_is_tree ?k_is_tree ?a_depth_of ?l_depth_of ?c_depth_of ?k_depth_of ?a_is_version ?l_is_version ?c_is_version ?k_is_version ?a_is_content ?l_is_content ?c_is_content ?k_is_content ?a_law_deck ?l_law_deck ?c_law_deck ?k_law_deck ?a_law_mixed ?l_law_mixed ?c_law_mixed ?k_law_mixed ?a_law_draw ?l_law_draw ?c_law_draw ?k_law_draw ?a_law_text ?l_law_text ?c_law_text ?k_law_text ?a_law_alike ?l_law_alike ?c_law_alike ?k_law_alike ?a_law_why ?l_law_why ?c_law_why ?k_law_why ?a_law_odd ?l_law_odd ?c_law_odd ?k_law_odd ?a_law_bent_leaf ?l_law_bent_leaf ?c_law_bent_leaf ?k_law_bent_leaf ?a_law_bent_tree ?l_law_bent_tree ?c_law_bent_tree ?k_law_bent_tree ?a_law_bent_version ?l_law_bent_version ?c_law_bent_version ?k_law_bent_version ?a_law_bent ?l_law_bent ?c_law_bent ?k_law_bent ?a_law_asked ?l_law_asked ?c_law_asked ?k_law_asked ?a_law ?l_law ?c_law ?k_law ?kga_Book ?kpg_Book ?khd_Book ?kpo_Book ?ksa_Book ?kmk_Book ?kkc_Book ?kna_Book_contents ?kna_Book_depths ?kna_Book_given ?z_len ?z_list ?z_isinstance ?z_int ?z_bool ?z_str ?z_tuple ?z_dict ?z_range ?z_all ?z_min ?z_max ?z_sorted ?z_ValueError ?y_SIGNS ?y_LETTERS ?y_MOST ?y_DEEP ?xa_NoThing ?xx_NoThing ?xk_NoThing ?xb_NoThing ?xt_NoThing ?xi_NoThing ?xs_NoThing ?xa_TooMany ?xx_TooMany ?xk_TooMany ?xb_TooMany ?xt_TooMany ?xi_TooMany ?xs_TooMany ?ga_HouseError ?hb_HouseError ?hi_HouseError ?ht_HouseError ?ga_Lack ?hb_Lack ?hi_Lack ?ht_Lack ?ga_NoName ?xl_NoName ?hb_NoName ?hi_NoName ?ht_NoName ?xk_NoName ?sa_NoName ?xg_NoName ?xh_NoName ?xd_NoName ?xo_NoName ?xp_NoName ?xq_NoName ?xr_NoName ?xi_NoName ?xj_NoName ?nf_NoName_name ?es_NoThing_HouseError ?es_NoName_HouseError ?kq_NoThing_NoThing ?kq_NoThing_NoName ?kq_NoThing_TooMany ?kq_NoThing_Lack ?kq_NoThing_ValueError ?kq_NoName_NoName ?kq_NoName_NoThing ?kq_NoName_TooMany ?kq_NoName_Lack ?kq_NoName_ValueError ?e_hg_NoThing ?e_hk_NoThing ?e_hd_NoThing ?e_ha_NoThing ?e_hn_NoThing ?e_ht_NoThing ?e_hm_NoThing ?lk_L ?v11_L ?hd_L ?np_L ?lk_law_asked ?v11_law_asked ?hd_law_asked ?np_law_asked ?tb_law_asked ?npp_law_asked
    (case ga_NoName => k_is); (case xi_NoName => k_is); (case kga_Book => k_is); (case a_Book___init__ => k_is); (case a_Book___len__ => k_is); (case a_Book_named => k_is); (case a_Book_name_of => k_is); (case a_Book_thing => k_is); (case a_Book_kind => k_is); (case a_Book_parts => k_is); (case l_NoName___init__ => k_is); (case c_NoName___init__ => k_is); (case k_NoName___init__ => k_is); (case a_is_int => k_is); (case l_is_int => k_is); (case c_is_int => k_is); (case k_is_int => k_is); (case dl_is_int => k_is); (case a_is_text => k_is); (case l_is_text => k_is); (case c_is_text => k_is); (case k_is_text => k_is); (case dl_is_text => k_is); (case a_is_label => k_is); (case l_is_label => k_is); (case c_is_label => k_is); (case k_is_label => k_is); (case a_rise => k_is); (case l_rise => k_is); (case c_rise => k_is); (case k_rise => k_is); (case a_are_ints => k_is); (case l_are_ints => k_is); (case c_are_ints => k_is); (case k_are_ints => k_is); (case a_rising_ints => k_is); (case l_rising_ints => k_is); (case c_rising_ints => k_is); (case k_rising_ints => k_is); (case a_is_pair => k_is); (case l_is_pair => k_is); (case c_is_pair => k_is); (case k_is_pair => k_is); (case a_are_rows => k_is); (case l_are_rows => k_is); (case c_are_rows => k_is); (case k_are_rows => k_is); (case i_Book___init__ => k_is); (case l_Book___init__ => k_is); (case c_Book___init__ => k_is); (case k_Book___init__ => k_is); (case i_Book___len__ => k_is); (case l_Book___len__ => k_is); (case c_Book___len__ => k_is); (case k_Book___len__ => k_is); (case i_Book_named => k_is); (case l_Book_named => k_is); (case c_Book_named => k_is); (case k_Book_named => k_is); (case i_Book_name_of => k_is); (case l_Book_name_of => k_is); (case c_Book_name_of => k_is); (case k_Book_name_of => k_is); (case i_Book_thing => k_is); (case l_Book_thing => k_is); (case c_Book_thing => k_is); (case k_Book_thing => k_is); (case i_Book_kind => k_is); (case l_Book_kind => k_is); (case c_Book_kind => k_is); (case k_Book_kind => k_is); (case i_Book_parts => k_is); (case l_Book_parts => k_is); (case c_Book_parts => k_is); (case k_Book_parts => k_is); (case a_is_name => k_is); (case l_is_name => k_is); (case c_is_name => k_is); (case k_is_name => k_is); (case a_is_kind => k_is); (case l_is_kind => k_is); (case c_is_kind => k_is); (case k_is_kind => k_is); (case a_is_entry => k_is); (case l_is_entry => k_is); (case c_is_entry => k_is); (case k_is_entry => k_is); (case a_is_tree => k_is); (case l_is_tree => k_is); (case c_is_tree => k_is); (case k_is_tree => k_is); (case a_depth_of => k_is); (case l_depth_of => k_is); (case c_depth_of => k_is); (case k_depth_of => k_is); (case a_is_version => k_is); (case l_is_version => k_is); (case c_is_version => k_is); (case k_is_version => k_is); (case a_is_content => k_is); (case l_is_content => k_is); (case c_is_content => k_is); (case k_is_content => k_is); (case a_law_deck => k_is); (case l_law_deck => k_is); (case c_law_deck => k_is); (case k_law_deck => k_is); (case a_law_mixed => k_is); (case l_law_mixed => k_is); (case c_law_mixed => k_is); (case k_law_mixed => k_is); (case a_law_draw => k_is); (case l_law_draw => k_is); (case c_law_draw => k_is); (case k_law_draw => k_is); (case a_law_text => k_is); (case l_law_text => k_is); (case c_law_text => k_is); (case k_law_text => k_is); (case a_law_alike => k_is); (case l_law_alike => k_is); (case c_law_alike => k_is); (case k_law_alike => k_is); (case a_law_why => k_is); (case l_law_why => k_is); (case c_law_why => k_is); (case k_law_why => k_is); (case a_law_odd => k_is); (case l_law_odd => k_is); (case c_law_odd => k_is); (case k_law_odd => k_is); (case a_law_bent_leaf => k_is); (case l_law_bent_leaf => k_is); (case c_law_bent_leaf => k_is); (case k_law_bent_leaf => k_is); (case a_law_bent_tree => k_is); (case l_law_bent_tree => k_is); (case c_law_bent_tree => k_is); (case k_law_bent_tree => k_is); (case a_law_bent_version => k_is); (case l_law_bent_version => k_is); (case c_law_bent_version => k_is); (case k_law_bent_version => k_is); (case a_law_bent => k_is); (case l_law_bent => k_is); (case c_law_bent => k_is); (case k_law_bent => k_is); (case a_law_asked => k_is); (case l_law_asked => k_is); (case c_law_asked => k_is); (case k_law_asked => k_is); (case a_law => k_is); (case l_law => k_is); (case c_law => k_is); (case k_law => k_is); (case kpg_Book => k_is); (case khd_Book => k_is); (case kpo_Book => k_is); (case ksa_Book => k_is); (case kmk_Book => k_is); (case kkc_Book => k_is); (case kna_Book_contents => k_is); (case kna_Book_depths => k_is); (case kna_Book_given => k_is); (case z_len => k_is); (case z_list => k_is); (case z_isinstance => k_is); (case z_int => k_is); (case z_bool => k_is); (case z_str => k_is); (case z_tuple => k_is); (case z_dict => k_is); (case z_range => k_is); (case z_all => k_is); (case z_min => k_is); (case z_max => k_is); (case z_sorted => k_is); (case z_ValueError => k_is); (case y_SIGNS => k_is); (case y_LETTERS => k_is); (case y_MOST => k_is); (case y_DEEP => k_is); (case xa_NoThing => k_is); (case xx_NoThing => k_exc); (case xk_NoThing => k_is); (case xb_NoThing => k_is); (case xt_NoThing => k_is); (case xi_NoThing => k_is); (case xs_NoThing => k_is); (case xa_TooMany => k_is); (case xx_TooMany => k_exc); (case xk_TooMany => k_is); (case xb_TooMany => k_is); (case xt_TooMany => k_is); (case xi_TooMany => k_is); (case xs_TooMany => k_is); (case ga_HouseError => k_is); (case hb_HouseError => k_is); (case hi_HouseError => k_is); (case ht_HouseError => k_is); (case ga_Lack => k_is); (case hb_Lack => k_is); (case hi_Lack => k_is); (case ht_Lack => k_is); (case xl_NoName => k_is); (case hb_NoName => k_is); (case hi_NoName => k_is); (case ht_NoName => k_is); (case xk_NoName => k_is); (case sa_NoName => k_is); (case xg_NoName => k_is); (case xh_NoName => k_is); (case xd_NoName => k_is); (case xo_NoName => k_is); (case xp_NoName => k_is); (case xq_NoName => k_is); (case xr_NoName => k_is); (case xj_NoName => k_is); (case nf_NoName_name => k_is); (case es_NoThing_HouseError => k_is); (case es_NoName_HouseError => k_is); (case kq_NoThing_NoThing => kit_is); (case kq_NoThing_NoName => kit_is); (case kq_NoThing_TooMany => kit_is); (case kq_NoThing_Lack => kit_is); (case kq_NoThing_ValueError => kit_is); (case kq_NoName_NoName => kit_is); (case kq_NoName_NoThing => kit_is); (case kq_NoName_TooMany => kit_is); (case kq_NoName_Lack => kit_is); (case kq_NoName_ValueError => kit_is); (case e_hg_NoThing => k_is); (case e_hk_NoThing => k_is); (case e_hd_NoThing => k_is); (case e_ha_NoThing => k_is); (case e_hn_NoThing => k_is); (case e_ht_NoThing => k_is); (case e_hm_NoThing => k_is); (case lk_L => k_is); (case v11_L => rfl); (case hd_L => kernel_rfl); (case np_L => kernel_rfl); (case lk_law_asked => k_is); (case v11_law_asked => rfl); (case hd_law_asked => kernel_rfl); (case np_law_asked => kernel_rfl); (case tb_law_asked => exact PySem.W.km_tabs_of Y _ (by simp)); (case npp_law_asked => decide)

