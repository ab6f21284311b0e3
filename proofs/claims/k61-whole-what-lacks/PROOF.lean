import PyProof.Rows.All
import Wide.All
import OpenK.AllK
import Wide.FinOn
import HandS.ForMost
import HandS.Wide
import HandS.WideBits
import HandS.Conv
import HandS.IsInst
import HandS.Walk
import HandS.TupLe
import HandS.TupAny
import HandS.DictComp
import HandS.SetKeys
import HandS.ForExc
import HandS.ExcIs
import HandS.ExcInit
import HandS.ExcField
import HandS.Defaults
import HandS.CallSlots
import HandS.MakeKwOnly
import KE.DatumOrd
import PyProof.Claim2Refuses
import KE.GoesEnum
import HandS.WordsDict
import HandS.SortInts
import HandS.Zip
import PyProof.CollectIter
import PyProof.WalksMore
import HandS.TryMany
import KE.KTryMore
import HandS.TryOnly
import HandS.TupMul
import KE.KxIndex
import KE.KeyNested
import HandS.SetFor
import HandS.Strs
import HandS.SortKw
import HandS.Deep
import HandS.DictTup
import HandS.ListItems
import KE.SortData
import HandS.ClsMeth
import HandS.More
import KE.KCallOwn
import HandS.Lambda
import HandS.EndOwn
import KE.KDictPairs
import HandS.Dict
import PySem.Challenge.RW_fewasks_k61_whole_what_lacks
set_option Elab.async false
set_option linter.all false
set_option maxRecDepth 100000
/-! My own small words over the layer: steps of readings as lemmas, heaps that keep. -/
namespace FW
open PySem L2
/-! ### heaps -/
/-- all that stood stands, but at the addresses M -/
def Kp (M : List Addr) (H H' : Hp) : Prop := ∀ b o, b ∉ M → H b = some o → H' b = some o
theorem Kp.refl {M : List Addr} {H : Hp} : Kp M H H := fun _ _ _ h => h
theorem Kp.trans {M : List Addr} {H H1 H2 : Hp} (a : Kp M H H1) (b : Kp M H1 H2) : Kp M H H2 := fun c o n h => b c o n (a c o n h)
theorem Kp.mono {M N : List Addr} {H H1 : Hp} (a : Kp M H H1) (s : ∀ x ∈ M, x ∈ N) : Kp N H H1 := fun c o n h => a c o (fun z => n (s c z)) h
theorem Kp.same {H H1 : Hp} (a : Kp [] H H1) : Same H H1 := fun c o h => a c o (by simp) h
theorem Kp.of {M : List Addr} {H H1 : Hp} (a : Same H H1) : Kp M H H1 := fun c o _ h => a c o h
theorem Kp.new {M : List Addr} {H : Hp} {p : Addr} {o : HO} (h : H p = none) : Kp M H (upd H p o) := fun b u _ e => by rw [upd_ne (ne_of_none e h)]; exact e
theorem Kp.mut {M : List Addr} {H : Hp} {p : Addr} {o : HO} (h : p ∈ M) : Kp M H (upd H p o) := fun b u n e => by
  rw [upd_ne (show b ≠ p from fun z => n (by rw [z]; exact h))]; exact e
/-- a new object that was mutated or laid since: it stood not at the start -/
theorem Kp.mutN {M : List Addr} {H H1 : Hp} {p : Addr} {o : HO} (k : Kp M H H1) (h : H p = none) : Kp M H (upd H1 p o) := fun b u n e => by
  rw [upd_ne (ne_of_none e h)]; exact k b u n e
theorem Same.new {H : Hp} {p : Addr} {o : HO} (h : H p = none) : Same H (upd H p o) := fun b u e => by rw [upd_ne (ne_of_none e h)]; exact e
theorem upd_get {H : Hp} {a b : Addr} {o u : HO} (h : b ≠ a) (e : H b = some u) : upd H a o b = some u := by rw [upd_ne h]; exact e
theorem upd_none {H : Hp} {a b : Addr} {o : HO} (e : upd H a o b = none) : H b = none ∧ b ≠ a := by
  by_cases h : b = a
  · subst h; rw [upd_same] at e; cases e
  · rw [upd_ne h] at e; exact ⟨e, h⟩
/-- all but p is as it was -/
def Off (p : Addr) (H H' : Hp) : Prop := ∀ b, b ≠ p → H' b = H b
theorem Off.get {p b : Addr} {H H' : Hp} {o : HO} (k : Off p H H') (n : b ≠ p) (e : H b = some o) : H' b = some o := (k b n).trans e
theorem Off.kp {p : Addr} {M : List Addr} {H H' : Hp} (k : Off p H H') (m : p ∈ M) : Kp M H H' := fun b o n e => (k b (fun z => n (by rw [z]; exact m))).trans e
theorem Off.trans {p : Addr} {H H1 H2 : Hp} (a : Off p H H1) (b : Off p H1 H2) : Off p H H2 := fun x n => (b x n).trans (a x n)
theorem Off.keep {p : Addr} {M : List Addr} {H H1 H2 : Hp} (a : Kp M H H1) (b : Off p H1 H2) (n : H p = none) : Kp M H H2 := fun x o m e => (b x (ne_of_none e n)).trans (a x o m e)
/-- a list's change keeps the tuples -/
theorem Off.tup {p b : Addr} {H H' : Hp} {xs ys : List V} (k : Off p H H') (hp : H p = some (.lst xs)) (e : H b = some (.tup ys)) : H' b = some (.tup ys) := k.get (ne_of e hp (fun z => nomatch z)) e
/-- what keeps the tuples -/
structure KT (H H' : Hp) : Prop where
  p : ∀ b xs, H b = some (.tup xs) → H' b = some (.tup xs)
  f : ∀ b o xs, H b = some (.frz o (.tup xs)) → H' b = some (.frz o (.tup xs))
instance {H H' : Hp} : CoeFun (KT H H') (fun _ => ∀ b xs, H b = some (.tup xs) → H' b = some (.tup xs)) := ⟨KT.p⟩
theorem KT.refl {H : Hp} : KT H H := ⟨fun _ _ e => e, fun _ _ _ e => e⟩
theorem KT.of {H H' : Hp} (k : Same H H') : KT H H' := ⟨fun b xs e => k _ _ e, fun b o xs e => k _ _ e⟩
theorem KT.off {p : Addr} {H H' : Hp} {xs : List V} (k : Off p H H') (e : H p = some (.lst xs)) : KT H H' := ⟨fun b ys e2 => k.tup e e2, fun b o ys e2 => k.get (ne_of e2 e (fun z => nomatch z)) e2⟩
theorem KT.trans {H H1 H2 : Hp} (a : KT H H1) (b : KT H1 H2) : KT H H2 := ⟨fun c xs e => b.p c xs (a.p c xs e), fun c o xs e => b.f c o xs (a.f c o xs e)⟩
theorem KT.kp {M : List Addr} {H H' : Hp} (k : Kp M H H') (h : ∀ b ∈ M, ∃ xs, H b = some (.lst xs)) : KT H H' := ⟨fun b ys e => k b _ (fun z => by
  obtain ⟨xs, e2⟩ := h b z
  rw [e] at e2; cases e2) e, fun b o ys e => k b _ (fun z => by
  obtain ⟨xs, e2⟩ := h b z
  rw [e] at e2; cases e2) e⟩
theorem KT.upd {H H1 : Hp} {D : Addr} {o : HO} (k : KT H H1) (h : H D = none) : KT H (upd H1 D o) := ⟨fun b xs e => by rw [upd_ne (ne_of_none e h)]; exact k.p b xs e, fun b u xs e => by rw [upd_ne (ne_of_none e h)]; exact k.f b u xs e⟩
theorem KT.updL {H : Hp} {D : Addr} {o : HO} {ys : List V} (h : H D = some (.lst ys)) : KT H (L2.upd H D o) := ⟨fun b xs e => upd_get (ne_of e h (fun z => nomatch z)) e, fun b u xs e => upd_get (ne_of e h (fun z => nomatch z)) e⟩
/-- a tuple whose object has no dict -/
def TupD (H : Hp) (r : Addr) (xs : List V) : Prop := ∃ o : Obj, H r = some (.frz o (.tup xs)) ∧ o.dict = none
theorem TupD.kt {H H' : Hp} {r : Addr} {xs : List V} (h : TupD H r xs) (k : KT H H') : TupD H' r xs := by
  obtain ⟨o, e, d⟩ := h
  exact ⟨o, k.f _ _ _ e, d⟩
theorem TupD.tx {K : PySem.W.Frag} {H : Hp} {r : Addr} {xs : List V} (h : TupD H r xs) : TyX K H (.ref r) (.type "tuple") := by
  obtain ⟨o, e, d⟩ := h
  exact .fTuple e
theorem TupD.sq {K : PySem.W.Frag} {H : Hp} {r : Addr} {xs : List V} (h : TupD H r xs) : SqT K H r xs := by
  obtain ⟨o, e, d⟩ := h
  exact .inl (.inr ⟨o, e⟩)
/-! ### rules by names -/
/-- a new object o -/
def Nw (o : HO) (H : Hp) (Q : VK) : Prop := ∀ p, H p = none → Q (.ref p) (upd H p o)
def rLen (K : PySem.W.Frag) : List V → Hp → VK → Prop := fun xs H Q => ∃ p ys, xs = [.ref p] ∧ (SqL K H p ys ∨ SqT K H p ys) ∧ Q (.int ys.length) H
def rMin2 : List V → Hp → VK → Prop := fun xs H Q => ∃ i j, xs = [.int i, .int j] ∧ Q (.int (if j < i then j else i)) H
def rMax2 : List V → Hp → VK → Prop := fun xs H Q => ∃ i j, xs = [.int i, .int j] ∧ Q (.int (if j > i then j else i)) H
def rListOf (K : PySem.W.Frag) : List V → Hp → VK → Prop := fun xs H Q => ∃ p ys, xs = [.ref p] ∧ (SqL K H p ys ∨ SqT K H p ys) ∧ ∀ l, H l = none → Q (.ref l) (upd H l (.lst ys))
def rTupOf (K : PySem.W.Frag) : List V → Hp → VK → Prop := fun xs H Q => ∃ p ys, xs = [.ref p] ∧ ((SqL K H p ys ∧ ∀ l, H l = none → Q (.ref l) (upd H l (.tup ys))) ∨ (SqT K H p ys ∧ Q (.ref p) H))
def rRg2 (x y : V) (H : Hp) (R : Int → Int → Hp → Prop) : Prop := ∃ i j, x = .int i ∧ y = .int j ∧ R i j H
def rBits (x : V) (H : Hp) (Q : VK) : Prop := ∃ i, x = .int i ∧ Q (.int (Builtin.Int.intBits i : Nat)) H
def rRng1 (vs : List V) (H : Hp) (R : It → Hp → Prop) : Prop := ∃ j : Int, vs = [.int j] ∧ -(2 ^ 62) ≤ j ∧ j < 2 ^ 62 ∧ R (Itr 0 j.toNat) H
def rRng2 (vs : List V) (H : Hp) (R : It → Hp → Prop) : Prop := ∃ i j : Int, vs = [.int i, .int j] ∧ (-(2 ^ 62) ≤ i ∧ i < 2 ^ 62 ∧ -(2 ^ 62) ≤ j ∧ j < 2 ^ 62) ∧ R (Itr i (j - i).toNat) H
def rItL (K : PySem.W.Frag) (x : V) (H : Hp) (R : It → Hp → Prop) : Prop := ∃ a, x = .ref a ∧ (∃ xs, SqL K H a xs) ∧ R (Itl K a) H
def rItT (K : PySem.W.Frag) (x : V) (H : Hp) (R : It → Hp → Prop) : Prop := ∃ a, x = .ref a ∧ (∃ xs, SqT K H a xs) ∧ R (Itt K a) H
def rDIn (x y : V) (H : Hp) (Q : VK) : Prop := ∃ a o, x = .ref a ∧ DGet H a y o ∧ Q (.bl o.isSome) H
def rDNotIn (x y : V) (H : Hp) (Q : VK) : Prop := ∃ a o, x = .ref a ∧ DGet H a y o ∧ Q (.bl (!o.isSome)) H
def rDGet (x y : V) (H : Hp) (Q : VK) : Prop := ∃ a v, x = .ref a ∧ DGet H a y (some v) ∧ Q v H
def rDGet2 (a : Addr) (y z : V) (H : Hp) (Q : VK) : Prop := ∃ o, DGet H a y o ∧ Q (o.getD z) H
def rDPut (x y v : V) (H : Hp) (R : Hp → Prop) : Prop := ∃ a H4, x = .ref a ∧ DPut H a y v H4 ∧ R H4
def rDSetd (a : Addr) (y z : V) (H : Hp) (Q : VK) : Prop := ∃ (kvs : List (Key × V)) (k : Key), H a = some (.dK kvs) ∧ y = kV k ∧ kvs.length < sizeLine ∧ (∀ v, valV kvs k = some v → Q v H) ∧ (valV kvs k = none → Q z (upd H a (.dK (putK kvs k z))))
def rIsD (x : V) (H : Hp) (R : Addr → Hp → Prop) : Prop := ∃ a, x = .ref a ∧ IsD H a ∧ R a H
def rIsBl : R2 := fun x y H Q => ∃ a b, x = .bl a ∧ y = .bl b ∧ Q (.bl (decide (a = b))) H
def rIsNon : R2 := fun x y H Q => y = .non ∧ Q (.bl (decide (x = .non))) H
def rNotNon : R2 := fun x y H Q => y = .non ∧ Q (.bl (!decide (x = .non))) H
def rTru (K : PySem.W.Frag) (x : V) (H : Hp) (R : Bool → Hp → Prop) : Prop := ∃ k, TruV K x H k ∧ R k H
def tTru (K : PySem.W.Frag) (ta : TE) : TT := fun σ H R => ta σ H fun x H' => ∃ k, TruV K x H' k ∧ R k H'
def rSortD (xs : List V) (H : Hp) (Q : VK) : Prop := ∃ (a : Addr) (kvs : List (Key × V)) (ks : List Int), xs = [.ref a] ∧ Rd H a (.dK kvs) ∧ kvs.map (·.1) = ks.map Sum.inl ∧ ks.length < 64 ∧
    ∀ (ys : List Int) (p : Addr), ys.Perm ks → ys.Pairwise (· ≤ ·) → H p = none → Q (.ref p) (upd H p (.lst (ys.map V.int)))
section
variable {X : Cx}
theorem o_isN : OpR X (compareOp .Is) rIsNon := op_isN
theorem c_len : CallR X (.builtin "len") (rLen X.K) := call_len_seq
theorem c_min2 (hc : X.calm = true) : CallR X (.builtin "min") rMin2 := call_min2 hc
theorem c_listOf : CallR X (.type "list") (rListOf X.K) := call_list_of
theorem c_tupOf : CallR X (.type "tuple") (rTupOf X.K) := call_tuple_of
end
theorem kb_int_int : kitB "int" "int" = some true := by decide +kernel
theorem kb_int_bool : kitB "int" "bool" = some false := by decide +kernel
theorem kb_int_str : kitB "int" "str" = some false := by decide +kernel
theorem kb_int_tuple : kitB "int" "tuple" = some false := by decide +kernel
theorem kb_int_list : kitB "int" "list" = some false := by decide +kernel
theorem kb_int_dict : kitB "int" "dict" = some false := by decide +kernel
theorem kb_bool_int : kitB "bool" "int" = some true := by decide +kernel
theorem kb_bool_bool : kitB "bool" "bool" = some true := by decide +kernel
theorem kb_bool_str : kitB "bool" "str" = some false := by decide +kernel
theorem kb_bool_tuple : kitB "bool" "tuple" = some false := by decide +kernel
theorem kb_bool_list : kitB "bool" "list" = some false := by decide +kernel
theorem kb_bool_dict : kitB "bool" "dict" = some false := by decide +kernel
theorem kb_str_int : kitB "str" "int" = some false := by decide +kernel
theorem kb_str_bool : kitB "str" "bool" = some false := by decide +kernel
theorem kb_str_str : kitB "str" "str" = some true := by decide +kernel
theorem kb_str_tuple : kitB "str" "tuple" = some false := by decide +kernel
theorem kb_str_list : kitB "str" "list" = some false := by decide +kernel
theorem kb_str_dict : kitB "str" "dict" = some false := by decide +kernel
theorem kb_tuple_int : kitB "tuple" "int" = some false := by decide +kernel
theorem kb_tuple_bool : kitB "tuple" "bool" = some false := by decide +kernel
theorem kb_tuple_str : kitB "tuple" "str" = some false := by decide +kernel
theorem kb_tuple_tuple : kitB "tuple" "tuple" = some true := by decide +kernel
theorem kb_tuple_list : kitB "tuple" "list" = some false := by decide +kernel
theorem kb_tuple_dict : kitB "tuple" "dict" = some false := by decide +kernel
theorem kb_list_int : kitB "list" "int" = some false := by decide +kernel
theorem kb_list_bool : kitB "list" "bool" = some false := by decide +kernel
theorem kb_list_str : kitB "list" "str" = some false := by decide +kernel
theorem kb_list_tuple : kitB "list" "tuple" = some false := by decide +kernel
theorem kb_list_list : kitB "list" "list" = some true := by decide +kernel
theorem kb_list_dict : kitB "list" "dict" = some false := by decide +kernel
theorem kb_dict_int : kitB "dict" "int" = some false := by decide +kernel
theorem kb_dict_bool : kitB "dict" "bool" = some false := by decide +kernel
theorem kb_dict_str : kitB "dict" "str" = some false := by decide +kernel
theorem kb_dict_tuple : kitB "dict" "tuple" = some false := by decide +kernel
theorem kb_dict_list : kitB "dict" "list" = some false := by decide +kernel
theorem kb_dict_dict : kitB "dict" "dict" = some true := by decide +kernel
theorem kb_NoneType_int : kitB "NoneType" "int" = some false := by decide +kernel
theorem kb_NoneType_bool : kitB "NoneType" "bool" = some false := by decide +kernel
theorem kb_NoneType_str : kitB "NoneType" "str" = some false := by decide +kernel
theorem kb_NoneType_tuple : kitB "NoneType" "tuple" = some false := by decide +kernel
theorem kb_NoneType_list : kitB "NoneType" "list" = some false := by decide +kernel
theorem kb_NoneType_dict : kitB "NoneType" "dict" = some false := by decide +kernel
/-! ### steps -/
section
variable {K : PySem.W.Frag} {σ : St} {H : Hp} {Q : VK} {nx bk ct : St → Hp → Prop} {rt : VK} {v : V}
theorem w_seq {t u : TS} (h : t ⟨u ⟨nx, rt, bk, ct⟩, rt, bk, ct⟩ σ H) : tSeq t u ⟨nx, rt, bk, ct⟩ σ H := h
theorem w_seqA {te : TE} {g : TG} {u : TS} (h : te σ H fun x H1 => g x σ H1 (u ⟨nx, rt, bk, ct⟩)) : tSeq (tAsg te g) u ⟨nx, rt, bk, ct⟩ σ H := h
theorem w_seqD {te : TE} {u : TS} (h : te σ H fun _ H1 => u ⟨nx, rt, bk, ct⟩ σ H1) : tSeq (tDrop te) u ⟨nx, rt, bk, ct⟩ σ H := h
theorem w_seqF {wi : TI} {g : TG} {tb u : TS} (h : tFor wi g tb ⟨u ⟨nx, rt, bk, ct⟩, rt, bk, ct⟩ σ H) : tSeq (tFor wi g tb) u ⟨nx, rt, bk, ct⟩ σ H := h
theorem w_seqW {c : TT} {tb u : TS} (h : tWhile c tb ⟨u ⟨nx, rt, bk, ct⟩, rt, bk, ct⟩ σ H) : tSeq (tWhile c tb) u ⟨nx, rt, bk, ct⟩ σ H := h
theorem w_seqG {i : Nat} {te : TE} {ti : TIp} {u : TS} (h : tAug i te ti ⟨u ⟨nx, rt, bk, ct⟩, rt, bk, ct⟩ σ H) : tSeq (tAug i te ti) u ⟨nx, rt, bk, ct⟩ σ H := h
/-- a statement whose ways meet: what follows is taken as U, of which R is enough -/
theorem w_seqJ {t u : TS} (R : St → Hp → Prop) (h2 : ∀ σ' H', R σ' H' → u ⟨nx, rt, bk, ct⟩ σ' H') (h1 : ∀ U : St → Hp → Prop, (∀ σ' H', R σ' H' → U σ' H') → t ⟨U, rt, bk, ct⟩ σ H) : tSeq t u ⟨nx, rt, bk, ct⟩ σ H := h1 _ h2
theorem w_var {i : Nat} (e : σ[i]? = some (some v)) (h : Q v H) : tVar i σ H Q := ⟨v, e, h⟩
theorem w_c (h : Q v H) : tC v σ H Q := h
theorem w_asg {te : TE} {g : TG} (h : te σ H fun x H1 => g x σ H1 nx) : tAsg te g ⟨nx, rt, bk, ct⟩ σ H := h
theorem w_name {i : Nat} {R : St → Hp → Prop} (h : R (σ.set i (some v)) H) : gName i v σ H R := h
theorem w_op {r : R2} {ta tb : TE} (h : ta σ H fun x H1 => tb σ H1 fun y H2 => r x y H2 Q) : tOp r ta tb σ H Q := h
theorem w_un {r : V → Hp → VK → Prop} {ta : TE} (h : ta σ H fun x H1 => r x H1 Q) : tUn r ta σ H Q := h
theorem w_neg {i : Int} (h : Q (.int (-i)) H) : rU (fun i => .int (-i)) (.int i) H Q := ⟨i, rfl, h⟩
theorem w_i {C : Int → Int → Prop} {g : Int → Int → V} {i j : Int} (c : C i j) (h : Q (g i j) H) : rI C g (.int i) (.int j) H Q := ⟨i, j, rfl, rfl, c, h⟩
theorem w_i0 {g : Int → Int → V} {i j : Int} (h : Q (g i j) H) : rI0 g (.int i) (.int j) H Q := ⟨i, j, rfl, rfl, h⟩
theorem w_eqI {i j : Int} (h : Q (.bl (decide (i = j))) H) : rEq (.int i) (.int j) H Q := ⟨rfl, by
  have e : decide (V.int i = V.int j) = decide (i = j) := by
    by_cases q : i = j
    · subst q; rw [decide_eq_true rfl, decide_eq_true rfl]
    · rw [decide_eq_false q, decide_eq_false (fun z => q (V.int.inj z))]
  rw [e]; exact h⟩
theorem w_neI {i j : Int} (h : Q (.bl (!decide (i = j))) H) : rNe (.int i) (.int j) H Q := ⟨rfl, by
  have e : decide (V.int i = V.int j) = decide (i = j) := by
    by_cases q : i = j
    · subst q; rw [decide_eq_true rfl, decide_eq_true rfl]
    · rw [decide_eq_false q, decide_eq_false (fun z => q (V.int.inj z))]
  rw [e]; exact h⟩
theorem w_ixL {p : Addr} {xs : List V} {i : Int} (h1 : SqL K H p xs) (h2 : atI xs i = some v) (h : Q v H) : rIxL K (.ref p) (.int i) H Q := ⟨p, xs, i, v, rfl, rfl, h1, h2, h⟩
theorem w_ixT {p : Addr} {xs : List V} {i : Int} (h1 : SqT K H p xs) (h2 : atI xs i = some v) (h : Q v H) : rIxT K (.ref p) (.int i) H Q := ⟨p, xs, i, v, rfl, rfl, h1, h2, h⟩
theorem w_ixSL {p : Addr} {xs : List V} {i : Int} (h1 : SqL K H p xs) (h2 : atI xs i = some v) (h : Q v H) : rIx K (.ref p) (.int i) H Q := .inl ⟨p, xs, i, v, rfl, rfl, h1, h2, h⟩
theorem w_ixST {p : Addr} {xs : List V} {i : Int} (h1 : SqT K H p xs) (h2 : atI xs i = some v) (h : Q v H) : rIx K (.ref p) (.int i) H Q := .inr (.inl ⟨p, xs, i, v, rfl, rfl, h1, h2, h⟩)
theorem w_neB {x y : Bool} (h : Q (.bl (!decide (x = y))) H) : rNe (.bl x) (.bl y) H Q := ⟨rfl, by
  have e : decide (V.bl x = V.bl y) = decide (x = y) := by
    by_cases q : x = y
    · subst q; rw [decide_eq_true rfl, decide_eq_true rfl]
    · rw [decide_eq_false q, decide_eq_false (fun z => q (V.bl.inj z))]
  rw [e]; exact h⟩
theorem w_eqN (h : Q (.bl true) H) : rEq .non .non H Q := ⟨rfl, h⟩
theorem w_popAt {l : Addr} {xs : List V} {i : Int} {k : Nat} {y : V} (h1 : H l = some (.lst xs)) (h2 : -(2 ^ 63) ≤ i) (h3 : i < 2 ^ 63) (h4 : seqIndex? i xs.length = some k) (h5 : xs[k]? = some y) (h : ∀ H1, H1 l = some (.lst (xs.eraseIdx k)) → Off l H H1 → Q y H1) : rPopAt (.ref l) [.int i] H Q :=
  ⟨l, xs, i, k, y, rfl, rfl, h1, h2, h3, h4, h5, h _ upd_same fun x hx => upd_ne hx⟩
theorem w_sub {to ti : TE} {t : TSet} {R : St → Hp → Prop} (h : to σ H fun o H1 => ti σ H1 fun i H2 => t o i v H2 fun H3 => R σ H3) : gSub to ti t v σ H R := h
theorem w_setL {p : Addr} {xs ys : List V} {k : Int} {j : Nat} {R : Hp → Prop} (h1 : H p = some (.lst xs)) (h2 : ixN xs.length k = some j) (e : xs.set j v = ys) (h : ∀ H1, H1 p = some (.lst ys) → Off p H H1 → R H1) : rSetL (.ref p) (.int k) v H R :=
  ⟨p, xs, k, j, rfl, rfl, h1, h2, by rw [e]; exact h _ upd_same fun x hx => upd_ne hx⟩
theorem w_if {c : TT} {t u : TS} (h : c σ H fun b H1 => if b = true then t ⟨nx, rt, bk, ct⟩ σ H1 else u ⟨nx, rt, bk, ct⟩ σ H1) : tIfS c t u ⟨nx, rt, bk, ct⟩ σ H := h
theorem w_test {t : TE} {R : Bool → Hp → Prop} (h : t σ H fun x H' => ∃ k, x = .bl k ∧ R k H') : tTest t σ H R := h
theorem w_tb {t : TE} {R : Bool → Hp → Prop} (h : t σ H fun x H' => ∃ k, x = .bl k ∧ R k H') : tB t σ H R := h
theorem w_bl {b : Bool} {R : Bool → Prop} (h : R b) : ∃ k, V.bl b = .bl k ∧ R k := ⟨b, rfl, h⟩
theorem w_and {t u : TT} {R : Bool → Hp → Prop} (h : t σ H fun c H1 => if c = true then u σ H1 R else R false H1) : tAnd t u σ H R := h
theorem w_or {t u : TT} {R : Bool → Hp → Prop} (h : t σ H fun c H1 => if c = true then R true H1 else u σ H1 R) : tOr t u σ H R := h
theorem w_not {t : TT} {R : Bool → Hp → Prop} (h : t σ H fun c H1 => R (!c) H1) : tNot t σ H R := h
theorem w_andV {ta tb : TE} (h : ta σ H fun x H1 => ∃ c, x = .bl c ∧ if c = true then tb σ H1 Q else Q (.bl false) H1) : tAndV ta tb σ H Q := h
theorem w_orV {ta tb : TE} (h : ta σ H fun x H1 => ∃ c, x = .bl c ∧ if c = true then Q (.bl true) H1 else tb σ H1 Q) : tOrV ta tb σ H Q := h
theorem w_notV {ta : TE} (h : ta σ H fun x H1 => ∃ c, x = .bl c ∧ Q (.bl (!c)) H1) : tNotV ta σ H Q := h
theorem w_ite {p : Prop} {inst : Decidable p} {A B : Prop} (h1 : p → A) (h2 : ¬ p → B) : if decide p = true then A else B := by
  by_cases h : p
  · rw [if_pos (decide_eq_true h)]; exact h1 h
  · rw [if_neg (fun z => h (of_decide_eq_true z))]; exact h2 h
theorem w_itN {p : Prop} {inst : Decidable p} {A B : Prop} (h1 : ¬ p → A) (h2 : p → B) : if (!decide p) = true then A else B := by
  by_cases h : p
  · rw [decide_eq_true h]; exact h2 h
  · rw [decide_eq_false h]; exact h1 h
theorem w_yes {p : Prop} {inst : Decidable p} {A B : Prop} (h : p) (a : A) : if decide p = true then A else B := by rw [if_pos (decide_eq_true h)]; exact a
theorem w_no {p : Prop} {inst : Decidable p} {A B : Prop} (h : ¬ p) (b : B) : if decide p = true then A else B := by rw [if_neg (fun z => h (of_decide_eq_true z))]; exact b
theorem w_nyes {p : Prop} {inst : Decidable p} {A B : Prop} (h : p) (b : B) : if (!decide p) = true then A else B := by rw [decide_eq_true h]; exact b
theorem w_nno {p : Prop} {inst : Decidable p} {A B : Prop} (h : ¬ p) (a : A) : if (!decide p) = true then A else B := by rw [decide_eq_false h]; exact a
theorem w_itB {b : Bool} {A B : Prop} (h1 : b = true → A) (h2 : b = false → B) : if b = true then A else B := by
  cases b with
  | true => exact h1 rfl
  | false => exact h2 rfl
theorem w_nT {A B : Prop} (h : B) : if (!true) = true then A else B := h
theorem w_nF {A B : Prop} (h : A) : if (!false) = true then A else B := h
theorem w_ret {te : TE} (h : te σ H rt) : tRet te ⟨nx, rt, bk, ct⟩ σ H := h
theorem w_drop {te : TE} (h : te σ H fun _ H1 => nx σ H1) : tDrop te ⟨nx, rt, bk, ct⟩ σ H := h
theorem w_next (h : nx σ H) : tNext ⟨nx, rt, bk, ct⟩ σ H := h
theorem w_cb {r : List V → Hp → VK → Prop} {t : TA} (h : t σ H fun vs H1 => r vs H1 Q) : tCB r t σ H Q := h
theorem w_nil {R : List V → Hp → Prop} (h : R [] H) : tNil σ H R := h
theorem w_cons {ta : TE} {tr : TA} {R : List V → Hp → Prop} (h : ta σ H fun x H1 => tr σ H1 fun xs H2 => R (x :: xs) H2) : tCons ta tr σ H R := h
theorem w_call {sp : Sp} {E : XK} {t : TA} (h : t σ H fun vs H1 => sp (vs ++ []) H1 Q E) : tCall sp [] E t σ H Q := h
theorem w_lst {t : TA} (h : t σ H fun xs H1 => xs.length ≤ sizeLine ∧ Nw (.lst xs) H1 Q) : tLst t σ H Q := h
theorem w_tup {t : TA} (h : t σ H fun xs H1 => xs.length ≤ sizeLine ∧ Nw (.tup xs) H1 Q) : tTup t σ H Q := h
theorem w_new {o : HO} (h : ∀ p H2, H p = none → H2 p = some o → Same H H2 → Q (.ref p) H2) : Nw o H Q := fun p hp => h p _ hp upd_same (Same.new hp)
theorem w_sz {n : Nat} {o : HO} (h1 : n ≤ sizeLine) (h : Nw o H Q) : n ≤ sizeLine ∧ Nw o H Q := ⟨h1, h⟩
theorem w_app {p : Addr} {xs : List V} (h1 : H p = some (.lst xs)) (h2 : xs.length < sizeLine) (h : ∀ H1, H1 p = some (.lst (xs ++ [v])) → Off p H H1 → Q .non H1) : rAppend (.ref p) [v] H Q :=
  ⟨p, xs, v, rfl, rfl, h1, h2, h _ upd_same fun x hx => upd_ne hx⟩
theorem w_bm {r : V → List V → Hp → VK → Prop} {to : TE} {t : TA} (h : to σ H fun x H1 => tyV K "list" x H1 ∧ t σ H1 fun xs H2 => r x xs H2 Q) : tBM K "list" r to t σ H Q := h
theorem w_tyL {p : Addr} {xs : List V} {A : Prop} (h1 : H p = some (.lst xs)) (h : A) : tyV K "list" (.ref p) H ∧ A := ⟨.inl ⟨rfl, _, .inl (.inl h1)⟩, h⟩
theorem w_lenL {p : Addr} {ys : List V} (h1 : SqL K H p ys) (h : Q (.int ys.length) H) : rLen K [V.ref p] H Q := ⟨p, ys, rfl, .inl h1, h⟩
theorem w_lenT {p : Addr} {ys : List V} (h1 : SqT K H p ys) (h : Q (.int ys.length) H) : rLen K [V.ref p] H Q := ⟨p, ys, rfl, .inr h1, h⟩
theorem w_min2 {i j : Int} (h : Q (.int (if j < i then j else i)) H) : rMin2 [V.int i, V.int j] H Q := ⟨i, j, rfl, h⟩
theorem w_max2 {i j : Int} (h : Q (.int (if j > i then j else i)) H) : rMax2 [V.int i, V.int j] H Q := ⟨i, j, rfl, h⟩
theorem w_listL {p : Addr} {ys : List V} (h1 : SqL K H p ys) (h : ∀ l H2, H l = none → H2 l = some (.lst ys) → Same H H2 → Q (.ref l) H2) : rListOf K [V.ref p] H Q := ⟨p, ys, rfl, .inl h1, w_new h⟩
theorem w_listT {p : Addr} {ys : List V} (h1 : SqT K H p ys) (h : ∀ l H2, H l = none → H2 l = some (.lst ys) → Same H H2 → Q (.ref l) H2) : rListOf K [V.ref p] H Q := ⟨p, ys, rfl, .inr h1, w_new h⟩
theorem w_tupL {p : Addr} {ys : List V} (h1 : SqL K H p ys) (h : ∀ l H2, H l = none → H2 l = some (.tup ys) → Same H H2 → Q (.ref l) H2) : rTupOf K [V.ref p] H Q := ⟨p, ys, rfl, .inl ⟨h1, w_new h⟩⟩
theorem w_sum {p : Addr} {ns : List Int} (h1 : SqL K H p (ns.map V.int)) (h : Q (.int ns.sum) H) : rSum K [V.ref p] H Q := ⟨p, ns, rfl, h1, h⟩
theorem w_tupRg {te : St → Hp → (Int → Int → Hp → Prop) → Prop} (h : te σ H fun a b H1 => RgOk a b ∧ Nw (.tup (rgV a b)) H1 Q) : tTupRg te σ H Q := h
theorem w_rg2 {ta tb : TE} {R : Int → Int → Hp → Prop} (h : ta σ H fun x H1 => tb σ H1 fun y H2 => rRg2 x y H2 R) : tRg2 ta tb σ H R := h
theorem w_rg2' {i j : Int} {R : Int → Int → Hp → Prop} (h : R i j H) : rRg2 (.int i) (.int j) H R := ⟨i, j, rfl, rfl, h⟩
theorem w_bits {to : TE} (h : to σ H fun x H1 => rBits x H1 Q) : tBits to σ H Q := h
theorem w_bits' {i : Int} (h : Q (.int (Builtin.Int.intBits i : Nat)) H) : rBits (.int i) H Q := ⟨i, rfl, h⟩
theorem w_isi {x : V} {a n : String} {b : Bool} (ty : TyX K H x (.type a)) (hk : kitB a n = some b) (h : Q (.bl b) H) : rIsi K [x, .ty n] H Q := ⟨x, .ty n, _, _, b, rfl, .ty n, ty, kit_ty hk, h⟩
theorem w_eqS {x y : Str} (h : Q (.bl (decide (x = y))) H) : rEq (.str x) (.str y) H Q := ⟨rfl, by
  have e : decide (V.str x = V.str y) = decide (x = y) := by
    by_cases q : x = y
    · subst q; rw [decide_eq_true rfl, decide_eq_true rfl]
    · rw [decide_eq_false q, decide_eq_false (fun z => q (V.str.inj z))]
  rw [e]; exact h⟩
theorem w_eqB {x y : Bool} (h : Q (.bl (decide (x = y))) H) : rEq (.bl x) (.bl y) H Q := ⟨rfl, by
  have e : decide (V.bl x = V.bl y) = decide (x = y) := by
    by_cases q : x = y
    · subst q; rw [decide_eq_true rfl, decide_eq_true rfl]
    · rw [decide_eq_false q, decide_eq_false (fun z => q (V.bl.inj z))]
  rw [e]; exact h⟩
/-! targets, dicts -/
theorem w_gtup {a : Addr} {xs : List V} {n : Nat} {t : TGs} {R : St → Hp → Prop} (h1 : SqT K H a xs) (h2 : xs.length = n) (h : t xs σ H R) : gTup K n t (.ref a) σ H R := ⟨a, xs, rfl, h1, h2, h⟩
theorem w_gcons {t : TG} {u : TGs} {r : List V} {R : St → Hp → Prop} (h : t v σ H fun σ' H' => u r σ' H' R) : gCons t u (v :: r) σ H R := ⟨v, r, rfl, h⟩
theorem w_gnil {R : St → Hp → Prop} (h : R σ H) : gNil [] σ H R := ⟨rfl, h⟩
theorem w_din {ty td : TE} (h : ty σ H fun y H1 => td σ H1 fun x H2 => rDIn x y H2 Q) : tDIn ty td σ H Q := h
theorem w_dnotin {ty td : TE} (h : ty σ H fun y H1 => td σ H1 fun x H2 => rDNotIn x y H2 Q) : tDNotIn ty td σ H Q := h
theorem w_dget {ty td : TE} (h : td σ H fun x H1 => ty σ H1 fun y H2 => rDGet x y H2 Q) : tDGet td ty σ H Q := h
theorem w_dinI {a : Addr} {kvs : List (Key × V)} {n : Int} (e : H a = some (.dK kvs)) (h : Q (.bl (valV kvs (Sum.inl n)).isSome) H) : rDIn (.ref a) (.int n) H Q := ⟨a, _, rfl, DGet.k (k := Sum.inl n) e, h⟩
theorem w_dnotinI {a : Addr} {kvs : List (Key × V)} {n : Int} (e : H a = some (.dK kvs)) (h : Q (.bl (!(valV kvs (Sum.inl n)).isSome)) H) : rDNotIn (.ref a) (.int n) H Q := ⟨a, _, rfl, DGet.k (k := Sum.inl n) e, h⟩
theorem w_dgetI {a : Addr} {kvs : List (Key × V)} {n : Int} (e : H a = some (.dK kvs)) (e2 : valV kvs (Sum.inl n) = some v) (h : Q v H) : rDGet (.ref a) (.int n) H Q := ⟨a, v, rfl, e2 ▸ DGet.k (k := Sum.inl n) e, h⟩
theorem w_dnewK (h : Nw (.dK []) H Q) : tDNewK σ H Q := h
theorem w_dput {td ty tv : TE} (h : tv σ H fun v H1 => td σ H1 fun x H2 => ty σ H2 fun y H3 => rDPut x y v H3 fun H4 => nx σ H4) : sDPut td ty tv ⟨nx, rt, bk, ct⟩ σ H := h
theorem w_seqP {td ty tv : TE} {u : TS} (h : tv σ H fun v H1 => td σ H1 fun x H2 => ty σ H2 fun y H3 => rDPut x y v H3 fun H4 => u ⟨nx, rt, bk, ct⟩ σ H4) : tSeq (sDPut td ty tv) u ⟨nx, rt, bk, ct⟩ σ H := h
theorem w_dputI {a : Addr} {kvs : List (Key × V)} {n : Int} {R : Hp → Prop} (e : H a = some (.dK kvs)) (hl : kvs.length < sizeLine) (h : ∀ H1, H1 a = some (.dK (putK kvs (Sum.inl n) v)) → Off a H H1 → R H1) : rDPut (.ref a) (.int n) v H R :=
  ⟨a, _, rfl, DPut.k (k := Sum.inl n) e hl, h _ upd_same fun x hx => upd_ne hx⟩
theorem w_dget2 {td ty tx : TE} (h : td σ H fun x H1 => rIsD x H1 fun a H1 => ty σ H1 fun y H2 => tx σ H2 fun z H3 => rDGet2 a y z H3 Q) : tDGet2 td ty tx σ H Q := h
theorem w_isD {a : Addr} {kvs : List (Key × V)} {R : Addr → Hp → Prop} (e : H a = some (.dK kvs)) (h : R a H) : rIsD (.ref a) H R := ⟨a, rfl, .inl ⟨kvs, .inl e⟩, h⟩
theorem w_dget2I {a : Addr} {kvs : List (Key × V)} {n : Int} {z : V} (e : H a = some (.dK kvs)) (h : Q ((valV kvs (Sum.inl n)).getD z) H) : rDGet2 a (.int n) z H Q := ⟨_, DGet.k (k := Sum.inl n) e, h⟩
theorem w_dsetd {td ty tx : TE} (h : td σ H fun x H1 => rIsD x H1 fun a H1 => ty σ H1 fun y H2 => tx σ H2 fun z H3 => rDSetd a y z H3 Q) : tDSetd td ty tx σ H Q := h
theorem w_dsetdI {a : Addr} {kvs : List (Key × V)} {n : Int} {z : V} (e : H a = some (.dK kvs)) (hl : kvs.length < sizeLine) (h1 : ∀ u, valV kvs (Sum.inl n) = some u → Q u H) (h2 : valV kvs (Sum.inl n) = none → ∀ H1, H1 a = some (.dK (putK kvs (Sum.inl n) z)) → Off a H H1 → Q z H1) : rDSetd a (.int n) z H Q :=
  ⟨kvs, Sum.inl n, e, rfl, hl, h1, fun z => h2 z _ upd_same fun x hx => upd_ne hx⟩
theorem w_leT2 {p q : Addr} {a b c d : Int} (h1 : SqT K H p [.int a, .int b]) (h2 : SqT K H q [.int c, .int d]) (h : Q (.bl (decide (a < c ∨ a = c ∧ b ≤ d))) H) : rLeT K (.ref p) (.ref q) H Q := by
  refine ⟨p, q, [a, b], [c, d], rfl, rfl, h1, h2, ?_⟩
  have e : Ob.lexAt (fun j => decide (([a, b] : List Int).getD j 0 = ([c, d] : List Int).getD j 0)) (fun j => decide (([a, b] : List Int).getD j 0 ≤ ([c, d] : List Int).getD j 0)) (decide (([a, b] : List Int).length ≤ ([c, d] : List Int).length)) 0 (min ([a, b] : List Int).length ([c, d] : List Int).length) = decide (a < c ∨ a = c ∧ b ≤ d) := by
    show (if decide (a = c) = true then (if decide (b = d) = true then true else decide (b ≤ d)) else decide (a ≤ c)) = _
    by_cases h1 : a = c
    · rw [if_pos (decide_eq_true h1)]
      by_cases h2 : b = d
      · rw [if_pos (decide_eq_true h2)]
        exact (decide_eq_true (by omega)).symm
      · rw [if_neg (fun z => h2 (of_decide_eq_true z))]
        rw [Bool.eq_iff_iff]; simp; omega
    · rw [if_neg (fun z => h1 (of_decide_eq_true z))]
      rw [Bool.eq_iff_iff]; simp; omega
  rw [e]
  exact h
theorem inV_ints (n : Int) (vs : List Int) : inV (.int n) (vs.map V.int) = decide (n ∈ vs) := by
  unfold inV
  rw [Bool.eq_iff_iff, List.any_eq_true]
  constructor
  · rintro ⟨y, hy, e⟩
    obtain ⟨z, hz, rfl⟩ := List.mem_map.mp hy
    have e' : z = n := by simpa [eqV] using e
    subst e'
    exact decide_eq_true hz
  · intro h
    exact ⟨.int n, List.mem_map_of_mem (of_decide_eq_true h), by simp [eqV]⟩
theorem flat_ints (vs : List Int) : (vs.map V.int).all flatV = true := by
  rw [List.all_eq_true]
  intro y hy
  obtain ⟨z, _, rfl⟩ := List.mem_map.mp hy
  rfl
theorem w_inT {p : Addr} {vs : List Int} {n : Int} (h1 : SqT K H p (vs.map V.int)) (h : Q (.bl (decide (n ∈ vs))) H) : rIn K false (.int n) (.ref p) H Q := ⟨p, _, rfl, .inr h1, rfl, flat_ints vs, by rw [inV_ints]; exact h⟩
theorem w_ninT {p : Addr} {vs : List Int} {n : Int} (h1 : SqT K H p (vs.map V.int)) (h : Q (.bl (!decide (n ∈ vs))) H) : rIn K true (.int n) (.ref p) H Q := ⟨p, _, rfl, .inr h1, rfl, flat_ints vs, by rw [inV_ints]; exact h⟩
theorem w_inL {p : Addr} {vs : List Int} {n : Int} (h1 : SqL K H p (vs.map V.int)) (h : Q (.bl (decide (n ∈ vs))) H) : rIn K false (.int n) (.ref p) H Q := ⟨p, _, rfl, .inl h1, rfl, flat_ints vs, by rw [inV_ints]; exact h⟩
theorem w_ninL {p : Addr} {vs : List Int} {n : Int} (h1 : SqL K H p (vs.map V.int)) (h : Q (.bl (!decide (n ∈ vs))) H) : rIn K true (.int n) (.ref p) H Q := ⟨p, _, rfl, .inl h1, rfl, flat_ints vs, by rw [inV_ints]; exact h⟩
def rDisp (p : Addr) (ps : List (V × V)) (H2 : Hp) (Q : VK) : Prop := H2 p = some (.dK []) ∧ ∃ kvs : List (Key × V), ps = kvs.map (fun kv => (kV kv.1, kv.2)) ∧ kvs.length ≤ 15 ∧ Q (.ref p) (upd H2 p (.dK (mergeK [] kvs)))
theorem w_disp {trs : List (TE × TE)} (h : ∀ p H1, H p = none → H1 p = some (.dK []) → Same H H1 → tPairs trs σ H1 (fun ps H2 => rDisp p ps H2 Q)) : tDisp trs σ H Q := fun p hp => h p _ hp upd_same (Same.new hp)
theorem w_pair {tk tv : TE} {r : List (TE × TE)} {R : List (V × V) → Hp → Prop} (h : tk σ H fun x H1 => tv σ H1 fun y H2 => tPairs r σ H2 fun ps H3 => R ((x, y) :: ps) H3) : tPairs ((tk, tv) :: r) σ H R := h
theorem w_pnil {R : List (V × V) → Hp → Prop} (h : R [] H) : tPairs [] σ H R := h
theorem w_dispE {p : Addr} {ps : List (V × V)} (kvs : List (Key × V)) (h1 : H p = some (.dK [])) (h2 : ps = kvs.map (fun kv => (kV kv.1, kv.2))) (h3 : kvs.length ≤ 15) (h : ∀ H1, H1 p = some (.dK (mergeK [] kvs)) → Off p H H1 → Q (.ref p) H1) : rDisp p ps H Q :=
  ⟨h1, kvs, h2, h3, h _ upd_same fun x hx => upd_ne hx⟩
theorem w_callS {sp : Sp} {E : St → XK} {t : TA} (h : t σ H fun vs H1 => sp vs H1 Q (E σ)) : tCallS sp E t σ H Q := h
theorem w_isB {x y : Bool} (h : Q (.bl (decide (x = y))) H) : rIsBl (.bl x) (.bl y) H Q := ⟨x, y, rfl, rfl, h⟩
theorem w_isN (h : Q (.bl (decide (v = .non))) H) : rIsNon v .non H Q := ⟨rfl, h⟩
theorem w_notN (h : Q (.bl (!decide (v = .non))) H) : rNotNon v .non H Q := ⟨rfl, h⟩
theorem w_chain {r r' : R2} {ta tb tc : TE} (h : ta σ H fun x H1 => tb σ H1 fun y H2 => r x y H2 fun z H3 => ∃ k, z = .bl k ∧ (if k = true then tc σ H3 fun w' H4 => r' y w' H4 Q else Q (.bl false) H3)) : tChain r r' ta tb tc σ H Q := h
theorem w_trL {p : Addr} {xs : List V} {R : Bool → Hp → Prop} (h1 : SqL K H p xs) (h : R (!xs.isEmpty) H) : rTru K (.ref p) H R := ⟨_, .inl ⟨xs, h1, rfl⟩, h⟩
theorem w_trT {p : Addr} {xs : List V} {R : Bool → Hp → Prop} (h1 : SqT K H p xs) (h : R (!xs.isEmpty) H) : rTru K (.ref p) H R := ⟨_, .inr (.inl ⟨xs, h1, rfl⟩), h⟩
theorem w_tru {ta : TE} {R : Bool → Hp → Prop} (h : ta σ H fun x H1 => rTru K x H1 R) : tTru K ta σ H R := h
/-! loops -/
def Lp (J : It) (g : TG) (tb : TS) (D : Ends) (σ : St) (H1 : Hp) : Prop := ∃ W : Nat → Nat → St → Hp → Prop, (∃ m, W 0 m σ H1) ∧ ∀ i m σ H, W i m σ H →
  (J.stop i H ∧ D.nx σ H) ∨ (J.go i H ∧ ∃ N : St → Hp → Prop, (∀ σ' H', N σ' H' → ∃ m', m' < m ∧ W (i + 1) m' σ' H') ∧ ∀ x H', J.yld i H x H' → g x σ H' fun σ2 H2 => tb { D with nx := N, ct := N, bk := D.nx } σ2 H2)
theorem w_for {wi : TI} {g : TG} {tb : TS} (h : wi σ H fun J H1 => Lp J g tb ⟨nx, rt, bk, ct⟩ σ H1) : tFor wi g tb ⟨nx, rt, bk, ct⟩ σ H := h
theorem lp_it {J : It} {n : Nat} {G : Hp → Prop} {Y : Nat → Hp → V → Hp → Prop} (w : Walk J n G Y) {g : TG} {tb : TS} (Pv : Nat → St → Hp → Prop) (h0 : Pv 0 σ H) (hG : ∀ i σ H, i ≤ n → Pv i σ H → G H)
    (hs : ∀ i x σ H H', i < n → Pv i σ H → Y i H x H' → g x σ H' fun σ2 H2 => tb ⟨Pv (i + 1), rt, nx, Pv (i + 1)⟩ σ2 H2) (hd : ∀ σ H, Pv n σ H → nx σ H) : Lp J g tb ⟨nx, rt, bk, ct⟩ σ H :=
  for_it w (D := ⟨nx, rt, bk, ct⟩) Pv h0 hG hs hd
theorem lp_list {a : Addr} {xs : List V} {g : TG} {tb : TS} (Pv : Nat → St → Hp → Prop) (h0 : Pv 0 σ H) (hl : ∀ i σ H, i ≤ xs.length → Pv i σ H → SqL K H a xs)
    (hs : ∀ i x σ H, xs[i]? = some x → Pv i σ H → g x σ H fun σ2 H2 => tb ⟨Pv (i + 1), rt, nx, Pv (i + 1)⟩ σ2 H2) (hd : ∀ σ H, Pv xs.length σ H → nx σ H) : Lp (Itl K a) g tb ⟨nx, rt, bk, ct⟩ σ H :=
  for_list (D := ⟨nx, rt, bk, ct⟩) Pv h0 hl hs hd
theorem lp_tup {a : Addr} {xs : List V} {g : TG} {tb : TS} (Pv : Nat → St → Hp → Prop) (h0 : Pv 0 σ H) (hl : ∀ i σ H, i ≤ xs.length → Pv i σ H → SqT K H a xs)
    (hs : ∀ i x σ H, xs[i]? = some x → Pv i σ H → g x σ H fun σ2 H2 => tb ⟨Pv (i + 1), rt, nx, Pv (i + 1)⟩ σ2 H2) (hd : ∀ σ H, Pv xs.length σ H → nx σ H) : Lp (Itt K a) g tb ⟨nx, rt, bk, ct⟩ σ H :=
  for_tup (D := ⟨nx, rt, bk, ct⟩) Pv h0 hl hs hd
theorem lp_range {lo : Int} {n : Nat} {g : TG} {tb : TS} (Pv : Nat → St → Hp → Prop) (h0 : Pv 0 σ H)
    (hs : ∀ i σ H, i < n → Pv i σ H → g (.int (lo + i)) σ H fun σ2 H2 => tb ⟨Pv (i + 1), rt, nx, Pv (i + 1)⟩ σ2 H2) (hd : ∀ σ H, Pv n σ H → nx σ H) : Lp (Itr lo n) g tb ⟨nx, rt, bk, ct⟩ σ H :=
  for_range (D := ⟨nx, rt, bk, ct⟩) Pv h0 hs hd
theorem w_rng1 {t : TA} {R : It → Hp → Prop} (h : t σ H fun vs H1 => rRng1 vs H1 R) : iRng1 t σ H R := h
theorem w_rng1' {j : Int} {R : It → Hp → Prop} (h1 : -(2 ^ 62) ≤ j) (h2 : j < 2 ^ 62) (h : R (Itr 0 j.toNat) H) : rRng1 [.int j] H R := ⟨j, rfl, h1, h2, h⟩
theorem w_rng2 {t : TA} {R : It → Hp → Prop} (h : t σ H fun vs H1 => rRng2 vs H1 R) : iRng2 t σ H R := h
theorem w_rng2' {i j : Int} {R : It → Hp → Prop} (h1 : -(2 ^ 62) ≤ i ∧ i < 2 ^ 62 ∧ -(2 ^ 62) ≤ j ∧ j < 2 ^ 62) (h : R (Itr i (j - i).toNat) H) : rRng2 [.int i, .int j] H R := ⟨i, j, rfl, h1, h⟩
theorem w_itL {tl : TE} {R : It → Hp → Prop} (h : tl σ H fun x H1 => rItL K x H1 R) : iList K tl σ H R := h
theorem w_itL' {a : Addr} {xs : List V} {R : It → Hp → Prop} (h1 : SqL K H a xs) (h : R (Itl K a) H) : rItL K (.ref a) H R := ⟨a, rfl, ⟨xs, h1⟩, h⟩
theorem w_itT {tl : TE} {R : It → Hp → Prop} (h : tl σ H fun x H1 => rItT K x H1 R) : iTup K tl σ H R := h
theorem w_itT' {a : Addr} {xs : List V} {R : It → Hp → Prop} (h1 : SqT K H a xs) (h : R (Itt K a) H) : rItT K (.ref a) H R := ⟨a, rfl, ⟨xs, h1⟩, h⟩
/-- one turn of a while: W (by a falling number) is reached again -/
def WhT (W : Nat → St → Hp → Prop) (m : Nat) (tb : TS) (rt : VK) (nx : St → Hp → Prop) (σ : St) (H : Hp) : Prop := ∃ N : St → Hp → Prop, (∀ σ' H', N σ' H' → ∃ m', m' < m ∧ W m' σ' H') ∧ tb ⟨N, rt, nx, N⟩ σ H
theorem w_turn {W : Nat → St → Hp → Prop} {m : Nat} {tb : TS} (h : tb ⟨fun σ' H' => ∃ m', m' < m ∧ W m' σ' H', rt, nx, fun σ' H' => ∃ m', m' < m ∧ W m' σ' H'⟩ σ H) : WhT W m tb rt nx σ H := ⟨_, fun _ _ z => z, h⟩
theorem w_whileN {c : TT} {tb : TS} (W : Nat → St → Hp → Prop) (m0 : Nat) (h0 : W m0 σ H) (hs : ∀ m σ H, W m σ H → c σ H fun b H1 => if b = true then WhT W m tb rt nx σ H1 else nx σ H1) : tWhile c tb ⟨nx, rt, bk, ct⟩ σ H := ⟨W, ⟨m0, h0⟩, hs⟩
/-! comprehensions -/
def LcP (J : It) (g : TG) (tt : TT) (te : TE) (vs : List Nat) (Q : VK) (σ : St) (H1 : Hp) : Prop := ∀ D, H1 D = none → ∃ W : Nat → Nat → Hp → Prop, (∃ m, W 0 m (upd H1 D (.lst []))) ∧ ∀ i m H, W i m H →
  (J.stop i H ∧ Q (.ref D) H) ∨ (J.go i H ∧ ∃ Nx : Hp → Prop, (∀ H', Nx H' → ∃ m', m' < m ∧ W (i + 1) m' H') ∧ ∀ x H', J.yld i H x H' → g x (wipe σ vs) H' fun σ2 H2 => wipe σ2 vs = wipe σ vs ∧ tt σ2 H2 fun b H3 =>
    if b = true then te σ2 H3 fun y H4 => ∃ acc, H4 D = some (.lst acc) ∧ acc.length < sizeLine ∧ Nx (upd H4 D (.lst (acc ++ [y]))) else Nx H3)
theorem w_lc {wi : TI} {g : TG} {tt : TT} {te : TE} {vs : List Nat} (h : wi σ H fun J H1 => LcP J g tt te vs Q σ H1) : tLc wi g tt te vs σ H Q := h
/-- each turn adds one: the k-th is ys[k]; what stood but M stands -/
theorem lcp_map {J : It} {n : Nat} {G : Hp → Prop} {Y : Nat → Hp → V → Hp → Prop} (w : Walk J n G Y) {g : TG} {te : TE} {vs : List Nat} (M : List Addr) (ys : List V) (hn : ys.length = n) (hz : n ≤ 1000000) (hG : ∀ H', Kp M H H' → G H')
    (hs : ∀ i x H1 H2 (R : V → Hp → Prop), i < n → Kp M H H1 → Y i H1 x H2 → (∀ y H4, ys[i]? = some y → Kp M H1 H4 → R y H4) → g x (wipe σ vs) H2 fun σ2 H3 => wipe σ2 vs = wipe σ vs ∧ te σ2 H3 R)
    (hM : ∀ b ∈ M, ∃ o, H b = some o)
    (hd : ∀ D H', H D = none → Kp M H H' → H' D = some (.lst ys) → Q (.ref D) H') : LcP J g tYes te vs Q σ H := by
  intro D hD
  have hDM : D ∉ M := fun z => by obtain ⟨o, e⟩ := hM D z; rw [hD] at e; cases e
  refine lc_it w (fun i H' => Kp M H H' ∧ H' D = some (.lst (ys.take i))) ⟨Kp.new hD, upd_same⟩ (fun i H' _ z => hG H' z.1) ?_ ?_
  · rintro i x H1 H2 hi ⟨k1, e1⟩ y
    refine (hs i x H1 H2 _ hi k1 y ?_)
    intro z H4 hz' k4
    refine ⟨ys.take i, k4 _ _ hDM e1, ?_, ?_, ?_⟩
    · rw [List.length_take]; exact Nat.lt_of_le_of_lt (Nat.min_le_left _ _) (Nat.lt_of_lt_of_le (Nat.lt_of_lt_of_le hi hz) (by decide))
    · exact (k1.trans k4).mutN hD
    · rw [upd_same, List.take_add_one, hz']; rfl
  · rintro H' ⟨k, e⟩
    rw [List.take_of_length_le (by omega)] at e
    exact hd D H' hD k e
/-- each turn adds one of which P holds (P leans on tuples alone); S: what else holds turn by turn -/
theorem lcp_gen {J : It} {n : Nat} {G : Hp → Prop} {Y : Nat → Hp → V → Hp → Prop} (w : Walk J n G Y) {g : TG} {te : TE} {vs : List Nat} (M : List Addr) (P : Nat → V → Hp → Prop) (S : Nat → Hp → Prop) (hz : n ≤ 1000000)
    (mono : ∀ i y H1 H2, KT H1 H2 → P i y H1 → P i y H2) (SD : ∀ D, H D = none → ∀ i H1 o, S i H1 → S i (upd H1 D o)) (hG : ∀ i H', Kp M H H' → S i H' → G H') (S0 : S 0 H)
    (hs : ∀ i x H1 H2 (R : V → Hp → Prop), i < n → Kp M H H1 → KT H H1 → S i H1 → Y i H1 x H2 → (∀ y H4, P i y H4 → Kp M H1 H4 → KT H1 H4 → S (i + 1) H4 → R y H4) → g x (wipe σ vs) H2 fun σ2 H3 => wipe σ2 vs = wipe σ vs ∧ te σ2 H3 R)
    (hM : ∀ b ∈ M, ∃ o, H b = some o)
    (hd : ∀ D H' ys, ys.length = n → (∀ i y, ys[i]? = some y → P i y H') → H D = none → Kp M H H' → KT H H' → S n H' → H' D = some (.lst ys) → Q (.ref D) H') : LcP J g tYes te vs Q σ H := by
  intro D hD
  have hDM : D ∉ M := fun z => by obtain ⟨o, e⟩ := hM D z; rw [hD] at e; cases e
  refine lc_it w (fun i H' => Kp M H H' ∧ KT H H' ∧ S i H' ∧ ∃ ys, ys.length = i ∧ H' D = some (.lst ys) ∧ ∀ k y, ys[k]? = some y → P k y H') ⟨Kp.new hD, KT.refl.upd hD, SD D hD _ _ _ S0, [], rfl, upd_same, by simp⟩ (fun i H' _ z => hG i H' z.1 z.2.2.1) ?_ ?_
  · rintro i x H1 H2 hi ⟨k1, t1, s1, ys, hl, e1, hp⟩ y
    refine hs i x H1 H2 _ hi k1 t1 s1 y ?_
    intro z H4 pz k4 t4 s4
    have e4 := k4 _ _ hDM e1
    refine ⟨ys, e4, ?_, (k1.trans k4).mutN hD, (t1.trans t4).upd hD, SD D hD _ _ _ s4, ys ++ [z], by rw [List.length_append, hl]; rfl, upd_same, ?_⟩
    · rw [hl]; exact Nat.lt_of_lt_of_le (Nat.lt_of_lt_of_le hi hz) (by decide)
    · intro k y' hy'
      by_cases hk : k < ys.length
      · rw [List.getElem?_append_left hk] at hy'
        exact mono _ _ _ _ (KT.updL e4) (mono _ _ _ _ t4 (hp k y' hy'))
      · rw [List.getElem?_append_right (by omega)] at hy'
        by_cases hk2 : k = ys.length
        · subst hk2
          have e : z = y' := by simpa using hy'
          subst e
          rw [hl]
          exact mono _ _ _ _ (KT.updL e4) pz
        · rw [List.getElem?_eq_none (by simp; omega)] at hy'
          cases hy'
  · rintro H' ⟨k, t, sn, ys, hl, e, hp⟩
    exact hd D H' ys hl hp hD k t sn e
end
/-! ### errors -/
/-- what the top has written of an own error class without __init__ -/
structure Exn (K : PySem.W.Frag) (mg : Str → Option Value) (x : Str) (C : Addr) : Prop where
  g : mg x = some (.ref C)
  x : PySem.W.excIn K C [.type "ValueError", .type "Exception", .type "BaseException", .type "object"] "ValueError.__new__" = true
  k : PySem.W.keepIn K (.ref C) = true
  b : PySem.W.subIn K (.ref C) (.type "BaseException") = some true
  t : PySem.W.typeIn K (.ref C) = some (.type "type")
  e : PySem.W.exmOne K (.ref C) (.ref C) = some true
theorem exm_is {K : PySem.W.Frag} {t : Value} {C : Addr} {r : Bool} (hb : PySem.W.subIn K (.ref C) (.type "BaseException") = some true) (hi : PySem.W.isClsIn K C = true) (ht : PySem.W.typeIn K (.ref C) = some (.type "type")) (hs : PySem.W.subIn K t (.ref C) = some r) : PySem.W.exmOne K t (.ref C) = some r := by
  have hi' : (PySem.W.clsIn K C).isSome = true := hi
  unfold PySem.W.exmOne
  rw [hb, if_pos (by rfl)]
  show (if ((PySem.W.clsIn K C).isSome && PySem.W.typeIn K (Value.ref C) == some (Value.type "type")) = true then PySem.W.subIn K t (Value.ref C) else none) = some r
  rw [hi', ht]
  exact hs
def tTryO (K : PySem.W.Frag) (c : Value) (tb : WX → TS) (ts : Addr → Value → Option Addr → TS) : TS := fun D σ H => tb (wOnly K c ts (fun _ _ _ _ => False) D) D σ H
section
variable {X : Cx} {x : Str} {c : Value} {body suite : List Stmt} {b₀ : Stmt} {np pos pos' : Pos} {tb : WX → TS} {ts : Addr → Value → Option Addr → TS}
end
section
variable {K : PySem.W.Frag} {σ : St} {H : Hp} {nx bk ct : St → Hp → Prop} {rt : VK}
theorem w_try {c : Value} {tb : WX → TS} {ts : Addr → Value → Option Addr → TS} (h : tb (wOnly K c ts (fun _ _ _ _ => False) ⟨nx, rt, bk, ct⟩) ⟨nx, rt, bk, ct⟩ σ H) : tTryO K c tb ts ⟨nx, rt, bk, ct⟩ σ H := h
end
/-! ### dict comprehensions -/
section
open PySem.Spec PyProof.Rows
variable {X : Cx}
end
section
variable {K : PySem.W.Frag} {σ : St} {H : Hp} {Q : VK}
def DcP (J : It) (g : TG) (tt : TT) (tk tv : TE) (vs : List Nat) (Q : VK) (σ : St) (H1 : Hp) : Prop := ∀ D, H1 D = none → ∃ W : Nat → Nat → Hp → Prop, (∃ m, W 0 m (upd H1 D (.dK []))) ∧ ∀ i m H, W i m H →
  (J.stop i H ∧ Q (.ref D) H) ∨ (J.go i H ∧ ∃ Nx : Hp → Prop, (∀ H', Nx H' → ∃ m', m' < m ∧ W (i + 1) m' H') ∧ ∀ x H', J.yld i H x H' → g x (wipe σ vs) H' fun σ2 H2 => wipe σ2 vs = wipe σ vs ∧ tt σ2 H2 fun b H3 =>
    if b = true then tk σ2 H3 fun y H4 => tv σ2 H4 fun z H5 => ∃ kvs k, y = kV k ∧ H5 D = some (.dK kvs) ∧ kvs.length < sizeLine ∧ Nx (upd H5 D (.dK (putK kvs k z))) else Nx H3)
theorem w_dc {wi : TI} {g : TG} {tt : TT} {tk tv : TE} {vs : List Nat} (h : wi σ H fun J H1 => DcP J g tt tk tv vs Q σ H1) : tDc wi g tt tk tv vs σ H Q := h
theorem putK_len' {κ : Type} [DecidableEq κ] (c : List (κ × V)) (k : κ) (x : V) : (putK c k x).length ≤ c.length + 1 := by
  unfold putK
  by_cases e : (c.any fun kv => decide (kv.1 = k)) = true
  · rw [if_pos e, List.length_map]; omega
  · rw [if_neg e, List.length_append]; simp
theorem mergeK_len (es : List (Key × V)) : ∀ acc, (mergeK acc es).length ≤ acc.length + es.length := by
  unfold mergeK
  induction es with
  | nil => intro acc; simp
  | cons e r ih =>
    intro acc
    have h1 := ih (putK acc e.1 e.2)
    have h2 := putK_len' acc e.1 e.2
    simp only [List.foldl_cons, List.length_cons] at *
    omega
theorem mergeK_snoc (acc es : List (Key × V)) (e : Key × V) : mergeK acc (es ++ [e]) = putK (mergeK acc es) e.1 e.2 := by
  unfold mergeK; rw [List.foldl_append]; rfl
/-- each turn adds a pair: the k-th is es[k]; what stood but M stands -/
theorem dcp_map {J : It} {n : Nat} {G : Hp → Prop} {Y : Nat → Hp → V → Hp → Prop} (w : Walk J n G Y) {g : TG} {tk tv : TE} {vs : List Nat} (M : List Addr) (es : List (Key × V)) (hn : es.length = n) (hz : n ≤ 1000000) (hG : ∀ H', Kp M H H' → G H')
    (hs : ∀ i x H1 H2 (R : V → V → Hp → Prop), i < n → Kp M H H1 → Y i H1 x H2 → (∀ e H4, es[i]? = some e → Kp M H1 H4 → R (kV e.1) e.2 H4) → g x (wipe σ vs) H2 fun σ2 H3 => wipe σ2 vs = wipe σ vs ∧ tk σ2 H3 fun y H4 => tv σ2 H4 fun z H5 => R y z H5)
    (hM : ∀ b ∈ M, ∃ o, H b = some o)
    (hd : ∀ D H', H D = none → Kp M H H' → H' D = some (.dK (mergeK [] es)) → Q (.ref D) H') : DcP J g tYes tk tv vs Q σ H := by
  intro D hD
  have hDM : D ∉ M := fun z => by obtain ⟨o, e⟩ := hM D z; rw [hD] at e; cases e
  refine ⟨fun i m H' => m = n - i ∧ i ≤ n ∧ Kp M H H' ∧ H' D = some (.dK (mergeK [] (es.take i))), ⟨n, by simp, Nat.zero_le _, Kp.new hD, upd_same⟩, ?_⟩
  rintro i m H1 ⟨rfl, hi, k1, e1⟩
  by_cases hlt : i < n
  · refine .inr ⟨w.goes i H1 hlt (hG _ k1), fun H' => Kp M H H' ∧ H' D = some (.dK (mergeK [] (es.take (i + 1)))), fun H' z => ⟨n - (i + 1), by omega, rfl, hlt, z.1, z.2⟩, fun x H2 y => ?_⟩
    refine hs i x H1 H2 (fun y z H5 => ∃ kvs k, y = kV k ∧ H5 D = some (.dK kvs) ∧ kvs.length < sizeLine ∧ (Kp M H (upd H5 D (.dK (putK kvs k z))) ∧ (upd H5 D (.dK (putK kvs k z))) D = some (.dK (mergeK [] (es.take (i + 1)))))) hlt k1 (w.yields i H1 x H2 hlt (hG _ k1) y) ?_
    intro e H4 he k4
    refine ⟨mergeK [] (es.take i), e.1, rfl, k4 _ _ hDM e1, ?_, (k1.trans k4).mutN hD, ?_⟩
    · have h1 := mergeK_len (es.take i) []
      have h2 : (es.take i).length ≤ 1000000 := by rw [List.length_take]; omega
      exact Nat.lt_of_le_of_lt (Nat.le_trans h1 (by simpa using h2)) (by decide)
    · rw [upd_same, List.take_add_one, he]
      show _ = some (HO.dK (mergeK [] (es.take i ++ [e])))
      rw [mergeK_snoc]
  · have e : i = n := by omega
    subst e
    rw [List.take_of_length_le (by omega)] at e1
    exact .inl ⟨w.stops H1 (hG _ k1), hd D H1 hD k1 e1⟩
theorem valV_merge (k : Key) : ∀ (es acc : List (Key × V)), (valV (mergeK acc es) k).isSome = ((valV acc k).isSome || es.any fun e => decide (e.1 = k)) := by
  intro es
  induction es with
  | nil => intro acc; show (valV acc k).isSome = _; simp
  | cons e r ih =>
    intro acc
    show (valV (mergeK (putK acc e.1 e.2) r) k).isSome = _
    rw [ih, valV_put, List.any_cons]
    by_cases h : k = e.1
    · rw [if_pos h, decide_eq_true h.symm]; simp
    · rw [if_neg h, decide_eq_false (fun z => h z.symm)]; simp
end
/-! ### ints -/
theorem cmul_l {i j : Int} (h1 : -(2 ^ 64) < i) (h2 : i < 2 ^ 64) : CMul i j := .inl ⟨h1, h2⟩
theorem cmul_r {i j : Int} (h1 : -(2 ^ 64) < j) (h2 : j < 2 ^ 64) : CMul i j := .inr ⟨h1, h2⟩
theorem cdivw {i j : Int} (h1 : 0 < j) (h2 : j < 2 ^ 64) : CDivW i j := wide_div (b := 64) h1 (by omega) (by decide) (by decide)
theorem at_lt {α : Type} {xs : List α} {i : Int} (h0 : 0 ≤ i) (h1 : i < xs.length) : ∃ v, xs[i.toNat]? = some v ∧ atI xs i = some v := by
  have hl : i.toNat < xs.length := by omega
  refine ⟨xs[i.toNat], List.getElem?_eq_getElem hl, ?_⟩
  have e := atI_nat (xs := xs) (j := i.toNat) (List.getElem?_eq_getElem hl)
  rw [Int.toNat_of_nonneg h0] at e
  exact e
/-! ### the deck -/
def MOSTD : Nat := 1099511627776
structure Deck (H : Hp) (d c : Addr) (n : Nat) : Prop where
  ex : ∃ (cs : List Int) (a : Nat) (b : Int) (t : Nat), H d = some (.lst [.ref c, .int a, .int b, .int t]) ∧ H c = some (.lst (cs.map V.int)) ∧ t ≤ n
  ne : c ≠ d
theorem Deck.kp {M : List Addr} {H H' : Hp} {d c : Addr} {n : Nat} (k : Kp M H H') (h1 : d ∉ M) (h2 : c ∉ M) (D : Deck H d c n) : Deck H' d c n := by
  obtain ⟨⟨cs, a, b, t, e1, e2, e3⟩, ne⟩ := D
  exact ⟨⟨cs, a, b, t, k _ _ h1 e1, k _ _ h2 e2, e3⟩, ne⟩
theorem Deck.new {H : Hp} {d c : Addr} {n : Nat} {p : Addr} {o : HO} (h : H p = none) (D : Deck H d c n) : Deck (upd H p o) d c n := D.kp (M := []) (Kp.new h) (by simp) (by simp)
theorem Deck.mut {H : Hp} {d c : Addr} {n : Nat} {p : Addr} {o : HO} (h1 : p ≠ d) (h2 : p ≠ c) (D : Deck H d c n) : Deck (upd H p o) d c n :=
  D.kp (M := [p]) (Kp.mut (by simp)) (by simpa using Ne.symm h1) (by simpa using Ne.symm h2)
theorem Deck.mono {H : Hp} {d c : Addr} {n m : Nat} (D : Deck H d c n) (h : n ≤ m) : Deck H d c m := by
  obtain ⟨⟨cs, a, b, t, e1, e2, e3⟩, ne⟩ := D
  exact ⟨⟨cs, a, b, t, e1, e2, Nat.le_trans e3 h⟩, ne⟩
theorem Deck.at {H : Hp} {d c : Addr} {n : Nat} (D : Deck H d c n) : (∃ xs, H d = some (.lst xs)) ∧ ∃ xs, H c = some (.lst xs) := by
  obtain ⟨⟨cs, a, b, t, e1, e2, e3⟩, ne⟩ := D
  exact ⟨⟨_, e1⟩, ⟨_, e2⟩⟩
theorem Deck.ne1 {H : Hp} {d c p : Addr} {n : Nat} (D : Deck H d c n) (h : H p = none) : p ≠ d ∧ p ≠ c := by
  obtain ⟨⟨xs, e1⟩, ys, e2⟩ := D.at
  exact ⟨(ne_of_none e1 h).symm, (ne_of_none e2 h).symm⟩
end FW

set_option Elab.async false
set_option linter.all false
set_option maxRecDepth 100000
set_option maxHeartbeats 4000000
/-! {key: value for a in as if .. for b in bs if ..}: a dict by two clauses, as a rule of the layer (my own: the layer has it for lists). -/
namespace FW
open PySem PySem.Spec PyProof.Rows L2
section
variable {kx vx ta ia tb ib : Expr} {fa fb : List Expr} {sc : Scope} {ps : Pos}
abbrev two (kx vx ta ia : Expr) (fa : List Expr) (tb ib : Expr) (fb : List Expr) (sc : Scope) (ps : Pos) : Expr := .DictComp kx vx [⟨ta, ia, fa, 0⟩, ⟨tb, ib, fb, 0⟩] sc ps
/-- the tests of a clause, one behind the other -/
abbrev testsOf2 (fs : List Expr) (env : Env) : Sem Bool := forIn fs true fun c r => if r = true then do let ok ← isTrue c env (eval c env); pure (ForInStep.yield ok) else pure (ForInStep.yield r)
variable {pg : Program} {wd : World} {A : Around} {R : Result → Shared → Prop} {st : Shared} {it : Value} {D : Addr} {env : Env}
end
section
variable {X : Cx} {kx vx ta ia tb ib : Expr} {fa fb : List Expr} {sc : Scope} {ps qs : Pos} {own : List (Str × Nat)} {us : List Nat} {wa wb : TI} {ga gb : TG} {ra rb : TT} {tk tv : TE}
/-- the inner walk of one turn: from it Nx is reached -/
def Inner2 (J : It) (gb : TG) (rb : TT) (tk tv : TE) (us : List Nat) (D : Addr) (σ : L2.St) (H : Hp) (Nx : Hp → Prop) : Prop := ∃ W : Nat → Nat → Hp → Prop, (∃ m, W 0 m H) ∧ ∀ j k H1, W j k H1 →
  (J.stop j H1 ∧ Nx H1) ∨ (J.go j H1 ∧ ∃ Ny : Hp → Prop, (∀ H2, Ny H2 → ∃ k', k' < k ∧ W (j + 1) k' H2) ∧ ∀ x H2, J.yld j H1 x H2 → gb x (wipe σ us) H2 fun σ3 H3 => wipe σ3 us = wipe σ us ∧ rb σ3 H3 fun b H4 =>
    if b = true then tk σ3 H4 fun y H5 => tv σ3 H5 fun z H6 => ∃ kvs key, y = kV key ∧ H6 D = some (.dK kvs) ∧ kvs.length < sizeLine ∧ Ny (upd H6 D (.dK (putK kvs key z))) else Ny H4)
/-- the whole -/
def tDc2 (wa : TI) (ga : TG) (ra : TT) (wb : TI) (gb : TG) (rb : TT) (tk tv : TE) (os us : List Nat) : TE := fun σ H Q => wa σ H fun J H1 => ∀ D, H1 D = none → ∃ W : Nat → Nat → Hp → Prop, (∃ m, W 0 m (upd H1 D (.dK []))) ∧ ∀ i m H2, W i m H2 →
  (J.stop i H2 ∧ Q (.ref D) H2) ∨ (J.go i H2 ∧ ∃ Nx : Hp → Prop, (∀ H3, Nx H3 → ∃ m', m' < m ∧ W (i + 1) m' H3) ∧ ∀ x H3, J.yld i H2 x H3 → ga x (wipe σ os) H3 fun σ2 H4 => wipe σ2 os = wipe σ os ∧ ra σ2 H4 fun b H5 =>
    if b = true then wb σ2 H5 fun J1 H6 => Inner2 J1 gb rb tk tv us D σ2 H6 Nx else Nx H5)
end
/-! ### its steps -/
section
variable {K : PySem.W.Frag} {σ : L2.St} {H : Hp} {Q : VK}
def Dc2P (J : It) (ga : TG) (ra : TT) (wb : TI) (gb : TG) (rb : TT) (tk tv : TE) (os us : List Nat) (Q : VK) (σ : L2.St) (H1 : Hp) : Prop := ∀ D, H1 D = none → ∃ W : Nat → Nat → Hp → Prop, (∃ m, W 0 m (upd H1 D (.dK []))) ∧ ∀ i m H2, W i m H2 →
  (J.stop i H2 ∧ Q (.ref D) H2) ∨ (J.go i H2 ∧ ∃ Nx : Hp → Prop, (∀ H3, Nx H3 → ∃ m', m' < m ∧ W (i + 1) m' H3) ∧ ∀ x H3, J.yld i H2 x H3 → ga x (wipe σ os) H3 fun σ2 H4 => wipe σ2 os = wipe σ os ∧ ra σ2 H4 fun b H5 =>
    if b = true then wb σ2 H5 fun J1 H6 => Inner2 J1 gb rb tk tv us D σ2 H6 Nx else Nx H5)
theorem w_dc2 {wa wb : TI} {ga gb : TG} {ra rb : TT} {tk tv : TE} {os us : List Nat} (h : wa σ H fun J H1 => Dc2P J ga ra wb gb rb tk tv os us Q σ H1) : tDc2 wa ga ra wb gb rb tk tv os us σ H Q := h
/-- a comprehension with a test: the turn i gives sel i, or nothing -/
theorem lcp_sel {J : It} {n : Nat} {G : Hp → Prop} {Y : Nat → Hp → V → Hp → Prop} (w : Walk J n G Y) {g : TG} {tt : TT} {te : TE} {vs : List Nat} (M : List Addr) (sel : Nat → Option V) (hz : n ≤ 1000000) (hG : ∀ H', Kp M H H' → G H')
    (hs : ∀ i x H1 H2 (R : V → Hp → Prop) (R0 : Hp → Prop), i < n → Kp M H H1 → Y i H1 x H2 → (∀ y H4, sel i = some y → Kp M H1 H4 → R y H4) → (∀ H4, sel i = none → Kp M H1 H4 → R0 H4) → g x (wipe σ vs) H2 fun σ2 H3 => wipe σ2 vs = wipe σ vs ∧ tt σ2 H3 fun b H4 => if b = true then te σ2 H4 R else R0 H4)
    (hM : ∀ b ∈ M, ∃ o, H b = some o)
    (hd : ∀ D H', H D = none → Kp M H H' → H' D = some (.lst ((List.range n).filterMap sel)) → Q (.ref D) H') : LcP J g tt te vs Q σ H := by
  intro D hD
  have hDM : D ∉ M := fun z => by obtain ⟨o, e⟩ := hM D z; rw [hD] at e; cases e
  refine lc_it w (fun i H' => Kp M H H' ∧ H' D = some (.lst ((List.range i).filterMap sel))) ⟨Kp.new hD, upd_same⟩ (fun i H' _ z => hG H' z.1) ?_ ?_
  · rintro i x H1 H2 hi ⟨k1, e1⟩ y
    refine hs i x H1 H2 _ _ hi k1 y ?_ ?_
    · intro z H4 hz' k4
      refine ⟨_, k4 _ _ hDM e1, ?_, (k1.trans k4).mutN hD, ?_⟩
      · refine Nat.lt_of_le_of_lt (List.length_filterMap_le _ _) ?_
        rw [List.length_range]
        exact Nat.lt_of_lt_of_le (Nat.lt_of_lt_of_le hi hz) (by decide)
      · rw [upd_same, List.range_succ, List.filterMap_append]
        simp [hz']
    · intro H4 hz' k4
      refine ⟨k1.trans k4, ?_⟩
      rw [k4 _ _ hDM e1, List.range_succ, List.filterMap_append]
      simp [hz']
  · rintro H' ⟨k, e⟩
    exact hd D H' hD k e
/-! ### a dict that is walked; any, sorted, insert -/
def rInsert : V → List V → Hp → VK → Prop := fun x vs H Q => ∃ (l : Addr) (xs : List V) (i : Int) (y : V), x = .ref l ∧ vs = [.int i, y] ∧ H l = some (.lst xs) ∧ xs.length < sizeLine ∧ 0 ≤ i ∧ i < 2 ^ 63 ∧ Q .non (upd H l (.lst (xs.take i.toNat ++ [y] ++ xs.drop i.toNat)))
theorem m_insert {X : Cx} : MtR X "list.insert" rInsert := mt_insert
theorem w_insert {l : Addr} {xs : List V} {k : Nat} {y : V} (h1 : H l = some (.lst xs)) (h2 : xs.length < sizeLine) (h3 : (k : Int) < 2 ^ 63) (h : ∀ H1, H1 l = some (.lst (xs.take k ++ [y] ++ xs.drop k)) → Off l H H1 → Q .non H1) : rInsert (.ref l) [.int k, y] H Q :=
  ⟨l, xs, k, y, rfl, rfl, h1, h2, by omega, h3, h _ upd_same fun x hx => upd_ne hx⟩
theorem w_any {p : Addr} {bs : List Bool} (h1 : SqL K H p (bs.map V.bl)) (h : Q (.bl (bs.any id)) H) : rAny K [.ref p] H Q := ⟨p, bs, rfl, h1, h⟩
section
variable {nx bk ct : L2.St → Hp → Prop} {rt : VK}
def rKeys (x : V) (H1 : Hp) (R : It → Hp → Prop) : Prop := ∃ d o, x = .ref d ∧ ((∃ kvs, H1 d = some (.frz o (.dK kvs)) ∧ R (Itk d o kvs) H1) ∨ ∃ kvs, H1 d = some (.frz o (.dT kvs)) ∧ R (Itkt d o kvs) H1)
theorem w_keys {td : TE} {R : It → Hp → Prop} (h : td σ H fun x H1 => rKeys x H1 R) : iKeys td σ H R := h
theorem w_keys' {d : Addr} {o : Obj} {kvs : List (Key × V)} {R : It → Hp → Prop} (e : H d = some (.frz o (.dK kvs))) (h : R (Itk d o kvs) H) : rKeys (.ref d) H R := ⟨d, o, rfl, .inl ⟨kvs, e, h⟩⟩
end
theorem w_tyes {R : Bool → Hp → Prop} (h : R true H) : tYes σ H R := h
theorem w_dinF {a : Addr} {o : Obj} {kvs : List (Key × V)} {n : Int} (e : H a = some (.frz o (.dK kvs))) (h : Q (.bl (valV kvs (Sum.inl n)).isSome) H) : rDIn (.ref a) (.int n) H Q := ⟨a, _, rfl, .inl ⟨kvs, Sum.inl n, .inr ⟨o, e⟩, rfl, rfl⟩, h⟩
theorem w_dgetF {a : Addr} {o : Obj} {kvs : List (Key × V)} {n : Int} {v : V} (e : H a = some (.frz o (.dK kvs))) (e2 : valV kvs (Sum.inl n) = some v) (h : Q v H) : rDGet (.ref a) (.int n) H Q := ⟨a, v, rfl, .inl ⟨kvs, Sum.inl n, .inr ⟨o, e⟩, rfl, e2.symm⟩, h⟩
/-! ### get, reversed, slices, pop -/
def rDGet1 (a : Addr) (y : V) (H : Hp) (Q : VK) : Prop := ∃ o, DGet H a y o ∧ Q (o.getD .non) H
theorem w_dget1 {td ty : TE} (h : td σ H fun x H1 => rIsD x H1 fun a H1 => ty σ H1 fun y H2 => rDGet1 a y H2 Q) : tDGet1 td ty σ H Q := h
theorem w_dget1I {a : Addr} {kvs : List (Key × V)} {n : Int} (e : H a = some (.dK kvs)) (h : Q ((valV kvs (Sum.inl n)).getD .non) H) : rDGet1 a (.int n) H Q := ⟨_, DGet.k (k := Sum.inl n) e, h⟩
def rRev (K : PySem.W.Frag) (vs : List V) (H : Hp) (R : It → Hp → Prop) : Prop := ∃ (a : Addr) (xs : List V), vs = [.ref a] ∧ SqL K H a xs ∧ R (Itv K a xs.length) H
theorem w_rev {ta : TA} {R : It → Hp → Prop} (h : ta σ H fun vs H1 => rRev K vs H1 R) : iRev K ta σ H R := h
theorem w_rev' {a : Addr} {xs : List V} {R : It → Hp → Prop} (h1 : SqL K H a xs) (h : R (Itv K a xs.length) H) : rRev K [.ref a] H R := ⟨a, xs, rfl, h1, h⟩
def rPart (x : V) (H : Hp) (R : Option Int → Hp → Prop) : Prop := ∃ i, x = .int i ∧ R (some i) H
theorem w_slice {r : V → Option Int → Option Int → Hp → VK → Prop} {te : TE} {tl th : TO} (h : te σ H fun x H1 => tl σ H1 fun l H2 => th σ H2 fun u H3 => r x l u H3 Q) : L2.tSl r te tl th σ H Q := h
theorem w_noPart {R : Option Int → Hp → Prop} (h : R none H) : tNoPart σ H R := h
theorem w_part {te : TE} {R : Option Int → Hp → Prop} (h : te σ H fun x H1 => rPart x H1 R) : tPart te σ H R := h
theorem w_part' {i : Int} {R : Option Int → Hp → Prop} (h : R (some i) H) : rPart (.int i) H R := ⟨i, rfl, h⟩
theorem w_slL {a : Addr} {xs : List V} {lo hi : Option Int} (h1 : SqL K H a xs) (h : ∀ p H1, H p = none → H1 p = some (.lst (cutV xs lo hi)) → Same H H1 → Q (.ref p) H1) : rSlL K (.ref a) lo hi H Q := ⟨a, xs, rfl, h1, w_new h⟩
theorem w_bm0 {r : V → List V → Hp → VK → Prop} {to : TE} (h : to σ H fun x H1 => tyV K "list" x H1 ∧ r x [] H1 Q) : tBM0 K "list" r to σ H Q := h
theorem w_pop {l : Addr} {xs : List V} {y : V} (h1 : H l = some (.lst (xs ++ [y]))) (h : ∀ H1, H1 l = some (.lst xs) → Off l H H1 → Q y H1) : rPop (.ref l) [] H Q :=
  ⟨l, _, y, rfl, rfl, h1, by simp, by rw [List.dropLast_concat]; exact h _ upd_same fun x hx => upd_ne hx⟩
theorem w_retN {nx bk ct : L2.St → Hp → Prop} {rt : VK} (h : rt .non H) : tRetN ⟨nx, rt, bk, ct⟩ σ H := h
theorem range_fm {α β : Type} (f : α → Option β) : ∀ xs : List α, (List.range xs.length).filterMap (fun i => xs[i]?.bind f) = xs.filterMap f
  | [] => rfl
  | x :: r => by
    rw [List.length_cons, List.range_succ_eq_map, List.filterMap_cons, List.filterMap_map, List.filterMap_cons]
    have h := range_fm f r
    show (match f x with | none => List.filterMap (fun i => r[i]?.bind f) (List.range r.length) | some b => b :: List.filterMap (fun i => r[i]?.bind f) (List.range r.length)) = _
    rw [h]
    cases f x <;> rfl
end
end FW

set_option Elab.async false
set_option linter.all false
set_option maxRecDepth 100000
set_option maxHeartbeats 4000000
/-! Data of any kind: what isinstance says of them, and tuples of them to a depth. -/
namespace FW
open PySem PySem.Spec PyProof.Rows L2
inductive Ty (H : Hp) : V → String → Prop where
  | non : Ty H .non "NoneType"
  | bl (b : Bool) : Ty H (.bl b) "bool"
  | int (i : Int) : Ty H (.int i) "int"
  | str (z : Str) : Ty H (.str z) "str"
  | lst {a : Addr} {xs : List V} (e : H a = some (.lst xs)) : Ty H (.ref a) "list"
  | tup {a : Addr} {xs : List V} (e : H a = some (.tup xs)) : Ty H (.ref a) "tuple"
  | dK {a : Addr} {kvs : List (Key × V)} (e : H a = some (.dK kvs)) : Ty H (.ref a) "dict"
section
variable {K : PySem.W.Frag} {σ : L2.St} {H : Hp} {Q : VK} {x : V} {a : String}
theorem Ty.tx (t : Ty H x a) : TyX K H x (.type a) := by
  cases t with
  | non => exact .base .non
  | bl b => exact .base (.bl b)
  | int i => exact .base (.int i)
  | str z => exact .base (.str z)
  | lst e => exact .base (.lst e)
  | tup e => exact .base (.tup e)
  | dK e => exact .base (.dK e)
theorem Ty.kTup (t : Ty H x a) : kitB a "tuple" = some (decide (a = "tuple")) := by
  cases t with
  | non => exact kb_NoneType_tuple
  | bl b => exact kb_bool_tuple
  | int i => exact kb_int_tuple
  | str z => exact kb_str_tuple
  | lst e => exact kb_list_tuple
  | tup e => exact kb_tuple_tuple
  | dK e => exact kb_dict_tuple
theorem Ty.kInt (t : Ty H x a) : kitB a "int" = some (decide (a = "int") || decide (a = "bool")) := by
  cases t with
  | non => exact kb_NoneType_int
  | bl b => exact kb_bool_int
  | int i => exact kb_int_int
  | str z => exact kb_str_int
  | lst e => exact kb_list_int
  | tup e => exact kb_tuple_int
  | dK e => exact kb_dict_int
theorem Ty.kBool (t : Ty H x a) : kitB a "bool" = some (decide (a = "bool")) := by
  cases t with
  | non => exact kb_NoneType_bool
  | bl b => exact kb_bool_bool
  | int i => exact kb_int_bool
  | str z => exact kb_str_bool
  | lst e => exact kb_list_bool
  | tup e => exact kb_tuple_bool
  | dK e => exact kb_dict_bool
theorem w_isTup (t : Ty H x a) (h : Q (.bl (decide (a = "tuple"))) H) : rIsi K [x, .ty "tuple"] H Q := w_isi t.tx t.kTup h
theorem w_isInt (t : Ty H x a) (h : Q (.bl (decide (a = "int") || decide (a = "bool"))) H) : rIsi K [x, .ty "int"] H Q := w_isi t.tx t.kInt h
theorem w_isBool (t : Ty H x a) (h : Q (.bl (decide (a = "bool"))) H) : rIsi K [x, .ty "bool"] H Q := w_isi t.tx t.kBool h
theorem Ty.isInt (t : Ty H x a) (e : a = "int") : ∃ i, x = .int i := by
  cases t with
  | int i => exact ⟨i, rfl⟩
  | non => exact absurd e (by decide)
  | bl _ => exact absurd e (by decide)
  | tup _ => exact absurd e (by decide)
  | str _ => exact absurd e (by decide)
  | lst _ => exact absurd e (by decide)
  | dK _ => exact absurd e (by decide)
theorem Ty.ofInt {i : Int} (t : Ty H (.int i) a) : a = "int" := by
  cases t with
  | int i => rfl
theorem Ty.ofTup {p : Addr} {xs : List V} (t : Ty H (.ref p) a) (e : H p = some (.tup xs)) : a = "tuple" := by
  cases t with
  | tup h => rfl
  | lst h => rw [e] at h; cases h
  | dK h => rw [e] at h; cases h
end
/-- data: a tuple of data, or another thing -/
inductive Dat (B : Nat) (H : Hp) : V → Prop where
  | leaf {x : V} {a : String} (t : Ty H x a) (h : a ≠ "tuple") : Dat B H x
  | tup {p : Addr} {xs : List V} (e : H p = some (.tup xs)) (l : xs.length ≤ B) (h : ∀ y ∈ xs, Dat B H y) : Dat B H (.ref p)
theorem Dat.int {B : Nat} {H : Hp} {i : Int} : Dat B H (.int i) := .leaf (.int i) (by decide)
theorem Dat.ty {B : Nat} {H : Hp} {x : V} (h : Dat B H x) : ∃ a, Ty H x a := by
  cases h with
  | leaf t _ => exact ⟨_, t⟩
  | tup e _ _ => exact ⟨_, .tup e⟩
/-- what keeps tuples, and of lists and dicts their kind -/
structure KD (H H' : Hp) : Prop where
  t : KT H H'
  l : ∀ b xs, H b = some (.lst xs) → ∃ ys, H' b = some (.lst ys)
  d : ∀ b kvs, H b = some (.dK kvs) → ∃ kws, H' b = some (.dK kws)
theorem KD.of {H H' : Hp} (k : Same H H') : KD H H' := ⟨KT.of k, fun b xs e => ⟨xs, k _ _ e⟩, fun b kvs e => ⟨kvs, k _ _ e⟩⟩
theorem KD.refl {H : Hp} : KD H H := ⟨KT.refl, fun b xs e => ⟨xs, e⟩, fun b kvs e => ⟨kvs, e⟩⟩
theorem KD.trans {H H1 H2 : Hp} (a : KD H H1) (b : KD H1 H2) : KD H H2 := ⟨a.t.trans b.t, fun c xs e => by
  obtain ⟨ys, e⟩ := a.l c xs e
  exact b.l c ys e, fun c xs e => by
  obtain ⟨ys, e⟩ := a.d c xs e
  exact b.d c ys e⟩
theorem KD.off {p : Addr} {H H' : Hp} {xs ys : List V} (k : Off p H H') (e : H p = some (.lst xs)) (e' : H' p = some (.lst ys)) : KD H H' := ⟨KT.off k e, fun b zs h => by
  by_cases q : b = p
  · subst q; exact ⟨ys, e'⟩
  · exact ⟨zs, k.get q h⟩, fun b kvs h => ⟨kvs, k.get (ne_of h e (fun z => nomatch z)) h⟩⟩
theorem Ty.kd {H H' : Hp} {x : V} {a : String} (t : Ty H x a) (k : KD H H') : Ty H' x a := by
  cases t with
  | non => exact .non
  | bl b => exact .bl b
  | int i => exact .int i
  | str z => exact .str z
  | lst e => obtain ⟨ys, e⟩ := k.l _ _ e; exact .lst e
  | tup e => exact .tup (k.t _ _ e)
  | dK e => obtain ⟨ys, e⟩ := k.d _ _ e; exact .dK e
theorem Dat.kd {B : Nat} {H H' : Hp} {x : V} (h : Dat B H x) (k : KD H H') : Dat B H' x := by
  induction h with
  | leaf t h => exact .leaf (t.kd k) h
  | tup e l _ ih => exact .tup (k.t _ _ e) l fun y hy => ih y hy
theorem Dat.mono {B C : Nat} (hB : B ≤ C) {H : Hp} {x : V} (h : Dat B H x) : Dat C H x := by
  induction h with
  | leaf t h => exact .leaf t h
  | tup e l _ ih => exact .tup e (Nat.le_trans l hB) fun y hy => ih y hy
theorem Dat.cases {B : Nat} {H : Hp} {x : V} (h : Dat B H x) : (∃ a, Ty H x a ∧ a ≠ "tuple") ∨ ∃ (p : Addr) (xs : List V), x = .ref p ∧ H p = some (.tup xs) ∧ xs.length ≤ B ∧ ∀ y ∈ xs, Dat B H y := by
  cases h with
  | leaf t h => exact .inl ⟨_, t, h⟩
  | tup e l h => exact .inr ⟨_, _, rfl, e, l, h⟩
theorem Deck.kd {H H' : Hp} {d c : Addr} {n m : Nat} (D : Deck H d c n) (D' : Deck H' d c m) (o : Off d H H') : KD H H' := by
  obtain ⟨⟨xs, e⟩, _⟩ := D.at
  obtain ⟨⟨ys, e'⟩, _⟩ := D'.at
  exact KD.off o e e'
section
variable {K : PySem.W.Frag} {H : Hp} {Q : VK}
theorem w_slA {a : Addr} {xs : List V} {lo hi : Option Int} (h1 : SqT K H a xs) (h2 : cutV xs lo hi = xs → Q (.ref a) H) (h : ∀ p H1, H p = none → H1 p = some (.tup (cutV xs lo hi)) → Same H H1 → Q (.ref p) H1) : rSlA K (.ref a) lo hi H Q := by
  refine ⟨a, xs, rfl, h1, fun ⟨z1, z2⟩ => h2 ?_, fun _ => w_new h⟩
  unfold cutV
  rw [z1, z2, List.drop_zero, Nat.sub_zero, List.take_length]
theorem w_cat {l b : Addr} {xs zs : List V} (h1 : H l = some (.lst xs)) (h2 : H b = some (.lst zs)) (hz : xs.length + zs.length ≤ sizeLine) (h : ∀ p H1, H p = none → H1 p = some (.lst (xs ++ zs)) → Same H H1 → Q (.ref p) H1) : rCat (.ref l) (.ref b) H Q := ⟨l, b, xs, zs, rfl, rfl, h1, h2, hz, w_new h⟩
/-- t[lo:hi]: where it stands, it is the cut -/
theorem w_slAt {a : Addr} {xs : List V} {lo hi : Option Int} (h1 : H a = some (.tup xs)) (h : ∀ p H1, H1 p = some (.tup (cutV xs lo hi)) → Same H H1 → Q (.ref p) H1) : rSlA K (.ref a) lo hi H Q :=
  w_slA (.of h1) (fun e => h a H (by rw [e]; exact h1) (fun _ _ z => z)) (fun p H1 _ e k => h p H1 e k)
theorem w_catAt {a b : Addr} {xs ys : List V} (h1 : H a = some (.tup xs)) (h2 : H b = some (.tup ys)) (hz : xs.length + ys.length ≤ sizeLine) (h : ∀ p H1, H1 p = some (.tup (xs ++ ys)) → Same H H1 → Q (.ref p) H1) : rCatA K (.ref a) (.ref b) H Q := by
  refine ⟨a, b, xs, ys, rfl, rfl, .of h1, .of h2, hz, fun e => ?_, fun _ e => ?_, fun _ _ p hp => h p _ upd_same (Same.new hp)⟩
  · subst e
    exact h b H h2 (fun _ _ z => z)
  · subst e
    exact h a H (by rw [List.append_nil]; exact h1) (fun _ _ z => z)
end
/-! ### except X as e -/
def tTryA (K : PySem.W.Frag) (c : Value) (i : Nat) (tb : WX → TS) (ts : Addr → Value → Option Addr → TS) : TS := fun D σ H => tb (wAs K c i ts (fun _ _ _ _ => False) D) D σ H
def tGuard (P : Prop) (t : TS) : TS := fun D σ H => P ∧ t D σ H
section
variable {X : Cx} {x n : Str} {c : Value} {i : Nat} {body suite : List Stmt} {b₀ : Stmt} {np pos pos' : Pos} {tb : WX → TS} {ts : Addr → Value → Option Addr → TS}
theorem p_tryAs (hs : X.stack = X.env :: X.outer) (hf : X.env.frame = some X.env.locals) (hN : X.N.Nodup) (hi : X.N[i]? = some n) (hln : X.env.kindOf n = some .local) (hc : Names X x c)
    (hb : ∀ (W : WX) (pn : List (Addr × Obj)) (xe : Value → Shared → Prop), Takes (X.tr pn xe) W → PassesOwn (model X.prog X.w) X.A X.env xe → PSs (X.tr pn xe) body (tb W))
    (hsu : ∀ (a : Addr) (oe : Obj) (cls : Value) (d : Option Addr) (pn : List (Addr × Obj)), Zc cls d oe → (∃ vs, oe.data = .fields vs) → PSs (X.suite a ((a, oe) :: pn)) (b₀ :: suite) (ts a cls d)) :
    PS X (.Try body [.ExceptHandler (some (.Name x np)) (some n) (b₀ :: suite) pos'] [] [] pos) (tTryA X.K c i tb ts) := ps_try_as hs hf hN hi hln hc takes0 hb hsu
theorem pss_guard {P : Prop} {ss : List Stmt} {t : TS} (h : P → PSs X ss t) : PSs X ss (tGuard P t) := ⟨fun pins s σ H D I hw => (h hw.1).run pins s σ H D I hw.2⟩
end
section
variable {K : PySem.W.Frag} {σ : L2.St} {H : Hp} {Q : VK} {nx bk ct : L2.St → Hp → Prop} {rt : VK}
theorem w_tryA {c : Value} {i : Nat} {tb : WX → TS} {ts : Addr → Value → Option Addr → TS} (h : tb (wAs K c i ts (fun _ _ _ _ => False) ⟨nx, rt, bk, ct⟩) ⟨nx, rt, bk, ct⟩ σ H) : tTryA K c i tb ts ⟨nx, rt, bk, ct⟩ σ H := h
theorem w_guard {P : Prop} {t : TS} (p : P) (h : t ⟨nx, rt, bk, ct⟩ σ H) : tGuard P t ⟨nx, rt, bk, ct⟩ σ H := ⟨p, h⟩
end
end FW

set_option Elab.async false
set_option linter.all false
set_option maxRecDepth 100000
set_option maxHeartbeats 4000000
/-! own errors with fields: made, caught, looked at; min of pairs; defaults by keyword -/
namespace FW
section
open PySem PySem.W PySem.Calls PyProof.Rows
variable {prog : Program} {w : World} {A : Around} {E : Value → Shared → Prop} {s : Shared} {K : Frag} {x D : Addr} {ox : Obj} {od : Option Obj}
end
open PySem PySem.Spec PyProof.Rows L2
/-- isinstance(e, c), e the error that the suite holds, with its fields at d -/
def rIsF (K : PySem.W.Frag) (D a : Addr) (d : Option Addr) : List V → Hp → VK → Prop := fun xs H Q => ∃ (c : V) (cv : Value) (b : Bool) (dd : Addr) (fs : List (Str × V)), xs = [.ref a, c] ∧ d = some dd ∧ H dd = some (.xd fs) ∧ (∀ u, RelV c u → u = cv) ∧ PySem.W.kitOne K (.ref D) cv = some b ∧ Q (.bl b) H
/-- an own error with __init__ -/
structure ExnI (K : PySem.W.Frag) (mg : Str → Option Value) (x : Str) (C fI : Addr) (fd : FuncData) (ps : List Str) (fs : List Str) : Prop where
  g : mg x = some (.ref C)
  T : OexC K C
  i : PySem.W.findIn K (.ref C) "__init__" = some (some (.ref fI))
  t : PySem.W.typeIn K (.ref fI) = some (.type "function")
  b : Binds K fd ps []
  f : XfC K C
  ec : ExcC K C
  nf : ∀ y ∈ fs, PySem.W.findIn K (.ref C) y = some none
/-- a def with keyword-only defaults -/
structure DfK (K : PySem.W.Frag) (mg : Str → Option Value) (x : Str) (st : Stmt) (ps : List Str) (kws : List (Str × V)) (dvs : List V) (f : Addr) (fd : FuncData) : Prop where
  fn : FunD K x x (defArgs st) (defBody st) (defScope st) [] kws f fd
  g : mg x = some (.ref f)
  kp : PySem.W.keepIn K (.ref f) = true
  b : ∃ ds, Vals dvs ds ∧ Binds K fd ps ds
  kb : ∃ g, KBn K fd ps (ps.length - kws.length) (kws.map (·.1)) g (fun vs zs => vs ++ zs)
/-- raise C(..) of two fields -/
def tRaiseO (C : Addr) (W : WX) (sp : Sp) (ta : TA) : TS := fun _ σ H => tMkO C sp [] ta σ H fun cls d H' => W cls d σ H'
section
variable {K : PySem.W.Frag} {σ : L2.St} {H : Hp} {Q : VK} {nx bk ct : L2.St → Hp → Prop} {rt : VK}
theorem w_mkO {C : Addr} {sp : Sp} {ta : TA} {Qx : XK} (h : ta σ H fun vs H1 => vs.length ≤ 1000 ∧ ∀ a, H1 a = none → sp (.ref a :: (vs ++ [])) (upd H1 a (exo a C none)) (fun v H2 => v = .non ∧ ∃ (d : Addr) (fs : List (Str × V)), H2 a = some (exo a C (some d)) ∧ H2 d = some (exd d fs) ∧ H1 d = none ∧ Qx (.ref C) (some d) (upd (del H2 a) d (.xd fs))) (fun _ _ _ => False)) : tMkO C sp [] ta σ H Qx := h
theorem w_callN {n m : Nat} {sp : Sp} {gV : List V → List V → List V} {E : XK} {t tk : TA} (h : t σ H fun vs H1 => tk σ H1 fun zs H2 => vs.length = n ∧ zs.length = m ∧ sp (gV vs zs) H2 Q E) : tCallN n m sp gV E t tk σ H Q := h
theorem w_xf {a C : Addr} {cls : Value} {d : Option Addr} {f : Str} {te : TE} (h : te σ H fun x H1 => x = .ref a ∧ cls = .ref C ∧ ∃ (dd : Addr) (fs : List (Str × V)) (v : V), d = some dd ∧ H1 dd = some (.xd fs) ∧ fs.lookup f = some v ∧ Q v H1) : tXf a cls d C f te σ H Q := h
theorem w_ost {f : Str} {to te : TE} {D : Ends} (h : te σ H fun y H1 => to σ H1 fun x H2 => ∃ a C : Addr, x = .ref a ∧ OexC K C ∧ PySem.W.findIn K (.ref C) f = some none ∧ ((H2 a = some (exo a C none) ∧ ∀ dx, H2 dx = none → dx ≠ a → D.nx σ (upd (upd H2 dx (exd dx [(f, y)])) a (exo a C (some dx)))) ∨ ∃ (dx : Addr) (fs : List (Str × V)), H2 a = some (exo a C (some dx)) ∧ H2 dx = some (exd dx fs) ∧ fs.length ≤ 900 ∧ D.nx σ (upd H2 dx (exd dx ((f, y) :: fs))))) : tOst K f to te D σ H := h
end
/-- what __init__ of two fields leaves -/
def spInit2 (K : PySem.W.Frag) (C : Addr) (f g : Str) : Sp := fun vs H Q _ => ∃ (a : Addr) (x y : V), vs = [.ref a, x, y] ∧ H a = some (exo a C none) ∧ ∀ dx, H dx = none → dx ≠ a → Q .non (upd (upd (upd H dx (exd dx [(f, x)])) a (exo a C (some dx))) dx (exd dx [(g, y), (f, x)]))
def spInit1 (K : PySem.W.Frag) (C : Addr) (f : Str) : Sp := fun vs H Q _ => ∃ (a : Addr) (x : V), vs = [.ref a, x] ∧ H a = some (exo a C none) ∧ ∀ dx, H dx = none → dx ≠ a → Q .non (upd (upd H dx (exd dx [(f, x)])) a (exo a C (some dx)))
/-! ### min of a list of pairs -/
def LtP (p q : Int × Int) : Prop := p.1 < q.1 ∨ p.1 = q.1 ∧ p.2 < q.2
def rMinP (K : PySem.W.Frag) : List V → Hp → VK → Prop := fun vs H Q => ∃ (a : Addr) (ps : List (Addr × Int × Int)), vs = [V.ref a] ∧ SqL K H a (ps.map fun q => .ref q.1) ∧ (∀ q ∈ ps, H q.1 = some (.tup [.int q.2.1, .int q.2.2])) ∧ ps ≠ [] ∧ ∀ q ∈ ps, (∀ r ∈ ps, ¬ LtP r.2 q.2) → Q (.ref q.1) H
section
variable {X : Cx} {pins : List (Addr × Obj)} {σ : L2.St} {H : Hp} {s : Shared}
end
theorem room100 {k : Nat} {A : Around} (r : Room k A) : A.units + 100 < cLine := by have := r.un; omega
end FW

set_option Elab.async false
set_option linter.all false
set_option maxRecDepth 100000
set_option maxHeartbeats 4000000
/-! for i, x in enumerate(t), t a tuple -/
namespace FW
open PySem PySem.Spec PyProof.Rows L2
def ItU (K : PySem.W.Frag) (a : Addr) : It :=
  ⟨fun i H => ∃ (xs : List V) (x : V), SqT K H a xs ∧ xs[i]? = some x,
   fun i H v H' => ∃ T x, v = .ref T ∧ H T = none ∧ H' = upd H T (.tup [.int (i : Nat), x]) ∧ ∀ xs, SqT K H a xs → xs[i]? = some x,
   fun i H => ∃ xs : List V, SqT K H a xs ∧ xs.length = i⟩
section
variable {P : Program} {w : World} {K : PySem.W.Frag} {elts : List Expr} {kk : Nat} {tpos : Pos}
theorem tup_iter_ne {h : Heap} {a it : Addr} {its : Array Value} {i : Nat} (p : h.IsTuple a its) (q : h.IsTupleIter it a i) : a ≠ it := by
  rintro rfl
  obtain ⟨o, e1, c1, _⟩ := p
  obtain ⟨u, e2, c2, _⟩ := q
  rw [e1] at e2
  cases e2
  rw [c1] at c2
  exact absurd c2 (by decide)
theorem tup_enum_ne {h : Heap} {a e it : Addr} {its : Array Value} {c : Int} {old : Value} (p : h.IsTuple a its) (q : IsEnum h e it c old) : e ≠ a := by
  rintro rfl
  obtain ⟨o, e1, c1, _⟩ := p
  have q' : h.get? e = _ := q
  rw [e1] at q'
  cases q'
  have c2 : Value.type "enumerate" = Value.type "tuple" := c1
  exact absurd c2 (by decide)
theorem turn_enumU (a e it : Addr) : Turn P w K (.Tuple elts kk tpos) (ItU K a) [e, it] e (fun i h => (∃ old, IsEnum h e it ((i : Nat) : Int) old) ∧ h.IsTupleIter it a i ∧ e ≠ it) where
  mem := by simp
  obj := fun i h st b hb => by
    obtain ⟨⟨old, he⟩, ⟨o, ho, hc, hd⟩, _⟩ := st
    have hb' : b = e ∨ b = it := by simpa using hb
    rcases hb' with rfl | rfl
    · exact ⟨_, he, fun v q => nomatch q⟩
    · exact ⟨o, ho, fun v q => by rw [hd] at q; cases q⟩
  keep := fun i h h' ⟨⟨old, he⟩, hi, hne⟩ k => ⟨⟨old, k e (by simp) _ he⟩, hi.at fun o z => k it (by simp) o z, hne⟩
  item := by
    intro X hP hw hK hc i pins s σ H E I hf ⟨⟨old, he⟩, hit, hne⟩ ⟨xs, x, hq, hx⟩
    subst hP hw hK
    obtain ⟨its, rv, p, _⟩ := I.tuple hq
    have p' : s.heap.IsTuple a its.toArray := p
    obtain ⟨u, hu, ru⟩ := rv.get hx
    have hl := rv.length
    have hil : i < its.toArray.size := by
      have := (List.getElem?_eq_some_iff.mp hx).1
      simp only [List.size_toArray]
      omega
    have hel := Heap.lt_size he
    have hil2 : it < s.heap.objs.size := by
      obtain ⟨_, z, _⟩ := hit
      exact Heap.lt_size z
    have DD := Draws.tuple (prog := X.prog) (w := X.w) (A := X.A.in1) (I.ok.hd hc) it a (tup_iter_ne p' hit) its.toArray
    refine wpAny_pyNext_enum_itemC DD he (show _ ∧ _ from ⟨hit, p'⟩) hil hne (by simpa using ⟨hne, tup_enum_ne p' he⟩) fun u' h' tk hu' ho hst hT hsz hk => ?_
    have hit' := hst.1
    have eu : u' = u := by
      have z : its.toArray[i]? = some u' := hu'
      rw [List.getElem?_toArray, hu] at z
      exact (Option.some.inj z).symm
    subst eu
    refine ⟨_, rfl, wpAny_letOwnedTupleGo_enum (s := { s with heap := h', toks := tk + 1 }) ho fun h2 he' sb => ?_⟩
    have hT2 := (sb.2 _ (Nat.ne_of_gt hel)).trans hT
    have new : ObjOk X.prog X.w (upd H s.heap.objs.size (.tup [.int (i : Nat), x])) h2 s.heap.objs.size (.tup [.int (i : Nat), x]) :=
      ⟨show 2 ≤ sizeLine by decide, [.int i tk, u'], .cons ⟨_, rfl⟩ (.cons ru .nil), ⟨_, hT2, rfl, _, rfl⟩⟩
    have I1 : Inv X pins σ (upd H s.heap.objs.size (.tup [.int (i : Nat), x])) { s with heap := h2, toks := tk + 1 } :=
      I.turnedNew (ch := [e, it]) (fun b ob hb q => (sb.2 b (fun z => hb (by simp [z]))).trans (hk b ob (fun z => hb (by simp [z])) (fun z => hb (by simp [z])) q)) hf (Nat.le_refl _) new
    refine ⟨.ref s.heap.objs.size, _, I1, rfl, ⟨_, x, rfl, I.hok.fresh (Nat.le_refl _), rfl, fun ys hy => by rw [I.tuple_inj hy hq]; exact hx⟩, ⟨⟨u', ?_⟩, hit'.at fun o q => (sb.2 it (Ne.symm hne)).trans q, hne⟩, fun b hb => ?_⟩
    · rw [show ((i + 1 : Nat) : Int) = (i : Int) + 1 by omega]
      exact he'
    · have hlt : b < s.heap.objs.size := by
        have hb' : b = e ∨ b = it := by simpa using hb
        rcases hb' with rfl | rfl
        · exact hel
        · exact hil2
      rw [upd_ne (Nat.ne_of_lt hlt)]
      exact (hf b hb).1
  done := by
    intro X hP hw hK hc i pins s σ H E I hf ⟨⟨old, he⟩, hit, hne⟩ ⟨xs, hq, hx⟩
    subst hP hw hK
    obtain ⟨its, rv, p, _⟩ := I.tuple hq
    have p' : s.heap.IsTuple a its.toArray := p
    obtain ⟨f0, f1, f2, f3, f4, f5⟩ := hf it (by simp)
    have hl := rv.length
    have hi : its.toArray.size = i := by
      simp only [List.size_toArray]
      omega
    have DD := Draws.tuple (prog := X.prog) (w := X.w) (A := X.A.in1) (I.ok.hd hc) it a (tup_iter_ne p' hit) its.toArray
    refine wpAny_pyNext_enum_endD DD he (show _ ∧ _ from ⟨by rw [hi]; exact hit, p'⟩) fun h' eb => ⟨rfl, I.turned (t' := s.toks) (fun b o hb q => eb b o hb q) f0 f1 f3 f4 f5⟩
  self := fun A i s Q E ⟨⟨_, he⟩, _⟩ h => wpAny_pyIter_enum he h
end
theorem begins_new1 {v : Value} {o : Obj} {Hs : Heap → Prop} (B : Begins v o Hs) : Meets (Builtin.«enumerate.__new__» ⟨[.type "enumerate", v], []⟩) (fun _ R s => Hs s.heap ∧
      R (.ok (.ret (.ref (s.heap.push o).objs.size))) { s with heap := (s.heap.push o).push { cls := .type "enumerate", data := .fields #[.none, .bool false, .ref s.heap.objs.size, rawInt 0, .none, .none] } }) :=
  .of_wp fun prog w A R s ⟨h1, h⟩ => by
    obtain ⟨hp, g, d, tk, os⟩ := s
    have hsub := sub_enumerate
    have q1 : ∀ {A' : Around} {E : Value → Shared → Prop} {Q : Value → Shared → Prop}, Q (.ref hp.objs.size) ⟨hp.push o, g, d, tk, os⟩ → wpAny (model prog w) A' (pyIter v) Q E ⟨hp, g, d, tk, os⟩ := fun q => B.iter prog w _ _ _ _ h1 q
    wp_walk using q1
    refine wpAny_stack_any fun st => wpAny_pure ?_
    split
    · rename_i c _ _ _ _ _
      cases (c == Value.type "enumerate") <;> (wp_walk using q1; exact ⟨_, rfl, h⟩)
    · wp_walk using q1
      exact ⟨_, rfl, h⟩
section
variable {prog : Program} {w : World} {A : Around} {E : Value → Shared → Prop} {s : Shared}
theorem enum_begins1 {v : Value} {o : Obj} {Hs : Heap → Prop} {Q : Value → Shared → Prop} (B : Begins v o Hs) (h1 : Hs s.heap)
    (h : ∀ h', IsEnum h' (s.heap.objs.size + 1) s.heap.objs.size 0 .none → h'.get? s.heap.objs.size = some o → (∀ b o, s.heap.get? b = some o → h'.get? b = some o) → Q (.ref (s.heap.objs.size + 1)) { s with heap := h' }) :
    wpAny (model prog w) A (call (.type "enumerate") [v]) Q E s := by
  refine callType_new F.called_enumerate (by decide) (F.typeCall_enumerate_1 _) (F.newCall_enumerate_1 _) (fun obj => F.args_object_init_2 obj _) F.entry_enumerate_new (begins_new1 B) ⟨h1, ?_⟩
  have hz : (s.heap.push o).objs.size = s.heap.objs.size + 1 := Heap.size_push ..
  show _ ∧ _
  have he := Heap.get?_push_size (s.heap.push o) (o := { cls := .type "enumerate", data := .fields #[.none, .bool false, .ref s.heap.objs.size, rawInt 0, .none, .none] }) rfl
  rw [hz] at he ⊢
  exact ⟨⟨_, he, rfl⟩, h _ he (Heap.get?_push_of_some _ (Heap.get?_push_size _ B.free)) fun b o x => Heap.get?_push_of_some _ (Heap.get?_push_of_some _ x)⟩
end
def rEnumT (K : PySem.W.Frag) (vs : List V) (H : Hp) (R : It → Hp → Prop) : Prop := ∃ a xs, vs = [.ref a] ∧ SqT K H a xs ∧ R (ItU K a) H
def iEnumT (K : PySem.W.Frag) (ta : TA) : TI := fun σ H R => ta σ H fun vs H1 => rEnumT K vs H1 R
theorem pi_enumT {X : Cx} {e : Expr} {ta : TA} {p pos tpos : Pos} {elts : List Expr} {kk : Nat} (hg : Gl X "enumerate") (hm : X.mg "enumerate" = none) (ha : PA X [e] ta) (hs : starEach [e] X.env = [(false, eval e X.env)] := by rfl) :
    PI X (.Tuple elts kk tpos) (.Call (.Name "enumerate" p) [e] [] pos) (iEnumT X.K ta) := by
  refine ⟨fun pins s σ H R I h => Call_ (ld_blt I hg hm boot_enumerate (callWith_type1 (thn (ha.run pos pins s σ H _ I h) fun us s1 ⟨vs, H1, I1, r1, a, xs, ex, hq, q⟩ => ?_) hs rfl))⟩
  subst ex
  cases r1 with
  | cons r rr =>
    cases rr
    cases r
    obtain ⟨its, rv, p', _⟩ := I1.tuple hq
    refine enum_begins1 (begins_tuple a its.toArray) (show s1.heap.IsTuple a its.toArray from p') fun h' he hit hk => wpAny_pyIter_enum he ?_
    have I2 : Inv X pins σ H1 { s1 with heap := h' } := I1.kept (t' := s1.toks) hk
    refine ⟨s1.heap.objs.size + 1, [s1.heap.objs.size + 1, s1.heap.objs.size], _, _, H1, rfl, I2, turn_enumU a (s1.heap.objs.size + 1) s1.heap.objs.size, ⟨⟨.none, he⟩, ⟨_, hit, rfl, rfl⟩, Nat.succ_ne_self _⟩, fun b hb => ?_, q⟩
    have hb' : b = s1.heap.objs.size + 1 ∨ b = s1.heap.objs.size := by simpa using hb
    have hle : s1.heap.objs.size ≤ b := by
      rcases hb' with rfl | rfl
      · exact Nat.le_succ _
      · exact Nat.le_refl _
    exact I1.fpOk hle (I1.hok.fresh hle)
def rLenD (vs : List V) (H : Hp) (Q : VK) : Prop := ∃ a kvs, vs = [V.ref a] ∧ H a = some (.dK kvs) ∧ Q (.int kvs.length) H
section
variable {K : PySem.W.Frag} {σ : L2.St} {H : Hp} {a : Addr} {xs : List V}
theorem walk_enumT : Walk (ItU K a) xs.length (fun H => SqT K H a xs) (fun i H v H' => ∃ T x, v = .ref T ∧ H T = none ∧ H' = upd H T (.tup [.int (i : Nat), x]) ∧ xs[i]? = some x) :=
  ⟨fun i H hi h => ⟨xs, xs[i], h, List.getElem?_eq_getElem hi⟩, fun H h => ⟨xs, h, rfl⟩, fun i H x H' hi h ⟨T, y, e1, e2, e3, e4⟩ => ⟨T, y, e1, e2, e3, e4 xs h⟩⟩
theorem w_enum {ta : TA} {R : It → Hp → Prop} (h : ta σ H fun vs H1 => rEnumT K vs H1 R) : iEnumT K ta σ H R := h
theorem w_enum' {R : It → Hp → Prop} (h1 : SqT K H a xs) (h : R (ItU K a) H) : rEnumT K [.ref a] H R := ⟨a, xs, rfl, h1, h⟩
end
/-! ### what keeps all but the deck -/
structure KX (dk : Addr) (H H' : Hp) : Prop extends KD H H' where
  p : Kp [dk] H H'
theorem KX.of {d : Addr} {H H' : Hp} (k : Same H H') : KX d H H' := ⟨KD.of k, Kp.of k⟩
theorem KX.refl {d : Addr} {H : Hp} : KX d H H := ⟨KD.refl, Kp.refl⟩
theorem KX.trans {d : Addr} {H H1 H2 : Hp} (a : KX d H H1) (b : KX d H1 H2) : KX d H H2 := ⟨a.toKD.trans b.toKD, a.p.trans b.p⟩
theorem Deck.kx {H H' : Hp} {d c : Addr} {n m : Nat} (D : Deck H d c n) (D' : Deck H' d c m) (o : Off d H H') : KX d H H' := ⟨D.kd D' o, o.kp (by simp)⟩
instance {d : Addr} {H H' : Hp} : CoeOut (KX d H H') (KD H H') := ⟨KX.toKD⟩
end FW

set_option Elab.async false
set_option linter.all false
set_option maxRecDepth 100000
set_option maxHeartbeats 4000000
/-! sorted(d) of a dict of ints, of any length -/
namespace FW
open PySem PySem.Spec PyProof.Rows L2
def rSortA (xs : List V) (H : Hp) (Q : VK) : Prop := ∃ (a : Addr) (kvs : List (Key × V)) (ks : List Int), xs = [.ref a] ∧ Rd H a (.dK kvs) ∧ kvs.map (·.1) = ks.map Sum.inl ∧ ks.length ≤ 100000 ∧
    ∀ (ys : List Int) (p : Addr), ys.Perm ks → ys.Pairwise (· ≤ ·) → H p = none → Q (.ref p) (upd H p (.lst (ys.map V.int)))
theorem c_sortA {X : Cx} (hcalm : X.calm = true) : CallR X (.builtin "sorted") rSortA := by
  intro pins s σ H xs us Q I r ⟨a, kvs, ks, ex, hd, hks, hlk, q⟩
  subst ex
  obtain ⟨u, eu, rx⟩ := vals1 r
  subst eu
  cases rx
  obtain ⟨z, lo, vs, rel, dd⟩ := dk_rd I.hok hd
  obtain ⟨ep, hat⟩ := dd.dictAt
  have hkeys : vs.map (·.1) = ks.map Sum.inl := rel.keys.symm.trans hks
  have hl : vs.length = ks.length := by
    have e := congrArg List.length hkeys
    simpa using e
  have h16 : vs.length ≤ sizeLine := by rw [hl, sizeLine_eq]; omega
  refine Calls.call_function_entry kind_sorted plain_sorted entry_sorted (args_sorted1 _) ?_
  unfold Builtin.«sorted»; refine wpAny_bind (m := checkCount "sorted" 1 1 _) (wpAny_pure ?_)
  refine wpAny_bind (PySem.W.kdu_collect (A := X.A.in1) (PySem.W.kdl_dict (knd := mixKind X.prog X.w) (kvs := vs) (ep := ep) lo) (I.ok.hd hcalm) hat h16 fun h' tk acc hk hacc => ?_)
  have hal : acc.toList.length = ks.length := by rw [Array.length_toList, hacc.1, hl]
  have hS : IntsAre acc.toList ks := ints_each hal fun j v e => by
    obtain ⟨k, x, e1, e2⟩ := hacc.2 j v (by rw [← Array.getElem?_toList]; exact e)
    have e3 : (vs.map (·.1))[j]? = some k := by rw [List.getElem?_map, e1]; rfl
    rw [hkeys, List.getElem?_map] at e3
    obtain ⟨y, e4, e5⟩ := Option.map_eq_some_iff.mp e3
    subst e5
    rcases keyIs_shape (show keyIs (Sum.inl y) v = true from e2) with ⟨i, t, ek, ev⟩ | ⟨z, t, ek, ev⟩
    · cases ek
      exact ⟨y, t, e4, ev⟩
    · cases ek
  have I1 : Inv X pins σ H { s with heap := h', toks := tk } := I.kept hk
  have hz : acc.toList.length ≤ sizeLine := by rw [hal, sizeLine_eq]; omega
  refine wpAny_bind (wpAny_newList ?_ hz)
  have hoL : (h'.push (seqObj "list" acc.toList.toArray 0)).get? h'.objs.size = some (seqObj "list" acc.toList.toArray 0) := Heap.get?_push_size _ rfl
  show wpAny _ _ _ _ _ { s with heap := h'.push (seqObj "list" acc.toList.toArray 0), toks := tk }
  refine wpAny_bind (wpAny_holding (wpAny_call_entry slot_list_sort ⟨_, hoL, rfl⟩ entry_list_sort (SrtO.list_sort_ord (s := { s with heap := h'.push (seqObj "list" acc.toList.toArray 0), toks := tk }) SrtO.swo_int hoL hz (fun h2 => SrtO.ints_sortable hS h2) fun out h1 h2 => ⟨_, rfl, ?_⟩) (args_list_sort _)))
  obtain ⟨g1, g2, g3⟩ := SrtO.ints_out hS h1 h2
  obtain ⟨e', he'⟩ := sortedHeap_at (vs := acc.toList) (out := out.toArray) hoL
  have hlen : ((out.map SrtO.iv).map V.int).length ≤ sizeLine := by rw [List.length_map, g2.length_eq, ← hal]; exact hz
  refine wpAny_pure ⟨_, rfl, .ref h'.objs.size, upd H h'.objs.size (.lst ((out.map SrtO.iv).map V.int)), I1.laid (t' := tk) (fun b u e => ?_) (Nat.le_refl _) (show ObjOk X.prog X.w _ _ _ (.lst ((out.map SrtO.iv).map V.int)) from ⟨hlen, out, e', vals_of_ints g1, he'⟩), rfl, q _ _ g2 g3 (I1.hok.fresh (Nat.le_refl _))⟩
  have hb : b < h'.objs.size := Heap.lt_size e
  rw [sortedHeap_old (Nat.ne_of_lt hb) (by rw [size_push']; exact Nat.lt_succ_of_lt hb)]
  exact Heap.get?_push_of_some _ e
theorem w_sortA {H : Hp} {Q : VK} {a : Addr} {kvs : List (Key × V)} {ks : List Int} (e : H a = some (.dK kvs)) (hk : kvs.map (·.1) = ks.map Sum.inl) (hl : ks.length ≤ 100000) (h : ∀ (ys : List Int) p H1, ys.Perm ks → ys.Pairwise (· ≤ ·) → H p = none → H1 p = some (.lst (ys.map V.int)) → Same H H1 → Q (.ref p) H1) : rSortA [.ref a] H Q :=
  ⟨a, kvs, ks, rfl, .inl e, hk, hl, fun ys p g1 g2 hp => h ys p _ g1 g2 hp upd_same (Same.new hp)⟩
end FW

set_option Elab.async false
set_option linter.all false
set_option maxRecDepth 100000
set_option maxHeartbeats 4000000
/-! t[k::w] of a tuple; extend by a tuple; pairs in a list -/
namespace HT
open PySem PySem.Spec PyProof.Rows
section
variable {prog : Program} {w : World} {A : Around} {E : Value → Shared → Prop} {s : Shared}
def places (n k w : Nat) : Nat := (n - k - 1) / w + 1
def stepL {α : Type} (xs : List α) (k c : Nat) : List α := (List.range (places xs.length k c)).filterMap fun j => xs[k + j * c]?
end
end HT
namespace FW
open PySem PySem.Spec PyProof.Rows L2
/-- t[k::w] -/
def rStep (K : PySem.W.Frag) (x y z : V) (H : Hp) (Q : VK) : Prop := ∃ (a : Addr) (xs : List V) (k c : Nat), x = .ref a ∧ y = .int k ∧ z = .int c ∧ SqT K H a xs ∧ k < xs.length ∧ 0 < c ∧ (k = 0 → c = 1 → Q (.ref a) H) ∧ (¬ (k = 0 ∧ c = 1) → Nw (.tup (HT.stepL xs k c)) H Q)
def tStep (K : PySem.W.Frag) (te tl ts : TE) : TE := fun σ H Q => te σ H fun x H1 => tl σ H1 fun y H2 => ts σ H2 fun z H3 => rStep K x y z H3 Q
section
variable {X : Cx}
def rExtT (K : PySem.W.Frag) : V → List V → Hp → VK → Prop := fun x vs H Q => ∃ l b xs zs, x = .ref l ∧ vs = [.ref b] ∧ H l = some (.lst xs) ∧ H b = some (.tup zs) ∧ xs.length + zs.length ≤ sizeLine ∧ Q .non (upd H l (.lst (xs ++ zs)))
/-- a pair (int, truth) that is not in a list of such -/
def rNotInP (K : PySem.W.Frag) : R2 := fun x y H Q => ∃ (p a : Addr) (v : Int) (b : Bool) (an : List (Addr × Int × Bool)), x = .ref p ∧ y = .ref a ∧ H p = some (.tup [.int v, .bl b]) ∧ SqL K H a (an.map fun q => .ref q.1) ∧ (∀ q ∈ an, H q.1 = some (.tup [.int q.2.1, .bl q.2.2])) ∧ Q (.bl (decide ((v, b) ∉ an.map (·.2)))) H
end
section
variable {K : PySem.W.Frag} {σ : L2.St} {H : Hp} {Q : VK}
theorem w_step {te tl ts : TE} (h : te σ H fun x H1 => tl σ H1 fun y H2 => ts σ H2 fun z H3 => rStep K x y z H3 Q) : tStep K te tl ts σ H Q := h
end
end FW

set_option Elab.async false
set_option linter.all false
set_option maxRecDepth 100000
set_option maxHeartbeats 4000000
/-! a, .., *rest = t: the last target starred, t a tuple -/
namespace FW
open PySem PySem.Spec PyProof.Rows L2
section
variable {prog : Program} {w : World} {A : Around} {E : Value → Shared → Prop} {s : Shared}
end
/-- n names, then a starred one -/
def gStar (K : PySem.W.Frag) (j : Nat) (t : TGs) : TG := fun v σ H Q => ∃ a xs, v = .ref a ∧ SqT K H a xs ∧ j ≤ xs.length ∧ ∀ L, H L = none → t (xs.take j ++ [.ref L]) σ (upd H L (.lst (xs.drop j))) Q
section
variable {X : Cx} {pos : Pos}
end
end FW

set_option Elab.async false
set_option linter.all false
set_option maxRecDepth 100000
set_option maxHeartbeats 4000000
/-! try with several except clauses, each with or without a name -/
namespace FW
open PySem PySem.Spec PyProof.Rows L2
abbrev Suite := Addr → Value → Option Addr → TS
/-- the ends behind a suite whose name goes -/
def unset (i : Nat) (D : Ends) : Ends := ⟨fun σ H => D.nx (σ.set i none) H, D.rt, fun σ H => D.bk (σ.set i none) H, fun σ H => D.ct (σ.set i none) H⟩
def runCl (o : Option Nat) (ts : Suite) (a : Addr) (cls : Value) (d : Option Addr) (D : Ends) (σ : L2.St) (H : Hp) : Prop :=
  match o with
  | none => ts a cls d D σ H
  | some i => ts a cls d (unset i D) (σ.set i (some (.ref a))) H
def wCl (K : PySem.W.Frag) (Wo : WX) (D : Ends) : List (Value × Option Nat × Suite) → WX
  | [] => Wo
  | (c, o, ts) :: r => fun cls d σ H => ∃ b, PySem.W.exmOne K cls c = some b ∧ (b = true → ∀ a, H a = none → runCl o ts a cls d D σ H) ∧ (b = false → wCl K Wo D r cls d σ H)
inductive ClOk (X : Cx) : List ExceptHandler → List (Value × Option Nat × Suite) → Prop
  | nil : ClOk X [] []
  | only {x : Str} {c : Value} {ts : Suite} {st : Stmt} {sts : List Stmt} {p1 p2 : Pos} {hs : List ExceptHandler} {l : List (Value × Option Nat × Suite)} (nm : Names X x c)
      (su : ∀ a oe cls d pn, Zc cls d oe → (∃ vs, oe.data = .fields vs) → PSs (X.suite a ((a, oe) :: pn)) (st :: sts) (ts a cls d)) (r : ClOk X hs l) :
      ClOk X (.ExceptHandler (some (.Name x p1)) none (st :: sts) p2 :: hs) ((c, none, ts) :: l)
  | as {x n : Str} {c : Value} {i : Nat} {ts : Suite} {st : Stmt} {sts : List Stmt} {p1 p2 : Pos} {hs : List ExceptHandler} {l : List (Value × Option Nat × Suite)} (hi : X.N[i]? = some n) (hl : X.env.kindOf n = some .local) (nm : Names X x c)
      (su : ∀ a oe cls d pn, Zc cls d oe → (∃ vs, oe.data = .fields vs) → PSs (X.suite a ((a, oe) :: pn)) (st :: sts) (ts a cls d)) (r : ClOk X hs l) :
      ClOk X (.ExceptHandler (some (.Name x p1)) (some n) (st :: sts) p2 :: hs) ((c, some i, ts) :: l)
def tTryG (K : PySem.W.Frag) (l : List (Value × Option Nat × Suite)) (Wo : WX) (tb : WX → TS) : TS := fun D σ H => tb (wCl K Wo D l) D σ H
section
variable {X : Cx} {body : List Stmt} {h1 : ExceptHandler} {hs : List ExceptHandler} {l : List (Value × Option Nat × Suite)} {pos : Pos} {tb : WX → TS} {Wo : WX}
end
section
variable {K : PySem.W.Frag} {σ : L2.St} {H : Hp} {nx bk ct : L2.St → Hp → Prop} {rt : VK}
theorem w_tryG {l : List (Value × Option Nat × Suite)} {Wo : WX} {tb : WX → TS} (h : tb (wCl K Wo ⟨nx, rt, bk, ct⟩ l) ⟨nx, rt, bk, ct⟩ σ H) : tTryG K l Wo tb ⟨nx, rt, bk, ct⟩ σ H := h
end
end FW

set_option Elab.async false
set_option linter.all false
set_option maxRecDepth 100000
set_option maxHeartbeats 4000000
/-! {tuple: value for a in as if ..}: a dict keyed by tuples, one clause; pairs looked for in tuples; zip of tuples -/
namespace FW
open PySem PySem.Spec PyProof.Rows L2
section
variable {kx vx ta ia : Expr} {fa : List Expr} {sc : Scope} {ps : Pos}
abbrev one (kx vx ta ia : Expr) (fa : List Expr) (sc : Scope) (ps : Pos) : Expr := .DictComp kx vx [⟨ta, ia, fa, 0⟩] sc ps
variable {pg : Program} {wd : World} {A : Around} {R : Result → Shared → Prop} {st : Shared} {it : Value} {D : Addr} {env : Env}
end
section
variable {X : Cx}
variable {kx vx ta ia : Expr} {fa : List Expr} {sc : Scope} {ps qs : Pos} {own : List (Str × Nat)} {wa : TI} {ga : TG} {ra : TT} {tk tv : TE}
def DcTP (J : It) (g : TG) (tt : TT) (tk tv : TE) (vs : List Nat) (Q : VK) (σ : L2.St) (H1 : Hp) : Prop := ∀ D, H1 D = none → ∃ W : Nat → Nat → Hp → Prop, (∃ m, W 0 m (upd H1 D (.dT []))) ∧ ∀ i m H, W i m H →
  (J.stop i H ∧ Q (.ref D) H) ∨ (J.go i H ∧ ∃ Nx : Hp → Prop, (∀ H', Nx H' → ∃ m', m' < m ∧ W (i + 1) m' H') ∧ ∀ x H', J.yld i H x H' → g x (wipe σ vs) H' fun σ2 H2 => wipe σ2 vs = wipe σ vs ∧ tt σ2 H2 fun b H3 =>
    if b = true then tk σ2 H3 fun y H4 => tv σ2 H4 fun z H5 => ∃ kvs k b, y = .ref b ∧ H5 b = some (.tup (k.map kV)) ∧ H5 D = some (.dT kvs) ∧ kvs.length < sizeLine ∧ Nx (upd H5 D (.dT (putK kvs k z))) else Nx H3)
def tDcT (wi : TI) (g : TG) (tt : TT) (tk tv : TE) (vs : List Nat) : TE := fun σ H Q => wi σ H fun J H1 => DcTP J g tt tk tv vs Q σ H1
/-- a pair of ints that is not in a tuple of such -/
def rNotInT (K : PySem.W.Frag) : R2 := fun x y H Q => ∃ (p a : Addr) (v b : Int) (an : List (Addr × Int × Int)), x = .ref p ∧ y = .ref a ∧ H p = some (.tup [.int v, .int b]) ∧ SqT K H a (an.map fun q => .ref q.1) ∧ (∀ q ∈ an, H q.1 = some (.tup [.int q.2.1, .int q.2.2])) ∧ Q (.bl (decide ((v, b) ∉ an.map (·.2)))) H
end
section
variable {K : PySem.W.Frag} {σ : L2.St} {H : Hp} {Q : VK} {nx bk ct : L2.St → Hp → Prop} {rt : VK}
theorem w_dct {wi : TI} {g : TG} {tt : TT} {tk tv : TE} {vs : List Nat} (h : wi σ H fun J H1 => DcTP J g tt tk tv vs Q σ H1) : tDcT wi g tt tk tv vs σ H Q := h
/-- for a, b in zip(tuple, tuple) -/
def rZipA (K : PySem.W.Frag) (vs : List V) (H : Hp) (R : It → Hp → Prop) : Prop := ∃ a b xs ys, vs = [.ref a, .ref b] ∧ ((SqL K H a xs ∧ SqL K H b ys ∧ R (Itz K a b) H) ∨ (SqT K H a xs ∧ SqT K H b ys ∧ R (RZ.ItzT K a b) H))
theorem w_zipA {ta : TA} {R : It → Hp → Prop} (h : ta σ H fun vs H1 => rZipA K vs H1 R) : RZ.iZipA K ta σ H R := h
theorem w_zipT' {a b : Addr} {xs ys : List V} {R : It → Hp → Prop} (h1 : SqT K H a xs) (h2 : SqT K H b ys) (h : R (RZ.ItzT K a b) H) : rZipA K [.ref a, .ref b] H R := ⟨a, b, xs, ys, rfl, .inr ⟨h1, h2, h⟩⟩
end
end FW

set_option Elab.async false
set_option linter.all false
set_option maxRecDepth 100000
set_option maxHeartbeats 4000000
/-! try: .. except (A, B): .. -/
namespace FW
open PySem PySem.Spec PyProof.Rows L2
def wTwo (K : PySem.W.Frag) (c1 c2 : Value) (ts : Suite) (D : Ends) : WX := fun cls d σ H => PySem.W.exmAny K cls [c1, c2] = some true ∧ ∀ a, H a = none → ts a cls d D σ H
def tTry2 (K : PySem.W.Frag) (c1 c2 : Value) (tb : WX → TS) (ts : Suite) : TS := fun D σ H => tb (wTwo K c1 c2 ts D) D σ H
section
variable {X : Cx} {body sts : List Stmt} {st : Stmt} {x1 x2 : Str} {c1 c2 : Value} {p1 p2 p3 p4 p5 : Pos} {kk : Nat} {tb : WX → TS} {ts : Suite}
end
end FW

set_option Elab.async false
set_option linter.all false
set_option maxRecDepth 100000
set_option maxHeartbeats 4000000
/-! texts: len, in, signs one by one, join; lists taken apart; all -/
namespace FW
open PySem PySem.Spec PyProof.Rows L2
def rLenS : List V → Hp → VK → Prop := fun xs H Q => ∃ z, xs = [.str z] ∧ z.length ≤ sizeLine ∧ Q (.int z.length) H
def rInS : R2 := fun x y H Q => ∃ (c : Nat) (z : Str), x = .str ⟨#[c]⟩ ∧ y = .str z ∧ Q (.bl (decide (c ∈ z.cps.toList))) H
def rJoin (K : PySem.W.Frag) : V → List V → Hp → VK → Prop := fun x xs H Q => ∃ a p, ∃ ys : List Str, x = .str a ∧ xs = [.ref p] ∧ (SqL K H p (ys.map V.str) ∨ SqT K H p (ys.map V.str)) ∧ (ys.map (·.length)).sum + ys.length * a.length ≤ 16777216 ∧ Q (.str (Txt.join a ys)) H
def rIStr (v : V) (H : Hp) (R : It → Hp → Prop) : Prop := ∃ x, v = .str x ∧ R (Its x) H
def rLtS : R2 := fun x y H Q => ∃ i j : Str, x = .str i ∧ y = .str j ∧ Q (.bl (decide (i.cps.toList < j.cps.toList))) H
def rGtS : R2 := fun x y H Q => ∃ i j : Str, x = .str i ∧ y = .str j ∧ Q (.bl (decide (j.cps.toList < i.cps.toList))) H
section
variable {X : Cx}
theorem o_ltS : OpR X (compareOp .Lt) rLtS := op_lt_str
theorem c_lenS : CallR X (.builtin "len") rLenS := call_len_str
theorem o_inS : OpR X (compareOp .In) rInS := op_in_sign
theorem p_join {o e : Expr} {to te : TE} {apos pos : Pos} (ho : PE X o to) (he : PE X e te) (hs : starEach [e] X.env = [(false, eval e X.env)] := by rfl) (hbase : attributeBase o "join" X.env (eval o X.env) = eval o X.env := by rfl) (hline : (apos.endLine == pos.line) = true := by rfl) :
    PE X (.Call (.Attribute o "join" apos) [e] [] pos) (tM1 (rJoin X.K) to te) := pe_join ho he hs hbase hline
end
section
variable {K : PySem.W.Frag} {σ : L2.St} {H : Hp} {Q : VK} {nx bk ct : L2.St → Hp → Prop} {rt : VK}
theorem w_callD {sp : Sp} {dvs : List V} {E : XK} {t : TA} (h : t σ H fun vs H1 => sp (vs ++ dvs) H1 Q E) : tCall sp dvs E t σ H Q := h
theorem w_ipI {g : Int → Int → Int} {i j : Int} (h : Q (.int (g i j)) H) : ipI g (.int i) (.int j) H Q := ⟨i, j, rfl, rfl, h⟩
theorem w_ltS {x y : Str} (h : Q (.bl (decide (x.cps.toList < y.cps.toList))) H) : rLtS (.str x) (.str y) H Q := ⟨x, y, rfl, rfl, h⟩
theorem w_gtS {x y : Str} (h : Q (.bl (decide (y.cps.toList < x.cps.toList))) H) : rGtS (.str x) (.str y) H Q := ⟨x, y, rfl, rfl, h⟩
theorem w_neS {x y : Str} (h : Q (.bl (!decide (x = y))) H) : rNe (.str x) (.str y) H Q := ⟨rfl, by
  have e : decide (V.str x = V.str y) = decide (x = y) := by
    by_cases q : x = y
    · subst q; rw [decide_eq_true rfl, decide_eq_true rfl]
    · rw [decide_eq_false q, decide_eq_false (fun z => q (V.str.inj z))]
  rw [e]; exact h⟩
theorem w_lenS {z : Str} (h1 : z.length ≤ sizeLine) (h : Q (.int z.length) H) : rLenS [.str z] H Q := ⟨z, rfl, h1, h⟩
theorem w_inS {c : Nat} {z : Str} (h : Q (.bl (decide (c ∈ z.cps.toList))) H) : rInS (.str ⟨#[c]⟩) (.str z) H Q := ⟨c, z, rfl, rfl, h⟩
theorem w_ixS {z : Str} {i : Int} {c : Nat} (h1 : z.length ≤ sizeLine) (h2 : atI z.cps.toList i = some c) (h : Q (.str ⟨#[c]⟩) H) : rIxS (.str z) (.int i) H Q := ⟨z, i, c, rfl, rfl, h1, h2, h⟩
theorem w_m1 {r : V → List V → Hp → VK → Prop} {to te : TE} (h : to σ H fun x H1 => (∃ a, x = .str a) ∧ te σ H1 fun y H2 => r x [y] H2 Q) : tM1 r to te σ H Q := h
theorem w_isS {z : Str} {A : Prop} (h : A) : (∃ a, V.str z = .str a) ∧ A := ⟨⟨z, rfl⟩, h⟩
theorem w_joinL {a : Str} {p : Addr} {ys : List Str} (h1 : SqL K H p (ys.map V.str)) (h2 : (ys.map (·.length)).sum + ys.length * a.length ≤ 16777216) (h : Q (.str (Txt.join a ys)) H) : rJoin K (.str a) [.ref p] H Q := ⟨a, p, ys, rfl, rfl, .inl h1, h2, h⟩
theorem w_istr {te : TE} {R : It → Hp → Prop} (h : te σ H fun v H1 => rIStr v H1 R) : iStr te σ H R := h
theorem w_istr' {z : Str} {R : It → Hp → Prop} (h : R (Its z) H) : rIStr (.str z) H R := ⟨z, rfl, h⟩
theorem walk_str (x : Str) : Walk (Its x) x.cps.size (fun _ => True) (fun i H v H' => H' = H ∧ ∃ c, x.cps[i]? = some c ∧ v = .str ⟨#[c]⟩) := ⟨fun _ _ hi _ => hi, fun _ _ => Nat.le_refl _, fun _ _ _ _ _ _ y => y⟩
theorem w_glst {a : Addr} {xs : List V} {n : Nat} {t : TGs} {R : L2.St → Hp → Prop} (h1 : SqL K H a xs) (h2 : xs.length = n) (h : t xs σ H R) : gLst K n t (.ref a) σ H R := ⟨a, xs, rfl, h1, h2, h⟩
theorem w_all {p : Addr} {bs : List Bool} (h1 : SqL K H p (bs.map V.bl)) (h : Q (.bl (bs.all id)) H) : rAll K [.ref p] H Q := ⟨p, bs, rfl, h1, h⟩
theorem w_augI {i : Nat} {te : TE} {ti : TIp} {v : V} (e : σ[i]? = some (some v)) (h : te σ H fun x H1 => ti v x H1 fun z H2 => nx (σ.set i (some z)) H2) : tAug i te ti ⟨nx, rt, bk, ct⟩ σ H := ⟨v, e, h⟩
end
section
variable {P : Program} {w : World} {K : PySem.W.Frag} {mg : Str → Option Value} {base : Heap} {x qual : Str} {params : Arguments} {body : List Stmt} {scope : Scope} {dvs : List V} {kws : List (Str × V)} {f : Addr} {fd : FuncData}
/-- a def with defaults that lets nothing out -/
theorem okD {N ps : List Str} {k : Nat} {sp : Sp} (F : FunD K x qual params body scope dvs kws f fd) (S : FnScope N ps scope) (len : ∀ vs H Q E, sp vs H Q E → vs.length = ps.length)
    (hb : ∀ cdv A outer s H vs Q E, Room k (A.deeper (envOfC qual scope s.heap.objs.size f cdv)) → sp vs H Q E → ∃ t, PSs (cxOf CX0 P w K mg base N qual scope f cdv A outer s H E).nox body t ∧ t { nx := fun _ H' => Q .non H', rt := Q } (L2.start N vs) H) : FnOk P w K mg base CX0 (k + 1) f fd ps sp :=
  F.ok S len fun cdv A outer s H vs Q E hr h => by
    obtain ⟨t, p, q⟩ := hb cdv A outer s H vs Q E hr h
    exact ⟨t, p.nox, q⟩
end
/-- a def with defaults -/
structure DfD (K : PySem.W.Frag) (mg : Str → Option Value) (x : Str) (st : Stmt) (ps : List Str) (dvs : List V) (f : Addr) (fd : FuncData) : Prop where
  fn : FunD K x x (defArgs st) (defBody st) (defScope st) dvs [] f fd
  g : mg x = some (.ref f)
  kp : PySem.W.keepIn K (.ref f) = true
  b : ∃ ds, Vals dvs ds ∧ Binds K fd ps ds
/-- a def with several keyword-only defaults -/
structure DfKs (K : PySem.W.Frag) (mg : Str → Option Value) (x : Str) (st : Stmt) (ps : List Str) (kws : List (Str × V)) (dvs : List V) (f : Addr) (fd : FuncData) : Prop where
  fn : FunD K x x (defArgs st) (defBody st) (defScope st) [] kws f fd
  g : mg x = some (.ref f)
  kp : PySem.W.keepIn K (.ref f) = true
  b : ∃ ds, Vals dvs ds ∧ Binds K fd ps ds
theorem join_cps' : ∀ ys : List Str, (Str.join (Str.ofString "") ys).cps.toList = (ys.map fun y => y.cps.toList).flatten
  | [] => rfl
  | [y] => by
    show y.cps.toList = _
    simp
  | y :: z :: r => by
    have ih := join_cps' (z :: r)
    show (y.cps ++ (Str.ofString "").cps ++ (Str.join (Str.ofString "") (z :: r)).cps).toList = _
    rw [Array.toList_append, Array.toList_append, ih, List.map_cons (l := z :: r), List.flatten_cons]
    show y.cps.toList ++ [] ++ _ = _
    rw [List.append_nil]
theorem join_cps (ys : List Str) : (Txt.join (Str.ofString "") ys).cps.toList = (ys.map fun y => y.cps.toList).flatten := by
  have e : Txt.join (Str.ofString "") ys = Str.join (Str.ofString "") ys := StrLaws.glued_eq_join _ _
  rw [e]
  exact join_cps' ys
end FW

set_option Elab.async false
set_option linter.all false
set_option maxRecDepth 100000
set_option maxHeartbeats 4000000
/-! t[::-1] of a tuple -/
namespace HT
open PySem PySem.Spec PyProof.Rows
section
variable {prog : Program} {w : World} {A : Around} {E : Value → Shared → Prop} {s : Shared}
theorem rev_map {α : Type} (xs : List α) : ((List.range xs.length).filterMap fun (m : Nat) => xs[(((xs.length : Nat) : Int) - 1 + (m : Int) * (-1)).toNat]?) = xs.reverse := by
  have h : ∀ n, n ≤ xs.length → ((List.range n).filterMap fun (m : Nat) => xs[(((xs.length : Nat) : Int) - 1 + (m : Int) * (-1)).toNat]?) = xs.reverse.take n := by
    intro n
    induction n with
    | zero => intro _; simp
    | succ n ih =>
      intro hn
      rw [List.range_succ, List.filterMap_append, ih (by omega)]
      have e : (((xs.length : Nat) : Int) - 1 + (n : Int) * (-1)).toNat = xs.length - 1 - n := by omega
      have hg : xs.reverse[n]? = xs[xs.length - 1 - n]? := List.getElem?_reverse (by omega)
      have hs : xs[xs.length - 1 - n]? = some (xs[xs.length - 1 - n]'(by omega)) := List.getElem?_eq_getElem (by omega)
      rw [List.take_succ, hg]
      congr 1
      simp only [List.filterMap_cons, List.filterMap_nil, e, hs]
      rfl
  rw [h _ (Nat.le_refl _)]
  exact List.take_of_length_le (by simp)
end
end HT
namespace FW
open PySem PySem.Spec PyProof.Rows L2
/-- t[::-1] -/
def rRevT (K : PySem.W.Frag) (x z : V) (H : Hp) (Q : VK) : Prop := ∃ (a : Addr) (xs : List V), x = .ref a ∧ z = .int (-1) ∧ SqT K H a xs ∧ Nw (.tup xs.reverse) H Q
def tRevT (K : PySem.W.Frag) (te ts : TE) : TE := fun σ H Q => te σ H fun x H1 => ts σ H1 fun z H3 => rRevT K x z H3 Q
theorem vals_rev {xs : List V} {its : List Value} (r : Vals xs its) : Vals xs.reverse its.reverse := by
  induction r with
  | nil => exact .nil
  | cons h _ ih =>
    rw [List.reverse_cons, List.reverse_cons]
    exact ih.append (.cons h .nil)
section
variable {X : Cx}
end
section
variable {K : PySem.W.Frag} {σ : L2.St} {H : Hp} {Q : VK}
theorem w_revT {te ts : TE} (h : te σ H fun x H1 => ts σ H1 fun z H3 => rRevT K x z H3 Q) : tRevT K te ts σ H Q := h
end
end FW

set_option Elab.async false
set_option linter.all false
set_option maxRecDepth 100000
set_option maxHeartbeats 4000000
/-! text * number, tuple * number, texts put together -/
namespace FW
open PySem PySem.Spec PyProof.Rows L2
def rRepS : R2 := fun x y H Q => ∃ (z : Str) (k : Int), x = .str z ∧ y = .int k ∧ z.length ≤ 16 ∧ 0 ≤ k ∧ k ≤ 1000 ∧ Q (.str (Txt.mul z k)) H
def rAddS : R2 := fun x y H Q => ∃ i j : Str, x = .str i ∧ y = .str j ∧ i.length + j.length ≤ sizeLine ∧ Q (.str (i ++ j)) H
section
variable {K : PySem.W.Frag} {H : Hp} {Q : VK}
end
end FW

set_option Elab.async false
set_option linter.all false
set_option maxRecDepth 100000
set_option maxHeartbeats 4000000
/-! dicts whose keys are nested tuples of ints, texts and None -/
namespace FW
open PySem PySem.Spec PyProof.Rows L2
mutual
/-- the thing v is the key k -/
inductive NAt (H : Hp) : NestedKey → V → Prop
  | non : NAt H .none .non
  | int (i : Int) : NAt H (.num i) (.int i)
  | str (x : Str) : NAt H (.text x) (.str x)
  | tup {a : Addr} {ks : List NestedKey} {xs : List V} : H a = some (.tup xs) → NAll H ks xs → NAt H (.tup ks) (.ref a)
  | frz {a : Addr} {o : Obj} {ks : List NestedKey} {xs : List V} : H a = some (.frz o (.tup xs)) → NAll H ks xs → NAt H (.tup ks) (.ref a)
inductive NAll (H : Hp) : List NestedKey → List V → Prop
  | nil : NAll H [] []
  | cons {k : NestedKey} {v : V} {ks : List NestedKey} {vs : List V} : NAt H k v → NAll H ks vs → NAll H (k :: ks) (v :: vs)
end
mutual
theorem NAt.kt {H H' : Hp} (t : KT H H') : ∀ (k : NestedKey) (v : V), NAt H k v → NAt H' k v
  | .none, _, h => by cases h; exact .non
  | .num i, _, h => by cases h; exact .int i
  | .text x, _, h => by cases h; exact .str x
  | .tup ks, _, h => by
    cases h with
    | tup e all => exact .tup (t _ _ e) (NAll.kt t ks _ all)
    | frz e all => exact .frz (t.f _ _ _ e) (NAll.kt t ks _ all)
theorem NAll.kt {H H' : Hp} (t : KT H H') : ∀ (ks : List NestedKey) (vs : List V), NAll H ks vs → NAll H' ks vs
  | [], _, h => by cases h; exact .nil
  | k :: ks, _, h => by
    cases h with
    | cons a b => exact .cons (NAt.kt t k _ a) (NAll.kt t ks _ b)
end
mutual
theorem NAt.inj {H : Hp} : ∀ (k k' : NestedKey) (v : V), NAt H k v → NAt H k' v → k = k'
  | .none, _, _, h, h' => by cases h; cases h'; rfl
  | .num i, _, _, h, h' => by cases h; cases h'; rfl
  | .text x, _, _, h, h' => by cases h; cases h'; rfl
  | .tup ks, _, _, h, h' => by
    cases h with
    | tup e all =>
      cases h' with
      | tup e' all' =>
        rw [e] at e'
        cases e'
        rw [NAll.inj ks _ _ all all']
      | frz e' all' =>
        rw [e] at e'
        cases e'
    | frz e all =>
      cases h' with
      | tup e' all' =>
        rw [e] at e'
        cases e'
      | frz e' all' =>
        rw [e] at e'
        cases e'
        rw [NAll.inj ks _ _ all all']
theorem NAll.inj {H : Hp} : ∀ (ks ks' : List NestedKey) (vs : List V), NAll H ks vs → NAll H ks' vs → ks = ks'
  | [], _, _, h, h' => by cases h; cases h'; rfl
  | k :: ks, _, _, h, h' => by
    cases h with
    | cons a b =>
      cases h' with
      | cons a' b' => rw [NAt.inj k _ _ a a', NAll.inj ks _ _ b b']
end
section
variable {X : Cx} {pins : List (Addr × Obj)} {σ : L2.St} {H : Hp} {s : Shared}
mutual
theorem NAt.is (I : Inv X pins σ H s) : ∀ (k : NestedKey) (v : V) (u : Value), NAt H k v → RelV v u → NestedIs s.heap k u
  | .none, _, _, h, r => by
    cases h
    cases r
    exact .none
  | .num i, _, _, h, r => by
    cases h
    obtain ⟨t, rfl⟩ := r
    exact .int i t
  | .text x, _, _, h, r => by
    cases h
    obtain ⟨t, rfl⟩ := r
    exact .text x t
  | .tup ks, _, _, h, r => by
    cases h with
    | @tup a _ xs e all =>
      cases r
      obtain ⟨_, its, rel, o, h1, h2, n, h3⟩ := (show ObjOk X.prog X.w H s.heap a (.tup xs) from I.hok a _ e)
      exact .tup h1 h2 h3 (NAll.is I ks _ _ all rel)
    | @frz a ob _ xs e all =>
      cases r
      obtain ⟨_, _, its, rel, o, h1, h2, n, h3⟩ := (show ObjOk X.prog X.w H s.heap a (.frz ob (.tup xs)) from I.hok a _ e)
      exact .tup h1 h2 h3 (NAll.is I ks _ _ all rel)
theorem NAll.is (I : Inv X pins σ H s) : ∀ (ks : List NestedKey) (vs : List V) (us : List Value), NAll H ks vs → Vals vs us → NestedAll s.heap ks us
  | [], _, _, h, r => by
    cases h
    cases r
    exact .nil
  | k :: ks, _, _, h, r => by
    cases h with
    | cons a b =>
      cases r with
      | cons ra rb => exact .cons (NAt.is I k _ _ a ra) (NAll.is I ks _ _ b rb)
end
end
abbrev NEnt := NestedKey × Addr × V
def NVal (xs : List NEnt) (k : NestedKey) : Option V := (xs.find? fun x => decide (x.1 = k)).map (·.2.2)
def NPut (xs : List NEnt) (k : NestedKey) (a : Addr) (v : V) : List NEnt := if (NVal xs k).isSome then xs.map (fun x => if x.1 = k then (x.1, x.2.1, v) else x) else xs ++ [(k, a, v)]
abbrev NRel : List NEnt → List (NestedKey × Addr × Value) → Prop := Paired fun p q => p.1 = q.1 ∧ p.2.1 = q.2.1 ∧ RelV p.2.2 q.2.2
theorem NRel.val {xs : List NEnt} {ys : List (NestedKey × Addr × Value)} (r : NRel xs ys) (k : NestedKey) : RelO (NVal xs k) ((atKey ys k).map (·.2)) := by
  induction r with
  | nil => exact True.intro
  | @cons p q ps qs h t ih =>
    obtain ⟨h1, _, h2⟩ := h
    by_cases e : p.1 = k
    · have e' : q.1 = k := h1.symm.trans e
      have b : atKey (q :: qs) k = some q.2 := by simp [atKey, List.find?_cons, e']
      have c : NVal (p :: ps) k = some p.2.2 := by simp [NVal, List.find?_cons, e]
      rw [c, b]
      exact h2
    · have e' : ¬ q.1 = k := fun z => e (h1.trans z)
      have b : atKey (q :: qs) k = atKey qs k := by simp [atKey, List.find?_cons, e']
      have c : NVal (p :: ps) k = NVal ps k := by simp [NVal, List.find?_cons, e]
      rw [c, b]
      exact ih
theorem NRel.put {xs : List NEnt} {ys : List (NestedKey × Addr × Value)} (r : NRel xs ys) (k : NestedKey) (b : Addr) {y : V} {u : Value} (ry : RelV y u) : NRel (NPut xs k b y) (storedH ys k b u) := by
  have e : (NVal xs k).isSome = (atKey ys k).isSome := by rw [(r.val k).isSome_eq, Option.isSome_map]
  unfold NPut storedH
  rw [e]
  by_cases q : (atKey ys k).isSome = true
  · rw [if_pos q, if_pos q]
    clear e q
    induction r with
    | nil => exact .nil
    | @cons p q ps qs h t ih =>
      rw [List.map_cons, List.map_cons]
      refine .cons ?_ ih
      obtain ⟨h1, h2, h3⟩ := h
      unfold putAt
      by_cases e : p.1 = k
      · rw [if_pos e, if_pos (h1.symm.trans e)]
        exact ⟨h1, h2, ry⟩
      · rw [if_neg e, if_neg (fun z => e (h1.trans z))]
        exact ⟨h1, h2, h3⟩
  · rw [if_neg q, if_neg q]
    exact Paired.snoc r ⟨rfl, rfl, ry⟩
/-- the dict at a, keyed by nested tuples -/
def NO (P : Program) (w : World) (a : Addr) (xs : List NEnt) : HO := .ext fun h => xs.length ≤ sizeLine ∧ (a == sysModules) = false ∧ ∃ ys : List (NestedKey × Addr × Value), NRel xs ys ∧
  ∃ o es ep, h.get? a = some o ∧ o.ExactDict ∧ o.data = .dict es ep ∧ es.toList = ys.map (entryOfKey (nestedKind P w)) ∧ (ys.map (·.1)).Nodup
structure NDict (P : Program) (w : World) (H : Hp) (a : Addr) (xs : List NEnt) : Prop where
  at' : H a = some (NO P w a xs)
  keys : ∀ p ∈ xs, NAt H p.1 (.ref p.2.1) ∧ p.1.depth ≤ 8
theorem NDict.kp {P : Program} {w : World} {M : List Addr} {H H' : Hp} {a : Addr} {xs : List NEnt} (d : NDict P w H a xs) (k : Kp M H H') (t : KT H H') (h : a ∉ M) : NDict P w H' a xs :=
  ⟨k _ _ h d.at', fun p hp => ⟨NAt.kt t _ _ (d.keys p hp).1, (d.keys p hp).2⟩⟩
section
variable {X : Cx} {pins : List (Addr × Obj)} {σ : L2.St} {H : Hp} {s : Shared} {a : Addr} {xs : List NEnt}
theorem nd_of (I : Inv X pins σ H s) (d : NDict X.prog X.w H a xs) : xs.length ≤ sizeLine ∧ (a == sysModules) = false ∧ ∃ ys, NRel xs ys ∧ s.heap.DictOfH (nestedKind X.prog X.w) a ys := by
  obtain ⟨⟨z, y, ys, r, o, es, ep, h1, h2, h3, h4, h5⟩, hex, hst⟩ := (show ObjOk X.prog X.w H s.heap a (NO X.prog X.w a xs) from I.hok a _ d.at')
  refine ⟨z, y, ys, r, o, es, ep, h1, h2, h3, h4, ?_, h5⟩
  have hk := d.keys
  clear h4 h5 z d hex hst
  induction r with
  | nil => intro x hx; cases hx
  | @cons p q ps qs h t ih =>
    intro x hx
    rcases List.mem_cons.mp hx with rfl | hx
    · obtain ⟨g1, g2⟩ := hk p (by simp)
      have e1 : p.1 = x.1 := h.1
      have e2 : p.2.1 = x.2.1 := h.2.1
      rw [e1] at g1 g2
      rw [e2] at g1
      exact ⟨NAt.is I _ _ _ g1 rfl, g2⟩
    · exact ih (fun p hp => hk p (by simp [hp])) x hx
theorem nd_type (I : Inv X pins σ H s) (d : NDict X.prog X.w H a xs) : s.TypeIs (.ref a) "dict" ∧ (∀ b, Value.ref a = .ref b → ∃ ob, s.heap.get? b = some ob ∧ ob.dict = none) := by
  obtain ⟨_, _, ys, _, dd⟩ := nd_of I d
  refine ⟨dd.typeIs, fun b q => ?_⟩
  cases q
  obtain ⟨ob, _, _, h1, h2, _⟩ := dd
  exact ⟨ob, h1, h2.2.1⟩
theorem nk_is (I : Inv X pins σ H s) {b : Addr} {k : NestedKey} (h : NAt H k (.ref b)) (h8 : k.depth ≤ 8) : (nestedKind X.prog X.w).is s.heap k b := ⟨NAt.is I _ _ _ h rfl, h8⟩
variable {b : Addr} {k : NestedKey} {A : Around} {E : Value → Shared → Prop} {v : V} {r : Value}
theorem n_in {Q : Value → Shared → Prop} (hu : A.units + 9 < cLine) (I : Inv X pins σ H s) (d : NDict X.prog X.w H a xs) (hk : NAt H k (.ref b)) (h8 : k.depth ≤ 8) (h : ∀ s', Inv X pins σ H s' → Q (.bool (NVal xs k).isSome) s') :
    wpAny (model X.prog X.w) A (compareOp .In (.ref b) (.ref a)) Q E s := by
  obtain ⟨z, hd, ys, rel, dd⟩ := nd_of I d
  refine wpAny_in_heap (knd := nestedKind X.prog X.w) (show A.in1.units + 8 < cLine from by show A.units + 1 + 8 < cLine; omega) (nk_is I hk h8) hd dd ?_
  have q := (rel.val k).isSome_eq
  rw [Option.isSome_map] at q
  rw [← q]
  exact h _ (I.tok _)
theorem n_getItem {Q : Value → Shared → Prop} (hu : A.units + 9 < cLine) (I : Inv X pins σ H s) (d : NDict X.prog X.w H a xs) (hk : NAt H k (.ref b)) (h8 : k.depth ≤ 8) (l : NVal xs k = some v) (h : ∀ w' s', Inv X pins σ H s' → RelV v w' → Q w' s') :
    wpAny (model X.prog X.w) A (getItem (.ref a) (.ref b)) Q E s := by
  obtain ⟨z, hd, ys, rel, dd⟩ := nd_of I d
  obtain ⟨w', hw, rw'⟩ := RelO.some_of (v := v) (o := (atKey ys k).map (·.2)) (by rw [← l]; exact rel.val k)
  obtain ⟨p, hp, hp2⟩ := Option.map_eq_some_iff.mp hw
  refine wpAny_getItem_heap (knd := nestedKind X.prog X.w) (show A.in1.units + 8 < cLine from by show A.units + 1 + 8 < cLine; omega) (nk_is I hk h8) dd hp ?_
  rw [hp2]
  exact h w' _ (I.tok _) rw'
theorem n_setItem {Q : Unit → Shared → Prop} (hu : A.units + 9 < cLine) (I : Inv X pins σ H s) (d : NDict X.prog X.w H a xs) (hk : NAt H k (.ref b)) (h8 : k.depth ≤ 8) (hl : xs.length < sizeLine) (rv : RelV v r) (h : ∀ s', Inv X pins σ (upd H a (NO X.prog X.w a (NPut xs k b v))) s' → Q () s') :
    wpAny (model X.prog X.w) A (setItem (.ref a) (.ref b) r) Q E s := by
  obtain ⟨z, hd, ys, rel, dd⟩ := nd_of I d
  have hz : ys.length ≤ sizeLine := by rw [← Paired.length rel]; exact z
  have hl' : (NPut xs k b v).length ≤ sizeLine := by
    unfold NPut
    split
    · rw [List.length_map]; exact z
    · rw [List.length_append]; exact hl
  refine wpAny_setItem_heap (knd := nestedKind X.prog X.w) (hsz := hz) (show A.in1.units + 8 < cLine from by show A.units + 1 + 8 < cLine; omega) (nk_is I hk h8) dd fun h' dd' hs => h _ ?_
  obtain ⟨q, es, ep, hq, h2, h3, h4, _, h5⟩ := dd'
  refine d_write I (by rw [d.at']; exact True.intro) hs ⟨q, hq⟩ ⟨⟨hl', hd, _, rel.put k b rv, q, es, ep, hq, h2, h3, h4, h5⟩, ⟨q, hq⟩, ?_⟩
  rintro h1 h2' ⟨g1, g2, ys', g3, o, es, ep, g4, g5⟩ keep
  exact ⟨g1, g2, ys', g3, o, es, ep, keep _ g4, g5⟩
end
/-! ### the rules -/
def rNIn (P : Program) (w : World) (x y : V) (H : Hp) (Q : VK) : Prop := ∃ a b xs k, x = .ref a ∧ y = .ref b ∧ NDict P w H a xs ∧ NAt H k (.ref b) ∧ k.depth ≤ 8 ∧ Q (.bl (NVal xs k).isSome) H
def rNGet (P : Program) (w : World) (x y : V) (H : Hp) (Q : VK) : Prop := ∃ a b xs k v, x = .ref a ∧ y = .ref b ∧ NDict P w H a xs ∧ NAt H k (.ref b) ∧ k.depth ≤ 8 ∧ NVal xs k = some v ∧ Q v H
def rNIs (P : Program) (w : World) (x : V) (H : Hp) (R : Addr → Hp → Prop) : Prop := ∃ a xs, x = .ref a ∧ NDict P w H a xs ∧ R a H
def rNGet1 (P : Program) (w : World) (a : Addr) (y : V) (H : Hp) (Q : VK) : Prop := ∃ b xs k, y = .ref b ∧ NDict P w H a xs ∧ NAt H k (.ref b) ∧ k.depth ≤ 8 ∧ Q ((NVal xs k).getD .non) H
def rNPut (P : Program) (w : World) (x y v : V) (H : Hp) (R : Hp → Prop) : Prop := ∃ a b xs k, x = .ref a ∧ y = .ref b ∧ NDict P w H a xs ∧ NAt H k (.ref b) ∧ k.depth ≤ 8 ∧ xs.length < sizeLine ∧ R (upd H a (NO P w a (NPut xs k b v)))
def tNIn (P : Program) (w : World) (ty td : TE) : TE := fun σ H Q => ty σ H fun y H1 => td σ H1 fun x H2 => rNIn P w x y H2 Q
def tNGet (P : Program) (w : World) (td ty : TE) : TE := fun σ H Q => td σ H fun x H1 => ty σ H1 fun y H2 => rNGet P w x y H2 Q
def tNGet1 (P : Program) (w : World) (td ty : TE) : TE := fun σ H Q => td σ H fun x H1 => rNIs P w x H1 fun a H1 => ty σ H1 fun y H2 => rNGet1 P w a y H2 Q
def sNPut (P : Program) (w : World) (td ty tv : TE) : TS := fun D σ H => tv σ H fun v H1 => td σ H1 fun x H2 => ty σ H2 fun y H3 => rNPut P w x y v H3 fun H4 => D.nx σ H4
def tNNew (P : Program) (w : World) : TE := fun _ H Q => ∀ p, H p = none → Q (.ref p) (upd H p (NO P w p []))
section
variable {X : Cx} {o i e value : Expr} {pos pos' tpos apos cpos : Pos} {td ty tv : TE}
theorem pc_nin (hu : X.A.units + 64 < cLine) (hi : PE X i ty) (ho : PE X o td) : PC X .In i o (tNIn X.prog X.w ty td) := by
  refine ⟨fun pins s σ H Q I h => ?_⟩
  refine thn (hi.run pins s σ H _ I h) fun iv s1 ⟨y, H1, I1, ry, q1⟩ => thn (ho.run pins s1 σ H1 _ I1 q1) fun u s2 ⟨x, H2, I2, rx, a, b, xs, k, ex, ey, d, hk, h8, q2⟩ => ?_
  subst ex ey
  obtain rfl : u = Value.ref a := rx
  obtain rfl : iv = Value.ref b := ry
  exact n_in (by omega) I2 d hk h8 fun s3 I3 => ⟨.bl _, H2, I3, rfl, q2⟩
theorem pe_nget (hu : X.A.units + 64 < cLine) (ho : PE X o td) (hi : PE X i ty) (hs : NoSl i) : PE X (.Subscript o i pos) (tNGet X.prog X.w td ty) := by
  refine ⟨fun pins s σ H Q I h => ?_⟩
  refine subD_of PySem.F.slot_dict_getitem.lookup hs (thn (ho.run pins s σ H _ I h) fun u s1 ⟨x, H1, I1, rx, q1⟩ => thn (hi.run pins s1 σ H1 _ I1 q1) fun iv s2 ⟨y, H2, I2, ry, a, b, xs, k, v, ex, ey, d, hk, h8, l, q2⟩ => ?_)
  subst ex ey
  obtain rfl : u = Value.ref a := rx
  obtain rfl : iv = Value.ref b := ry
  exact ⟨(nd_type I2 d).1, n_getItem (by omega) I2 d hk h8 l fun w' s3 I3 rw' => ⟨v, H2, I3, rw', q2⟩⟩
theorem ps_nput (hu : X.A.units + 64 < cLine) (ho : PE X o td) (hi : PE X i ty) (hv : PE X value tv) (hs : swapsWith value (some (.Subscript o i pos')) pos.line X.env = pure false) :
    PS X (.Assign [.Subscript o i pos'] value pos) (sNPut X.prog X.w td ty tv) := by
  refine ⟨fun pins s σ H D I h => ?_⟩
  refine wpAny_Assign_Subscript (thn (hv.run pins s σ H _ I h) fun r s1 ⟨v, H1, I1, rv, q1⟩ => thn (ho.run pins s1 σ H1 _ I1 q1) fun u s2 ⟨x, H2, I2, rx, q2⟩ => thn (hi.run pins s2 σ H2 _ I2 q2) fun iv s3 ⟨y, H3, I3, ry, a, b, xs, k, ex, ey, d, hk, h8, hl, q3⟩ => ?_) hs
  subst ex ey
  obtain rfl : u = Value.ref a := rx
  obtain rfl : iv = Value.ref b := ry
  exact n_setItem (by omega) I3 d hk h8 hl rv fun s4 I4 => ⟨σ, _, I4, q3⟩
theorem pe_nnew : PE X (.Dict [] [] pos) (tNNew X.prog X.w) := ⟨fun pins s σ H Q I h =>
  wpAny_Dict_empty ⟨.ref s.heap.objs.size, _, I.laid (a := s.heap.objs.size) (o := NO X.prog X.w s.heap.objs.size []) (t' := s.toks) (fun _ _ q => Heap.get?_push_of_some _ q) (Nat.le_refl _)
    ⟨⟨Nat.zero_le _, beq_eq_false_iff_ne.mpr (Ne.symm (Nat.ne_of_lt I.big)), [], .nil, _, #[], 0, Heap.get?_push_size _ rfl, ⟨rfl, rfl, rfl⟩, rfl, rfl, List.nodup_nil⟩, ⟨_, Heap.get?_push_size _ rfl⟩, by
      rintro h1 h2' ⟨g1, g2, ys', g3, o, es, ep, g4, g5⟩ keep
      exact ⟨g1, g2, ys', g3, o, es, ep, keep _ g4, g5⟩⟩, rfl, h _ (I.hok.fresh (Nat.le_refl _))⟩⟩
end
section
variable {P : Program} {w : World} {K : PySem.W.Frag} {σ : L2.St} {H : Hp} {Q : VK} {nx bk ct : L2.St → Hp → Prop} {rt : VK} {v : V}
theorem w_nin {ty td : TE} (h : ty σ H fun y H1 => td σ H1 fun x H2 => rNIn P w x y H2 Q) : tNIn P w ty td σ H Q := h
theorem w_nget {td ty : TE} (h : td σ H fun x H1 => ty σ H1 fun y H2 => rNGet P w x y H2 Q) : tNGet P w td ty σ H Q := h
theorem w_nget1 {td ty : TE} (h : td σ H fun x H1 => rNIs P w x H1 fun a H1 => ty σ H1 fun y H2 => rNGet1 P w a y H2 Q) : tNGet1 P w td ty σ H Q := h
theorem w_nput {td ty tv : TE} (h : tv σ H fun v H1 => td σ H1 fun x H2 => ty σ H2 fun y H3 => rNPut P w x y v H3 fun H4 => nx σ H4) : sNPut P w td ty tv ⟨nx, rt, bk, ct⟩ σ H := h
theorem w_seqNP {td ty tv : TE} {u : TS} (h : tv σ H fun v H1 => td σ H1 fun x H2 => ty σ H2 fun y H3 => rNPut P w x y v H3 fun H4 => u ⟨nx, rt, bk, ct⟩ σ H4) : tSeq (sNPut P w td ty tv) u ⟨nx, rt, bk, ct⟩ σ H := h
theorem w_nin' {a b : Addr} {xs : List NEnt} {k : NestedKey} (d : NDict P w H a xs) (hk : NAt H k (.ref b)) (h8 : k.depth ≤ 8) (h : Q (.bl (NVal xs k).isSome) H) : rNIn P w (.ref a) (.ref b) H Q := ⟨a, b, xs, k, rfl, rfl, d, hk, h8, h⟩
theorem w_nget' {a b : Addr} {xs : List NEnt} {k : NestedKey} (d : NDict P w H a xs) (hk : NAt H k (.ref b)) (h8 : k.depth ≤ 8) (l : NVal xs k = some v) (h : Q v H) : rNGet P w (.ref a) (.ref b) H Q := ⟨a, b, xs, k, v, rfl, rfl, d, hk, h8, l, h⟩
theorem w_nput' {a b : Addr} {xs : List NEnt} {k : NestedKey} {R : Hp → Prop} (d : NDict P w H a xs) (hk : NAt H k (.ref b)) (h8 : k.depth ≤ 8) (hl : xs.length < sizeLine) (h : ∀ H1, NDict P w H1 a (NPut xs k b v) → Off a H H1 → R H1) : rNPut P w (.ref a) (.ref b) v H R := by
  refine ⟨a, b, xs, k, rfl, rfl, d, hk, h8, hl, h _ ⟨upd_same, fun p hp => ?_⟩ fun x hx => upd_ne hx⟩
  have t : KT H (upd H a (NO P w a (NPut xs k b v))) := ⟨fun c ys ec => upd_get (ne_of ec d.at' (fun z => nomatch z)) ec, fun c _ ys ec => upd_get (ne_of ec d.at' (fun z => nomatch z)) ec⟩
  have hp' : (NAt H p.1 (.ref p.2.1) ∧ p.1.depth ≤ 8) := by
    unfold NPut at hp
    split at hp
    · obtain ⟨q, hq, rfl⟩ := List.mem_map.mp hp
      have := d.keys q hq
      split <;> exact this
    · rcases List.mem_append.mp hp with hp | hp
      · exact d.keys p hp
      · have e : p = (k, b, v) := by simpa using hp
        subst e
        exact ⟨hk, h8⟩
  exact ⟨NAt.kt t _ _ hp'.1, hp'.2⟩
theorem w_nnew (h : ∀ p H1, H p = none → NDict P w H1 p [] → Same H H1 → Q (.ref p) H1) : tNNew P w σ H Q := fun p hp => h p _ hp ⟨upd_same, fun q hq => by cases hq⟩ (Same.new hp)
end
end FW

set_option Elab.async false
set_option linter.all false
set_option maxRecDepth 100000
set_option maxHeartbeats 4000000
/-! sets of ints out of lists, sorted at any length -/
namespace FW
open PySem PySem.Spec PyProof.Rows L2
/-- an empty set, as set.__new__ lays it -/
abbrev es0 (w : World) : Obj := { cls := .type "set", dict := none, data := .set #[] 0 (.fresh 0 0 (!w.params.followText "set-order")) }
section
variable {P : Program} {w : World} {A : Around} {E : Value → Shared → Prop} {s : Shared}
theorem set_of_list {l : Addr} {xs : Array Value} (ns : List Int) {Q : Value → Shared → Prop} (calm : A.handled = none) (isL : s.heap.IsList l xs) (are : IntsAre xs.toList ns) (few : ns.length + 1 < scanBound)
    (fin : ∀ (g : Heap) (tk c : Nat), SetR w g s.heap.objs.size (fun j => decide (j ∈ ns)) c → c ≤ ns.length → (∀ b o, s.heap.get? b = some o → g.get? b = some o) → Q (.ref s.heap.objs.size) { s with heap := g, toks := tk }) :
    wpAny (model P w) A (call (.type "set") [.ref l]) Q E s := by
  have size : xs.size = ns.length := by rw [← Array.length_toList]; exact IntsAre.length are
  obtain ⟨c0, tl, c1⟩ := F.called_set.mro
  have c2 := F.called_set.made
  have c3 := F.called_set.sub
  have c4 := F.called_set.notType
  have c5 := F.called_set.canCreate
  have c6 := F.typeCall_set_1 (.ref l)
  refine wpAny_call (codeAny_of_tree ?_)
  show wpAny (model P w) _ (callAny (.type "set") ⟨[.ref l], []⟩) _ _ s
  refine wpAny_pure ⟨Code.quiet_builtin _ (by decide +kernel), ?_⟩
  refine codeAny_builtin F.entry_type_call ?_
  rw [Around.under_plain (weight_type_call_type "set" [.ref l] []) rfl]
  repeat (any_goals (first | assumption | wp_step))
  refine codeAny_mono (code_set_led1 (w := w) (.ref l) (E := E) (Q₁ := fun y t => y = .ref s.heap.objs.size ∧ t = { s with heap := s.heap.push (es0 w) }) ⟨rfl, rfl⟩) fun r t hr => ?_
  match r, hr with
  | .error e, hr => exact hr
  | .ok (.ret y), hr =>
    obtain ⟨ey, et⟩ := hr
    subst ey et
    have at0 : (s.heap.push (es0 w)).get? s.heap.objs.size = some (es0 w) := Heap.get?_push_size _ rfl
    have ty0 : Shared.TypeIs { s with heap := s.heap.push (es0 w) } (.ref s.heap.objs.size) "set" := ⟨_, at0, rfl⟩
    have d1 := F.called_set.init.lookup
    have d2 := F.called_set.init.bind (.ref s.heap.objs.size)
    repeat (any_goals (first | assumption | wp_step))
    refine codeAny_mono (codeAny_call_builtin (R := wants (fun y t => y = .none ∧ ∃ g tk c, t = { s with heap := g, toks := tk } ∧ SetR w g s.heap.objs.size (fun j => decide (j ∈ ns)) c ∧ c ≤ ns.length ∧ (∀ b o, s.heap.get? b = some o → g.get? b = some o)) E) F.called_set.init.plain F.entry_set_init (check_set_init_1 ty0 ?_)) fun r2 t2 hr2 => ?_
    · obtain ⟨⟨kl, dc, dt, sl⟩, hol, hcl, nl, hdl⟩ := isL
      simp only at hcl hdl
      subst hcl
      subst hdl
      have at1 : (s.heap.push (es0 w)).get? l = some { cls := .type "list", dict := dc, data := .seq xs nl, slots := sl } := Heap.get?_push_of_some _ hol
      have n1 := F.sub_list_set
      have n2 := F.sub_list_frozenset
      have n3 : (Value.type "list" == Value.type "dict") = false := by decide
      have isL1 : (s.heap.push (es0 w)).IsList l xs := ⟨_, at1, rfl, nl, rfl⟩
      unfold Builtin.«set.__init__» noKeywords Builtin.Frozenset.updateFrom
      generalize gi : pyIter = it
      wp_walk
      subst gi
      refine wpAny_pyIter_list isL1 ?_
      refine wpAny_bind (wpAny_runValue ?_)
      have ll : l < s.heap.objs.size := Heap.lt_size hol
      have calm3 : A.in1.in1.in1.handled = none := by simp [calm]
      have sz1 : (s.heap.push (es0 w)).objs.size = s.heap.objs.size + 1 := Heap.size_push ..
      have ne1 : l ≠ (s.heap.push (es0 w)).objs.size := by rw [sz1]; exact Nat.ne_of_lt (Nat.lt_succ_of_lt ll)
      have ne2 : s.heap.objs.size ∉ [(s.heap.push (es0 w)).objs.size, l] := by
        rw [sz1]
        simp only [List.mem_cons, List.not_mem_nil, or_false, not_or]
        exact ⟨Nat.ne_of_lt (Nat.lt_succ_self _), Nat.ne_of_gt ll⟩
      have vals : ∀ (i : Nat) (v : Value), xs[i]? = some v → ∃ k t, ns[i]? = some k ∧ v = .int k t := fun i v hv => by
        have hi : i < ns.length := by rw [← size]; exact (Array.getElem?_eq_some_iff.mp hv).1
        obtain ⟨t, e⟩ := PyProof.Rows.IntsAre.int_at are i v (by rw [Array.getElem?_toList]; exact hv)
        exact ⟨ns[i], t, List.getElem?_eq_getElem hi, by rw [e, List.getD_eq_getElem?_getD, List.getElem?_eq_getElem hi]; rfl⟩
      refine set_update_ints (Walks.list calm3 _ l ne1 xs).toS s.heap.objs.size ne2 ns size few vals xs.size 0 _ (Nat.sub_zero _) (Nat.zero_le _) ⟨⟨_, Heap.get?_push_size _ rfl, rfl, rfl⟩, isL1.push _⟩ ⟨0, Nat.le_refl 0, setR_new_at (Heap.get?_push_of_some _ at0)⟩ ?_
      intro t c mv hc hS
      obtain ⟨g, g2, g3, tk, g5⟩ := t
      have q1 : g2 = s.gens := mv.gens
      have q2 : g3 = s.drawn := mv.drawn
      have q3 : g5 = s.os := mv.os
      subst q1 q2 q3
      show wpAny _ _ _ _ _ _
      refine wpAny_pure ?_
      show wpAny _ _ (ret Value.none) _ _ _
      rw [size] at hc
      refine wpAny_pure ⟨rfl, g, tk, c, rfl, hS, hc, fun b o e => ?_⟩
      have lb : b < s.heap.objs.size := Heap.lt_size e
      exact mv.heap b o (by rw [sz1]; simp only [List.mem_cons, List.not_mem_nil, or_false, not_or]; exact ⟨Nat.ne_of_lt lb, Nat.ne_of_lt (Nat.lt_succ_of_lt lb)⟩) (Heap.get?_push_of_some _ (Heap.get?_push_of_some _ e))
    · match r2, hr2 with
      | .error e, hr2 => exact hr2
      | .ok (.ret y), hr2 =>
        obtain ⟨ey, g, tk, c, et, hS, hc, keep⟩ := hr2
        subst ey et
        repeat (any_goals (first | assumption | wp_step))
        exact fin _ _ _ hS hc keep
      | .ok .next, hr2 => exact hr2.elim
      | .ok .brk, hr2 => exact hr2.elim
      | .ok .cont, hr2 => exact hr2.elim
  | .ok .next, hr => exact hr.elim
  | .ok .brk, hr => exact hr.elim
  | .ok .cont, hr => exact hr.elim
end
def rSetL (K : PySem.W.Frag) (w : World) (vs : List V) (H : Hp) (Q : VK) : Prop := ∃ (l : Addr) (ns : List Int), vs = [.ref l] ∧ SqL K H l (ns.map V.int) ∧ ns.length ≤ 4000 ∧ ∀ (p : Addr) (c : Nat), H p = none → c ≤ ns.length → Q (.ref p) (upd H p (SetO w p (fun j => decide (j ∈ ns)) c))
def rSortS (w : World) (vs : List V) (H : Hp) (Q : VK) : Prop := ∃ (a : Addr) (S : Int → Bool) (n : Nat), vs = [V.ref a] ∧ H a = some (SetO w a S n) ∧ n ≤ 4000 ∧ ∀ (ns : List Int) (p : Addr), ns.Pairwise (· < ·) → (∀ k : Int, k ∈ ns ↔ S k = true) → H p = none → Q (.ref p) (upd H p (.lst (ns.map V.int)))
section
variable {X : Cx}
theorem c_setL (calm : X.calm = true) : CallR X (.type "set") (rSetL X.K X.w) := by
  intro pins s σ H vs us Q I r h
  obtain ⟨l, ns, rfl, hl, hn, q⟩ := h
  rw [Vals.ref1 r]
  obtain ⟨its, rv, pl, hz⟩ := I.list hl
  refine set_of_list ns (I.ok.hd calm) pl.isList (by simpa using RZ.intsAre_vals rv) (by unfold scanBound; omega) fun g tk c R hc keep => ?_
  have free : H s.heap.objs.size = none := I.hok.fresh (Nat.le_refl _)
  exact ⟨.ref s.heap.objs.size, _, I.laid (t' := tk) keep (Nat.le_refl _) (setO_new R), rfl, q _ c free hc⟩
theorem c_sortS (calm : X.calm = true) : CallR X (.builtin "sorted") (rSortS X.w) := by
  intro pins s σ H vs us Q I r h
  obtain ⟨a, S, n, rfl, ha, hn4, q⟩ := h
  rw [Vals.ref1 r]
  obtain ⟨o, es, ep, t, ho, hex, hd, good, nd, hm, hb, hf, hn, ris, led⟩ := setO_get I ha
  refine Calls.call_function_entry kind_sorted plain_sorted entry_sorted (args_sorted1 _) ?_
  unfold Builtin.«sorted»; refine wpAny_bind (m := checkCount "sorted" 1 1 _) (wpAny_pure ?_)
  refine wpAny_bind (collect_set (A := X.A.in1) (I.ok.hd calm) ⟨o, ho, hex.1, hd⟩ hf hb ris led fun s1 xs k1 z1 g1 o1 pm => ?_)
  have xl : xs.length = n := by rw [pm.length_eq, List.length_map, Array.length_toList]; exact hn
  have xI : IntsAre xs (xs.map Builtin.Re.reRawOf) := L2.ints_of xs fun v hv => by
    obtain ⟨e, he, rfl⟩ := List.mem_map.mp (pm.mem_iff.mp hv)
    obtain ⟨k, tk, h1, _⟩ := good e he
    exact ⟨k, tk, h1⟩
  have pk : (xs.map Builtin.Re.reRawOf).Perm (es.toList.map keyOf) := by
    have q := pm.map Builtin.Re.reRawOf
    rwa [List.map_map] at q
  have hz : xs.length ≤ sizeLine := by rw [xl, sizeLine_eq]; omega
  refine wpAny_bind (wpAny_newList ?_ hz)
  have atL : (s1.heap.push (seqObj "list" xs.toArray 0)).get? s1.heap.objs.size = some (seqObj "list" xs.toArray 0) := Heap.get?_push_size _ rfl
  refine wpAny_bind (wpAny_holding (wpAny_call_entry slot_list_sort ⟨_, atL, rfl⟩ entry_list_sort (SrtO.list_sort_ord (s := { s1 with heap := s1.heap.push (seqObj "list" xs.toArray 0) }) SrtO.swo_int atL hz (fun h2 => SrtO.ints_sortable xI h2) fun out h1 h2 => ⟨_, rfl, ?_⟩) (args_list_sort _)))
  obtain ⟨i1, i2, i3⟩ := SrtO.ints_out xI h1 h2
  obtain ⟨e', he'⟩ := sortedHeap_at (vs := xs) (out := out.toArray) atL
  have pn : (out.map SrtO.iv).Perm (es.toList.map keyOf) := i2.trans pk
  have hlen : ((out.map SrtO.iv).map V.int).length ≤ sizeLine := by rw [List.length_map, i2.length_eq, List.length_map]; exact hz
  have free : H s1.heap.objs.size = none := I.hok.fresh z1
  have keep : ∀ b u, s.heap.get? b = some u → (sortedHeap (s1.heap.push (seqObj "list" xs.toArray 0)) s1.heap.objs.size xs out.toArray).get? b = some u := fun b u e => by
    have e1 := k1 b u e
    have lb : b < s1.heap.objs.size := Heap.lt_size e1
    rw [sortedHeap_old (Nat.ne_of_lt lb) (by rw [size_push']; exact Nat.lt_succ_of_lt lb)]
    exact Heap.get?_push_of_some _ e1
  have J : Inv X pins σ (upd H s1.heap.objs.size (.lst ((out.map SrtO.iv).map V.int))) { s with heap := sortedHeap (s1.heap.push (seqObj "list" xs.toArray 0)) s1.heap.objs.size xs out.toArray, gens := s1.gens, drawn := s1.drawn, toks := s1.toks } := I.call (ch := []) (Un.laid keep z1 free) (I.hok.laid (o := .lst ((out.map SrtO.iv).map V.int)) keep z1 ⟨hlen, out, e', vals_of_ints i1, he'⟩) (by rw [g1]; exact I.bare) (fun _ z => nomatch z)
  refine wpAny_pure ⟨_, rfl, .ref s1.heap.objs.size, upd H s1.heap.objs.size (.lst ((out.map SrtO.iv).map V.int)), ?_, rfl, q _ _ (lt_of_le_nodup _ i3 (pn.nodup_iff.mpr nd)) (fun k => by rw [pn.mem_iff, ← hm k]) free⟩
  cases s1
  cases s
  cases o1
  exact J
end
section
variable {K : PySem.W.Frag} {w : World} {H : Hp} {Q : VK}
theorem w_setOf {l : Addr} {ns : List Int} (h1 : SqL K H l (ns.map V.int)) (h2 : ns.length ≤ 4000) (h : ∀ p c H1, H p = none → c ≤ ns.length → H1 p = some (SetO w p (fun j => decide (j ∈ ns)) c) → Same H H1 → Q (.ref p) H1) : rSetL K w [.ref l] H Q :=
  ⟨l, ns, rfl, h1, h2, fun p c hp hc => h p c _ hp hc upd_same (Same.new hp)⟩
theorem w_sortS {a : Addr} {S : Int → Bool} {n : Nat} (h1 : H a = some (SetO w a S n)) (h2 : n ≤ 4000) (h : ∀ (ns : List Int) p H1, ns.Pairwise (· < ·) → (∀ k : Int, k ∈ ns ↔ S k = true) → H p = none → H1 p = some (.lst (ns.map V.int)) → Same H H1 → Q (.ref p) H1) : rSortS w [.ref a] H Q :=
  ⟨a, S, n, rfl, h1, h2, fun ns p hs hm hp => h ns p _ hs hm hp upd_same (Same.new hp)⟩
end
end FW

set_option Elab.async false
set_option linter.all false
set_option maxRecDepth 100000
set_option maxHeartbeats 4000000
/-! objects of own classes; max with a default; data in lists -/
namespace FW
open PySem PySem.Spec PyProof.Rows L2
/-! ### max(list, default=d) -/
def rMaxD (K : PySem.W.Frag) (vs zs : List V) (H : Hp) (Q : VK) : Prop := ∃ (a : Addr) (ns : List Int) (d : Int), vs = [.ref a] ∧ zs = [.int d] ∧ SqL K H a (ns.map V.int) ∧ (ns = [] → Q (.int d) H) ∧ ∀ m, m ∈ ns → (∀ y ∈ ns, y ≤ m) → Q (.int m) H
theorem maxOf_ge (ys : List Int) : ∀ y : Int, ∀ z ∈ y :: ys, z ≤ PySem.W.maxOf y ys := by
  induction ys with
  | nil => intro y z hz; have : z = y := by simpa using hz
           subst this; exact Int.le_refl _
  | cons x ys ih =>
    intro y z hz
    show z ≤ PySem.W.maxOf (if PySem.W.DatumOrd.lt y x = true then x else y) ys
    have e : PySem.W.DatumOrd.lt y x = decide (y < x) := rfl
    rw [e]
    by_cases h : y < x
    · rw [if_pos (decide_eq_true h)]
      have h1 := ih x
      rcases List.mem_cons.mp hz with rfl | hz
      · have := h1 x (by simp)
        omega
      · exact h1 z hz
    · rw [if_neg (fun q => h (of_decide_eq_true q))]
      have h1 := ih y
      rcases List.mem_cons.mp hz with rfl | hz
      · exact h1 z (by simp)
      · rcases List.mem_cons.mp hz with rfl | hz
        · have := h1 y (by simp)
          omega
        · exact h1 z (by simp [hz])
section
variable {X : Cx} {pins : List (Addr × Obj)} {σ : L2.St} {H : Hp} {s : Shared}
theorem hold_ints (h : Heap) : ∀ (ns : List Int) (its : List Value), Vals (ns.map V.int) its → PySem.W.HoldAll h its ns
  | [], _, r => by cases r; exact PySem.W.HoldAll.nil
  | n :: ns, _, r => by
    cases r with
    | cons r1 rr =>
      obtain ⟨t, rfl⟩ := r1
      exact PySem.W.HoldAll.cons ⟨_, Reads.int n t⟩ (hold_ints h ns _ rr)
theorem int_at {ns : List Int} {its : List Value} (r : Vals (ns.map V.int) its) {i : Nat} {v : Value} (h : its[i]? = some v) : ∃ k t, ns[i]? = some k ∧ v = .int k t := by
  induction ns generalizing its i with
  | nil =>
    cases r
    simp at h
  | cons n ns ih =>
    cases r with
    | cons r1 rr =>
      obtain ⟨t, rfl⟩ := r1
      cases i with
      | zero => exact ⟨n, t, rfl, by simpa using h.symm⟩
      | succ i => exact ih rr (by simpa using h)
theorem c_maxD (calm : X.calm = true) (hu : X.A.units + 64 < cLine) : CallRK X (.builtin "max") ["default"] (rMaxD X.K) := by
  intro pins s σ H vs zs us ws Q I r rz ⟨a, ns, d, e1, e2, hs, q0, q1⟩
  subst e1 e2
  obtain ⟨its, rv, hl, _⟩ := I.list hs
  rw [Vals.ref1 r]
  cases rz with
  | cons r1 rr =>
    cases rr
    obtain ⟨t, rfl⟩ := r1
    have hdp : PySem.W.Datum.depth Int ≤ 50 := by decide
    refine PySem.W.max_list_datum_default (d := .int d t) (xs := ns) (I.ok.hd calm) hl.isList (by simpa using hold_ints s.heap ns its rv) (by omega) (fun e h' tk hk => ?_) fun y ys i v h' tk e hi hv hk => ?_
    · exact ⟨.int d, H, I.kept (t' := tk) hk, ⟨_, rfl⟩, q0 e⟩
    · obtain ⟨k, t', hk', rfl⟩ := int_at rv (by simpa using hi)
      have ek : k = PySem.W.maxOf y ys := by
        obtain ⟨as, ra⟩ := hv
        cases ra
        rfl
      refine ⟨.int k, H, I.kept (t' := tk) hk, ⟨_, rfl⟩, q1 k (List.mem_of_getElem? hk') fun z hz => ?_⟩
      rw [ek]
      exact maxOf_ge ys y z (by rw [← e]; exact hz)
end
/-! ### fields, methods, makings -/
/-- a class as the top has left it, with the names of its fields -/
structure Kl (K : PySem.W.Frag) (mg : Str → Option Value) (x : Str) (C : Addr) (as : List Str) : Prop where
  g : mg x = some (.ref C)
  cl : Cls K C
  na : ∀ f ∈ as, NoAttr K C f
/-- a method -/
structure DfM (K : PySem.W.Frag) (C : Addr) (m qual : Str) (st : Stmt) (ps : List Str) (f : Addr) (fd : FuncData) : Prop where
  fn : Fun K m qual st f fd
  b : Binds K fd ps []
  m : Meth K C m f
def rFld (K : PySem.W.Frag) (f : Str) (x : V) (H : Hp) (Q : VK) : Prop := ∃ a C dx fs v, x = .ref a ∧ H a = some (.ins C dx fs) ∧ Cls K C ∧ NoAttr K C f ∧ fs.lookup f = some v ∧ Q v H
def rFldS (K : PySem.W.Frag) (f : Str) (x y : V) (H : Hp) (R : Hp → Prop) : Prop := ∃ a C dx fs, x = .ref a ∧ H a = some (.ins C dx fs) ∧ Cls K C ∧ NoAttr K C f ∧ fs.length < 1000 ∧ R (upd H a (.ins C dx (putF f y fs)))
def rMeth (C : Addr) (m : Str) (x : V) (H : Hp) (A : Prop) : Prop := ∃ a dx fs, x = .ref a ∧ H a = some (.ins C dx fs) ∧ fs.lookup m = none ∧ A
def rMake (C : Addr) (sp : Sp) (vs : List V) (H : Hp) (Q : VK) (E : XK) : Prop := ∀ x dx, H x = none → H dx = none → dx ≠ x → sp (.ref x :: vs) (upd (upd H dx (.own x)) x (.ins C dx [])) (fun v H2 => v = .non ∧ Q (.ref x) H2) E
section
variable {K : PySem.W.Frag} {σ : L2.St} {H : Hp} {Q : VK} {nx bk ct : L2.St → Hp → Prop} {rt : VK} {v : V}
theorem w_fld {ta : TE} {f : Str} (h : ta σ H fun x H1 => rFld K f x H1 Q) : tFld K ta f σ H Q := h
theorem w_fld' {f : Str} {a C dx : Addr} {fs : List (Str × V)} (h1 : H a = some (.ins C dx fs)) (h2 : Cls K C) (h3 : NoAttr K C f) (h4 : fs.lookup f = some v) (h : Q v H) : rFld K f (.ref a) H Q := ⟨a, C, dx, fs, v, rfl, h1, h2, h3, h4, h⟩
theorem w_fldS {ta tv : TE} {f : Str} (h : tv σ H fun y H1 => ta σ H1 fun x H2 => rFldS K f x y H2 fun H3 => nx σ H3) : sFld K ta tv f ⟨nx, rt, bk, ct⟩ σ H := h
theorem w_seqFS {ta tv : TE} {f : Str} {u : TS} (h : tv σ H fun y H1 => ta σ H1 fun x H2 => rFldS K f x y H2 fun H3 => u ⟨nx, rt, bk, ct⟩ σ H3) : tSeq (sFld K ta tv f) u ⟨nx, rt, bk, ct⟩ σ H := h
theorem w_fldS' {f : Str} {a C dx : Addr} {fs : List (Str × V)} {R : Hp → Prop} (h1 : H a = some (.ins C dx fs)) (h2 : Cls K C) (h3 : NoAttr K C f) (h4 : fs.length < 1000) (h : ∀ H1, H1 a = some (.ins C dx (putF f v fs)) → Off a H H1 → R H1) : rFldS K f (.ref a) v H R :=
  ⟨a, C, dx, fs, rfl, h1, h2, h3, h4, h _ upd_same fun x hx => upd_ne hx⟩
theorem w_meth {C : Addr} {m : Str} {sp : Sp} {E : XK} {ta : TE} {t : TA} (h : ta σ H fun x H1 => rMeth C m x H1 (t σ H1 fun vs H2 => sp (x :: (vs ++ [])) H2 Q E)) : tMeth C m sp [] E ta t σ H Q := by
  unfold tMeth
  exact h
theorem w_meth' {C a dx : Addr} {m : Str} {fs : List (Str × V)} {A : Prop} (h1 : H a = some (.ins C dx fs)) (h2 : fs.lookup m = none) (h : A) : rMeth C m (.ref a) H A := ⟨a, dx, fs, rfl, h1, h2, h⟩
theorem w_make {C : Addr} {sp : Sp} {E : XK} {t : TA} (h : t σ H fun vs H1 => rMake C sp (vs ++ []) H1 Q E) : tMake C sp [] E t σ H Q := h
theorem w_make' {C : Addr} {sp : Sp} {vs : List V} {E : XK} (h : ∀ x dx H1, H x = none → H dx = none → dx ≠ x → H1 x = some (.ins C dx []) → Same H H1 → sp (.ref x :: vs) H1 (fun v H2 => v = .non ∧ Q (.ref x) H2) E) : rMake C sp vs H Q E := fun x dx hx hd hne =>
  h x dx _ hx hd hne upd_same fun b o e => by
    rw [upd_ne (ne_of_none e hx), upd_ne (ne_of_none e hd)]
    exact e
theorem w_maxD {r : List V → List V → Hp → VK → Prop} {t tk : TA} (h : t σ H fun vs H1 => tk σ H1 fun zs H2 => r vs zs H2 Q) : tCKw r t tk σ H Q := h
theorem w_maxD' {a : Addr} {ns : List Int} {d : Int} (h1 : SqL K H a (ns.map V.int)) (h0 : ns = [] → Q (.int d) H) (h : ∀ m, m ∈ ns → (∀ y ∈ ns, y ≤ m) → Q (.int m) H) : rMaxD K [.ref a] [.int d] H Q := ⟨a, ns, d, rfl, rfl, h1, h0, h⟩
end
theorem pe_fldK {X : Cx} {K : PySem.W.Frag} {e : Expr} {f : Str} {pos : Pos} {ta : TE} (hk : X.K = K) (he : PE X e ta) (hb : attributeBase e f X.env (eval e X.env) = eval e X.env) : PE X (.Attribute e f pos) (tFld K ta f) := by
  subst hk
  exact pe_fld he hb
end FW

set_option Elab.async false
set_option linter.all false
set_option maxRecDepth 100000
set_option maxHeartbeats 4000000
/-! l[::-1] of a list; set of a tuple of ints; two promises of one def -/
namespace FW
open PySem PySem.Spec PyProof.Rows L2
theorem pick_back (its : List Value) : slicePick its.toArray none none (some (-1)) = its.reverse.toArray := by
  have e1 : sliceBounds none none (some (-1)) its.toArray.size = ((its.length : Int) - 1, -1, -1) := by
    unfold sliceBounds
    rw [List.size_toArray]
    rfl
  unfold slicePick
  rw [e1]
  congr 1
  show List.filterMap (fun i => its.toArray[i]?) (sliceRange ((its.length : Int) - 1) (-1) (-1)) = its.reverse
  rw [← HT.rev_map]
  have e2 : sliceRange ((its.length : Int) - 1) (-1) (-1) = (List.range its.length).map fun (m : Nat) => (((its.length : Nat) : Int) - 1 + (m : Int) * (-1)).toNat := by
    unfold sliceRange
    have g1 : ¬ ((-1 : Int) > 0) := by decide
    simp only [g1, if_false]
    by_cases h0 : its.length = 0
    · rw [h0]; rfl
    · have e3 : (((its.length : Int) - 1 - -1 - -1 - 1) / - -1) = (its.length : Int) := by
        rw [show (- -1 : Int) = 1 by decide, Int.ediv_one]; omega
      rw [if_pos (by omega), e3, Int.toNat_natCast]
      refine List.map_congr_left fun k _ => ?_
      congr 1
      omega
  rw [e2, List.filterMap_map]
  congr 1
  funext m
  show its.toArray[_]? = its[_]?
  rw [List.getElem?_toArray]
def rRevL (K : PySem.W.Frag) (x z : V) (H : Hp) (Q : VK) : Prop := ∃ (a : Addr) (xs : List V), x = .ref a ∧ z = .int (-1) ∧ SqL K H a xs ∧ Nw (.lst xs.reverse) H Q
def tRevL (K : PySem.W.Frag) (te ts : TE) : TE := fun σ H Q => te σ H fun x H1 => ts σ H1 fun z H3 => rRevL K x z H3 Q
section
variable {X : Cx}
theorem pe_revL {e st : Expr} {te ts : TE} {p2 pos : Pos} (he : PE X e te) (hst : PE X st ts) : PE X (.Subscript e (.Slice none none (some st) p2) pos) (tRevL X.K te ts) := by
  refine ⟨fun pins s σ H Q I h => Subscript_ (thn (he.run pins s σ H _ I h) fun v s1 ⟨x, H1, I1, r1, q1⟩ => ?_)⟩
  refine wpAny_Slice ?_
  rw [evalPart_none]
  refine wpAny_pure ?_
  refine wpAny_pure ?_
  refine thn (hst.run pins s1 σ H1 _ I1 q1) fun vs s3 ⟨z, H3, I3, r3, a, xs, ex, ez, hx, g2⟩ => ?_
  subst ex ez
  cases r1
  obtain ⟨t2, rfl⟩ := r3
  have J : Inv X pins σ H3 { s3 with heap := s3.heap.push { cls := .type "slice", data := .fields #[.none, .none, .int (-1 : Int) t2] } } := I3.kept (t' := s3.toks) fun b ob q => Heap.get?_push_of_some _ q
  obtain ⟨its, r, isL, hz⟩ := J.list hx
  have hlen := r.length
  show wpAny (model X.prog X.w) X.A (subscriptTail e (.Slice none none (some st) p2) (.ref a) (.ref s3.heap.objs.size)) (EP X pins σ Q) X.xe _
  refine tail_any (ops := [.ref a, .ref s3.heap.objs.size]) isL.isList.typeIs slot_list_getitem.lookup ?_ (by with_unfolding_all rfl)
  refine wpAny_getItem_list_slice isL.isList (Heap.IsSliceOf.new _ _ _ _) .none .none (.int _ t2) (by decide) ?_ (by rw [List.size_toArray] <;> omega)
  rw [pick_back]
  refine ⟨.ref _, _, J.laid (t' := s3.toks) (o := .lst xs.reverse) (fun b ob q => Heap.get?_push_of_some _ q) (Nat.le_refl _) ?_, rfl, g2 _ (J.hok.fresh (Nat.le_refl _))⟩
  exact ⟨by rw [List.length_reverse]; exact hz, _, 0, vals_rev r, Heap.get?_push_size _ rfl⟩
end
def rSetT (K : PySem.W.Frag) (w : World) (vs : List V) (H : Hp) (Q : VK) : Prop := ∃ (l : Addr) (ns : List Int), vs = [.ref l] ∧ SqT K H l (ns.map V.int) ∧ ns.length ≤ 4000 ∧ ∀ (p : Addr) (c : Nat), H p = none → c ≤ ns.length → Q (.ref p) (upd H p (SetO w p (fun j => decide (j ∈ ns)) c))
section
variable {K : PySem.W.Frag} {w : World} {σ : L2.St} {H : Hp} {Q : VK}
theorem w_revL {te ts : TE} (h : te σ H fun x H1 => ts σ H1 fun z H3 => rRevL K x z H3 Q) : tRevL K te ts σ H Q := h
theorem w_revL' {a : Addr} {xs : List V} (h1 : H a = some (.lst xs)) (h : ∀ p H1, H p = none → H1 p = some (.lst xs.reverse) → Same H H1 → Q (.ref p) H1) : rRevL K (.ref a) (.int (-1)) H Q := ⟨a, xs, rfl, rfl, .of h1, w_new h⟩
end
theorem FnOk.or {P : Program} {w : World} {K : PySem.W.Frag} {mg : Str → Option Value} {base : Heap} {CX : CXT} {k : Nat} {f : Addr} {fd : FuncData} {ps : List Str} {sp sp' : Sp} (F : FnOk P w K mg base CX k f fd ps sp) (G : FnOk P w K mg base CX k f fd ps sp') : FnOk P w K mg base CX k f fd ps (fun vs H Q E => sp vs H Q E ∨ sp' vs H Q E) :=
  ⟨fun vs H Q E q => q.elim (F.len vs H Q E) (G.len vs H Q E), fun A outer s H args us vs Q E hr he hb hv hs => hs.elim (F.run A outer s H args us vs Q E hr he hb hv) (G.run A outer s H args us vs Q E hr he hb hv)⟩
end FW

set_option Elab.async false
set_option linter.all false
set_option maxRecDepth 100000
set_option maxHeartbeats 4000000
/-! d.items() of a dict of texts and ints, and sorted of it -/
namespace FW
open PySem PySem.Spec PyProof.Rows L2
def rItemsK : V → List V → Hp → VK → Prop := fun x xs H Q => ∃ (a : Addr) (kvs : List (Key × V)), x = .ref a ∧ xs = [] ∧ H a = some (.dK kvs) ∧ ∀ p, H p = none → Q (.ref p) (upd H p (L2.DX.itemsO p a))
theorem mt_itemsK {X : Cx} : MtR X "dict.items" rItemsK := by
  intro pins s σ H x xs v us Q I rx rxs h
  obtain ⟨a, kvs, rfl, rfl, ha, q⟩ := h
  cases rx
  cases rxs
  obtain ⟨z, lo, vs, rel, dd⟩ := dk_of I.hok ha
  refine call_meetsIn PySem.F.slot_dict_items dd.typeIs PySem.F.entry_dict_items (PySem.F.args_dict_items_1 _) (meets_dict_items (mixKind X.prog X.w) a lo) ⟨⟨vs, dd⟩, ?_⟩
  have hf : H s.heap.objs.size = none := I.hok.fresh (Nat.le_refl _)
  exact ⟨.ref s.heap.objs.size, upd H s.heap.objs.size (L2.DX.itemsO s.heap.objs.size a), I.laid (t' := s.toks) (fun b u e => Heap.get?_push_of_some _ e) (Nat.le_refl _) (L2.DX.itemsO_ok (Heap.get?_push_size _ rfl)), rfl, q _ hf⟩
/-! ### the order of pairs of a text and an int -/
abbrev TI := Addr × Str × Int
def encTI (b : TI) : PyData := .tuple [.str b.2.1, .int b.2.2]
abbrev txLt (x y : Str) : Prop := x.cps.toList < y.cps.toList
theorem eqv_strs (x y : Str) : PyData.eqv (.str x) (.str y) = true ↔ x = y := by
  simp [PyData.eqv]
theorem le_TI (a b : TI) : PySem.W.dataLe false encTI a b = !(decide (txLt b.2.1 a.2.1) || (decide (a.2.1 = b.2.1) && decide (b.2.2 < a.2.2))) := by
  show (!PySem.W.dataLt (encTI b) (encTI a)) = _
  unfold encTI
  rw [PySem.W.dataLt_pair (by simp [PySem.W.alike]) (by simp [PySem.W.alike]), PySem.W.dataLt_str, PySem.W.dataLt_int]
  by_cases h : b.2.1 = a.2.1
  · rw [if_pos ((eqv_strs _ _).mpr h)]
    have h1 : ¬ txLt b.2.1 a.2.1 := by rw [h]; exact List.lt_irrefl _
    have h2 : a.2.1 = b.2.1 := h.symm
    rw [decide_eq_false h1, decide_eq_true h2]
    simp only [PyData.eqv, beq_iff_eq, Bool.false_or, Bool.true_and]
    by_cases e : b.2.2 = a.2.2
    · rw [if_pos e, decide_eq_false (by omega)]
    · rw [if_neg e]
  · rw [if_neg (fun z => h ((eqv_strs _ _).mp z))]
    have h2 : ¬ a.2.1 = b.2.1 := fun e => h e.symm
    rw [decide_eq_false h2, Bool.false_and, Bool.or_false]
theorem tx_tri {x y : Str} (h : ¬ txLt x y) : txLt y x ∨ x = y := by
  by_cases h2 : txLt y x
  · exact .inl h2
  · exact .inr (PySem.W.str_of_cps (List.le_antisymm (List.not_lt.mp h2) (List.not_lt.mp h)))
theorem le_TI_iff (a b : TI) : PySem.W.dataLe false encTI a b = true ↔ (txLt a.2.1 b.2.1 ∨ (a.2.1 = b.2.1 ∧ a.2.2 ≤ b.2.2)) := by
  rw [le_TI]
  simp only [Bool.not_eq_true', Bool.or_eq_false_iff, decide_eq_false_iff_not, Bool.and_eq_false_iff]
  constructor
  · rintro ⟨h1, h2⟩
    rcases tx_tri h1 with h | h
    · exact .inl h
    · right
      refine ⟨h.symm, ?_⟩
      rcases h2 with h2 | h2
      · exact absurd h.symm h2
      · omega
  · rintro (h | ⟨h1, h2⟩)
    · refine ⟨List.lt_asymm h, .inl fun e => ?_⟩
      rw [e] at h
      exact List.lt_irrefl _ h
    · refine ⟨?_, .inr (by omega)⟩
      rw [h1]
      exact List.lt_irrefl _
theorem totTI : PySem.W.TotalLe (PySem.W.dataLe false encTI) where
  trans a b c h1 h2 := by
    rw [le_TI_iff] at *
    rcases h1 with h1 | ⟨h1, g1⟩
    · rcases h2 with h2 | ⟨h2, g2⟩
      · exact .inl (List.lt_trans h1 h2)
      · exact .inl (h2 ▸ h1)
    · rcases h2 with h2 | ⟨h2, g2⟩
      · exact .inl (h1 ▸ h2)
      · exact .inr ⟨h1.trans h2, by omega⟩
  total a b := by
    rw [le_TI_iff, le_TI_iff]
    by_cases h : txLt a.2.1 b.2.1
    · exact .inl (.inl h)
    · rcases tx_tri h with h | h
      · exact .inr (.inl h)
      · by_cases g : a.2.2 ≤ b.2.2
        · exact .inl (.inr ⟨h, g⟩)
        · exact .inr (.inr ⟨h.symm, by omega⟩)
theorem sorted_TI {bs : List TI} (nd : (bs.map (·.2.1)).Nodup) : (bs.mergeSort (PySem.W.dataLe false encTI)).Pairwise (fun x y => txLt x.2.1 y.2.1) := by
  have h := PySem.W.sort_pairwise totTI bs
  have hp := List.mergeSort_perm bs (PySem.W.dataLe false encTI)
  have nd2 : ((bs.mergeSort (PySem.W.dataLe false encTI)).map (·.2.1)).Nodup := ((hp.map (·.2.1)).nodup_iff).mpr nd
  unfold List.Nodup at nd2
  rw [List.pairwise_map] at nd2
  refine (h.and nd2).imp fun {x y} ⟨h1, h2⟩ => ?_
  rcases (le_TI_iff _ _).mp h1 with h | ⟨h, _⟩
  · exact h
  · exact absurd h h2
/-! ### the tuples laid -/
def kvTI (qs : List (Str × Int)) : List (Key × V) := qs.map fun q => ((Sum.inr q.1 : Key), V.int q.2)
theorem tups_laid {X : Cx} {pins : List (Addr × Obj)} {σ : L2.St} {H : Hp} {s : Shared} {h' : Heap} {tk : Nat} {kvs : List (Key × V)} {vs : List (Key × Value)} {as : List Addr} (I : Inv X pins σ H s) (kv : KV kvs vs)
    (hk : ∀ b o, s.heap.get? b = some o → h'.get? b = some o) (hl : as.length = vs.length) (hG : PySem.W.KdxG (mixKind X.prog X.w) vs s.heap.objs.size h' as) :
    (∀ t ∈ as, H t = none) ∧ (∀ b o, H b = some o → LiI.putT H as kvs b = some o) ∧ Paired (fun (t : Addr) (q : Key × V) => LiI.putT H as kvs t = some (.tup [kV q.1, q.2])) as kvs ∧ Inv X pins σ (LiI.putT H as kvs) { s with heap := h', toks := tk } := by
  have lk : kvs.length = vs.length := Paired.length kv
  have nd : as.Nodup := List.Pairwise.imp (fun {a b} (h : a < b) => Nat.ne_of_lt h) hG.rise
  have new : ∀ t ∈ as, H t = none := fun t ht => I.hok.fresh (Nat.le_of_lt (hG.above t ht))
  have atP := LiI.putT_at as kvs H (by omega) nd
  have off : ∀ b, b ∉ as → LiI.putT H as kvs b = H b := fun b h1 => LiI.putT_off as kvs _ h1
  have kp : ∀ b u, H b = some u → (LiI.putT H as kvs) b = some u := fun b u e => by
    rw [off b (fun z => by rw [new b z] at e; cases e)]
    exact e
  refine ⟨new, kp, atP, ?_⟩
  refine I.call' (ch := []) rfl ⟨fun b o q _ _ _ => hk b o q, fun b o q _ _ _ => ⟨o.slots, hk b o q⟩, fun b o q n _ => ?_, fun b o q _ => ⟨o, hk b o q⟩, fun b xs q => kp b _ q, fun b o u q => kp b _ q, fun b ps q => ⟨#[], by rw [kp b _ q]; simp⟩⟩ (fun b u q => ?_) I.bare fun b z => by simp at z
  · rw [off b fun z => absurd (Heap.lt_size q) (Nat.not_lt.mpr (Nat.le_of_lt (hG.above b z)))]
    exact n
  · by_cases hb : b ∈ as
    · obtain ⟨j, pk, e1, e2, e3⟩ := LiI.paired_ix atP hb
      rw [e3] at q
      cases q
      obtain ⟨key, k, x, f1, f2, f3⟩ := hG.pairs j b e1
      obtain ⟨qv, g1, g2, g3⟩ := LiI.paired_get kv e2
      rw [f1] at g1
      cases g1
      have rk : RelV (kV pk.1) key := by
        rw [g2]
        exact relV_key (show keyIs k key = true from f2)
      exact ⟨by show 2 ≤ sizeLine; decide, [key, x], .cons rk (.cons g3 .nil), ⟨_, f3, rfl, _, rfl⟩⟩
    · rw [off b hb] at q
      exact (I.hok b u q).stay (fun d v _ y => hk d v y) (fun d y => kp d _ y) fun d xs y => kp d _ y
def rSortI (vs : List V) (H : Hp) (Q : VK) : Prop := ∃ (a d : Addr) (qs : List (Str × Int)), vs = [.ref a] ∧ H a = some (L2.DX.itemsO a d) ∧ H d = some (.dK (kvTI qs)) ∧ (qs.map (·.1)).Nodup ∧
  ∀ (H' : Hp) (p : Addr) (ts : List TI), (∀ b o, H b = some o → H' b = some o) → H p = none → H' p = some (.lst (ts.map fun t => .ref t.1)) → (∀ t ∈ ts, H' t.1 = some (.tup [.str t.2.1, .int t.2.2])) → (ts.map (·.2)).Perm qs → ts.Pairwise (fun x y => txLt x.2.1 y.2.1) → Q (.ref p) H'
theorem each_refs {out : List Value} {bs : List TI} (h : PySem.W.EachIs (fun v (b : TI) => v = Value.ref b.1) out bs) : out = bs.map fun b => Value.ref b.1 := by
  induction h with
  | nil => rfl
  | cons h1 _ ih => rw [h1, ih]; rfl
theorem zip_map2 {as : List Addr} {qs : List (Str × Int)} (h : as.length = qs.length) : (as.zip qs).map (·.2) = qs := List.map_snd_zip (by omega)
theorem c_sortI {X : Cx} (hcalm : X.calm = true) (hu : X.A.units + 64 < cLine) : CallR X (.builtin "sorted") rSortI := by
  intro pins s σ H xs us Q I r ⟨a, d, qs, ex, hv, hd, nd, q⟩
  subst ex
  obtain ⟨u, eu, rx⟩ := vals1 r
  subst eu
  cases rx
  obtain ⟨z, lo, vs, rel, dd⟩ := dk_of I.hok hd
  obtain ⟨ep, hat⟩ := dd.dictAt
  obtain ⟨hview, _, _⟩ : ObjOk X.prog X.w H s.heap a (L2.DX.itemsO a d) := I.hok a _ hv
  have lk : (kvTI qs).length = vs.length := Paired.length rel
  have lq : (kvTI qs).length = qs.length := List.length_map ..
  refine Calls.call_function_entry kind_sorted plain_sorted entry_sorted (args_sorted1 _) ?_
  unfold Builtin.«sorted»
  refine wpAny_bind (m := checkCount "sorted" 1 1 _) (wpAny_pure ?_)
  refine wpAny_bind (PySem.W.kdx_collect (A := X.A.in1) (knd := mixKind X.prog X.w) (kvs := vs) (ep := ep) (I.ok.hd hcalm) hview hat (by omega) fun h' tk as hk hl hG => ?_)
  obtain ⟨new, kp, atP, I1⟩ := tups_laid (tk := tk) I rel hk hl hG
  have hz : (as.map Value.ref).length ≤ sizeLine := by rw [List.length_map]; omega
  refine wpAny_bind (wpAny_newList ?_ hz)
  have hoL : (h'.push (seqObj "list" (as.map Value.ref).toArray 0)).get? h'.objs.size = some (seqObj "list" (as.map Value.ref).toArray 0) := Heap.get?_push_size _ rfl
  have hlz : as.length = qs.length := by omega
  have e0 : (as.zip qs).map (fun b : TI => Value.ref b.1) = as.map Value.ref := by
    rw [← List.map_fst_zip (l₁ := as) (l₂ := qs) (by omega), List.map_map]
    rw [List.map_fst_zip (by omega)]
    rfl
  have eR : PySem.W.EachIs (fun v (b : TI) => v = Value.ref b.1) (as.map Value.ref) (as.zip qs) := by
    rw [← e0]
    generalize (as.zip qs : List TI) = l
    induction l with
    | nil => exact .nil
    | cons b l ih => exact .cons rfl ih
  have rd : ∀ b ∈ (as.zip qs : List TI), ∃ ws, Reads (h'.push (seqObj "list" (as.map Value.ref).toArray 0)) (.ref b.1) (encTI b) ws ∧ h'.objs.size ∉ ws := by
    intro b hb
    obtain ⟨j, hj⟩ := List.mem_iff_getElem?.mp hb
    obtain ⟨j1, j2⟩ := List.getElem?_zip_eq_some.mp hj
    obtain ⟨key, k, x, f1, f2, f3⟩ := hG.pairs j b.1 j1
    obtain ⟨qv, g1, g2, g3⟩ := LiI.paired_get rel (i := j) (x := ((Sum.inr b.2.1 : Key), V.int b.2.2)) (by unfold kvTI; rw [List.getElem?_map, j2]; rfl)
    rw [f1] at g1
    cases g1
    obtain ⟨t2, rfl⟩ := g3
    rcases keyIs_shape (show keyIs k key = true from f2) with ⟨i, t, ek, ev⟩ | ⟨y, t, ek, ev⟩
    · rw [ek] at g2
      cases g2
    · rw [ek] at g2
      cases g2
      rw [ev] at f3
      exact ⟨_, .tuple (Heap.get?_push_of_some _ f3) rfl rfl (.cons (.str _ _) (.cons (.int _ _) .nil)), by simp⟩
  have er : PySem.W.EachIs (fun v (b : TI) => ∃ ws, Reads (h'.push (seqObj "list" (as.map Value.ref).toArray 0)) v (encTI b) ws ∧ h'.objs.size ∉ ws) (as.map Value.ref) (as.zip qs) :=
    (PySem.W.each_mem eR).mono fun v b ⟨h1, h2⟩ => by
      rw [h1]
      exact rd b h2
  have hal : PySem.W.AllAlike ((as.zip qs : List TI).map encTI) := PySem.W.AllAlike.of fun b b' => by simp [encTI, PySem.W.alike, PySem.W.alikeAll]
  have hso : PySem.W.Sortable ((as.zip qs : List TI).map encTI) := PySem.W.Sortable.tuples fun b => ⟨_, _, rfl⟩
  have lz : (as.zip qs : List TI).length = qs.length := by rw [List.length_zip]; omega
  show wpAny _ _ _ _ _ { s with heap := h'.push (seqObj "list" (as.map Value.ref).toArray 0), toks := tk }
  refine wpAny_bind (wpAny_holding (PySem.W.list_sort_data (s := { s with heap := h'.push (seqObj "list" (as.map Value.ref).toArray 0), toks := tk }) (R := fun v (b : TI) => v = Value.ref b.1) (enc := encTI) (bs := as.zip qs) hoL eR er hal hso (by rw [lz]; omega) (fun b _ => ?_) fun out ho eo => ?_))
  · have : (encTI b).depth ≤ 8 := by
      show PyData.depthAll [.str b.2.1, .int b.2.2] + 1 ≤ 8
      simp only [PyData.depthAll, PyData.depth]
      decide
    show X.A.in1.units + 1 + (encTI b).depth < cLine
    have e : X.A.in1.units = X.A.units + 1 := rfl
    omega
  · have eo' := each_refs eo
    subst eo'
    generalize hts : (as.zip qs : List TI).mergeSort (PySem.W.dataLe false encTI) = ts
    have hp : ts.Perm (as.zip qs) := by rw [← hts]; exact List.mergeSort_perm _ _
    have hsrt : ts.Pairwise (fun x y => txLt x.2.1 y.2.1) := by
      rw [← hts]
      refine sorted_TI ?_
      have : (as.zip qs : List TI).map (·.2.1) = qs.map (·.1) := by
        have e : (as.zip qs : List TI).map (·.2.1) = ((as.zip qs : List TI).map (·.2)).map (·.1) := by rw [List.map_map]; rfl
        rw [e, zip_map2 hlz]
      rw [this]
      exact nd
    obtain ⟨e', he'⟩ := sortedHeap_at (vs := as.map Value.ref) (out := (ts.map fun b => Value.ref b.1).toArray) hoL
    have lts : ts.length = qs.length := by rw [hp.length_eq, lz]
    have hf1 : LiI.putT H as (kvTI qs) h'.objs.size = none := I1.hok.fresh (Nat.le_refl _)
    have hf0 : H h'.objs.size = none := by
      cases e : H h'.objs.size with
      | none => rfl
      | some o => rw [kp _ _ e] at hf1; cases hf1
    have vts : Vals ((ts.map fun t => V.ref t.1) : List V) (ts.map fun b => Value.ref b.1) := by
      generalize ts = l
      induction l with
      | nil => exact .nil
      | cons b l ih => exact .cons rfl ih
    have hlen : ((ts.map fun t => V.ref t.1) : List V).length ≤ sizeLine := by rw [List.length_map]; omega
    refine wpAny_pure ⟨_, rfl, .ref h'.objs.size, upd (LiI.putT H as (kvTI qs)) h'.objs.size (.lst (ts.map fun t => V.ref t.1)), I1.laid (t' := tk) (fun b u e => ?_) (Nat.le_refl _) (show ObjOk X.prog X.w _ _ _ (.lst (ts.map fun t => V.ref t.1)) from ⟨hlen, _, e', vts, he'⟩), rfl, q _ _ ts (fun b o e => ?_) hf0 upd_same (fun t ht => ?_) ?_ hsrt⟩
    · have hb : b < h'.objs.size := Heap.lt_size e
      rw [sortedHeap_old (Nat.ne_of_lt hb) (by rw [size_push']; exact Nat.lt_succ_of_lt hb)]
      exact Heap.get?_push_of_some _ e
    · rw [upd_ne (fun z => by rw [z, hf0] at e; cases e)]
      exact kp b o e
    · have hm := hp.mem_iff.mp ht
      obtain ⟨j, hj⟩ := List.mem_iff_getElem?.mp hm
      obtain ⟨j1, j2⟩ := List.getElem?_zip_eq_some.mp hj
      obtain ⟨y, y1, y2⟩ := LiI.paired_get atP j1
      unfold kvTI at y1
      rw [List.getElem?_map, j2] at y1
      have y3 := Option.some.inj y1
      subst y3
      rw [upd_ne (fun z => by rw [z, hf1] at y2; cases y2)]
      exact y2
    · have := hp.map (·.2)
      rwa [zip_map2 hlz] at this
theorem w_sortI {H : Hp} {Q : VK} {a d : Addr} {qs : List (Str × Int)} (hv : H a = some (L2.DX.itemsO a d)) (hd : H d = some (.dK (kvTI qs))) (nd : (qs.map (·.1)).Nodup)
    (h : ∀ (H' : Hp) (p : Addr) (ts : List TI), Same H H' → H p = none → H' p = some (.lst (ts.map fun t => .ref t.1)) → (∀ t ∈ ts, H' t.1 = some (.tup [.str t.2.1, .int t.2.2])) → (ts.map (·.2)).Perm qs → ts.Pairwise (fun x y => txLt x.2.1 y.2.1) → Q (.ref p) H') : rSortI [.ref a] H Q := ⟨a, d, qs, rfl, hv, hd, nd, h⟩
theorem w_itemsK {H : Hp} {Q : VK} {a : Addr} {kvs : List (Key × V)} (ha : H a = some (.dK kvs)) (h : ∀ p H1, H p = none → H1 p = some (L2.DX.itemsO p a) → Same H H1 → Q (.ref p) H1) : rItemsK (.ref a) [] H Q := ⟨a, kvs, rfl, rfl, ha, fun p hp => h p _ hp upd_same (Same.new hp)⟩
end FW

set_option Elab.async false
set_option linter.all false
set_option maxRecDepth 100000
set_option maxHeartbeats 4000000
/-! a def of an own class called through the class: C.m(x, ..) -/
namespace FW
open PySem PySem.Spec PyProof.Rows L2
/-- a class's reading, with the names of fields, whatever its name -/
structure Kf (K : PySem.W.Frag) (C : Addr) (as : List Str) : Prop where
  cl : Cls K C
  na : ∀ f ∈ as, NoAttr K C f
def tClsF (C : Addr) (sp : Sp) (dvs : List V) (E : XK) (ta : TE) (t : TA) : TE := fun σ H Q => ta σ H fun x H1 => x = .ref C ∧ t σ H1 fun vs H2 => sp (vs ++ dvs) H2 Q E
end FW

set_option Elab.async false
set_option linter.all false
set_option maxRecDepth 100000
set_option maxHeartbeats 4000000
/-! len and str by an own class's defs; != of one object with itself -/
namespace FW
open PySem PySem.Spec PyProof.Rows L2
section
variable {X : Cx} {CX : CXT} {k : Nat} {f C : Addr} {fd : FuncData} {ps : List Str} {sp : Sp} {E : XK}
def rLenO (C : Addr) (sp : Sp) (E : XK) (xs : List V) (H : Hp) (Q : VK) : Prop := ∃ a dx fs, xs = [.ref a] ∧ H a = some (.ins C dx fs) ∧ sp [.ref a] H (fun v H2 => ∃ n : Nat, v = .int (n : Int) ∧ n ≤ 1000000 ∧ Q (.int (n : Int)) H2) E
def rStrO (C : Addr) (sp : Sp) (E : XK) (xs : List V) (H : Hp) (Q : VK) : Prop := ∃ a dx fs, xs = [.ref a] ∧ H a = some (.ins C dx fs) ∧ sp [.ref a] H (fun v H2 => ∃ z : Str, v = .str z ∧ Q (.str z) H2) E
end
def rStrI (xs : List V) (H : Hp) (Q : VK) : Prop := ∃ i, xs = [V.int i] ∧ i.natAbs.log2 < 1920 ∧ Q (.str (toString i)) H
/-! ### one object compared with itself -/
section
variable {M : Model} {prog : Program} {w : World} {A : Around} {E : Value → Shared → Prop} {s : Shared} {K : PySem.W.Frag} {x C : Addr} {ox : Obj} {od : Option Obj}
end
/-- an own class that compares by identity -/
structure EqI (K : PySem.W.Frag) (C : Addr) : Prop where
  mr : PySem.W.mroIn K C (.type "object") = some true
  eq : PySem.W.findIn K (.ref C) "__eq__" = some (some (.builtin "object.__eq__"))
  ne : PySem.W.findIn K (.ref C) "__ne__" = some (some (.builtin "object.__ne__"))
def rNeS (K : PySem.W.Frag) : R2 := fun x y H Q => ∃ a C dx fs, x = .ref a ∧ y = .ref a ∧ H a = some (.ins C dx fs) ∧ EqI K C ∧ Q (.bl false) H
end FW

set_option Elab.async false
set_option linter.all false
set_option maxRecDepth 100000
set_option maxHeartbeats 4000000
/-! f(x, k = v) in a try; for k, v in e.items() of a dict that a call made -/
namespace FW
open PySem PySem.Spec PyProof.Rows L2
section
variable {X : Cx} {CX : CXT} {k n : Nat} {f : Addr} {fd : FuncData} {ps ks : List Str} {sp : Sp} {E : L2.St → XK} {x : Str} {p pos : Pos} {e : Expr} {es : List Expr} {kws : List Keyword} {t tk : TA} {g : List Value → List Value → List Value} {gV : List V → List V → List V}
def tCallNS (n m : Nat) (sp : Sp) (gV : List V → List V → List V) (E : L2.St → XK) (t tk : TA) : TE := fun σ H Q => t σ H fun vs H1 => tk σ H1 fun zs H2 => vs.length = n ∧ zs.length = m ∧ sp (gV vs zs) H2 Q (E σ)
/-! ### a dict that is read from here on -/
def tFrz (td : TE) : TE := fun σ H Q => td σ H fun x H1 => ∃ d kvs, x = .ref d ∧ H1 d = some (.dK kvs) ∧ ∀ o H2, H2 d = some (.frz o (.dK kvs)) → Off d H1 H2 → Q x H2
def rItems (x : V) (H1 : Hp) (R : It → Hp → Prop) : Prop := ∃ d o kvs, x = .ref d ∧ H1 d = some (.frz o (.dK kvs)) ∧ R (Iti d o kvs) H1
end
end FW

set_option Elab.async false
set_option linter.all false
set_option maxRecDepth 100000
set_option maxHeartbeats 4000000
/-! zip of a tuple and a list -/
namespace FW
open PySem
section
variable {pg : Program} {w : World} {ar : Around} {er : Value → Shared → Prop} {sh : Shared}
end
abbrev zipMH1 (h : Heap) (l1 : Addr) : Heap := h.push { cls := .type "tuple_iterator", data := .fields #[.ref l1, .int 0 0] }
abbrev zipMH2 (h : Heap) (l1 l2 : Addr) : Heap := (zipMH1 h l1).push { cls := .type "list_iterator", data := .fields #[.ref l2, .int 0 0] }
abbrev zipMH3 (h : Heap) (l1 l2 : Addr) : Heap := (zipMH2 h l1 l2).push { cls := .type "tuple", data := .seq #[.ref h.objs.size, .ref (zipMH1 h l1).objs.size] }
abbrev zipMH4 (h : Heap) (l1 l2 : Addr) : Heap := (zipMH3 h l1 l2).push { cls := .type "tuple", data := .seq #[.none, .none] }
abbrev zipMH5 (h : Heap) (l1 l2 : Addr) : Heap := (zipMH4 h l1 l2).push { cls := .type "zip", data := .fields #[.none, .bool false, .bool false, .ref (zipMH2 h l1 l2).objs.size, .ref (zipMH3 h l1 l2).objs.size] }

section
variable {pg : Program} {w : World} {ar : Around} {er : Value → Shared → Prop} {sh : Shared}
end
open PySem.Spec PyProof.Rows L2
def ItzM (K : PySem.W.Frag) (aa b : Addr) : It :=
  ⟨fun ix H => ∃ (xs ys : List V) (x y : V), SqT K H aa xs ∧ SqL K H b ys ∧ xs[ix]? = some x ∧ ys[ix]? = some y,
    fun ix H v H' => ∃ T x y, v = .ref T ∧ H T = none ∧ H' = upd H T (.tup [x, y]) ∧ (∀ xs, SqT K H aa xs → xs[ix]? = some x) ∧ ∀ ys, SqL K H b ys → ys[ix]? = some y,
    fun ix H => ∃ xs ys : List V, SqT K H aa xs ∧ SqL K H b ys ∧ (xs.length ≤ ix ∨ ys.length ≤ ix)⟩
def iZipM (K : PySem.W.Frag) (ta : TA) : L2.TI := fun σ H R => ta σ H fun vs Hn => ∃ a b xs ys, vs = [.ref a, .ref b] ∧ SqT K Hn a xs ∧ SqL K Hn b ys ∧ R (ItzM K a b) Hn
def rZipM (K : PySem.W.Frag) (vs : List V) (H : Hp) (R : It → Hp → Prop) : Prop := ∃ a b xs ys, vs = [.ref a, .ref b] ∧ SqT K H a xs ∧ SqL K H b ys ∧ R (ItzM K a b) H
end FW

set_option Elab.async false
set_option linter.all false
set_option maxRecDepth 100000
set_option maxHeartbeats 4000000
/-! l.count(x) of flat things; a lambda handed to a def -/
namespace FW
open PySem PySem.Spec PyProof.Rows L2
def rCount (K : PySem.W.Frag) (x : V) (xs : List V) (H : Hp) (Q : VK) : Prop := ∃ (a : Addr) (ys : List V) (y : V), x = V.ref a ∧ xs = [y] ∧ SqL K H a ys ∧ flatV y = true ∧ ys.all flatV = true ∧ Q (.int ((ys.countP fun z => eqV z y : Nat) : Int)) H
end FW

set_option Elab.async false
set_option linter.all false
set_option maxRecDepth 100000
set_option maxHeartbeats 4000000
/-! A lambda handed to a def that calls it within a try. -/
namespace FW
open PySem PySem.Spec PyProof.Rows L2
/-- the call of what was handed in: R tells what it asks, by what it may raise -/
def tDeed (n : Nat) (W : WX) (R : XK → TE) : TE := fun σ H Q => ∃ E : XK, (∀ cls d σ' H', E cls d H' → σ'.length = n → W cls d σ' H') ∧ R E σ H Q
section
variable {P : Program} {w : World} {K : PySem.W.Frag} {mg : Str → Option Value} {base : Heap}
end
/-- x(lambda: body), x a def of one parameter that stands in the text -/
theorem pe_lamD {X : Cx} {TT : (XK → Hp → VK → Prop) → Hp → VK → Prop} {x a : Str} {g c P : Addr} {k : Nat} {st : Stmt} {fd : FuncData} {Ng : List Str} {params : Arguments} {body : Expr} {scope : Scope} {t : XK → TE} {p lpos pos : Pos} (D : L2.Fun X.K x x st g fd) (hb : L2.Binds X.K fd [a] []) (hm : X.mg x = some (.ref g)) (hg : Gl X x) (hNg : Ng[0]? = some a) (Sg : FnScope Ng [a] (defScope st)) (hva : Vis (defScope st) a)
    (hG : ∀ cdg, LamX.GivesTo X Ng x (defScope st) g cdg (defBody st) a (X.env.qual ++ "<lambda>") TT) (TB : LamX.TabB X.base X.mg c P) (hcode : X.env.code = .ref c) (hr : Room (k + 2) X.A) (L : LamX.LamS X.env.scope scope) (hdef : defaultsOf params X.env = ([], []))
    (hbind : ∀ (q : Str) (cl : List (Str × Addr)) (pm cv ctv : Value), bindArgs (PySem.W.kla_fn "<lambda>" q params body scope cl pm cv ctv) ⟨[], []⟩ = pure [])
    (hbody : ∀ (A : Around) (outer : List Env) (s : Shared) (H : Hp) (E : XK) (f c' : Addr), Room k (A.deeper (LamX.lamEnv X scope s.heap.objs.size f c')) → PE (LamX.lamCx X A outer s H E scope f c') body (t E))
    (hdb : (x == ("__debug__" : Str)) = false := by decide) (hd : (a == ("__debug__" : Str)) = false := by decide) (hcd : (a == ("__classdict__" : Str)) = false := by decide) :
    PE X (.Call (.Name x p) [.Lambda params body scope lpos] [] pos) (LamX.tLam [(P, X.env.qual ++ "<lambda>")] TT t) := by
  obtain ⟨oc, od, kV, doc, pm, an, cdv, ct, osl, rfl, lk, hcg⟩ := D.ex
  exact LamX.pe_lamcall hg hm D.kp lk hcg hb Sg hNg hva (hG cdv) TB hcode (.head _) (fun p hp _ => by rw [List.mem_singleton.mp hp]) hr L hdef hbind hbody hdb hd hcd
theorem tabs1 {H : Hp} {P : Addr} {q : Str} (h : H P = some (.tbl #[])) : LamX.Tabs [(P, q)] H := fun p hp => by
  rw [List.mem_singleton.mp hp]
  exact LamX.TabS.nil h
end FW

set_option Elab.async false
set_option linter.all false
set_option maxRecDepth 100000
set_option maxHeartbeats 4000000
/-! A lambda of one parameter, handed last to a def of the text that calls it. -/
namespace FW
open PySem PySem.Spec PyProof.Rows L2
/-- one parameter a; captured names and globals else -/
structure LamS1 (sc scope : Scope) (a : Str) : Prop where
  kind : scope.kind = .function
  co : scope.isCoroutine = false
  gen : scope.isGenerator = false
  own : ∀ y ∈ scope.names, y.2 ≠ .cell ∧ (y.2 = .local → y.1 = a)
  par : scope.names.lookup a = some .local
  free : ∀ y ∈ scope.names, y.2 = .free → sc.names.lookup y.1 = some .cell ∨ sc.names.lookup y.1 = some .free
def lamS1B (sc scope : Scope) (a : Str) : Bool :=
  decide (scope.kind = .function) && !scope.isCoroutine && !scope.isGenerator && (scope.names.all fun y => !decide (y.2 = .cell) && (!decide (y.2 = .local) || decide (y.1 = a)) && (!decide (y.2 = .free) || decide (sc.names.lookup y.1 = some .cell) || decide (sc.names.lookup y.1 = some .free))) && decide (scope.names.lookup a = some .local)
theorem lamS1_by {sc scope : Scope} {a : Str} (h : lamS1B sc scope a = true) : LamS1 sc scope a := by
  unfold lamS1B at h
  simp only [Bool.and_eq_true, Bool.or_eq_true, Bool.not_eq_true', decide_eq_true_eq, decide_eq_false_iff_not, List.all_eq_true] at h
  obtain ⟨⟨⟨⟨h1, h2⟩, h3⟩, h4⟩, h5⟩ := h
  refine ⟨h1, h2, h3, fun y hy => ⟨(h4 y hy).1.1, fun e => ?_⟩, h5, fun y hy e => ?_⟩
  · rcases (h4 y hy).1.2 with z | z
    · exact absurd e z
    · exact z
  · rcases (h4 y hy).2 with (z | z) | z
    · exact absurd e z
    · exact .inl z
    · exact .inr z
theorem LamS1.has {X : Cx} {scope : Scope} {a : Str} (L : LamS1 X.env.scope scope a) (ok : X.Ok) : ∀ y ∈ scope.names, y.2 = .free → ∃ c, X.env.cells.lookup y.1 = some c := fun y hy e => by
  rcases L.free y hy e with k | k
  · exact ok.has _ (.inl k)
  · exact ok.has _ (.inr k)
/-- the context of the lambda's body; its parameter is the last slot -/
def lamCx1 (X : Cx) (A : Around) (outer : List Env) (s : Shared) (H : Hp) (E : XK) (scope : Scope) (f c' : Addr) (a : Str) : Cx := { LamX.lamCx X A outer s H E scope f c' with N := X.N ++ [a] }
section
variable {X : Cx} {pins : List (Addr × Obj)} {σ : L2.St} {H HZ : Hp} {s s1 : Shared}
theorem lam_start3 {A : Around} {outer : List Env} {E : XK} {scope : Scope} {f c' : Addr} {a : Str} {v : V} {u : Value} {h₁ : Heap} {tk : Nat} (I : Inv X pins σ H s) (L : LamS1 X.env.scope scope a) (na : a ∉ X.N) (rv : RelV v u) (e0 : Env0 X.prog X.w X.K X.mg X.base A outer s1 HZ) (hd : A.handled = none)
    (un : Un (frs X.stack) [] H HZ s.heap s1.heap) (hns : h₁.Ns s1.heap.objs.size fun y => ([(a, u)] : List (Str × Value)).reverse.lookup y) (kp : ∀ b o, s1.heap.get? b = some o → h₁.get? b = some o) :
    Inv (lamCx1 X A outer s1 HZ E scope f c' a) [] (σ ++ [some v]) HZ { s1 with heap := h₁, toks := tk } := by
  have hfree := L.has I.ok
  have cm : ∀ {y c}, (cloFrom X.env.cells scope.names []).lookup y = some c → X.env.cells.lookup y = some c := fun {y c} e => by
    rcases cloFrom_mem (PySem.mem_of_lookup e) with hm | ⟨h1, h2⟩
    · cases hm
    · obtain ⟨c1, hc⟩ := hfree _ h1 rfl
      have hc : X.env.cells.lookup y = some c1 := hc
      have e2 : c = c1 := by
        rw [h2, hc] <;> rfl
      rw [e2]
      exact hc
  have look : ∀ {y}, scope.names.lookup y = some .free → ∃ c, (cloFrom X.env.cells scope.names []).lookup y = some c := fun {y} hl => by
    have hy : (y, NameKind.free) ∈ scope.names := PySem.mem_of_lookup hl
    exact mem_lookup (cloFrom_has (cells := X.env.cells) (acc := []) hy)
  have cellK : ∀ {c : Addr} {v : Option Value}, H c = none → s.heap.IsCell c v → h₁.IsCell c v := fun {c v} n ⟨o, ho, hd⟩ => by
    obtain ⟨sl, q⟩ := un.any ho n (by simp)
    exact ⟨_, kp _ _ q, hd⟩
  have noA : ∀ b : Addr, b ∉ (lamCx1 X A outer s1 HZ E scope f c' a).ex := fun b z => absurd (show b ∈ ([] : List Addr) from z) (by simp)
  refine ⟨⟨e0.mod, L.kind, rfl, rfl, Nat.le_refl _, fun y z c e1 e2 => I.ok.inj y z c (cm e1) (cm e2), fun y hy => ?_, fun y c z _ => ?_, fun _ => hd, Around.frames_deeper e0.frames, .inr ⟨rfl, rfl⟩, fun b z => absurd z (noA b), e0.bs, e0.bsz, fun b _ _ => noA b,
      fun b z => absurd z (noA b), e0.funs, e0.frf⟩,
    rfl, e0.bare, Un.kept kp, ⟨_, hns, fun i y v' e1 e2 e3 => ?_⟩, fun y c e => ?_, e0.hok.fresh (Nat.le_refl _), fun y c e => ?_, fun q hq => absurd (show q ∈ ([] : List (Addr × Obj)) ++ [] from hq) (by simp), e0.hok.kept kp, ?_⟩
  · have hy : scope.names.lookup y = some .cell ∨ scope.names.lookup y = some .free := hy
    rcases hy with hy | hy
    · exact absurd rfl (L.own _ (PySem.mem_of_lookup hy)).1
    · exact look hy
  · have z : false = true := z
    cases z
  · have e3 : Vis scope y := e3
    have e1 : (X.N ++ [a])[i]? = some y := e1
    have hlen := I.len
    by_cases hi : i < X.N.length
    · rw [List.getElem?_append_left hi] at e1
      rw [List.getElem?_append_left (by omega)] at e2
      have nya : y ≠ a := fun z => na (z ▸ List.mem_of_getElem? e1)
      rcases e3 with k | k | k
      · exact absurd ((L.own _ (PySem.mem_of_lookup k)).2 rfl) nya
      · exact absurd rfl (L.own _ (PySem.mem_of_lookup k)).1
      · obtain ⟨m, hn, hl⟩ := I.loc
        have hvis : Vis X.env.scope y := (L.free _ (PySem.mem_of_lookup k) rfl).elim (fun k => .inr (.inl k)) (fun k => .inr (.inr k))
        obtain ⟨w', r, q⟩ := hl i y v' e1 e2 hvis
        obtain ⟨c2, h2⟩ := look k
        refine ⟨w', r, .inr ⟨.inr k, c2, h2, ?_⟩⟩
        have c1 := cm h2
        rcases q with ⟨k', _⟩ | ⟨_, c3, e', z⟩
        · have k' : X.env.scope.names.lookup y = some .local := k'
          rcases L.free _ (PySem.mem_of_lookup k) rfl with k2 | k2 <;> rw [show X.env.scope.names.lookup y = _ from k2] at k' <;> cases k'
        · rw [c1] at e'
          cases e'
          exact cellK (I.freeC y _ c1) z
    · have hi2 : i = X.N.length := by
        have := (List.getElem?_eq_some_iff.mp e1).1
        rw [List.length_append] at this
        simp only [List.length_cons, List.length_nil] at this
        omega
      subst hi2
      rw [List.getElem?_append_right (Nat.le_refl _), Nat.sub_self] at e1
      rw [← hlen, List.getElem?_append_right (Nat.le_refl _), Nat.sub_self] at e2
      cases e1
      cases e2
      refine ⟨u, rv, .inl ⟨L.par, ?_⟩⟩
      show ([(a, u)] : List (Str × Value)).lookup a = some u
      simp [List.lookup]
  · obtain ⟨w', z⟩ := I.cell y c (cm e)
    exact ⟨w', cellK (I.freeC y c (cm e)) z⟩
  · obtain ⟨v, o, ho, hd⟩ := I.cell y c (cm e)
    exact un.free c o ho (I.freeC y c (cm e)) (by simp)
  · show (σ ++ [some v]).length = (X.N ++ [a]).length
    rw [List.length_append, List.length_append, I.len]
    rfl
/-- the context of the def g that got the lambda -/
abbrev gotCx (X : Cx) (Ng : List Str) (qg : Str) (sg : Scope) (g : Addr) (cdg : Value) (s : Shared) (H : Hp) (E : XK) : Cx := cxOf (L2.CX X.prog X.w) X.prog X.w X.K X.mg X.base Ng qg sg g cdg X.A X.stack s H E
/-- a(e) in the def that got the lambda -/
theorem pe_act1 {Eg : XK} {Ng : List Str} {qg : Str} {sg : Scope} {g f c' : Addr} {cdg pm ctv : Value} {params : Arguments} {body : Expr} {scope : Scope} {k i : Nat} {a pa : Str} {tb : TE} {p1 p2 : Pos} {e : Expr} {t : TA}
    (I : Inv X pins σ H s) (L : LamS1 X.env.scope scope pa) (na : pa ∉ X.N) (hf : s.heap.get? f = some (PySem.W.kla_obj "<lambda>" (X.env.qual ++ "<lambda>") params body scope (cloFrom X.env.cells scope.names []) pm c' ctv)) (hfn : H f = none) (hfr : f ∉ frs X.stack)
    (hbind : ∀ u : Value, bindArgs (PySem.W.kla_fn "<lambda>" (X.env.qual ++ "<lambda>") params body scope (cloFrom X.env.cells scope.names []) pm (.ref c') ctv) ⟨[u], []⟩ = pure [(pa, u)])
    (hr : Room (k + 1) (X.A.deeper (envOfC qg sg s.heap.objs.size g cdg)))
    (hbody : ∀ (A : Around) (outer : List Env) (s : Shared) (H : Hp), Room k (A.deeper (LamX.lamEnv X scope s.heap.objs.size f c')) → PE (lamCx1 X A outer s H E0 scope f c' pa) body tb)
    (hN : Ng[i]? = some a) (hv : Vis sg a) (ha : PA (gotCx X Ng qg sg g cdg s H Eg) [e] t) (hd : (a == ("__debug__" : Str)) = false := by decide) (hcd : (a == ("__classdict__" : Str)) = false := by decide)
    (he : starEach [e] (gotCx X Ng qg sg g cdg s H Eg).env = (false, eval e (gotCx X Ng qg sg g cdg s H Eg).env) :: starEach [] (gotCx X Ng qg sg g cdg s H Eg).env := by rfl) :
    PE (gotCx X Ng qg sg g cdg s H Eg) (.Call (.Name a p1) [e] [] p2)
      (fun σZ HZ Q => σZ[i]? = some (some (.ref f)) ∧ t σZ HZ fun vs H1 => ∃ v, vs = [v] ∧ H1 c' = some (LamX.CodeO c' (X.env.qual ++ "<lambda>")) ∧ tb (σ ++ [some v]) H1 Q) := by
  refine ⟨fun pinsZ sZ σZ HZ Q IZ h => ?_⟩
  obtain ⟨hs, ht⟩ := h
  refine wpAny_Call_Name_kw (thn ((pe_var (pos := p1) (i := i) hN hv hd hcd).run pinsZ sZ σZ HZ (fun v H1 => v = .ref f ∧ H1 = HZ) IZ ⟨.ref f, hs, rfl, rfl⟩) fun u s1 ⟨v, H1, I1, r1, q1⟩ => ?_)
  obtain ⟨ev, eH⟩ := q1
  subst ev
  rw [eH] at I1
  obtain rfl : u = Value.ref f := r1
  have ofA : ∀ {s2 : Shared} {σ2 : L2.St} {H2 : Hp}, Inv (gotCx X Ng qg sg g cdg s H Eg) pinsZ σ2 H2 s2 → s2.heap.get? f = some (PySem.W.kla_obj "<lambda>" (X.env.qual ++ "<lambda>") params body scope (cloFrom X.env.cells scope.names []) pm c' ctv) := fun J => J.base.keep f _ hf hfn hfr (fun z => nomatch (show f ∈ ([] : List Addr) from z))
  refine PySem.W.callWith_F ⟨_, _, _, _, ofA I1⟩ (thn (ha.run p2 pinsZ s1 σZ HZ _ I1 ht) fun us s2 ⟨vs, H2, I2, r2, v2, ev2, hc, ht2⟩ => ⟨⟨_, _, _, _, ofA I2⟩, ?_⟩) he
  subst ev2
  obtain ⟨u2, rfl, rv⟩ : ∃ u2, us = [u2] ∧ RelV v2 u2 := by
    cases r2 with
    | cons h1 h2 =>
      cases h2
      exact ⟨_, rfl, h1⟩
  have of1 := ofA I2
  have un : Un (frs X.stack) [] H H2 s.heap s2.heap := I2.base
  obtain ⟨⟨oc, vs, t, hoc, hdc, hvc⟩, _, _⟩ := I2.hok c' _ hc
  have rc : codeAny (model X.prog X.w) (X.A.deeper (envOfC qg sg s.heap.objs.size g cdg)) (.call (.ref f) ⟨[u2], []⟩) (CR (L2.CX X.prog X.w) (envOfC qg sg s.heap.objs.size g cdg :: X.stack) X.prog X.w H2 s2 Q E0) s2 := by
    refine PySem.W.kla_callFunE hr.depth of1 rfl L.co L.gen rfl ⟨c', oc, vs, t, rfl, hoc, hdc, hvc⟩ ?_
    rw [hbind]
    refine wpAny_pure (wpAny_newFunctionEnv (fun y hy => (L.own y hy).1) (fun y hy => by rw [List.mem_singleton.mp hy]; exact L.par) (fun h₁ hns hsb => ⟨I2.nolimit.fresh _ hsb, ?_⟩) L.kind)
    show codeAny _ _ (.expr body (LamX.lamEnv X scope s2.heap.objs.size f c')) _ _
    have kp : ∀ b o, s2.heap.get? b = some o → h₁.get? b = some o := fun b o e => hsb.extBut b o (Nat.ne_of_lt (Heap.lt_size e)) (Heap.get?_push_of_some _ e)
    have J : Inv (lamCx1 X (X.A.deeper (envOfC qg sg s.heap.objs.size g cdg)) (envOfC qg sg s.heap.objs.size g cdg :: X.stack) s2 H2 E0 scope f c' pa) [] (σ ++ [some v2]) H2 { s2 with heap := h₁, toks := s2.toks + ([(pa, u2)] : List (Str × Value)).length } :=
      lam_start3 I L na rv I2.env0 hr.hd un hns kp
    refine PySem.W.kla_codeExpr (wpAny_mono ((hbody _ _ s2 H2 (hr.deeper _)).run [] _ _ H2 Q J ht2) (fun v s' hq => ?_) fun e s' hq => hq)
    obtain ⟨w', H', J', rv, q⟩ := hq
    exact ⟨w', H', J'.os, J'.bare, J'.base, J'.hok, rv, q⟩
  refine wpAny_call (codeAny_mono rc fun r s' hq => ?_)
  cases r with
  | error e => exact passL pinsZ σZ H2 s2 e s' I2 hq
  | ok fl =>
    cases fl with
    | ret u => exact I2.after hq
    | next => exact False.elim hq
    | brk => exact False.elim hq
    | cont => exact False.elim hq
end
/-- the def that calls what it got last: TT: what it makes of the lambda's reading and the other arguments -/
def Gives1 (X : Cx) (k : Nat) (Ng : List Str) (x : Str) (sg : Scope) (g : Addr) (cdg : Value) (bg : List Stmt) (q : Str) (TT : (V → Hp → VK → Prop) → List V → XK → Hp → VK → Prop) : Prop :=
  ∀ (f c' : Addr) (s : Shared) (H : Hp) (Q : VK) (E : XK) (vs : List V) (tl : V → Hp → VK → Prop), Room k (X.A.deeper (envOfC x sg s.heap.objs.size g cdg)) →
    (∀ (i : Nat) (a : Str) (p1 p2 : Pos) (e : Expr) (t : TA), Ng[i]? = some a → Vis sg a → PA (gotCx X Ng x sg g cdg s H E) [e] t → (a == ("__debug__" : Str)) = false → (a == ("__classdict__" : Str)) = false →
      starEach [e] (gotCx X Ng x sg g cdg s H E).env = (false, eval e (gotCx X Ng x sg g cdg s H E).env) :: starEach [] (gotCx X Ng x sg g cdg s H E).env →
      PE (gotCx X Ng x sg g cdg s H E) (.Call (.Name a p1) [e] [] p2) (fun σZ HZ Q => σZ[i]? = some (some (.ref f)) ∧ t σZ HZ fun vs H1 => ∃ v, vs = [v] ∧ H1 c' = some (LamX.CodeO c' q) ∧ tl v H1 Q)) →
    H c' = some (LamX.CodeO c' q) → TT tl vs E H Q →
    ∃ t, PSs (gotCx X Ng x sg g cdg s H E) bg t ∧ t { nx := fun _ H' => Q .non H', rt := Q } (L2.start Ng (vs ++ [.ref f])) H
/-- x(e1, e2, e3, lambda pa: body), x a def of the text that may raise -/
def tLam1 (T : List (Addr × Str)) (TT : (V → Hp → VK → Prop) → List V → XK → Hp → VK → Prop) (E : XK) (ta : TA) (t : TE) : TE := fun σ H Q => ta σ H fun vs H0 => LamX.Tabs T H0 ∧ ∀ H1, LamX.ExtN H0 H1 → LamX.Tabs T H1 → TT (fun v H' Q' => t (σ ++ [some v]) H' Q') vs E H1 Q
theorem w_lam1 {T : List (Addr × Str)} {TT : (V → Hp → VK → Prop) → List V → XK → Hp → VK → Prop} {E : XK} {ta : TA} {t : TE} {σ : L2.St} {H : Hp} {Q : VK} (h : ta σ H fun vs H0 => LamX.Tabs T H0 ∧ ∀ H1, LamX.ExtN H0 H1 → LamX.Tabs T H1 → TT (fun v H' Q' => t (σ ++ [some v]) H' Q') vs E H1 Q) : tLam1 T TT E ta t σ H Q := h
theorem pe_lam3 {X : Cx} (T : List (Addr × Str)) {TT : (V → Hp → VK → Prop) → List V → XK → Hp → VK → Prop} {x pa : Str} {g c P : Addr} {k : Nat} {st : Stmt} {fd : FuncData} {Ng ps : List Str} {params : Arguments} {body : Expr} {scope : Scope} {t t1 t2 t3 : TE} {E : XK} {p lpos pos : Pos} {e1 e2 e3 : Expr} (D : L2.Fun X.K x x st g fd) (hb : L2.Binds X.K fd ps []) (hm : X.mg x = some (.ref g)) (hg : Gl X x) (hps : ps.length = 4) (Sg : FnScope Ng ps (defScope st))
    (h1 : PE X e1 t1) (h2 : PE X e2 t2) (h3 : PE X e3 t3)
    (hG : ∀ cdg, Gives1 X (k + 1) Ng x (defScope st) g cdg (defBody st) (X.env.qual ++ "<lambda>") TT) (TB : LamX.TabB X.base X.mg c P) (hcode : X.env.code = .ref c) (hmT : (P, X.env.qual ++ "<lambda>") ∈ T) (hu : ∀ p ∈ T, p.1 = P → p.2 = X.env.qual ++ "<lambda>") (hr : Room (k + 2) X.A) (L : LamS1 X.env.scope scope pa) (na : pa ∉ X.N) (hdef : defaultsOf params X.env = ([], []))
    (hbind : ∀ (q : Str) (cl : List (Str × Addr)) (pm cv ctv u : Value), bindArgs (PySem.W.kla_fn "<lambda>" q params body scope cl pm cv ctv) ⟨[u], []⟩ = pure [(pa, u)])
    (hbody : ∀ (A : Around) (outer : List Env) (s : Shared) (H : Hp) (f c' : Addr), Room k (A.deeper (LamX.lamEnv X scope s.heap.objs.size f c')) → PE (lamCx1 X A outer s H E0 scope f c' pa) body t) (hx : Passes (L2.CX X.prog X.w) X E)
    (hdb : (x == ("__debug__" : Str)) = false := by decide)
    (s1 : starEach (e1 :: [e2, e3, .Lambda params body scope lpos]) X.env = (false, eval e1 X.env) :: starEach [e2, e3, .Lambda params body scope lpos] X.env := by rfl)
    (s2 : starEach (e2 :: [e3, .Lambda params body scope lpos]) X.env = (false, eval e2 X.env) :: starEach [e3, .Lambda params body scope lpos] X.env := by rfl)
    (s3 : starEach (e3 :: [.Lambda params body scope lpos]) X.env = (false, eval e3 X.env) :: starEach [.Lambda params body scope lpos] X.env := by rfl)
    (hpl : (backTo pos (starEach [e2, e3, .Lambda params body scope lpos] X.env)).any (·.1) = false := by rfl) :
    PE X (.Call (.Name x p) [e1, e2, e3, .Lambda params body scope lpos] [] pos) (tLam1 T TT E (tCons t1 (tCons t2 (tCons t3 tNil))) t) := by
  obtain ⟨oc, od, kV, doc, pm, an, cdv, ct, osl, rfl, lk, hcg⟩ := D.ex
  refine ⟨fun pins s σ H Q I h => ?_⟩
  refine wpAny_Call_Name_kw (ld_glob I hg hm ?_ hdb)
  refine PySem.W.callWith_K (h₀ := X.base) I.ok.mod.kin D.kp ?_ s1 hpl
  rw [s1]
  show wpAny _ _ (spliced ((false, eval e1 X.env) :: backTo pos (starEach [e2, e3, .Lambda params body scope lpos] X.env))) _ _ s
  refine Calls.spliced_cons (thn (h1.run pins s σ H _ I h) fun u1 r1 ⟨x1, H1, I1, rv1, q1⟩ => ?_)
  rw [s2]
  show wpAny _ _ (spliced ((false, eval e2 X.env) :: backTo pos (starEach [e3, .Lambda params body scope lpos] X.env))) _ _ r1
  refine Calls.spliced_cons (thn (h2.run pins r1 σ H1 _ I1 q1) fun u2 r2 ⟨x2, H2, I2, rv2, q2⟩ => ?_)
  rw [s3]
  show wpAny _ _ (spliced ((false, eval e3 X.env) :: backTo pos (starEach [.Lambda params body scope lpos] X.env))) _ _ r2
  refine Calls.spliced_cons (thn (h3.run pins r2 σ H2 _ I2 q2) fun u3 r3 ⟨x3, H3, I3, rv3, q3⟩ => ?_)
  obtain ⟨hT, q4⟩ := q3
  show wpAny _ _ (spliced ((false, eval (.Lambda params body scope lpos) X.env) :: backTo pos (starEach [] X.env))) _ _ r3
  refine Calls.spliced_cons (LamX.lam_make2 I3 TB hcode hmT hu hT hdef (L.has I3.ok) fun f c' pm' ctv H4 r4 I4 eN T4 hf hfn hfr hco => ?_)
  refine Calls.spliced_nil ⟨I4.kIn, ?_⟩
  have rc : codeAny (model X.prog X.w) X.A (.call (.ref g) ⟨[u1, u2, u3, .ref f], []⟩) (CR (L2.CX X.prog X.w) X.stack X.prog X.w H4 r4 Q E) r4 := by
    refine LamX.run_ofS (N := Ng) (ps := ps) (us := [u1, u2, u3, .ref f]) (vs := [x1, x2, x3, .ref f]) lk hcg Sg hr I4.env0 (hb r4 [u1, u2, u3, .ref f] I4.kIn (by simpa using hps.symm)) (.cons rv1 (.cons rv2 (.cons rv3 (.cons rfl .nil)))) (by simpa using hps.symm) fun hr' => ?_
    exact hG cdv f c' r4 H4 Q E [x1, x2, x3] (fun v H' Q' => t (σ ++ [some v]) H' Q') hr' (fun i a p1 p2 e t' hNi hvi ha hd hcd he => pe_act1 (i := i) I4 L na hf hfn hfr (fun u => hbind _ _ _ _ _ u) hr' (fun A outer s H hr2 => hbody A outer s H f c' hr2) hNi hvi ha hd hcd he) hco (q4 H4 eN T4)
  refine wpAny_call (codeAny_mono rc fun r s5 hq => ?_)
  cases r with
  | error e => exact hx pins σ H4 r4 e s5 I4 hq
  | ok fl =>
    cases fl with
    | ret u => exact I4.after hq
    | next => exact False.elim hq
    | brk => exact False.elim hq
    | cont => exact False.elim hq
section
variable {P : Program} {w : World} {K : PySem.W.Frag} {mg : Str → Option Value} {base : Heap}
/-- as Fun.okX, with the def's code object told -/
theorem _root_.L2.Fun.okXT {x qual : Str} {st : Stmt} {f : Addr} {fd : FuncData} {N ps : List Str} {k : Nat} {sp : Sp} (F : L2.Fun K x qual st f fd) (S : FnScope N ps (defScope st)) (len : ∀ vs H Q E, sp vs H Q E → vs.length = ps.length)
    (hbody : ∀ (cdv : Value) (A : Around) (outer : List Env) (s : Shared) (H : Hp) (vs : List V) (Q : VK) (E : XK), fd.code = cdv → Room k (A.deeper (envOfC qual (defScope st) s.heap.objs.size f cdv)) → sp vs H Q E →
      ∃ t, PSs (cxOf (L2.CX P w) P w K mg base N qual (defScope st) f cdv A outer s H E) (defBody st) t ∧ t { nx := fun _ H' => Q .non H', rt := Q } (start N vs) H) : FnOk P w K mg base (L2.CX P w) (k + 1) f fd ps sp := by
  obtain ⟨oc, od, kV, doc, pm, an, cdv, ct, osl, rfl, lk, hcd⟩ := F.ex
  exact fn_of lk hcd S len fun A outer s H vs Q E hr hsp => hbody cdv A outer s H vs Q E rfl hr hsp
end
end FW

set_option Elab.async false
set_option linter.all false
set_option maxRecDepth 100000
set_option maxHeartbeats 4000000
/-! dict(t) of a tuple of pairs. -/
namespace FW
open PySem PySem.Spec PyProof.Rows L2
/-- dict(t): t a tuple of pairs of a key and a thing -/
def rDictT (K : PySem.W.Frag) : List V → Hp → VK → Prop := fun xs H Q => ∃ (a : Addr) (ps : List Addr) (kvs : List (Key × V)), xs = [.ref a] ∧ SqT K H a (ps.map V.ref) ∧ Paired (fun p kv => SqT K H p [kV kv.1, kv.2]) ps kvs ∧ ∀ p, H p = none → Q (.ref p) (upd H p (.dK (mergeK [] kvs)))
theorem isTup_pairAt {h : Heap} {b : Addr} {u v : Value} (t : IsTup h b #[u, v]) : PySem.PairAt h b u v := by
  obtain ⟨o, h1, h2, n, h3⟩ := t
  exact .inl ⟨o, h1, h2, n, h3⟩
theorem pick_list {α β : Type} (R : Nat → α → β → Prop) : ∀ l : List α, (∀ j x, l[j]? = some x → ∃ y, R j x y) → ∃ m : List β, m.length = l.length ∧ ∀ j x y, l[j]? = some x → m[j]? = some y → R j x y := fun l => by
  induction l generalizing R with
  | nil => exact fun _ => ⟨[], rfl, fun j x y e => by cases e⟩
  | cons z l ih =>
    intro h
    obtain ⟨y0, h0⟩ := h 0 z rfl
    obtain ⟨m, ml, hm⟩ := ih (fun j => R (j + 1)) fun j x e => h (j + 1) x e
    refine ⟨y0 :: m, by rw [List.length_cons, List.length_cons, ml], fun j x y e1 e2 => ?_⟩
    cases j with
    | zero =>
      cases e1
      cases e2
      exact h0
    | succ j => exact hm j x y e1 e2
/-- tuple(l) of a list: the new object has no dict -/
def rTupF (K : PySem.W.Frag) : List V → Hp → VK → Prop := fun xs H Q => ∃ p ys, xs = [.ref p] ∧ SqL K H p ys ∧ ∀ (l : Addr) (o : Obj), H l = none → o.dict = none → Q (.ref l) (upd H l (.frz o (.tup ys)))
/-- dict(t): t a tuple of pairs of a key and a thing -/
def rDictF (K : PySem.W.Frag) : List V → Hp → VK → Prop := fun xs H Q => ∃ (a : Addr) (ps : List Addr) (kvs : List (Key × V)), xs = [.ref a] ∧ TupD H a (ps.map V.ref) ∧ Paired (fun p kv => SqT K H p [kV kv.1, kv.2]) ps kvs ∧ ∀ p, H p = none → Q (.ref p) (upd H p (.dK (mergeK [] kvs)))
/-- () : the new object has no dict -/
def tTup0F : TE := fun _ H Q => ∀ (l : Addr) (o : Obj), H l = none → o.dict = none → Q (.ref l) (upd H l (.frz o (.tup [])))
/-- what is caught is of one of two classes -/
def tGuard2 (P P2 : Prop) (t t2 : TS) : TS := fun D σ H => (P ∧ t D σ H) ∨ (P2 ∧ t2 D σ H)
end FW

set_option Elab.async false
set_option linter.all false
set_option maxRecDepth 100000
set_option maxHeartbeats 4000000
/-! dict(l) of a list of pairs. -/
namespace FW
open PySem PySem.Spec PyProof.Rows L2
/-- dict(l): l a list of pairs of a key and a thing -/
def rDictL (K : PySem.W.Frag) : List V → Hp → VK → Prop := fun xs H Q => ∃ (a : Addr) (ps : List Addr) (kvs : List (Key × V)), xs = [.ref a] ∧ SqL K H a (ps.map V.ref) ∧ Paired (fun p kv => SqT K H p [kV kv.1, kv.2]) ps kvs ∧ ∀ p, H p = none → Q (.ref p) (upd H p (.dK (mergeK [] kvs)))
theorem c_dictL {X : Cx} (hcalm : X.calm = true) : CallR X (.type "dict") (rDictL X.K) := by
  intro pins s σ H xs us Q I r q
  obtain ⟨a, ps, kvs, rfl, hq, hp, q⟩ := q
  obtain ⟨u, rfl, rx⟩ := vals1 r
  cases rx
  obtain ⟨its, rv, pl, hz⟩ := I.list hq
  obtain rfl := refs_at rv
  rw [List.length_map] at hz
  obtain ⟨prs, rel, hl, hpr⟩ := pairs_of I hp
  obtain ⟨vals, vl, hv⟩ := pick_list (fun j (q : Key × Value) (u : Value) => ∃ b, ps[j]? = some b ∧ IsTup s.heap b #[u, q.2] ∧ keyIs q.1 u = true) prs fun j q e => by
    obtain ⟨b, u, h1, h2, h3⟩ := hpr j q e
    exact ⟨u, b, h1, h2, h3⟩
  have zl : ((vals.zip prs).map fun z => (z.1, z.2.2)).length = ps.length := by
    rw [List.length_map, List.length_zip, vl, Nat.min_self, hl]
  have zat : ∀ (j : Nat) (k v : Value), ((vals.zip prs).map fun z => (z.1, z.2.2))[j]? = some (k, v) → ∃ q b, prs[j]? = some q ∧ q.2 = v ∧ ps[j]? = some b ∧ IsTup s.heap b #[k, v] ∧ keyIs q.1 k = true := fun j k v e => by
    rw [List.getElem?_map] at e
    obtain ⟨z, hz1, hz2⟩ := Option.map_eq_some_iff.mp e
    obtain ⟨e1, e2⟩ := List.getElem?_zip_eq_some.mp hz1
    have ek : z.1 = k := congrArg Prod.fst hz2
    have ev : z.2.2 = v := congrArg Prod.snd hz2
    obtain ⟨b, g1, g2, g3⟩ := hv j z.2 z.1 e2 e1
    rw [ek] at g2 g3
    rw [ev] at g2
    exact ⟨z.2, b, e2, ev, g1, g2, g3⟩
  refine PySem.call_dict_pairs (knd := mixKind X.prog X.w) (kvs := prs) (PySem.PairArg.list a (ps.map Value.ref).toArray (fun j => ps.getD j 0) ((vals.zip prs).map fun z => (z.1, z.2.2))) (I.ok.hd hcalm) ⟨pl, ?_, ?_⟩ ⟨by rw [zl, hl], fun j k v e => ?_⟩ (by rw [zl]; exact hz) fun h' tk hd' k => ?_
  · rw [zl]
    simp
  · intro j k v e
    obtain ⟨q, b, _, _, g1, g2, _⟩ := zat j k v e
    have eb : ps.getD j 0 = b := by rw [List.getD_eq_getElem?_getD, g1]; rfl
    refine ⟨by simp [g1], ?_⟩
    show PySem.PairAt s.heap (ps.getD j 0) k v
    rw [eb]
    exact isTup_pairAt g2
  · obtain ⟨q, b, g1, g2, _, _, g3⟩ := zat j k v e
    subst g2
    exact ⟨q.1, g1, g3⟩
  · have hm : (s.heap.objs.size == sysModules) = false := beq_eq_false_iff_ne.mpr (Nat.ne_of_gt I.big)
    have few : (mergeK [] kvs).length ≤ sizeLine := by
      refine Nat.le_trans (length_mergeK kvs []) ?_
      rw [List.length_nil, Nat.zero_add, rel.length, hl]
      exact hz
    refine ⟨.ref s.heap.objs.size, upd H s.heap.objs.size (.dK (mergeK [] kvs)), I.laid (t' := tk) (fun b u e => k b u (by simp) e) (Nat.le_refl _) (show ObjOk X.prog X.w _ _ _ (.dK (mergeK [] kvs)) from ⟨few, hm, merged [] prs, KV.merge rel .nil, hd'⟩), rfl, q _ (I.hok.fresh (Nat.le_refl _))⟩
end FW

set_option Elab.async false
set_option linter.all false
set_option maxRecDepth 100000
set_option maxHeartbeats 4000000
namespace FW
open PySem L2
def top (i : Nat) : Stmt := PySem.Challenge.pw_fewasks_k61_whole_what_lacks.main.body.getD i (.Pass ⟨0, 0, 0, 0⟩)
abbrev s_NoName___init__ : Stmt := inClass (top 4) 0
abbrev N_NoName___init__ : List Str := ["self", "name"]
theorem sc_NoName___init__ : FnScope N_NoName___init__ ["self", "name"] (defScope s_NoName___init__) := ⟨rfl, rfl, rfl, by decide +kernel, rfl, by decide +kernel, by decide +kernel⟩
abbrev s_Lack___init__ : Stmt := inClass (top 6) 0
abbrev N_Lack___init__ : List Str := ["self", "name"]
theorem sc_Lack___init__ : FnScope N_Lack___init__ ["self", "name"] (defScope s_Lack___init__) := ⟨rfl, rfl, rfl, by decide +kernel, rfl, by decide +kernel, by decide +kernel⟩
abbrev s_NoPath___init__ : Stmt := inClass (top 7) 0
abbrev N_NoPath___init__ : List Str := ["self", "path"]
theorem sc_NoPath___init__ : FnScope N_NoPath___init__ ["self", "path"] (defScope s_NoPath___init__) := ⟨rfl, rfl, rfl, by decide +kernel, rfl, by decide +kernel, by decide +kernel⟩
abbrev s_is_int : Stmt := top 11
abbrev N_is_int : List Str := ["thing", "least"]
theorem sc_is_int : FnScope N_is_int ["thing", "least"] (defScope s_is_int) := ⟨rfl, rfl, rfl, by decide +kernel, rfl, by decide +kernel, by decide +kernel⟩
abbrev s_is_text : Stmt := top 12
abbrev N_is_text : List Str := ["thing", "most", "sign"]
theorem sc_is_text : FnScope N_is_text ["thing", "most"] (defScope s_is_text) := ⟨rfl, rfl, rfl, by decide +kernel, rfl, by decide +kernel, by decide +kernel⟩
abbrev s_is_label : Stmt := top 13
abbrev N_is_label : List Str := ["thing", "sign"]
theorem sc_is_label : FnScope N_is_label ["thing"] (defScope s_is_label) := ⟨rfl, rfl, rfl, by decide +kernel, rfl, by decide +kernel, by decide +kernel⟩
abbrev s_rise : Stmt := top 14
abbrev N_rise : List Str := ["row", "k"]
theorem sc_rise : FnScope N_rise ["row"] (defScope s_rise) := ⟨rfl, rfl, rfl, by decide +kernel, rfl, by decide +kernel, by decide +kernel⟩
abbrev s_are_ints : Stmt := top 15
abbrev N_are_ints : List Str := ["thing", "part"]
theorem sc_are_ints : FnScope N_are_ints ["thing"] (defScope s_are_ints) := ⟨rfl, rfl, rfl, by decide +kernel, rfl, by decide +kernel, by decide +kernel⟩
abbrev s_rising_ints : Stmt := top 16
abbrev N_rising_ints : List Str := ["thing"]
theorem sc_rising_ints : FnScope N_rising_ints ["thing"] (defScope s_rising_ints) := ⟨rfl, rfl, rfl, by decide +kernel, rfl, by decide +kernel, by decide +kernel⟩
abbrev s_is_pair : Stmt := top 17
abbrev N_is_pair : List Str := ["thing"]
theorem sc_is_pair : FnScope N_is_pair ["thing"] (defScope s_is_pair) := ⟨rfl, rfl, rfl, by decide +kernel, rfl, by decide +kernel, by decide +kernel⟩
abbrev s_are_rows : Stmt := top 18
abbrev N_are_rows : List Str := ["thing", "row"]
theorem sc_are_rows : FnScope N_are_rows ["thing"] (defScope s_are_rows) := ⟨rfl, rfl, rfl, by decide +kernel, rfl, by decide +kernel, by decide +kernel⟩
abbrev s_look : Stmt := top 20
abbrev N_look : List Str := ["book", "names", "name"]
theorem sc_look : FnScope N_look ["book", "names"] (defScope s_look) := ⟨rfl, rfl, rfl, by decide +kernel, rfl, by decide +kernel, by decide +kernel⟩
abbrev s_chosen : Stmt := top 22
abbrev N_chosen : List Str := ["book", "root", "under", "label", "name"]
theorem sc_chosen : FnScope N_chosen ["book", "root", "under"] (defScope s_chosen) := ⟨rfl, rfl, rfl, by decide +kernel, rfl, by decide +kernel, by decide +kernel⟩
abbrev s_tops : Stmt := top 23
abbrev N_tops : List Str := ["view", "versions", "name"]
theorem sc_tops : FnScope N_tops ["view", "versions"] (defScope s_tops) := ⟨rfl, rfl, rfl, by decide +kernel, rfl, by decide +kernel, by decide +kernel⟩
abbrev s_entered : Stmt := top 24
abbrev N_entered : List Str := ["view", "versions", "under", "by", "rows", "version", "root", "name", "tree", "part"]
theorem sc_entered : FnScope N_entered ["view", "versions", "under"] (defScope s_entered) := ⟨rfl, rfl, rfl, by decide +kernel, rfl, by decide +kernel, by decide +kernel⟩
abbrev s_reasons : Stmt := top 25
abbrev N_reasons : List Str := ["view", "versions", "under", "by", "rows", "version", "root", "name"]
theorem sc_reasons : FnScope N_reasons ["view", "versions", "under"] (defScope s_reasons) := ⟨rfl, rfl, rfl, by decide +kernel, rfl, by decide +kernel, by decide +kernel⟩
abbrev s_wanted : Stmt := top 26
abbrev N_wanted : List Str := ["view", "versions", "under", "names", "held", "name", "whole", "by"]
theorem sc_wanted : FnScope N_wanted ["view", "versions", "under"] (defScope s_wanted) := ⟨rfl, rfl, rfl, by decide +kernel, rfl, by decide +kernel, by decide +kernel⟩
abbrev s_entry : Stmt := top 28
abbrev N_entry : List Str := ["content", "label", "word", "name"]
theorem sc_entry : FnScope N_entry ["content", "label"] (defScope s_entry) := ⟨rfl, rfl, rfl, by decide +kernel, rfl, by decide +kernel, by decide +kernel⟩
abbrev s_come_to : Stmt := top 29
abbrev N_come_to : List Str := ["book", "version", "path", "absent", "name", "one", "number", "label", "word", "things", "part"]
theorem sc_come_to : FnScope N_come_to ["book", "version", "path", "absent"] (defScope s_come_to) := ⟨rfl, rfl, rfl, by decide +kernel, rfl, by decide +kernel, by decide +kernel⟩
abbrev s_read : Stmt := top 30
abbrev N_read : List Str := ["view", "version", "path"]
theorem sc_read : FnScope N_read ["view", "version", "path"] (defScope s_read) := ⟨rfl, rfl, rfl, by decide +kernel, rfl, by decide +kernel, by decide +kernel⟩
abbrev s_go_down : Stmt := top 31
abbrev N_go_down : List Str := ["view", "name", "path", "found", "label", "part"]
theorem sc_go_down : FnScope N_go_down ["view", "name", "path", "found"] (defScope s_go_down) := ⟨rfl, rfl, rfl, by decide +kernel, rfl, by decide +kernel, by decide +kernel⟩
abbrev s_lacks : Stmt := top 32
abbrev N_lacks : List Str := ["view", "version", "under", "book", "root", "found", "names", "label", "part", "name"]
theorem sc_lacks : FnScope N_lacks ["view", "version", "under"] (defScope s_lacks) := ⟨rfl, rfl, rfl, by decide +kernel, rfl, by decide +kernel, by decide +kernel⟩
abbrev s_Book___init__ : Stmt := inClass (top 36) 0
abbrev N_Book___init__ : List Str := ["self"]
theorem sc_Book___init__ : FnScope N_Book___init__ ["self"] (defScope s_Book___init__) := ⟨rfl, rfl, rfl, by decide +kernel, rfl, by decide +kernel, by decide +kernel⟩
abbrev s_Book_named : Stmt := inClass (top 36) 2
abbrev N_Book_named : List Str := ["self", "content"]
theorem sc_Book_named : FnScope N_Book_named ["self", "content"] (defScope s_Book_named) := ⟨rfl, rfl, rfl, by decide +kernel, rfl, by decide +kernel, by decide +kernel⟩
abbrev s_Book_thing : Stmt := inClass (top 36) 4
abbrev N_Book_thing : List Str := ["self", "name"]
theorem sc_Book_thing : FnScope N_Book_thing ["self", "name"] (defScope s_Book_thing) := ⟨rfl, rfl, rfl, by decide +kernel, rfl, by decide +kernel, by decide +kernel⟩
abbrev s_Book_kind : Stmt := inClass (top 36) 5
abbrev N_Book_kind : List Str := ["self", "name"]
theorem sc_Book_kind : FnScope N_Book_kind ["self", "name"] (defScope s_Book_kind) := ⟨rfl, rfl, rfl, by decide +kernel, rfl, by decide +kernel, by decide +kernel⟩
abbrev s_Book_parts : Stmt := inClass (top 36) 6
abbrev N_Book_parts : List Str := ["self", "name", "content", "label", "part"]
theorem sc_Book_parts : FnScope N_Book_parts ["self", "name"] (defScope s_Book_parts) := ⟨rfl, rfl, rfl, by decide +kernel, rfl, by decide +kernel, by decide +kernel⟩
abbrev s_is_name : Stmt := top 37
abbrev N_is_name : List Str := ["book", "thing"]
theorem sc_is_name : FnScope N_is_name ["book", "thing"] (defScope s_is_name) := ⟨rfl, rfl, rfl, by decide +kernel, rfl, by decide +kernel, by decide +kernel⟩
abbrev s_is_kind : Stmt := top 38
abbrev N_is_kind : List Str := ["book", "thing", "kind"]
theorem sc_is_kind : FnScope N_is_kind ["book", "thing", "kind"] (defScope s_is_kind) := ⟨rfl, rfl, rfl, by decide +kernel, rfl, by decide +kernel, by decide +kernel⟩
abbrev s_is_entry : Stmt := top 39
abbrev N_is_entry : List Str := ["book", "thing"]
theorem sc_is_entry : FnScope N_is_entry ["book", "thing"] (defScope s_is_entry) := ⟨rfl, rfl, rfl, by decide +kernel, rfl, by decide +kernel, by decide +kernel⟩
abbrev s_is_tree : Stmt := top 40
abbrev N_is_tree : List Str := ["book", "entries", "entry"]
theorem sc_is_tree : FnScope N_is_tree ["book", "entries"] (defScope s_is_tree) := ⟨rfl, rfl, rfl, by decide +kernel, rfl, by decide +kernel, by decide +kernel⟩
abbrev s_depth_of : Stmt := top 41
abbrev N_depth_of : List Str := ["book", "content", "label", "name"]
theorem sc_depth_of : FnScope N_depth_of ["book", "content"] (defScope s_depth_of) := ⟨rfl, rfl, rfl, by decide +kernel, rfl, by decide +kernel, by decide +kernel⟩
abbrev s_is_version : Stmt := top 42
abbrev N_is_version : List Str := ["book", "content", "parents", "parent"]
theorem sc_is_version : FnScope N_is_version ["book", "content"] (defScope s_is_version) := ⟨rfl, rfl, rfl, by decide +kernel, rfl, by decide +kernel, by decide +kernel⟩
abbrev s_is_content : Stmt := top 43
abbrev N_is_content : List Str := ["book", "thing"]
theorem sc_is_content : FnScope N_is_content ["book", "thing"] (defScope s_is_content) := ⟨rfl, rfl, rfl, by decide +kernel, rfl, by decide +kernel, by decide +kernel⟩
abbrev s_Holding___init__ : Stmt := inClass (top 45) 0
abbrev N_Holding___init__ : List Str := ["self", "book", "names", "name"]
theorem sc_Holding___init__ : FnScope N_Holding___init__ ["self", "book", "names"] (defScope s_Holding___init__) := ⟨rfl, rfl, rfl, by decide +kernel, rfl, by decide +kernel, by decide +kernel⟩
abbrev s_Holding_holds : Stmt := inClass (top 45) 4
abbrev N_Holding_holds : List Str := ["self", "name"]
theorem sc_Holding_holds : FnScope N_Holding_holds ["self", "name"] (defScope s_Holding_holds) := ⟨rfl, rfl, rfl, by decide +kernel, rfl, by decide +kernel, by decide +kernel⟩
abbrev s_Holding_names : Stmt := inClass (top 45) 5
abbrev N_Holding_names : List Str := ["self"]
theorem sc_Holding_names : FnScope N_Holding_names ["self"] (defScope s_Holding_names) := ⟨rfl, rfl, rfl, by decide +kernel, rfl, by decide +kernel, by decide +kernel⟩
abbrev s_law_deck : Stmt := top 47
abbrev N_law_deck : List Str := ["_law_script"]
theorem sc_law_deck : FnScope N_law_deck ["_law_script"] (defScope s_law_deck) := ⟨rfl, rfl, rfl, by decide +kernel, rfl, by decide +kernel, by decide +kernel⟩
abbrev s_law_mixed : Stmt := top 48
abbrev N_law_mixed : List Str := ["_law_cell", "_law_turn"]
theorem sc_law_mixed : FnScope N_law_mixed ["_law_cell", "_law_turn"] (defScope s_law_mixed) := ⟨rfl, rfl, rfl, by decide +kernel, rfl, by decide +kernel, by decide +kernel⟩
abbrev s_law_draw : Stmt := top 49
abbrev N_law_draw : List Str := ["_law_deck_here", "_law_many", "_law_cells", "_law_found", "_law_number"]
theorem sc_law_draw : FnScope N_law_draw ["_law_deck_here", "_law_many"] (defScope s_law_draw) := ⟨rfl, rfl, rfl, by decide +kernel, rfl, by decide +kernel, by decide +kernel⟩
abbrev s_law_text : Stmt := top 50
abbrev N_law_text : List Str := ["_law_deck_here", "_law_size", "_law_signs", "_law_k"]
theorem sc_law_text : FnScope N_law_text ["_law_deck_here", "_law_size"] (defScope s_law_text) := ⟨rfl, rfl, rfl, by decide +kernel, rfl, by decide +kernel, by decide +kernel⟩
abbrev s_law_label : Stmt := top 51
abbrev N_law_label : List Str := ["_law_deck_here", "_law_letters", "_law_k"]
theorem sc_law_label : FnScope N_law_label ["_law_deck_here"] (defScope s_law_label) := ⟨rfl, rfl, rfl, by decide +kernel, rfl, by decide +kernel, by decide +kernel⟩
abbrev s_law_give : Stmt := top 52
abbrev N_law_give : List Str := ["_law_things", "_law_content"]
theorem sc_law_give : FnScope N_law_give ["_law_things", "_law_content"] (defScope s_law_give) := ⟨rfl, rfl, rfl, by decide +kernel, rfl, by decide +kernel, by decide +kernel⟩
abbrev s_law_rows : Stmt := top 53
abbrev N_law_rows : List Str := ["_law_deck_here", "_law_elder", "_law_rows_here", "_law_k"]
theorem sc_law_rows : FnScope N_law_rows ["_law_deck_here", "_law_elder"] (defScope s_law_rows) := ⟨rfl, rfl, rfl, by decide +kernel, rfl, by decide +kernel, by decide +kernel⟩
abbrev s_law_entries : Stmt := top 54
abbrev N_law_entries : List Str := ["_law_deck_here", "_law_lows", "_law_entries_here", "_law_k"]
theorem sc_law_entries : FnScope N_law_entries ["_law_deck_here", "_law_lows"] (defScope s_law_entries) := ⟨rfl, rfl, rfl, by decide +kernel, rfl, by decide +kernel, by decide +kernel⟩
abbrev s_law_some : Stmt := top 55
abbrev N_law_some : List Str := ["_law_deck_here", "_law_names", "_law_count", "_law_some_here", "_law_k"]
theorem sc_law_some : FnScope N_law_some ["_law_deck_here", "_law_names", "_law_count"] (defScope s_law_some) := ⟨rfl, rfl, rfl, by decide +kernel, rfl, by decide +kernel, by decide +kernel⟩
abbrev s_law_family : Stmt := top 56
abbrev N_law_family : List Str := ["_law_deck_here", "_law_leaves", "_law_trees", "_law_versions_here", "_law_things", "_law_rows_here", "_law_lows", "_law_k", "_law_roots", "_law_stands", "_law_parents", "_law_root"]
theorem sc_law_family : FnScope N_law_family ["_law_deck_here", "_law_leaves", "_law_trees", "_law_versions_here"] (defScope s_law_family) := ⟨rfl, rfl, rfl, by decide +kernel, rfl, by decide +kernel, by decide +kernel⟩
abbrev s_law_parts : Stmt := top 57
abbrev N_law_parts : List Str := ["_law_content", "_law_label_here", "_law_name"]
theorem sc_law_parts : FnScope N_law_parts ["_law_content"] (defScope s_law_parts) := ⟨rfl, rfl, rfl, by decide +kernel, rfl, by decide +kernel, by decide +kernel⟩
abbrev s_law_under : Stmt := top 58
abbrev N_law_under : List Str := ["_law_things", "_law_starts", "_law_found", "_law_left", "_law_name"]
theorem sc_law_under : FnScope N_law_under ["_law_things", "_law_starts"] (defScope s_law_under) := ⟨rfl, rfl, rfl, by decide +kernel, rfl, by decide +kernel, by decide +kernel⟩
abbrev s_law_held : Stmt := top 59
abbrev N_law_held : List Str := ["_law_deck_here", "_law_things", "_law_names", "_law_pick", "_law_gone", "_law_heads", "_law_held_here", "_law_top", "_law_name", "_law_k"]
theorem sc_law_held : FnScope N_law_held ["_law_deck_here", "_law_things"] (defScope s_law_held) := ⟨rfl, rfl, rfl, by decide +kernel, rfl, by decide +kernel, by decide +kernel⟩
abbrev s_law_book : Stmt := top 60
abbrev N_law_book : List Str := ["_law_things", "_law_book_here", "_law_content"]
theorem sc_law_book : FnScope N_law_book ["_law_things"] (defScope s_law_book) := ⟨rfl, rfl, rfl, by decide +kernel, rfl, by decide +kernel, by decide +kernel⟩
abbrev s_law_tall : Stmt := top 62
abbrev N_law_tall : List Str := ["_law_deck_here", "_law_things", "_law_k", "_law_entries_here", "_law_parents"]
theorem sc_law_tall : FnScope N_law_tall ["_law_deck_here"] (defScope s_law_tall) := ⟨rfl, rfl, rfl, by decide +kernel, rfl, by decide +kernel, by decide +kernel⟩
abbrev s_law_long : Stmt := top 63
abbrev N_law_long : List Str := ["_law_deck_here", "_law_things", "_law_k", "_law_parents"]
abbrev s_law_thick : Stmt := top 64
abbrev N_law_thick : List Str := ["_law_deck_here", "_law_things", "_law_k", "_law_many", "_law_entries_here", "_law_at", "_law_label_here"]
theorem sc_law_thick : FnScope N_law_thick ["_law_deck_here"] (defScope s_law_thick) := ⟨rfl, rfl, rfl, by decide +kernel, rfl, by decide +kernel, by decide +kernel⟩
abbrev s_law_ladder : Stmt := top 65
abbrev N_law_ladder : List Str := ["_law_deck_here", "_law_many", "_law_things", "_law_pairs", "_law_k", "_law_parents", "_law_name"]
abbrev s_law_scene : Stmt := top 66
abbrev N_law_scene : List Str := ["_law_deck_here", "_law_turn"]
theorem sc_law_scene : FnScope N_law_scene ["_law_deck_here", "_law_turn"] (defScope s_law_scene) := ⟨rfl, rfl, rfl, by decide +kernel, rfl, by decide +kernel, by decide +kernel⟩
abbrev s_law_versions : Stmt := top 67
abbrev N_law_versions : List Str := ["_law_things", "_law_name"]
theorem sc_law_versions : FnScope N_law_versions ["_law_things"] (defScope s_law_versions) := ⟨rfl, rfl, rfl, by decide +kernel, rfl, by decide +kernel, by decide +kernel⟩
abbrev s_law_picks : Stmt := top 68
abbrev N_law_picks : List Str := ["_law_deck_here", "_law_things", "_law_labels", "_law_content", "_law_label_here", "_law_name", "_law_k"]
theorem sc_law_picks : FnScope N_law_picks ["_law_deck_here", "_law_things"] (defScope s_law_picks) := ⟨rfl, rfl, rfl, by decide +kernel, rfl, by decide +kernel, by decide +kernel⟩
abbrev s_law_first_paths : Stmt := top 70
abbrev N_law_first_paths : List Str := ["_law_things", "_law_held_here", "_law_version", "_law_picks_here", "_law_root", "_law_found", "_law_left", "_law_path", "_law_name", "_law_label_here", "_law_part"]
theorem sc_law_first_paths : FnScope N_law_first_paths ["_law_things", "_law_held_here", "_law_version", "_law_picks_here"] (defScope s_law_first_paths) := ⟨rfl, rfl, rfl, by decide +kernel, rfl, by decide +kernel, by decide +kernel⟩
abbrev s_law_lack : Stmt := top 71
abbrev N_law_lack : List Str := ["_law_view", "_law_version", "_law_path", "_law_told", "e"]
theorem sc_law_lack : FnScope N_law_lack ["_law_view", "_law_version", "_law_path"] (defScope s_law_lack) := ⟨rfl, rfl, rfl, by decide +kernel, rfl, by decide +kernel, by decide +kernel⟩
abbrev s_law_good : Stmt := top 72
abbrev N_law_good : List Str := ["_law_found", "_law_row", "_law_label_here"]
theorem sc_law_good : FnScope N_law_good ["_law_found"] (defScope s_law_good) := ⟨rfl, rfl, rfl, by decide +kernel, rfl, by decide +kernel, by decide +kernel⟩
abbrev s_law_wide : Stmt := top 69
abbrev N_law_wide : List Str := ["_law_deck_here", "_law_things", "_law_k", "_law_entries_here", "_law_label_here"]
theorem sc_law_wide : FnScope N_law_wide ["_law_deck_here"] (defScope s_law_wide) := ⟨rfl, rfl, rfl, by decide +kernel, rfl, by decide +kernel, by decide +kernel⟩
abbrev s_law_whole : Stmt := top 61
abbrev N_law_whole : List Str := ["_law_found"]
theorem sc_law_whole : FnScope N_law_whole ["_law_found"] (defScope s_law_whole) := ⟨rfl, rfl, rfl, by decide +kernel, rfl, by decide +kernel, by decide +kernel⟩
abbrev s_law : Stmt := top 73
abbrev N_law : List Str := ["_law_script", "_law_deck_here", "_law_turn", "_law_things", "_law_held_here", "_law_view", "_law_pool", "_law_version", "_law_picks_here", "_law_found", "_law_due", "_law_name", "_law_path", "_law_told"]
theorem sc_law : FnScope N_law ["_law_script"] (defScope s_law) := ⟨rfl, rfl, rfl, by decide +kernel, rfl, by decide +kernel, by decide +kernel⟩
structure Df (K : PySem.W.Frag) (mg : Str → Option Value) (x : Str) (st : Stmt) (ps : List Str) (f : Addr) (fd : FuncData) : Prop where
  fn : Fun K x x st f fd
  b : Binds K fd ps []
  g : mg x = some (.ref f)
structure Txt (K : PySem.W.Frag) (mg : Str → Option Value) : Prop where
  n_len : mg "len" = none
  n_list : mg "list" = none
  n_isinstance : mg "isinstance" = none
  n_int : mg "int" = none
  n_bool : mg "bool" = none
  n_str : mg "str" = none
  n_tuple : mg "tuple" = none
  n_dict : mg "dict" = none
  n_range : mg "range" = none
  n_all : mg "all" = none
  n_any : mg "any" = none
  n_min : mg "min" = none
  n_max : mg "max" = none
  n_set : mg "set" = none
  n_sorted : mg "sorted" = none
  n_zip : mg "zip" = none
  n_enumerate : mg "enumerate" = none
  n_ValueError : mg "ValueError" = none
  g_SIGNS : ∃ t, mg "SIGNS" = some (.str " !\"#$&'()*+,-./0123456789:;<=>?@ABCDEFGHIJKLMNOPQRSTUVWXYZ[\\]^_`abcdefghijklmnopqrstuvwxyz{|}~" t)
  g_LETTERS : ∃ t, mg "LETTERS" = some (.str "abcdefghijklmnopqrstuvwxyz" t)
  g_MOST : ∃ t, mg "MOST" = some (.int 400 t)
  g_DEEP : ∃ t, mg "DEEP" = some (.int 8 t)
local macro_rules | `(tactic| walk_at "sq") => `(tactic| first | assumption | exact SqL.of (by assumption) | exact SqT.of (by assumption) | exact TupD.sq (by assumption))
local macro_rules | `(tactic| walk_at "c") => `(tactic| first | ((with_reducible refine cdivw ?_ ?_) <;> first | decide | omega | assumption) | ((with_reducible refine cmul_r ?_ ?_) <;> first | decide | omega) | ((with_reducible refine cmul_l ?_ ?_) <;> first | decide | omega) | with_reducible assumption | decide | omega | exact ⟨by decide, by decide, by first | decide | omega⟩)
local macro_rules | `(tactic| walk_at "at") => `(tactic| first | assumption | exact rfl)
local macro_rules | `(tactic| walk_at "ty") => `(tactic| first | exact .base (.int _) | exact .base (.bl _) | exact .base (.str _) | exact .base .non | exact .base (.tup (by assumption)) | exact .base (.lst (by assumption)) | exact .base (.dK (by assumption)) | exact TupD.tx (by assumption))
local macro_rules | `(tactic| walk_at "kb") => `(tactic| first | exact kb_int_int | exact kb_int_bool | exact kb_int_str | exact kb_int_tuple | exact kb_int_list | exact kb_int_dict | exact kb_bool_int | exact kb_bool_bool | exact kb_bool_str | exact kb_bool_tuple | exact kb_bool_list | exact kb_bool_dict | exact kb_str_int | exact kb_str_bool | exact kb_str_str | exact kb_str_tuple | exact kb_str_list | exact kb_str_dict | exact kb_tuple_int | exact kb_tuple_bool | exact kb_tuple_str | exact kb_tuple_tuple | exact kb_tuple_list | exact kb_tuple_dict | exact kb_list_int | exact kb_list_bool | exact kb_list_str | exact kb_list_tuple | exact kb_list_list | exact kb_list_dict | exact kb_dict_int | exact kb_dict_bool | exact kb_dict_str | exact kb_dict_tuple | exact kb_dict_list | exact kb_dict_dict | exact kb_NoneType_int | exact kb_NoneType_bool | exact kb_NoneType_str | exact kb_NoneType_tuple | exact kb_NoneType_list | exact kb_NoneType_dict)
local macro_rules | `(tactic| walk_at "s") => `(tactic| first
  | dsimp only [Bool.not_true, Bool.not_false]
  )
local macro_rules | `(tactic| walk_at "s") => `(tactic| first
  | with_reducible refine w_m1 ?_
  | with_reducible refine w_isS ?_
  | with_reducible refine w_istr ?_
  | with_reducible refine w_istr' ?_
  | ((with_reducible refine' w_all ?h1 ?_); (case h1 => walk_at "sq"))
  | ((with_reducible refine' w_glst ?h1 ?h2 ?_); (case h1 => walk_at "sq"); (case h2 => exact rfl))
  | with_reducible refine w_callN ?_
  | with_reducible refine w_step ?_
  )
local macro_rules | `(tactic| walk_at "s") => `(tactic| first
  | with_reducible refine w_tryG ?_
  | with_reducible refine w_inS ?_
  | with_reducible refine w_neS ?_
  | with_reducible refine w_ltS ?_
  | with_reducible refine w_gtS ?_
  | ((with_reducible refine' w_augI ?hv ?_); (case hv => exact rfl))
  | ((with_reducible refine w_ipI ?_); dsimp only [List.set_cons_zero, List.set_cons_succ])
  | with_reducible refine w_callD ?_
  )
local macro_rules | `(tactic| walk_at "s") => `(tactic| first
  | with_reducible refine w_keys ?_
  | ((with_reducible refine' w_keys' ?h1 ?_); (case h1 => assumption))
  | ((with_reducible refine' w_dinF ?h1 ?_); (case h1 => assumption))
  | ((with_reducible refine' w_dgetF ?h1 ?h2 ?_); (case h1 => assumption); (case h2 => assumption))
  | ((with_reducible refine' w_any ?h1 ?_); (case h1 => walk_at "sq"))
  | with_reducible refine w_zipA ?_
  | ((with_reducible refine' w_zipT' ?h1 ?h2 ?_); (case h1 => walk_at "sq"); (case h2 => walk_at "sq"))
  | with_reducible refine w_dct ?_
  )
local macro_rules | `(tactic| walk_at "s") => `(tactic| first
  | with_reducible refine w_noPart ?_
  | with_reducible refine w_part ?_
  | with_reducible refine w_part' ?_
  | with_reducible refine w_enum ?_
  | ((with_reducible refine' w_enum' ?h1 ?_); (case h1 => walk_at "sq"))
  | with_reducible refine w_bm0 ?_
  | with_reducible refine w_retN ?_
  | with_reducible refine w_tyes ?_
  )
local macro_rules | `(tactic| walk_at "s") => `(tactic| first
  | ((with_reducible refine' w_trT ?h1 ?_); (case h1 => walk_at "sq"))
  | with_reducible refine w_dc ?_
  | with_reducible refine w_dc2 ?_
  | with_reducible refine w_dget1 ?_
  | ((with_reducible refine' w_dget1I ?h1 ?_); (case h1 => assumption))
  | with_reducible refine w_rev ?_
  | ((with_reducible refine' w_rev' ?h1 ?_); (case h1 => walk_at "sq"))
  | with_reducible refine w_slice ?_
  )
local macro_rules | `(tactic| walk_at "s") => `(tactic| first
  | with_reducible refine w_callS ?_
  | with_reducible refine w_try ?_
  | with_reducible refine w_isB ?_
  | with_reducible refine w_isN ?_
  | with_reducible refine w_notN ?_
  | with_reducible refine w_chain ?_
  | with_reducible refine w_tru ?_
  | ((with_reducible refine' w_trL ?h1 ?_); (case h1 => walk_at "sq"))
  )
local macro_rules | `(tactic| walk_at "s") => `(tactic| first
  | with_reducible refine w_dsetd ?_
  | ((with_reducible refine' w_leT2 ?h1 ?h2 ?_); (case h1 => walk_at "sq"); (case h2 => walk_at "sq"))
  | ((with_reducible refine' w_inT ?h1 ?_); (case h1 => walk_at "sq"))
  | ((with_reducible refine' w_ninT ?h1 ?_); (case h1 => walk_at "sq"))
  | ((with_reducible refine' w_inL ?h1 ?_); (case h1 => walk_at "sq"))
  | ((with_reducible refine' w_ninL ?h1 ?_); (case h1 => walk_at "sq"))
  | with_reducible refine w_pair ?_
  | with_reducible refine w_pnil ?_
  )
local macro_rules | `(tactic| walk_at "s") => `(tactic| first
  | ((with_reducible refine' w_dinI ?h1 ?_); (case h1 => assumption))
  | ((with_reducible refine' w_dnotinI ?h1 ?_); (case h1 => assumption))
  | ((with_reducible refine' w_dgetI ?h1 ?h2 ?_); (case h1 => assumption); (case h2 => assumption))
  | with_reducible refine w_dnewK ?_
  | with_reducible refine w_dput ?_
  | with_reducible refine w_dget2 ?_
  | ((with_reducible refine' w_isD ?h1 ?_); (case h1 => assumption))
  | ((with_reducible refine' w_dget2I ?h1 ?_); (case h1 => assumption))
  )
local macro_rules | `(tactic| walk_at "s") => `(tactic| first
  | with_reducible refine w_eqB ?_
  | ((with_reducible refine' w_sum ?h1 ?_); (case h1 => walk_at "sq"))
  | ((with_reducible refine' w_gtup ?h1 ?h2 ?_); (case h1 => walk_at "sq"); (case h2 => exact rfl))
  | with_reducible refine w_gcons ?_
  | with_reducible refine w_gnil ?_
  | with_reducible refine w_din ?_
  | with_reducible refine w_dnotin ?_
  | with_reducible refine w_dget ?_
  )
local macro_rules | `(tactic| walk_at "s") => `(tactic| first
  | ((with_reducible refine' w_itT' ?h1 ?_); (case h1 => walk_at "sq"))
  | with_reducible refine w_lc ?_
  | ((with_reducible refine' w_isi ?ty ?hk ?_); (case ty => walk_at "ty"); (case hk => walk_at "kb"))
  | with_reducible refine iteT ?_
  | with_reducible refine iteF ?_
  | with_reducible refine w_nT ?_
  | with_reducible refine w_nF ?_
  | with_reducible refine w_eqS ?_
  )
local macro_rules | `(tactic| walk_at "s") => `(tactic| first
  | with_reducible refine w_for ?_
  | with_reducible refine w_rng1 ?_
  | ((with_reducible refine w_rng1' ?h1 ?h2 ?_); (case h1 => omega); (case h2 => omega))
  | with_reducible refine w_rng2 ?_
  | ((with_reducible refine w_rng2' ?h1 ?_); (case h1 => omega))
  | with_reducible refine w_itL ?_
  | ((with_reducible refine' w_itL' ?h1 ?_); (case h1 => walk_at "sq"))
  | with_reducible refine w_itT ?_
  )
local macro_rules | `(tactic| walk_at "s") => `(tactic| first
  | ((with_reducible refine w_sz ?h1 ?_); (case h1 => first | decide | (simp only [List.length_cons, List.length_nil]; decide)))
  | with_reducible refine w_min2 ?_
  | with_reducible refine w_max2 ?_
  | with_reducible refine w_tupRg ?_
  | with_reducible refine w_rg2 ?_
  | with_reducible refine w_rg2' ?_
  | with_reducible refine w_bits ?_
  | with_reducible refine w_bits' ?_
  )
local macro_rules | `(tactic| walk_at "s") => `(tactic| first
  | with_reducible refine w_cons ?_
  | with_reducible refine w_call ?_
  | with_reducible refine w_lst ?_
  | with_reducible refine w_tup ?_
  | with_reducible refine w_bm ?_
  | ((with_reducible refine' w_tyL ?h1 ?_); (case h1 => assumption))
  | ((with_reducible refine' w_lenL ?h1 ?_); (case h1 => walk_at "sq"))
  | ((with_reducible refine' w_lenT ?h1 ?_); (case h1 => walk_at "sq"))
  )
local macro_rules | `(tactic| walk_at "s") => `(tactic| first
  | with_reducible refine w_andV ?_
  | with_reducible refine w_orV ?_
  | with_reducible refine w_notV ?_
  | with_reducible refine w_ret ?_
  | with_reducible refine w_drop ?_
  | with_reducible refine w_next ?_
  | with_reducible refine w_cb ?_
  | with_reducible refine w_nil ?_
  )
local macro_rules | `(tactic| walk_at "s") => `(tactic| first
  | with_reducible refine w_sub ?_
  | with_reducible refine w_if ?_
  | with_reducible refine w_test ?_
  | with_reducible refine w_tb ?_
  | with_reducible refine w_bl ?_
  | with_reducible refine w_and ?_
  | with_reducible refine w_or ?_
  | with_reducible refine w_not ?_
  )
local macro_rules | `(tactic| walk_at "s") => `(tactic| first
  | with_reducible refine w_eqI ?_
  | with_reducible refine w_neI ?_
  | ((with_reducible refine' w_ixL ?h1 ?h2 ?_); (case h1 => walk_at "sq"); (case h2 => walk_at "at"))
  | ((with_reducible refine' w_ixT ?h1 ?h2 ?_); (case h1 => walk_at "sq"); (case h2 => walk_at "at"))
  | ((with_reducible refine' w_ixSL ?h1 ?h2 ?_); (case h1 => walk_at "sq"); (case h2 => walk_at "at"))
  | ((with_reducible refine' w_ixST ?h1 ?h2 ?_); (case h1 => walk_at "sq"); (case h2 => walk_at "at"))
  | with_reducible refine w_neB ?_
  | with_reducible refine w_eqN ?_
  )
local macro_rules | `(tactic| walk_at "s") => `(tactic| first
  | with_reducible refine w_c ?_
  | ((with_reducible refine w_name ?_); dsimp only [List.set_cons_zero, List.set_cons_succ])
  | with_reducible refine w_name ?_
  | with_reducible refine w_op ?_
  | with_reducible refine w_un ?_
  | with_reducible refine w_neg ?_
  | with_reducible refine w_i0 ?_
  | ((with_reducible refine w_i ?hc ?_); (case hc => walk_at "c"))
  )
local macro_rules | `(tactic| walk_at "s") => `(tactic| first
  | with_reducible refine w_seqA ?_
  | with_reducible refine w_seqD ?_
  | with_reducible refine w_seqF ?_
  | with_reducible refine w_seqW ?_
  | with_reducible refine w_seqG ?_
  | with_reducible refine w_seqP ?_
  | with_reducible refine w_asg ?_
  | ((with_reducible refine' w_var ?hv ?_); (case hv => exact rfl))
  )
local macro_rules | `(tactic| walk_at "p") => `(tactic| first | assumption | omega | (simp only [List.length_cons, List.length_nil, List.length_map]; omega) | exact rfl | decide)
local macro_rules | `(tactic| walk_at "d") => `(tactic| first
  | ((with_reducible refine w_yes ?hp ?_); (case hp => walk_at "p"))
  | ((with_reducible refine w_no ?hp ?_); (case hp => walk_at "p"))
  | ((with_reducible refine w_nyes ?hp ?_); (case hp => walk_at "p"))
  | ((with_reducible refine w_nno ?hp ?_); (case hp => walk_at "p")))
local macro_rules | `(tactic| walk_at "g") => `(tactic| repeat walk_at "s")
local macro_rules | `(tactic| walk_at "dg") => `(tactic| (walk_at "d"; repeat walk_at "s"))
local macro_rules | `(tactic| walk_at "x") => `(tactic| ((try dsimp only [cxOf, Cx.nox, Cx.wish]); repeat walk_at "s"))
local macro_rules | `(tactic| walk_at "s") => `(tactic| with_reducible refine w_revT ?_)
local macro_rules | `(tactic| walk_at "s") => `(tactic| first
  | with_reducible refine w_nget ?_
  | with_reducible refine w_nget1 ?_
  | with_reducible refine w_seqNP ?_
  | with_reducible refine w_nput ?_
  | with_reducible refine w_maxD ?_
  )
local macro_rules | `(tactic| walk_at "s") => `(tactic| first
  | with_reducible refine w_fld ?_
  | ((with_reducible refine' w_fld' ?h1 ?h2 ?h3 ?h4 ?_); (case h1 => assumption); (case h2 => assumption); (case h3 => assumption); (case h4 => exact rfl))
  | with_reducible refine w_seqFS ?_
  | with_reducible refine w_fldS ?_
  | with_reducible refine w_meth ?_
  | ((with_reducible refine' w_meth' ?h1 ?h2 ?_); (case h1 => assumption); (case h2 => exact rfl))
  | with_reducible refine w_make ?_
  | with_reducible refine w_nin ?_
  )
local macro_rules | `(tactic| walk_at "s") => `(tactic| first
  | with_reducible refine w_revL ?_
  )
def spDeck (K : PySem.W.Frag) : Sp := fun vs H Q _ => ∃ (a : Addr) (ns : List Int), vs = [.ref a] ∧ SqL K H a (ns.map V.int) ∧
  ∀ H' d c, Same H H' → H d = none → H c = none → Deck H' d c 0 → Q (.ref d) H'
def spMixed : Sp := fun vs H Q _ => ∃ (x t : Int), vs = [.int x, .int t] ∧ 0 ≤ t ∧ t ≤ 2 ^ 41 ∧ ∀ i, Q (.int i) H
def spDraw : Sp := fun vs H Q _ => ∃ (d c : Addr) (n : Nat) (m : Int), vs = [.ref d, .int m] ∧ Deck H d c n ∧ n < MOSTD ∧ 0 < m ∧ m < 2 ^ 64 ∧
  ∀ (i : Nat) H', (i : Int) < m → Deck H' d c (n + 1) → Off d H H' → Q (.int i) H'
theorem w_deck {K : PySem.W.Frag} {H : Hp} {Q : VK} {E : XK} {a : Addr} {ns : List Int} (h1 : SqL K H a (ns.map V.int)) (h : ∀ H' d c, Same H H' → H d = none → H c = none → Deck H' d c 0 → Q (.ref d) H') : spDeck K ([V.ref a] ++ []) H Q E := ⟨a, ns, rfl, h1, h⟩
theorem w_draw {H : Hp} {Q : VK} {E : XK} {d c : Addr} {n : Nat} {m : Int} (D : Deck H d c n) (hn : n < MOSTD) (h0 : 0 < m) (h1 : m < 2 ^ 64) (h : ∀ (i : Nat) H', (i : Int) < m → Deck H' d c (n + 1) → Off d H H' → Q (.int i) H') : spDraw ([V.ref d, V.int m] ++ []) H Q E := ⟨d, c, n, m, rfl, D, hn, h0, h1, h⟩
section
variable {P : Program} {w : World} {K : PySem.W.Frag} {mg : Str → Option Value} {base : Heap}
theorem ok_deck {f : Addr} {fd : FuncData} (T : Txt K mg) (F : Fun K "_law_deck" "_law_deck" s_law_deck f fd) : FnOk P w K mg base CX0 1 f fd ["_law_script"] (spDeck K) := by
  refine F.ok sc_law_deck (fun vs H Q E h => ?_) (fun cdv A outer s H vs Q E hr h => ?_)
  · obtain ⟨a, ns, rfl, _⟩ := h
    rfl
  · obtain ⟨a, ns, rfl, hS, q⟩ := h
    refine ⟨_,
      (pss_one
        (ps_ret (pe_lst (pa_cons (pe_callTy (r := rListOf K) c_listOf (by rfl) T.n_list (by decide +kernel) (pa_cons (pv 0) pa_nil)) (pa_cons pe_int (pa_cons pe_int (pa_cons pe_int pa_nil)))))))
      , ?_⟩
    walk_at "x"
    refine w_listL hS fun c H1 hc e1 k1 => ?_
    walk_at "g"
    refine w_new fun d H2 hd e2 k2 => ?_
    refine q _ d c (Same.trans k1 k2) (k1.free hd) hc ⟨⟨ns, 0, 0, 0, e2, k2 _ _ e1, Nat.le_refl _⟩, ne_of_none e1 hd⟩
theorem ok_mixed {f : Addr} {fd : FuncData} (T : Txt K mg) (F : Fun K "_law_mixed" "_law_mixed" s_law_mixed f fd) : FnOk P w K mg base CX0 1 f fd ["_law_cell", "_law_turn"] spMixed := by
  refine F.ok sc_law_mixed (fun vs H Q E h => ?_) (fun cdv A outer s H vs Q E hr h => ?_)
  · obtain ⟨x, t, rfl, _⟩ := h
    rfl
  · obtain ⟨x, t, rfl, h0, h1, q⟩ := h
    refine ⟨_,
      (pss_one
        (ps_ret (pe_op op_mod (pe_op op_pow (pe_op op_add (pe_op op_add (pe_op op_mod (pv 0) pe_int) (pe_op op_mul (pv 1) pe_int)) pe_int) pe_int) pe_int)))
      , ?_⟩
    have e := Int.emod_lt_of_pos x (show (0 : Int) < 2147483629 by decide)
    have e2 := Int.emod_nonneg x (show (2147483629 : Int) ≠ 0 by decide)
    walk_at "x"
    exact q _
theorem ok_draw {f fM : Addr} {fd fdM : FuncData} (T : Txt K mg) (F : Fun K "_law_draw" "_law_draw" s_law_draw f fd) (D_law_mixed : Df K mg "_law_mixed" s_law_mixed ["_law_cell", "_law_turn"] fM fdM) : FnOk P w K mg base CX0 2 f fd ["_law_deck_here", "_law_many"] spDraw := by
  have G_law_mixed : FnOk P w K mg base CX0 1 fM fdM ["_law_cell", "_law_turn"] spMixed := ok_mixed T D_law_mixed.fn
  refine F.ok sc_law_draw (fun vs H Q E h => ?_) (fun cdv A outer s H vs Q E hr h => ?_)
  · obtain ⟨d, c, n, m, rfl, _⟩ := h
    rfl
  · obtain ⟨d, c, n, m, rfl, ⟨⟨cs, a, b, t, e1, e2, e3⟩, ne⟩, hn, hm, hm2, q⟩ := h
    have hn' : t < 1099511627776 := Nat.lt_of_le_of_lt e3 hn
    refine ⟨_,
      (pss_cons
        (ps_set (i := 2) sc_law_draw.nd rfl (.inl rfl) (pe_ix (r := rIxL K) ix_list (pv 0) pe_int (fun _ _ => rfl)))
      (pss_cons
        (ps_asg (pe_op op_add (pe_ix (r := rIxL K) ix_list (pv 0) pe_int (fun _ _ => rfl)) pe_int) (pg_sub (pv 0) pe_int set_list))
      (pss_cons
        (ps_if (PW.pt (pw_and (pt_cmpR op_eq (pe_ix (r := rIxL K) ix_list (pv 0) pe_int (fun _ _ => rfl)) pe_int (nomark _)) (pw_and1 (pt_cmpR op_lt (pe_ix (r := rIxL K) ix_list (pv 0) pe_int (fun _ _ => rfl)) (pe_callB (r := rLen K) c_len (by rfl) T.n_len (by decide +kernel) (pa_cons (pv 2) pa_nil)) (nomark _)))))
          (pss_cons
            (ps_asg (pe_op op_add (pe_ix (r := rIxL K) ix_list (pv 0) pe_int (fun _ _ => rfl)) pe_int) (pg_sub (pv 0) pe_int set_list))
          (pss_cons
            (ps_if (pt_cmpR op_lt (pe_ix (r := rIxL K) ix_list (pv 2) (pe_op op_sub (pe_ix (r := rIxL K) ix_list (pv 0) pe_int (fun _ _ => rfl)) pe_int) (fun _ _ => rfl)) (pe_op op_pow pe_int pe_int) (nomark _))
              (pss_one
                (ps_ret (pe_op op_mod (pe_call G_law_mixed (hr.mono (by omega)) (by rfl) D_law_mixed.g D_law_mixed.fn.kp D_law_mixed.b .nil pass0 (pa_cons (pe_ix (r := rIxL K) ix_list (pv 2) (pe_op op_sub (pe_ix (r := rIxL K) ix_list (pv 0) pe_int (fun _ _ => rfl)) pe_int) (fun _ _ => rfl)) (pa_cons (pe_ix (r := rIxL K) ix_list (pv 0) pe_int (fun _ _ => rfl)) pa_nil))) (pv 1))))
              pss_nil)
          (pss_one
            (ps_asg (pe_ix (r := rIxL K) ix_list (pv 2) (pe_op op_sub (pe_ix (r := rIxL K) ix_list (pv 0) pe_int (fun _ _ => rfl)) pe_int) (fun _ _ => rfl)) (pg_sub (pv 0) pe_int set_list)))))
          pss_nil)
      (pss_cons
        (ps_if (pt_cmpR op_gt (pe_ix (r := rIxL K) ix_list (pv 0) pe_int (fun _ _ => rfl)) pe_int (nomark _))
          (pss_cons
            (ps_set (i := 3) sc_law_draw.nd rfl (.inl rfl) (pe_op op_mod (pe_ix (r := rIxL K) ix_list (pv 0) pe_int (fun _ _ => rfl)) (pv 1)))
          (pss_cons
            (ps_asg (pe_op op_fdivW (pe_ix (r := rIxL K) ix_list (pv 0) pe_int (fun _ _ => rfl)) (pv 1)) (pg_sub (pv 0) pe_int set_list))
          (pss_one
            (ps_ret (pv 3)))))
          pss_nil)
      (pss_cons
        (ps_set (i := 4) sc_law_draw.nd rfl (.inl rfl) (pe_op op_mul (pe_ix (r := rIxL K) ix_list (pv 0) pe_int (fun _ _ => rfl)) pe_int))
      (pss_cons
        (ps_if (pt_cmpR op_gt (pe_callB (r := rLen K) c_len (by rfl) T.n_len (by decide +kernel) (pa_cons (pv 2) pa_nil)) pe_int (nomark _))
          (pss_one
            (ps_set (i := 4) sc_law_draw.nd rfl (.inl rfl) (pe_op op_add (pv 4) (pe_op op_mod (pe_ix (r := rIxL K) ix_list (pv 2) (pe_op op_mod (pe_op op_mul (pe_ix (r := rIxL K) ix_list (pv 0) pe_int (fun _ _ => rfl)) pe_int) (pe_callB (r := rLen K) c_len (by rfl) T.n_len (by decide +kernel) (pa_cons (pv 2) pa_nil))) (fun _ _ => rfl)) pe_int))))
          pss_nil)
      (pss_one
        (ps_ret (pe_op op_mod (pe_call G_law_mixed (hr.mono (by omega)) (by rfl) D_law_mixed.g D_law_mixed.fn.kp D_law_mixed.b .nil pass0 (pa_cons (pv 4) (pa_cons (pe_ix (r := rIxL K) ix_list (pv 0) pe_int (fun _ _ => rfl)) pa_nil))) (pv 1))))))))))
      , ?_⟩
    rw [show L2.start N_law_draw [V.ref d, V.int m] = [some (.ref d), some (.int m), none, none, none] from rfl]
    -- cells = deck[0]; deck[3] = deck[3] + 1
    walk_at "x"
    refine w_setL e1 rfl rfl fun H1 g0 o0 => ?_
    have fin : ∀ (H' : Hp) (a' : Nat) (b' i : Int), 0 ≤ i → i < m → H' d = some (.lst [.ref c, .int a', .int b', .int (t + 1)]) → Off d H H' → Q (.int i) H' := fun H' a' b' i i0 i1 g1 g2 => by
      have z := q i.toNat H' (by omega) ⟨⟨cs, a', b', t + 1, g1, (g2 c ne).trans e2, by omega⟩, ne⟩ g2
      rw [Int.toNat_of_nonneg i0] at z
      exact z
    have md : ∀ x : Int, 0 ≤ x % m ∧ x % m < m := fun x => ⟨Int.emod_nonneg x (by omega), Int.emod_lt_of_pos x hm⟩
    have g0 : H1 d = some (.lst [.ref c, .int a, .int b, .int ((t : Int) + 1)]) := g0
    have c1 : H1 c = some (.lst (cs.map V.int)) := (o0 c ne).trans e2
    -- if deck[2] == 0 and deck[1] < len(cells): ..
    refine w_seqJ (fun σ' H2 => σ' = [some (.ref d), some (.int m), some (.ref c), none, none] ∧ ∃ (a' : Nat) (b' : Int), H2 d = some (.lst [.ref c, .int a', .int b', .int ((t : Int) + 1)]) ∧ Off d H H2) ?_ ?_
    · rintro σ' H2 ⟨rfl, a', b', g2, o2⟩
      have c2 : H2 c = some (.lst (cs.map V.int)) := (o2 c ne).trans e2
      refine w_seqJ (fun σ' H3 => σ' = [some (.ref d), some (.int m), some (.ref c), none, none] ∧ H3 = H2) ?_ ?_
      · rintro σ' H3 ⟨rfl, rfl⟩
        -- number = deck[3] * 48271; if len(cells) > 0: ..
        walk_at "g"
        refine w_seqJ (fun σ' H4 => (∃ z : Int, σ' = [some (.ref d), some (.int m), some (.ref c), none, some (.int z)]) ∧ H4 = H3) ?_ ?_
        · rintro σ' H4 ⟨⟨z, rfl⟩, rfl⟩
          walk_at "g"
          refine ⟨_, _, rfl, by omega, by omega, fun y => ?_⟩
          walk_at "g"
          exact fin _ a' b' _ (md y).1 (md y).2 g2 o2
        · intro U hU
          walk_at "g"
          refine w_ite (fun hl => ?_) (fun hl => ?_)
          · obtain ⟨v, hv1, hv2⟩ := at_lt (xs := cs.map V.int) (i := ((t : Int) + 1) * 7 % ((cs.map V.int).length : Int)) (Int.emod_nonneg _ (by omega)) (Int.emod_lt_of_pos _ hl)
            rw [List.getElem?_map] at hv1
            obtain ⟨y, _, rfl⟩ := Option.map_eq_some_iff.mp hv1
            walk_at "g"
            exact hU _ _ ⟨⟨_, rfl⟩, rfl⟩
          · exact hU _ _ ⟨⟨_, rfl⟩, rfl⟩
      · intro U hU
        walk_at "g"
        refine w_ite (fun hl => ?_) (fun hl => ?_)
        · walk_at "g"
          refine w_setL g2 rfl rfl fun H9 g9 o9 => ?_
          walk_at "g"
          exact fin _ a' (b' / m) _ (md b').1 (md b').2 g9 (o2.trans o9)
        · exact hU _ _ ⟨rfl, rfl⟩
    · intro U hU
      have no : U [some (.ref d), some (.int m), some (.ref c), none, none] H1 := hU _ _ ⟨rfl, a, b, g0, o0⟩
      walk_at "g"
      refine w_ite (fun hl => ?_) (fun _ => no)
      walk_at "g"
      refine w_ite (fun hl2 => ?_) (fun _ => no)
      obtain ⟨v, hv1, hv2⟩ := at_lt (xs := cs.map V.int) (i := ((a + 1 : Nat) : Int) - 1) (by omega) (by omega)
      rw [List.getElem?_map] at hv1
      obtain ⟨y, _, rfl⟩ := Option.map_eq_some_iff.mp hv1
      walk_at "g"
      refine w_setL g0 rfl rfl fun H2 g2 o2 => ?_
      have g2 : H2 d = some (.lst [.ref c, .int ((a + 1 : Nat) : Int), .int b, .int ((t : Int) + 1)]) := g2
      have o2 : Off d H H2 := o0.trans o2
      have c2 : H2 c = some (.lst (cs.map V.int)) := (o2 c ne).trans e2
      refine w_seq ?_
      walk_at "g"
      refine w_ite (fun hl => ?_) (fun hl => ?_)
      · walk_at "g"
        refine ⟨_, _, rfl, by omega, by omega, fun y => ?_⟩
        walk_at "g"
        exact fin _ (a + 1) b _ (md y).1 (md y).2 g2 o2
      · walk_at "g"
        refine w_setL g2 rfl rfl fun H9 g9 o9 => ?_
        exact hU _ _ ⟨rfl, a + 1, y, g9, o2.trans o9⟩
end
/-! ### pieces and scripts -/
theorem map_at {α : Type} {f : α → V} {xs : List α} {i : Nat} {v : V} (h : (xs.map f)[i]? = some v) : ∃ x, xs[i]? = some x ∧ v = f x := by
  rw [List.getElem?_map] at h
  obtain ⟨y, h1, h2⟩ := Option.map_eq_some_iff.mp h
  exact ⟨y, h1, h2.symm⟩
theorem le_sum : ∀ {l : List Nat} {x : Nat}, x ∈ l → x ≤ l.sum
  | [], x, h => by cases h
  | y :: l, x, h => by
    rw [List.sum_cons]
    rcases List.mem_cons.mp h with rfl | h
    · omega
    · have := le_sum h
      omega
abbrev SG : Str := Str.ofString " !\"#$&'()*+,-./0123456789:;<=>?@ABCDEFGHIJKLMNOPQRSTUVWXYZ[\\]^_`abcdefghijklmnopqrstuvwxyz{|}~"
def LineOk (z : Str) : Prop := z.length ≤ 40 ∧ ∀ c ∈ z.cps.toList, c ∈ SG.cps.toList
inductive Pc where
  | take (b m : Nat)
  | put (ls : List Str)
def Pc.size : Pc → Nat
  | .take _ m => m
  | .put ls => ls.length
def Pc.make (base : List Str) : Pc → List Str
  | .take b m => (base.drop b).take m
  | .put ls => ls
def Pc.fits (n : Nat) : Pc → Prop
  | .take b m => b + m ≤ n
  | .put _ => True
def Pc.ok : Pc → Prop
  | .take _ m => 1 ≤ m
  | .put ls => ls ≠ [] ∧ ∀ z ∈ ls, LineOk z
def Pc.cost (t p : Int) : Pc → Int
  | .take _ _ => t
  | .put ls => p * (ls.length : Int)
theorem Pc.ok.pos {p : Pc} (h : p.ok) : 1 ≤ p.size := by
  cases p with
  | take b m => exact h
  | put ls =>
    have := List.length_pos_iff.mpr h.1
    exact this
def sizes (ps : List Pc) : Nat := (ps.map Pc.size).sum
def makes (base : List Str) (ps : List Pc) : List Str := (ps.map (Pc.make base)).flatten
def costs (t p : Int) (ps : List Pc) : Int := (ps.map (Pc.cost t p)).sum
theorem sizes_ge : ∀ {ps : List Pc}, (∀ p ∈ ps, p.ok) → ps.length ≤ sizes ps
  | [], _ => by simp [sizes]
  | p :: ps, h => by
    have h1 := (h p (by simp)).pos
    have h2 := sizes_ge (ps := ps) fun q hq => h q (by simp [hq])
    unfold sizes at *
    simp only [List.map_cons, List.sum_cons, List.length_cons]
    omega
def RwAt (H : Hp) (a : Addr) (ls : List Str) : Prop := H a = some (.tup (ls.map V.str))
def PcAt (H : Hp) (a : Addr) : Pc → Prop
  | .take b m => H a = some (.tup [.str "take", .int (b : Int), .int (m : Int)])
  | .put ls => ∃ r, H a = some (.tup [.str "put", .ref r]) ∧ RwAt H r ls
theorem PcAt.kt {H H' : Hp} {a : Addr} {p : Pc} (h : PcAt H a p) (k : KT H H') : PcAt H' a p := by
  cases p with
  | take b m => exact k _ _ h
  | put ls =>
    obtain ⟨r, h1, h2⟩ := h
    exact ⟨r, k _ _ h1, k _ _ h2⟩
structure ScAt (H : Hp) (s : Addr) (ps : List (Addr × Pc)) : Prop where
  at' : H s = some (.tup (ps.map fun q => .ref q.1))
  pc : ∀ q ∈ ps, PcAt H q.1 q.2
theorem ScAt.kt {H H' : Hp} {s : Addr} {ps : List (Addr × Pc)} (h : ScAt H s ps) (k : KT H H') : ScAt H' s ps := ⟨k _ _ h.at', fun q hq => (h.pc q hq).kt k⟩
structure ScOk (ps : List Pc) : Prop where
  ok : ∀ p ∈ ps, p.ok
  few : sizes ps ≤ 40
/-- data whose texts are not too long -/
inductive DatT (B : Nat) (H : Hp) : V → Prop where
  | leaf {x : V} {a : String} (t : Ty H x a) (h : a ≠ "tuple") (z : ∀ z, x = .str z → z.length ≤ B) : DatT B H x
  | tup {p : Addr} {xs : List V} (e : H p = some (.tup xs)) (l : xs.length ≤ B) (h : ∀ y ∈ xs, DatT B H y) : DatT B H (.ref p)
theorem DatT.ty {B : Nat} {H : Hp} {x : V} (h : DatT B H x) : ∃ a, Ty H x a := by
  cases h with
  | leaf t _ _ => exact ⟨_, t⟩
  | tup e _ _ => exact ⟨_, .tup e⟩
theorem DatT.len {B : Nat} {H : Hp} {z : Str} (h : DatT B H (.str z)) : z.length ≤ B := by
  cases h with
  | leaf _ _ hz => exact hz z rfl
theorem DatT.kd {B : Nat} {H H' : Hp} {x : V} (h : DatT B H x) (k : KD H H') : DatT B H' x := by
  induction h with
  | leaf t h z => exact .leaf (t.kd k) h z
  | tup e l _ ih => exact .tup (k.t _ _ e) l fun y hy => ih y hy
theorem DatT.cases {B : Nat} {H : Hp} {x : V} (h : DatT B H x) : (∃ a, Ty H x a ∧ a ≠ "tuple") ∨ ∃ (p : Addr) (xs : List V), x = .ref p ∧ H p = some (.tup xs) ∧ xs.length ≤ B ∧ ∀ y ∈ xs, DatT B H y := by
  cases h with
  | leaf t h _ => exact .inl ⟨_, t, h⟩
  | tup e l h => exact .inr ⟨_, _, rfl, e, l, h⟩
theorem DatT.elem {B : Nat} {H : Hp} {a : Addr} {xs : List V} (d : DatT B H (.ref a)) (e : H a = some (.tup xs)) : xs.length ≤ B ∧ ∀ y ∈ xs, DatT B H y := by
  rcases d.cases with ⟨s, t, hne⟩ | ⟨p, ys, e1, e2, h⟩
  · exact absurd (t.ofTup e) hne
  · cases e1
    rw [e] at e2
    cases e2
    exact h
theorem DatT.strs {B : Nat} {H : Hp} {a : Addr} {ls : List Str} (h : RwAt H a ls) (hl : ls.length ≤ B) (hz : ∀ z ∈ ls, z.length ≤ B) : DatT B H (.ref a) := .tup h (by rw [List.length_map]; exact hl) fun y hy => by
  obtain ⟨z, hz', rfl⟩ := List.mem_map.mp hy
  exact .leaf (.str z) (by decide) fun z' e => by cases e; exact hz z hz'
theorem PcAt.dat {B : Nat} {H : Hp} {a : Addr} {p : Pc} (h : PcAt H a p) (hB : 4 ≤ B) (hs : p.size ≤ B) (hz : ∀ ls, p = .put ls → ∀ z ∈ ls, z.length ≤ B) : DatT B H (.ref a) := by
  cases p with
  | take b m =>
    refine .tup h (by simp only [List.length_cons, List.length_nil]; omega) fun y hy => ?_
    have hy' : y = .str "take" ∨ y = .int (b : Int) ∨ y = .int (m : Int) := by simpa using hy
    rcases hy' with rfl | rfl | rfl
    · exact .leaf (.str _) (by decide) fun z e => by cases e; exact Nat.le_trans (show (Str.ofString "take").length ≤ 4 by decide) hB
    · exact .leaf (.int _) (by decide) fun z e => by cases e
    · exact .leaf (.int _) (by decide) fun z e => by cases e
  | put ls =>
    obtain ⟨r, h1, h2⟩ := h
    refine .tup h1 (by simp only [List.length_cons, List.length_nil]; omega) fun y hy => ?_
    have hy' : y = .str "put" ∨ y = .ref r := by simpa using hy
    rcases hy' with rfl | rfl
    · exact .leaf (.str _) (by decide) fun z e => by cases e; exact Nat.le_trans (show (Str.ofString "put").length ≤ 4 by decide) hB
    · exact DatT.strs h2 hs (hz ls rfl)
theorem ScAt.dat {B : Nat} {H : Hp} {s : Addr} {ps : List (Addr × Pc)} (h : ScAt H s ps) (k : ScOk (ps.map (·.2))) (hB : 40 ≤ B) : DatT B H (.ref s) := by
  have hl := sizes_ge k.ok
  have hf := k.few
  rw [List.length_map] at hl
  refine .tup h.at' (by rw [List.length_map]; omega) fun y hy => ?_
  obtain ⟨q, hq, rfl⟩ := List.mem_map.mp hy
  have hqm : q.2 ∈ ps.map (·.2) := List.mem_map_of_mem hq
  have hsz : q.2.size ≤ sizes (ps.map (·.2)) := by
    unfold sizes
    exact le_sum (List.mem_map_of_mem hqm)
  refine (h.pc q hq).dat (by omega) (by omega) fun ls e z hz => ?_
  have := k.ok _ hqm
  rw [e] at this
  have := (this.2 z hz).1
  omega
/-- a piece, as a thing of any kind -/
def PcV (H : Hp) (x : V) (p : Pc) : Prop := ∃ a, x = .ref a ∧ PcAt H a p ∧ p.ok
def ScV (H : Hp) (x : V) (ps : List (Addr × Pc)) : Prop := ∃ s, x = .ref s ∧ ScAt H s ps ∧ ScOk (ps.map (·.2))
def spIsInt : Sp := fun vs H Q _ => ∃ (x : V) (a : String), vs = [x, .int 0] ∧ Ty H x a ∧ (∀ n : Nat, x = .int (n : Int) → Q (.bl true) H) ∧ ((∀ n : Nat, x ≠ .int (n : Int)) → Q (.bl false) H)
def spIsText : Sp := fun vs H Q _ => ∃ (x : V) (B : Nat), vs = [x, .int 40] ∧ DatT B H x ∧ B ≤ 1000000 ∧ (∀ z, x = .str z → LineOk z → ∀ H', Same H H' → Q (.bl true) H') ∧ ((∀ z, x = .str z → ¬ LineOk z) → ∀ H', Same H H' → Q (.bl false) H')
def spMadeBy : Sp := fun vs H Q _ => ∃ (x : V) (B : Nat), vs = [x] ∧ DatT B H x ∧ B ≤ 1000000 ∧ (∀ p, PcV H x p → ∀ H', Same H H' → Q (.int (p.size : Int)) H') ∧ ((∀ p, ¬ PcV H x p) → ∀ H', Same H H' → Q (.int 0) H')
def spIsScript : Sp := fun vs H Q _ => ∃ (x : V) (B : Nat), vs = [x] ∧ DatT B H x ∧ B ≤ 1000000 ∧ (∀ ps, ScV H x ps → ∀ H', Same H H' → Q (.bl true) H') ∧ ((∀ ps, ¬ ScV H x ps) → ∀ H', Same H H' → Q (.bl false) H')
theorem ln_size {B : Nat} (h : B ≤ 1000000) {n : Nat} (h2 : n ≤ B) : n ≤ sizeLine := Nat.le_trans (Nat.le_trans h2 h) (by decide)
theorem Ty.kStr {H : Hp} {x : V} {a : String} (t : Ty H x a) : kitB a "str" = some (decide (a = "str")) := by
  cases t with
  | non => exact kb_NoneType_str
  | bl b => exact kb_bool_str
  | int i => exact kb_int_str
  | str z => exact kb_str_str
  | lst e => exact kb_list_str
  | tup e => exact kb_tuple_str
  | dK e => exact kb_dict_str
theorem w_isStr {K : PySem.W.Frag} {H : Hp} {Q : VK} {x : V} {a : String} (t : Ty H x a) (h : Q (.bl (decide (a = "str"))) H) : rIsi K [x, .ty "str"] H Q := w_isi t.tx t.kStr h
theorem Ty.isStr {H : Hp} {x : V} {a : String} (t : Ty H x a) (e : a = "str") : ∃ z, x = .str z := by
  cases t with
  | str z => exact ⟨z, rfl⟩
  | non => exact absurd e (by decide)
  | bl _ => exact absurd e (by decide)
  | tup _ => exact absurd e (by decide)
  | int _ => exact absurd e (by decide)
  | lst _ => exact absurd e (by decide)
  | dK _ => exact absurd e (by decide)
theorem Ty.ofStr {H : Hp} {z : Str} {a : String} (t : Ty H (.str z) a) : a = "str" := by
  cases t with
  | str i => rfl
section
variable {P : Program} {w : World} {K : PySem.W.Frag} {mg : Str → Option Value} {base : Heap}
theorem ok_isint {f : Addr} {fd : FuncData} (T : Txt K mg) (D : DfD K mg "is_int" s_is_int ["thing", "least"] [.int 0] f fd) : FnOk P w K mg base CX0 1 f fd ["thing", "least"] spIsInt := by
  refine okD D.fn sc_is_int (fun vs H Q E h => ?_) (fun cdv A outer s H vs Q E hr h => ?_)
  · obtain ⟨x, a, rfl, _⟩ := h
    rfl
  · obtain ⟨x, a, rfl, t, q1, q2⟩ := h
    refine ⟨_,
      (pss_one
        (ps_ret (pe_and (pe_callB (r := rIsi K) call_isi (by rfl) T.n_isinstance (by decide +kernel) (pa_cons (pv 0) (pa_cons (pe_bltn (v := .ty "int") (u := .type "int") (by rfl) T.n_int (by decide +kernel) rfl) pa_nil))) (pe_and (pe_not (pe_callB (r := rIsi K) call_isi (by rfl) T.n_isinstance (by decide +kernel) (pa_cons (pv 0) (pa_cons (pe_bltn (v := .ty "bool") (u := .type "bool") (by rfl) T.n_bool (by decide +kernel) rfl) pa_nil)))) (pe_one (pe_cmpR op_ge (pv 0) (pv 1) (nomark _)))))))
      , ?_⟩
    rw [show L2.start N_is_int [x, V.int 0] = [some x, some (.int 0)] from rfl]
    walk_at "x"
    refine w_isInt t ?_
    walk_at "g"
    refine w_itB (fun hb => ?_) (fun hb => ?_)
    · walk_at "g"
      refine w_isBool t ?_
      walk_at "g"
      refine w_itN (fun hn => ?_) (fun hn => ?_)
      · rw [decide_eq_false hn, Bool.or_false, decide_eq_true_iff] at hb
        obtain ⟨i, rfl⟩ := t.isInt hb
        walk_at "g"
        by_cases h : i ≥ 0
        · rw [decide_eq_true h]
          exact q1 i.toNat (by rw [Int.toNat_of_nonneg h])
        · rw [decide_eq_false h]
          exact q2 fun n e => by cases e; exact h (by omega)
      · exact q2 fun n e => by
          subst e
          rw [t.ofInt] at hn
          exact absurd hn (by decide)
    · exact q2 fun n e => by
        subst e
        rw [t.ofInt] at hb
        exact absurd hb (by decide)
theorem ok_istext {f : Addr} {fd : FuncData} (T : Txt K mg) (D : DfD K mg "is_text" s_is_text ["thing", "most"] [.int 40] f fd) : FnOk P w K mg base CX0 1 f fd ["thing", "most"] spIsText := by
  obtain ⟨tk_SIGNS, g_SIGNS⟩ := T.g_SIGNS
  refine okD D.fn sc_is_text (fun vs H Q E h => ?_) (fun cdv A outer s H vs Q E hr h => ?_)
  · obtain ⟨x, B, rfl, _⟩ := h
    rfl
  · obtain ⟨x, B, rfl, hd, hB, q1, q2⟩ := h
    obtain ⟨a, t⟩ := hd.ty
    refine ⟨_,
      (pss_one
        (ps_ret (pe_and (pe_callB (r := rIsi K) call_isi (by rfl) T.n_isinstance (by decide +kernel) (pa_cons (pv 0) (pa_cons (pe_bltn (v := .ty "str") (u := .type "str") (by rfl) T.n_str (by decide +kernel) rfl) pa_nil))) (pe_and (pe_cmpR op_le (pe_callB c_lenS (by rfl) T.n_len (by decide +kernel) (pa_cons (pv 0) pa_nil)) (pv 1) (nomark _)) (pe_one (pe_callB (r := rAll K) (cr_all rfl) (by rfl) T.n_all (by decide +kernel) (pa_cons (pe_lc (own := [("sign", 2)]) (g := (gName 2)) rfl sc_is_text.nd (pi_str (pv 0)) (blkOk_by (own := [("sign", 2)]) (N := N_is_text) (sc := defScope s_is_text) (by decide +kernel)) (fun _ _ _ _ _ => (pg_name (i := 2) sc_is_text.nd rfl (.inl rfl))) (fun _ _ _ _ _ => pts_nil) (fun _ _ _ _ _ => (pe_cmpR o_inS (pv 2) (pe_glob (v := .str " !\"#$&'()*+,-./0123456789:;<=>?@ABCDEFGHIJKLMNOPQRSTUVWXYZ[\\]^_`abcdefghijklmnopqrstuvwxyz{|}~") rfl g_SIGNS ⟨_, rfl⟩) rfl))) pa_nil)))))))
      , ?_⟩
    rw [show L2.start N_is_text [x, V.int 40] = [some x, some (.int 40), none] from rfl]
    walk_at "x"
    refine w_isStr t ?_
    walk_at "g"
    refine w_ite (fun hs => ?_) (fun hs => ?_)
    rotate_left
    · exact q2 (fun z e => by subst e; exact absurd t.ofStr hs) H (fun _ _ z => z)
    obtain ⟨z, rfl⟩ := t.isStr hs
    have hzl := hd.len
    walk_at "g"
    refine w_lenS (ln_size hB hzl) ?_
    walk_at "g"
    refine w_ite (fun h40 => ?_) (fun h40 => ?_)
    rotate_left
    · exact q2 (fun z' e hl => by cases e; exact h40 (by have := hl.1; omega)) H (fun _ _ z => z)
    walk_at "g"
    refine lcp_map (walk_str z) [] ((z.cps.toList.map fun c => decide (c ∈ SG.cps.toList)).map V.bl) (by simp) (by show z.length ≤ 1000000; omega) (fun _ _ => trivial) ?_ (by simp) ?_
    · rintro i x H1 H2 R hi k1 ⟨rfl, c, hc, rfl⟩ hR
      refine w_name ⟨rfl, ?_⟩
      walk_at "g"
      refine hR _ _ ?_ Kp.refl
      rw [List.getElem?_map, List.getElem?_map, Array.getElem?_toList, hc]
      rfl
    · intro L H1 hL k1 eL
      walk_at "g"
      have hk := k1.same
      by_cases h : ∀ c ∈ z.cps.toList, c ∈ SG.cps.toList
      · have e : (z.cps.toList.map fun c => decide (c ∈ SG.cps.toList)).all id = true := by
          rw [List.all_eq_true]
          intro b hb
          obtain ⟨c, hc, rfl⟩ := List.mem_map.mp hb
          exact decide_eq_true (h c hc)
        rw [e]
        exact q1 z rfl ⟨by omega, h⟩ _ hk
      · have e : (z.cps.toList.map fun c => decide (c ∈ SG.cps.toList)).all id = false := by
          rw [Bool.eq_false_iff]
          intro hall
          rw [List.all_eq_true] at hall
          exact h fun c hc => of_decide_eq_true (hall _ (List.mem_map_of_mem (f := fun c => decide (c ∈ SG.cps.toList)) hc))
        rw [e]
        exact q2 (fun z' e' hl => by cases e'; exact h hl.2) _ hk
end
/-! ### contents and books -/
inductive Ct where
  | leaf (rows : List Str)
  | tree (es : List (Str × Nat))
  | ver (ps : List Nat) (root stamp : Nat)
abbrev nV (n : Nat) : V := .int (n : Int)
def CtAt (H : Hp) (a : Addr) : Ct → Prop
  | .leaf rows => ∃ r, H a = some (.tup [.str "leaf", .ref r]) ∧ RwAt H r rows
  | .tree es => ∃ (r : Addr) (qs : List (Addr × Str × Nat)), H a = some (.tup [.str "tree", .ref r]) ∧ H r = some (.tup (qs.map fun q => .ref q.1)) ∧ qs.map (·.2) = es ∧ ∀ q ∈ qs, H q.1 = some (.tup [.str q.2.1, nV q.2.2])
  | .ver ps root stamp => ∃ r, H a = some (.tup [.str "version", .ref r, nV root, nV stamp]) ∧ H r = some (.tup (ps.map nV))
theorem CtAt.kt {H H' : Hp} {a : Addr} {c : Ct} (h : CtAt H a c) (k : KT H H') : CtAt H' a c := by
  cases c with
  | leaf rows =>
    obtain ⟨r, h1, h2⟩ := h
    exact ⟨r, k _ _ h1, k _ _ h2⟩
  | tree es =>
    obtain ⟨r, qs, h1, h2, h3, h4⟩ := h
    exact ⟨r, qs, k _ _ h1, k _ _ h2, h3, fun q hq => k _ _ (h4 q hq)⟩
  | ver ps root stamp =>
    obtain ⟨r, h1, h2⟩ := h
    exact ⟨r, k _ _ h1, k _ _ h2⟩
def Ct.word : Ct → Str
  | .leaf _ => "leaf"
  | .tree _ => "tree"
  | .ver _ _ _ => "version"
def Ct.key : Ct → NestedKey
  | .leaf rows => .tup [.text "leaf", .tup (rows.map .text)]
  | .tree es => .tup [.text "tree", .tup (es.map fun e => .tup [.text e.1, .num (e.2 : Int)])]
  | .ver ps root stamp => .tup [.text "version", .tup (ps.map fun n : Nat => .num (n : Int)), .num (root : Int), .num (stamp : Int)]
theorem nall_strs {H : Hp} : ∀ rows : List Str, NAll H (rows.map .text) (rows.map V.str)
  | [] => .nil
  | z :: r => .cons (.str z) (nall_strs r)
theorem nall_nats {H : Hp} : ∀ ns : List Nat, NAll H (ns.map fun n : Nat => .num (n : Int)) (ns.map nV)
  | [] => .nil
  | z :: r => .cons (.int _) (nall_nats r)
theorem nall_ents {H : Hp} : ∀ qs : List (Addr × Str × Nat), (∀ q ∈ qs, H q.1 = some (.tup [.str q.2.1, nV q.2.2])) → NAll H ((qs.map (·.2)).map fun e => .tup [.text e.1, .num (e.2 : Int)]) (qs.map fun q => .ref q.1)
  | [], _ => .nil
  | q :: r, h => .cons (.tup (h q (by simp)) (.cons (.str _) (.cons (.int _) .nil))) (nall_ents r fun z hz => h z (by simp [hz]))
theorem CtAt.nk {H : Hp} {a : Addr} {c : Ct} (h : CtAt H a c) : NAt H c.key (.ref a) := by
  cases c with
  | leaf rows =>
    obtain ⟨r, h1, h2⟩ := h
    exact .tup h1 (.cons (.str _) (.cons (.tup h2 (nall_strs rows)) .nil))
  | tree es =>
    obtain ⟨r, qs, h1, h2, rfl, h4⟩ := h
    exact .tup h1 (.cons (.str _) (.cons (.tup h2 (nall_ents qs h4)) .nil))
  | ver ps root stamp =>
    obtain ⟨r, h1, h2⟩ := h
    exact .tup h1 (.cons (.str _) (.cons (.tup h2 (nall_nats ps)) (.cons (.int _) (.cons (.int _) .nil))))
theorem da_texts : ∀ rows : List Str, NestedKey.depthAll (rows.map .text) = 0
  | [] => rfl
  | z :: r => by rw [List.map_cons, NestedKey.depthAll, da_texts r]; rfl
theorem da_nats : ∀ ns : List Nat, NestedKey.depthAll (ns.map fun n : Nat => .num (n : Int)) = 0
  | [] => rfl
  | z :: r => by rw [List.map_cons, NestedKey.depthAll, da_nats r]; rfl
theorem da_ents : ∀ es : List (Str × Nat), NestedKey.depthAll (es.map fun e => .tup [.text e.1, .num (e.2 : Int)]) ≤ 1
  | [] => Nat.zero_le _
  | z :: r => by
    rw [List.map_cons, NestedKey.depthAll]
    have := da_ents r
    have e : NestedKey.depth (.tup [.text z.1, .num (z.2 : Int)]) = 1 := rfl
    rw [e]
    omega
theorem Ct.key_depth (c : Ct) : c.key.depth ≤ 8 := by
  cases c with
  | leaf rows =>
    show NestedKey.depthAll [.text "leaf", .tup (rows.map .text)] + 1 ≤ 8
    simp only [NestedKey.depthAll, NestedKey.depth, da_texts]
    decide
  | tree es =>
    show NestedKey.depthAll [.text "tree", .tup (es.map fun e => .tup [.text e.1, .num (e.2 : Int)])] + 1 ≤ 8
    have := da_ents es
    simp only [NestedKey.depthAll, NestedKey.depth]
    omega
  | ver ps root stamp =>
    show NestedKey.depthAll [.text "version", .tup (ps.map fun n : Nat => .num (n : Int)), .num (root : Int), .num (stamp : Int)] + 1 ≤ 8
    simp only [NestedKey.depthAll, NestedKey.depth, da_nats]
    decide
theorem text_inj : ∀ {xs ys : List Str}, xs.map NestedKey.text = ys.map NestedKey.text → xs = ys
  | [], [], _ => rfl
  | [], _ :: _, h => by simp at h
  | _ :: _, [], h => by simp at h
  | x :: xs, y :: ys, h => by
    rw [List.map_cons, List.map_cons, List.cons.injEq] at h
    injection h.1 with e
    rw [e, text_inj h.2]
theorem num_inj : ∀ {xs ys : List Nat}, (xs.map fun n : Nat => NestedKey.num (n : Int)) = (ys.map fun n : Nat => NestedKey.num (n : Int)) → xs = ys
  | [], [], _ => rfl
  | [], _ :: _, h => by simp at h
  | _ :: _, [], h => by simp at h
  | x :: xs, y :: ys, h => by
    rw [List.map_cons, List.map_cons, List.cons.injEq] at h
    injection h.1 with e
    rw [show x = y by omega, num_inj h.2]
theorem ent_inj : ∀ {xs ys : List (Str × Nat)}, (xs.map fun e => NestedKey.tup [.text e.1, .num (e.2 : Int)]) = (ys.map fun e => NestedKey.tup [.text e.1, .num (e.2 : Int)]) → xs = ys
  | [], [], _ => rfl
  | [], _ :: _, h => by simp at h
  | _ :: _, [], h => by simp at h
  | x :: xs, y :: ys, h => by
    rw [List.map_cons, List.map_cons, List.cons.injEq] at h
    injection h.1 with e
    have e1 := (List.cons.inj e).1
    have e2 := (List.cons.inj (List.cons.inj e).2).1
    injection e1 with e1
    injection e2 with e2
    rw [show x = y from Prod.ext e1 (by omega), ent_inj h.2]
theorem lit_ne1 : ¬ ((Str.ofString "leaf") = "tree") := by decide +kernel
theorem lit_ne2 : ¬ ((Str.ofString "leaf") = "version") := by decide +kernel
theorem lit_ne3 : ¬ ((Str.ofString "tree") = "version") := by decide +kernel
theorem lit_ne4 : ¬ ((Str.ofString "tree") = "leaf") := by decide +kernel
theorem lit_ne5 : ¬ ((Str.ofString "version") = "leaf") := by decide +kernel
theorem lit_ne6 : ¬ ((Str.ofString "version") = "tree") := by decide +kernel
theorem Ct.key_inj {c d : Ct} (h : c.key = d.key) : c = d := by
  cases c with
  | leaf rows =>
    cases d with
    | leaf rows' =>
      injection h with h
      have := (List.cons.inj (List.cons.inj h).2).1
      injection this with this
      rw [text_inj this]
    | tree es =>
      injection h with h
      have := (List.cons.inj h).1
      injection this with this
      exact absurd this lit_ne1
    | ver ps r s =>
      injection h with h
      have := (List.cons.inj h).1
      injection this with this
      exact absurd this lit_ne2
  | tree es =>
    cases d with
    | leaf rows' =>
      injection h with h
      have := (List.cons.inj h).1
      injection this with this
      exact absurd this lit_ne4
    | tree es' =>
      injection h with h
      have := (List.cons.inj (List.cons.inj h).2).1
      injection this with this
      rw [ent_inj this]
    | ver ps r s =>
      injection h with h
      have := (List.cons.inj h).1
      injection this with this
      exact absurd this lit_ne3
  | ver ps r s =>
    cases d with
    | leaf rows' =>
      injection h with h
      have := (List.cons.inj h).1
      injection this with this
      exact absurd this lit_ne5
    | tree es' =>
      injection h with h
      have := (List.cons.inj h).1
      injection this with this
      exact absurd this lit_ne6
    | ver ps' r' s' =>
      injection h with h
      have h1 := (List.cons.inj (List.cons.inj h).2).1
      have h2 := (List.cons.inj (List.cons.inj (List.cons.inj h).2).2).1
      have h3 := (List.cons.inj (List.cons.inj (List.cons.inj (List.cons.inj h).2).2).2).1
      injection h1 with h1
      injection h2 with h2
      injection h3 with h3
      rw [num_inj h1, show r = r' by omega, show s = s' by omega]
def entsF : Nat → List (Addr × Ct) → List NEnt
  | _, [] => []
  | i, q :: r => (q.2.key, q.1, nV i) :: entsF (i + 1) r
theorem entsF_len : ∀ (cs : List (Addr × Ct)) (i : Nat), (entsF i cs).length = cs.length
  | [], _ => rfl
  | q :: r, i => by show (entsF (i + 1) r).length + 1 = _; rw [entsF_len r]; rfl
theorem entsF_snoc (a : Addr) (c : Ct) : ∀ (cs : List (Addr × Ct)) (i : Nat), entsF i (cs ++ [(a, c)]) = entsF i cs ++ [(c.key, a, nV (i + cs.length))]
  | [], i => rfl
  | q :: r, i => by
    show (q.2.key, q.1, nV i) :: entsF (i + 1) (r ++ [(a, c)]) = (q.2.key, q.1, nV i) :: (entsF (i + 1) r ++ _)
    rw [entsF_snoc a c r (i + 1), List.length_cons, show i + 1 + r.length = i + (r.length + 1) by omega]
theorem ents_none {c : Ct} : ∀ (cs : List (Addr × Ct)) (i : Nat), (∀ q ∈ cs, q.2 ≠ c) → NVal (entsF i cs) c.key = none
  | [], _, _ => rfl
  | q :: r, i, h => by
    have hne : ¬ q.2.key = c.key := fun e => h q (by simp) (Ct.key_inj e)
    show NVal ((q.2.key, q.1, nV i) :: entsF (i + 1) r) c.key = none
    have : NVal ((q.2.key, q.1, nV i) :: entsF (i + 1) r) c.key = NVal (entsF (i + 1) r) c.key := by simp [NVal, List.find?_cons, hne]
    rw [this]
    exact ents_none r (i + 1) fun z hz => h z (by simp [hz])
theorem ents_some {c : Ct} {a : Addr} : ∀ (cs : List (Addr × Ct)) (i j : Nat), (cs.map (·.2)).Nodup → cs[j]? = some (a, c) → NVal (entsF i cs) c.key = some (nV (i + j))
  | [], _, _, _, h => by simp at h
  | q :: r, i, 0, _, h => by
    have e : q = (a, c) := by simpa using h
    subst e
    show NVal ((c.key, a, nV i) :: entsF (i + 1) r) c.key = some (nV (i + 0))
    simp [NVal, List.find?_cons]
  | q :: r, i, j + 1, nd, h => by
    rw [List.map_cons, List.nodup_cons] at nd
    have hr : r[j]? = some (a, c) := by simpa using h
    have hne : ¬ q.2.key = c.key := fun e => nd.1 (by rw [Ct.key_inj e]; exact List.mem_map.mpr ⟨(a, c), List.mem_of_getElem? hr, rfl⟩)
    show NVal ((q.2.key, q.1, nV i) :: entsF (i + 1) r) c.key = _
    have : NVal ((q.2.key, q.1, nV i) :: entsF (i + 1) r) c.key = NVal (entsF (i + 1) r) c.key := by simp [NVal, List.find?_cons, hne]
    rw [this, ents_some r (i + 1) j nd.2 hr, show i + 1 + j = i + (j + 1) by omega]
def depOf (ds : List Nat) : Ct → Nat
  | .tree es => 1 + (es.map fun e => ds.getD e.2 0).foldl max 0
  | _ => 0
def LabOk (z : Str) : Prop := 1 ≤ z.length ∧ z.length ≤ 8 ∧ ∀ c ∈ z.cps.toList, c ∈ (Str.ofString "abcdefghijklmnopqrstuvwxyz").cps.toList
/-- a good content behind those of cs -/
def CtOk (cs : List Ct) (ds : List Nat) : Ct → Prop
  | .leaf rows => rows.length ≤ 40 ∧ ∀ z ∈ rows, LineOk z
  | .tree es => es.length ≤ 20 ∧ (∀ e ∈ es, LabOk e.1 ∧ ∃ c, cs[e.2]? = some c ∧ c.word ≠ "version") ∧ es.Pairwise (fun x y => x.1.cps.toList < y.1.cps.toList) ∧ depOf ds (.tree es) ≤ 8
  | .ver ps root stamp => ps.Pairwise (· < ·) ∧ ps.length ≤ 4 ∧ (∀ p ∈ ps, ∃ c, cs[p]? = some c ∧ c.word = "version") ∧ (∃ c, cs[root]? = some c ∧ c.word = "tree") ∧ stamp ≤ 10 ^ 18
structure BookAt (P : Program) (w : World) (C : Addr) (H : Hp) (p dx lc ld lg : Addr) (cs : List (Addr × Ct)) (ds : List Nat) : Prop where
  ob : H p = some (.ins C dx [("contents", .ref lc), ("depths", .ref ld), ("given", .ref lg)])
  co : H lc = some (.lst (cs.map fun q => .ref q.1))
  de : H ld = some (.lst (ds.map nV))
  gi : NDict P w H lg (entsF 0 cs)
  ct : ∀ q ∈ cs, CtAt H q.1 q.2
  nd : (cs.map (·.2)).Nodup
  dl : ds.length = cs.length
  ne : lc ≠ ld
  few : cs.length ≤ 400
theorem BookAt.kp {P : Program} {w : World} {C : Addr} {M : List Addr} {H H' : Hp} {p dx lc ld lg : Addr} {cs : List (Addr × Ct)} {ds : List Nat} (B : BookAt P w C H p dx lc ld lg cs ds) (k : Kp M H H') (t : KT H H') (h1 : p ∉ M) (h2 : lc ∉ M) (h3 : ld ∉ M) (h4 : lg ∉ M) : BookAt P w C H' p dx lc ld lg cs ds :=
  ⟨k _ _ h1 B.ob, k _ _ h2 B.co, k _ _ h3 B.de, B.gi.kp k t h4, fun q hq => (B.ct q hq).kt t, B.nd, B.dl, B.ne, B.few⟩
theorem BookAt.same {P : Program} {w : World} {C : Addr} {H H' : Hp} {p dx lc ld lg : Addr} {cs : List (Addr × Ct)} {ds : List Nat} (B : BookAt P w C H p dx lc ld lg cs ds) (k : Same H H') : BookAt P w C H' p dx lc ld lg cs ds :=
  B.kp (M := []) (Kp.of k) (KT.of k) (by simp) (by simp) (by simp) (by simp)
def spIsLabel : Sp := fun vs H Q _ => ∃ z : Str, vs = [.str z] ∧ LabOk z ∧ ∀ H', Same H H' → Q (.bl true) H'
def spRiseT : Sp := fun vs H Q _ => ∃ (r : Addr) (ns : List Nat), vs = [.ref r] ∧ H r = some (.tup (ns.map nV)) ∧ ns.length ≤ 1000 ∧ (ns.Pairwise (· < ·) → ∀ H', Same H H' → Q (.bl true) H') ∧ (¬ ns.Pairwise (· < ·) → ∀ H', Same H H' → Q (.bl false) H')
def spRiseS : Sp := fun vs H Q _ => ∃ (r : Addr) (zs : List Str), vs = [.ref r] ∧ H r = some (.lst (zs.map V.str)) ∧ zs.length ≤ 1000 ∧ zs.Pairwise (fun x y => x.cps.toList < y.cps.toList) ∧ ∀ H', Same H H' → Q (.bl true) H'
def NatsV (H : Hp) (x : V) (ns : List Nat) : Prop := ∃ a, x = .ref a ∧ H a = some (.tup (ns.map nV))
def spAreInts : Sp := fun vs H Q _ => ∃ (x : V) (B : Nat), vs = [x] ∧ DatT B H x ∧ B ≤ 1000 ∧ (∀ ns, NatsV H x ns → ∀ H', Same H H' → Q (.bl true) H') ∧ ((∀ ns, ¬ NatsV H x ns) → ∀ H', Same H H' → Q (.bl false) H')
def spRisingInts : Sp := fun vs H Q _ => ∃ (x : V) (B : Nat), vs = [x] ∧ DatT B H x ∧ B ≤ 1000 ∧ (∀ ns, NatsV H x ns → ns.Pairwise (· < ·) → ∀ H', Same H H' → Q (.bl true) H') ∧ ((∀ ns, NatsV H x ns → ¬ ns.Pairwise (· < ·)) → ∀ H', Same H H' → Q (.bl false) H')
def spAreRows : Sp := fun vs H Q _ => ∃ (r : Addr) (rows : List Str), vs = [.ref r] ∧ RwAt H r rows ∧ rows.length ≤ 40 ∧ (∀ z ∈ rows, LineOk z) ∧ ∀ H', Same H H' → Q (.bl true) H'
theorem nV_inj : ∀ {xs ys : List Nat}, xs.map nV = ys.map nV → xs = ys
  | [], [], _ => rfl
  | [], _ :: _, h => by simp at h
  | _ :: _, [], h => by simp at h
  | x :: xs, y :: ys, h => by
    rw [List.map_cons, List.map_cons, List.cons.injEq] at h
    have e : (x : Int) = y := V.int.inj h.1
    rw [show x = y by omega, nV_inj h.2]
theorem nats_of : ∀ {ys : List V}, (∀ y ∈ ys, ∃ n : Nat, y = nV n) → ∃ ns : List Nat, ys = ns.map nV
  | [], _ => ⟨[], rfl⟩
  | y :: ys, h => by
    obtain ⟨n, rfl⟩ := h y (by simp)
    obtain ⟨ns, rfl⟩ := nats_of (ys := ys) fun z hz => h z (by simp [hz])
    exact ⟨n :: ns, rfl⟩
theorem bls_of {C : Nat → Bool → Prop} {vs : List V} (h : ∀ (i : Nat) (y : V), vs[i]? = some y → ∃ b : Bool, y = .bl b ∧ C i b) : ∃ bs : List Bool, vs = bs.map V.bl ∧ ∀ (i : Nat) (b : Bool), bs[i]? = some b → C i b := by
  induction vs generalizing C with
  | nil => exact ⟨[], rfl, by simp⟩
  | cons v vs ih =>
    obtain ⟨b, rfl, hb⟩ := h 0 v rfl
    obtain ⟨bs, rfl, hbs⟩ := ih (C := fun i => C (i + 1)) fun i y hy => h (i + 1) y (by simpa using hy)
    refine ⟨b :: bs, rfl, fun i b' hb' => ?_⟩
    cases i with
    | zero =>
      have : b = b' := by simpa using hb'
      subst this
      exact hb
    | succ i => exact hbs i b' (by simpa using hb')
theorem pw_adj {α : Type} {R : α → α → Prop} (tr : ∀ a b c, R a b → R b c → R a c) : ∀ {l : List α}, (∀ (i : Nat) (x y : α), l[i]? = some x → l[i + 1]? = some y → R x y) → l.Pairwise R
  | [], _ => .nil
  | [x], _ => List.pairwise_singleton _ _
  | x :: y :: r, h => by
    have ih := pw_adj tr (l := y :: r) fun i a b ha hb => h (i + 1) a b (by simpa using ha) (by simpa using hb)
    refine List.pairwise_cons.mpr ⟨fun z hz => ?_, ih⟩
    have h0 := h 0 x y rfl rfl
    rcases List.mem_cons.mp hz with rfl | hz
    · exact h0
    · exact tr _ _ _ h0 ((List.pairwise_cons.mp ih).1 z hz)
theorem adj_pw {α : Type} {R : α → α → Prop} {l : List α} (h : l.Pairwise R) {i : Nat} {x y : α} (hx : l[i]? = some x) (hy : l[i + 1]? = some y) : R x y := by
  obtain ⟨h1, e1⟩ := List.getElem?_eq_some_iff.mp hx
  obtain ⟨h2, e2⟩ := List.getElem?_eq_some_iff.mp hy
  have := List.pairwise_iff_getElem.mp h i (i + 1) h1 h2 (by omega)
  rw [e1, e2] at this
  exact this
theorem nV_at {ns : List Nat} {i : Nat} (h : i < ns.length) : (ns.map nV)[i]? = some (nV (ns[i])) := by rw [List.getElem?_map, List.getElem?_eq_getElem h]; rfl
section
variable {P : Program} {w : World} {K : PySem.W.Frag} {mg : Str → Option Value} {base : Heap}
theorem ok_islabel {f : Addr} {fd : FuncData} (T : Txt K mg) (F : Fun K "is_label" "is_label" s_is_label f fd) : FnOk P w K mg base CX0 1 f fd ["thing"] spIsLabel := by
  obtain ⟨tk_LETTERS, g_LETTERS⟩ := T.g_LETTERS
  refine F.ok sc_is_label (fun vs H Q E h => ?_) (fun cdv A outer s H vs Q E hr h => ?_)
  · obtain ⟨z, rfl, _⟩ := h
    rfl
  · obtain ⟨z, rfl, ⟨l1, l8, hz⟩, q⟩ := h
    refine ⟨_,
      (pss_one
        (ps_ret (pe_and (pe_callB (r := rIsi K) call_isi (by rfl) T.n_isinstance (by decide +kernel) (pa_cons (pv 0) (pa_cons (pe_bltn (v := .ty "str") (u := .type "str") (by rfl) T.n_str (by decide +kernel) rfl) pa_nil))) (pe_and (pe_chain op_le op_le pe_int (pe_callB c_lenS (by rfl) T.n_len (by decide +kernel) (pa_cons (pv 0) pa_nil)) pe_int) (pe_one (pe_callB (r := rAll K) (cr_all rfl) (by rfl) T.n_all (by decide +kernel) (pa_cons (pe_lc (own := [("sign", 1)]) (g := (gName 1)) rfl sc_is_label.nd (pi_str (pv 0)) (blkOk_by (own := [("sign", 1)]) (N := N_is_label) (sc := defScope s_is_label) (by decide +kernel)) (fun _ _ _ _ _ => (pg_name (i := 1) sc_is_label.nd rfl (.inl rfl))) (fun _ _ _ _ _ => pts_nil) (fun _ _ _ _ _ => (pe_cmpR o_inS (pv 1) (pe_glob (v := .str "abcdefghijklmnopqrstuvwxyz") rfl g_LETTERS ⟨_, rfl⟩) rfl))) pa_nil)))))))
      , ?_⟩
    rw [show L2.start N_is_label [V.str z] = [some (.str z), none] from rfl]
    walk_at "x"
    refine w_lenS (Nat.le_trans l8 (by decide)) ?_
    walk_at "g"
    refine w_yes (by omega) ?_
    walk_at "g"
    refine w_yes (by omega) ?_
    walk_at "g"
    refine lcp_map (walk_str z) [] ((z.cps.toList.map fun c => true).map V.bl) (by simp) (by show z.length ≤ 1000000; omega) (fun _ _ => trivial) ?_ (by simp) ?_
    · rintro i x H1 H2 R hi k1 ⟨rfl, c, hc, rfl⟩ hR
      have hc' : z.cps.toList[i]? = some c := by rw [Array.getElem?_toList]; exact hc
      refine w_name ⟨rfl, ?_⟩
      walk_at "g"
      refine hR _ _ ?_ Kp.refl
      rw [List.getElem?_map, List.getElem?_map, hc', decide_eq_true (hz c (List.mem_of_getElem? hc'))]
      rfl
    · intro L H1 hL k1 eL
      walk_at "g"
      rw [show (z.cps.toList.map fun c => true).all id = true by simp]
      exact q _ k1.same
theorem ok_riseT {f : Addr} {fd : FuncData} (T : Txt K mg) (F : Fun K "rise" "rise" s_rise f fd) : FnOk P w K mg base CX0 1 f fd ["row"] spRiseT := by
  refine F.ok sc_rise (fun vs H Q E h => ?_) (fun cdv A outer s H vs Q E hr h => ?_)
  · obtain ⟨r, ns, rfl, _⟩ := h
    rfl
  · obtain ⟨r, ns, rfl, hr', hl, q1, q2⟩ := h
    refine ⟨_,
      (pss_one
        (ps_ret (pe_callB (r := rAll K) (cr_all rfl) (by rfl) T.n_all (by decide +kernel) (pa_cons (pe_lc (own := [("k", 1)]) (g := (gName 1)) rfl sc_rise.nd (pi_range2 (by rfl) T.n_range (pa_cons pe_int (pa_cons (pe_callB (r := rLen K) c_len (by rfl) T.n_len (by decide +kernel) (pa_cons (pv 0) pa_nil)) pa_nil))) (blkOk_by (own := [("k", 1)]) (N := N_rise) (sc := defScope s_rise) (by decide +kernel)) (fun _ _ _ _ _ => (pg_name (i := 1) sc_rise.nd rfl (.inl rfl))) (fun _ _ _ _ _ => pts_nil) (fun _ _ _ _ _ => (pe_cmpR op_lt (pe_ix (r := rIxT K) ix_tup (pv 0) (pe_op op_sub (pv 1) pe_int) (fun _ _ => rfl)) (pe_ix (r := rIxT K) ix_tup (pv 0) (pv 1) (fun _ _ => rfl)) (nomark _)))) pa_nil))))
      , ?_⟩
    rw [show L2.start N_rise [V.ref r] = [some (.ref r), none] from rfl]
    walk_at "x"
    try refine w_rng2' (by simp only [List.length_map]; omega) ?_
    refine lcp_map (walk_range (lo := 1) (n := ((((ns.map nV).length : Nat) : Int) - 1).toNat)) [] (((List.range (ns.length - 1)).map fun i => decide (ns.getD i 0 < ns.getD (i + 1) 0)).map V.bl) (by simp only [List.length_map, List.length_range]; omega) (by simp only [List.length_map]; omega) (fun _ _ => trivial) ?_ (by simp) ?_
    · rintro i x H1 H2 R hi k1 ⟨rfl, rfl⟩ hR
      have hi' : i + 1 < ns.length := by
        simp only [List.length_map] at hi
        omega
      have hr1 := k1.same _ _ hr'
      have at1 : atI (ns.map nV) (1 + (i : Int) - 1) = some (.int ((ns.getD i 0 : Nat) : Int)) := by
        rw [show (1 : Int) + (i : Int) - 1 = ((i : Nat) : Int) by omega]
        refine atI_nat ?_
        rw [nV_at (by omega), List.getD_eq_getElem?_getD, List.getElem?_eq_getElem (by omega)]
        rfl
      have at2 : atI (ns.map nV) (1 + (i : Int)) = some (.int ((ns.getD (i + 1) 0 : Nat) : Int)) := by
        rw [show (1 : Int) + (i : Int) = ((i + 1 : Nat) : Int) by omega]
        refine atI_nat ?_
        rw [nV_at hi', List.getD_eq_getElem?_getD, List.getElem?_eq_getElem hi']
        rfl
      refine w_name ⟨rfl, ?_⟩
      walk_at "g"
      refine hR _ _ ?_ Kp.refl
      rw [List.getElem?_map, List.getElem?_map, List.getElem?_range (by omega)]
      show some (V.bl (decide (ns.getD i 0 < ns.getD (i + 1) 0))) = some (V.bl (decide (((ns.getD i 0 : Nat) : Int) < ((ns.getD (i + 1) 0 : Nat) : Int))))
      congr 2
      rw [Bool.eq_iff_iff, decide_eq_true_iff, decide_eq_true_iff]
      omega
    · intro L H1 hL k1 eL
      walk_at "g"
      have gd : ∀ {i : Nat} {x : Nat}, ns[i]? = some x → ns.getD i 0 = x := fun {i x} h => by rw [List.getD_eq_getElem?_getD, h]; rfl
      by_cases h : ns.Pairwise (· < ·)
      · have e : ((List.range (ns.length - 1)).map fun i => decide (ns.getD i 0 < ns.getD (i + 1) 0)).all id = true := by
          rw [List.all_eq_true]
          intro b hb
          obtain ⟨i, hi, rfl⟩ := List.mem_map.mp hb
          rw [List.mem_range] at hi
          refine decide_eq_true ?_
          have h1 := List.getElem?_eq_getElem (show i < ns.length by omega)
          have h2 := List.getElem?_eq_getElem (show i + 1 < ns.length by omega)
          rw [gd h1, gd h2]
          exact adj_pw h h1 h2
        rw [e]
        exact q1 h _ k1.same
      · have e : ((List.range (ns.length - 1)).map fun i => decide (ns.getD i 0 < ns.getD (i + 1) 0)).all id = false := by
          rw [Bool.eq_false_iff]
          intro hall
          rw [List.all_eq_true] at hall
          refine h (pw_adj (R := (· < ·)) (fun a b c h1 h2 => Nat.lt_trans h1 h2) fun i x y hx hy => ?_)
          have hi : i < ns.length - 1 := by have := (List.getElem?_eq_some_iff.mp hy).1; omega
          have := of_decide_eq_true (hall _ (List.mem_map.mpr ⟨i, List.mem_range.mpr hi, rfl⟩))
          rwa [gd hx, gd hy] at this
        rw [e]
        exact q2 h _ k1.same
theorem ok_riseS {f : Addr} {fd : FuncData} (T : Txt K mg) (F : Fun K "rise" "rise" s_rise f fd) : FnOk P w K mg base CX0 1 f fd ["row"] spRiseS := by
  refine F.ok sc_rise (fun vs H Q E h => ?_) (fun cdv A outer s H vs Q E hr h => ?_)
  · obtain ⟨r, zs, rfl, _⟩ := h
    rfl
  · obtain ⟨r, zs, rfl, hr', hl, hp, q⟩ := h
    refine ⟨_,
      (pss_one
        (ps_ret (pe_callB (r := rAll K) (cr_all rfl) (by rfl) T.n_all (by decide +kernel) (pa_cons (pe_lc (own := [("k", 1)]) (g := (gName 1)) rfl sc_rise.nd (pi_range2 (by rfl) T.n_range (pa_cons pe_int (pa_cons (pe_callB (r := rLen K) c_len (by rfl) T.n_len (by decide +kernel) (pa_cons (pv 0) pa_nil)) pa_nil))) (blkOk_by (own := [("k", 1)]) (N := N_rise) (sc := defScope s_rise) (by decide +kernel)) (fun _ _ _ _ _ => (pg_name (i := 1) sc_rise.nd rfl (.inl rfl))) (fun _ _ _ _ _ => pts_nil) (fun _ _ _ _ _ => (pe_cmpR o_ltS (pe_ix (r := rIxL K) ix_list (pv 0) (pe_op op_sub (pv 1) pe_int) (fun _ _ => rfl)) (pe_ix (r := rIxL K) ix_list (pv 0) (pv 1) (fun _ _ => rfl)) (nomark _)))) pa_nil))))
      , ?_⟩
    rw [show L2.start N_rise [V.ref r] = [some (.ref r), none] from rfl]
    walk_at "x"
    try refine w_rng2' (by simp only [List.length_map]; omega) ?_
    refine lcp_map (walk_range (lo := 1) (n := ((((zs.map V.str).length : Nat) : Int) - 1).toNat)) [] (((List.range (zs.length - 1)).map fun i => true).map V.bl) (by simp only [List.length_map, List.length_range]; omega) (by simp only [List.length_map]; omega) (fun _ _ => trivial) ?_ (by simp) ?_
    · rintro i x H1 H2 R hi k1 ⟨rfl, rfl⟩ hR
      have hi' : i + 1 < zs.length := by
        simp only [List.length_map] at hi
        omega
      have hr1 := k1.same _ _ hr'
      have g1 := List.getElem?_eq_getElem (show i < zs.length by omega)
      have g2 := List.getElem?_eq_getElem hi'
      have at1 : atI (zs.map V.str) (1 + (i : Int) - 1) = some (.str zs[i]) := by
        rw [show (1 : Int) + (i : Int) - 1 = ((i : Nat) : Int) by omega]
        exact atI_nat (by rw [List.getElem?_map, g1]; rfl)
      have at2 : atI (zs.map V.str) (1 + (i : Int)) = some (.str zs[i + 1]) := by
        rw [show (1 : Int) + (i : Int) = ((i + 1 : Nat) : Int) by omega]
        exact atI_nat (by rw [List.getElem?_map, g2]; rfl)
      refine w_name ⟨rfl, ?_⟩
      walk_at "g"
      refine hR _ _ ?_ Kp.refl
      rw [List.getElem?_map, List.getElem?_map, List.getElem?_range (by omega), decide_eq_true (adj_pw hp g1 g2)]
      rfl
    · intro L H1 hL k1 eL
      walk_at "g"
      rw [show ((List.range (zs.length - 1)).map fun i => true).all id = true by simp]
      exact q _ k1.same
theorem ok_areints {f fI : Addr} {fd fdI : FuncData} (T : Txt K mg) (F : Fun K "are_ints" "are_ints" s_are_ints f fd) (D_is_int : DfD K mg "is_int" s_is_int ["thing", "least"] [.int 0] fI fdI) : FnOk P w K mg base CX0 2 f fd ["thing"] spAreInts := by
  obtain ⟨ds_is_int, V_is_int, B_is_int⟩ := D_is_int.b
  have G_is_int : FnOk P w K mg base CX0 1 fI fdI ["thing", "least"] spIsInt := ok_isint T D_is_int
  refine F.ok sc_are_ints (fun vs H Q E h => ?_) (fun cdv A outer s H vs Q E hr h => ?_)
  · obtain ⟨x, B, rfl, _⟩ := h
    rfl
  · obtain ⟨x, B, rfl, hd, hB, q1, q2⟩ := h
    refine ⟨_,
      (pss_one
        (ps_ret (pe_and (pe_callB (r := rIsi K) call_isi (by rfl) T.n_isinstance (by decide +kernel) (pa_cons (pv 0) (pa_cons (pe_bltn (v := .ty "tuple") (u := .type "tuple") (by rfl) T.n_tuple (by decide +kernel) rfl) pa_nil))) (pe_one (pe_callB (r := rAll K) (cr_all rfl) (by rfl) T.n_all (by decide +kernel) (pa_cons (pe_lc (own := [("part", 1)]) (g := (gName 1)) rfl sc_are_ints.nd (pi_tup (pv 0)) (blkOk_by (own := [("part", 1)]) (N := N_are_ints) (sc := defScope s_are_ints) (by decide +kernel)) (fun _ _ _ _ _ => (pg_name (i := 1) sc_are_ints.nd rfl (.inl rfl))) (fun _ _ _ _ _ => pts_nil) (fun _ _ _ _ _ => (pe_call G_is_int (hr.mono (by omega)) (by rfl) D_is_int.g D_is_int.kp B_is_int V_is_int pass0 (pa_cons (pv 1) pa_nil)))) pa_nil))))))
      , ?_⟩
    rw [show L2.start N_are_ints [x] = [some x, none] from rfl]
    walk_at "x"
    rcases hd.cases with ⟨ay, ty, hne⟩ | ⟨a, xs, rfl, ea, hxB, hxs⟩
    · refine w_isTup ty ?_
      rw [decide_eq_false hne]
      walk_at "g"
      refine q2 ?_ _ (fun _ _ z => z)
      rintro ns ⟨a, rfl, h⟩
      exact hne (ty.ofTup h)
    walk_at "g"
    refine lcp_gen (walk_tup (K := K) (a := a) (xs := xs)) [] (fun i y _ => ∃ bb : Bool, y = .bl bb ∧ ∀ z, xs[i]? = some z → (bb = true ↔ ∃ n : Nat, z = nV n)) (fun _ _ => True) (by omega) (fun _ _ _ _ _ h => h) (fun _ _ _ _ _ _ => trivial) (fun _ H1 k _ => .of (k _ _ (by simp) ea)) trivial ?_ (by simp) ?_
    · rintro i y H2 H3 R hi k2 t2 _ ⟨rfl, hy⟩ hR
      obtain ⟨a1, t1⟩ := ((hxs y (List.mem_of_getElem? hy)).kd (KD.of k2.same)).ty
      refine w_name ⟨rfl, ?_⟩
      walk_at "g"
      refine ⟨y, a1, rfl, t1, fun n hn => ?_, fun hn => ?_⟩
      · refine hR _ _ ⟨true, rfl, fun z hz => ⟨fun _ => ⟨n, ?_⟩, fun _ => rfl⟩⟩ Kp.refl KT.refl trivial
        rw [hy] at hz
        cases hz
        exact hn
      · refine hR _ _ ⟨false, rfl, fun z hz => ⟨fun h => Bool.noConfusion h, fun ⟨n, e⟩ => ?_⟩⟩ Kp.refl KT.refl trivial
        rw [hy] at hz
        cases hz
        exact absurd e (hn n)
    · intro L H2 vs hvl hvp hL k2' t2 _ eL
      have k2 := k2'.same
      obtain ⟨bs, rfl, hbs⟩ := bls_of hvp
      rw [List.length_map] at hvl
      walk_at "g"
      by_cases hall : ∀ y ∈ xs, ∃ n : Nat, y = nV n
      · have e : bs.all id = true := by
          rw [List.all_eq_true]
          intro b hb
          obtain ⟨i, hi, rfl⟩ := List.getElem_of_mem hb
          have hi2 : i < xs.length := by omega
          exact ((hbs i bs[i] (List.getElem?_eq_getElem hi)) xs[i] (List.getElem?_eq_getElem hi2)).mpr (hall _ (List.getElem_mem hi2))
        rw [e]
        obtain ⟨ns, rfl⟩ := nats_of hall
        exact q1 ns ⟨a, rfl, ea⟩ _ k2
      · have e : bs.all id = false := by
          rw [Bool.eq_false_iff]
          intro h
          rw [List.all_eq_true] at h
          refine hall fun y hy => ?_
          obtain ⟨i, hi, rfl⟩ := List.getElem_of_mem hy
          have hi2 : i < bs.length := by omega
          exact ((hbs i bs[i] (List.getElem?_eq_getElem hi2)) xs[i] (List.getElem?_eq_getElem hi)).mp (h _ (List.getElem_mem hi2))
        rw [e]
        refine q2 ?_ _ k2
        rintro ns ⟨a', e', h⟩
        cases e'
        rw [ea] at h
        cases h
        exact hall fun y hy => by
          obtain ⟨n, _, rfl⟩ := List.mem_map.mp hy
          exact ⟨n, rfl⟩
theorem ok_risingints {f fA fR fI : Addr} {fd fdA fdR fdI : FuncData} (T : Txt K mg) (F : Fun K "rising_ints" "rising_ints" s_rising_ints f fd) (D_are_ints : Df K mg "are_ints" s_are_ints ["thing"] fA fdA) (D_rise : Df K mg "rise" s_rise ["row"] fR fdR) (D_is_int : DfD K mg "is_int" s_is_int ["thing", "least"] [.int 0] fI fdI) : FnOk P w K mg base CX0 3 f fd ["thing"] spRisingInts := by
  have G_are_ints : FnOk P w K mg base CX0 2 fA fdA ["thing"] spAreInts := ok_areints T D_are_ints.fn D_is_int
  have G_rise : FnOk P w K mg base CX0 1 fR fdR ["row"] spRiseT := ok_riseT T D_rise.fn
  refine F.ok sc_rising_ints (fun vs H Q E h => ?_) (fun cdv A outer s H vs Q E hr h => ?_)
  · obtain ⟨x, B, rfl, _⟩ := h
    rfl
  · obtain ⟨x, B, rfl, hd, hB, q1, q2⟩ := h
    refine ⟨_,
      (pss_one
        (ps_ret (pe_and (pe_call G_are_ints (hr.mono (by omega)) (by rfl) D_are_ints.g D_are_ints.fn.kp D_are_ints.b .nil pass0 (pa_cons (pv 0) pa_nil)) (pe_one (pe_call G_rise (hr.mono (by omega)) (by rfl) D_rise.g D_rise.fn.kp D_rise.b .nil pass0 (pa_cons (pv 0) pa_nil))))))
      , ?_⟩
    rw [show L2.start N_rising_ints [x] = [some x] from rfl]
    walk_at "x"
    refine ⟨x, B, rfl, hd, hB, fun ns hns H1 k1 => ?_, fun hn H1 k1 => ?_⟩
    · walk_at "g"
      have hns' := hns
      obtain ⟨a, rfl, ea⟩ := hns
      have hlen : ns.length ≤ 1000 := by
        have := (hd.elem ea).1
        rw [List.length_map] at this
        omega
      refine ⟨a, ns, rfl, k1 _ _ ea, hlen, fun hp H2 k2 => ?_, fun hp H2 k2 => ?_⟩
      · exact q1 ns hns' hp _ (Same.trans k1 k2)
      · refine q2 ?_ _ (Same.trans k1 k2)
        rintro ns' ⟨a', e, h⟩
        cases e
        rw [ea] at h
        have e2 := Option.some.inj h
        injection e2 with e2
        rw [← nV_inj e2]
        exact hp
    · walk_at "g"
      exact q2 (fun ns h => absurd h (hn ns)) _ k1
theorem ok_arerows {f fT : Addr} {fd fdT : FuncData} (T : Txt K mg) (F : Fun K "are_rows" "are_rows" s_are_rows f fd) (D_is_text : DfD K mg "is_text" s_is_text ["thing", "most"] [.int 40] fT fdT) : FnOk P w K mg base CX0 2 f fd ["thing"] spAreRows := by
  obtain ⟨ds_is_text, V_is_text, B_is_text⟩ := D_is_text.b
  have G_is_text : FnOk P w K mg base CX0 1 fT fdT ["thing", "most"] spIsText := ok_istext T D_is_text
  refine F.ok sc_are_rows (fun vs H Q E h => ?_) (fun cdv A outer s H vs Q E hr h => ?_)
  · obtain ⟨r, rows, rfl, _⟩ := h
    rfl
  · obtain ⟨r, rows, rfl, hr', hl, hz, q⟩ := h
    have hr0 : H r = some (.tup (rows.map V.str)) := hr'
    refine ⟨_,
      (pss_one
        (ps_ret (pe_and (pe_callB (r := rIsi K) call_isi (by rfl) T.n_isinstance (by decide +kernel) (pa_cons (pv 0) (pa_cons (pe_bltn (v := .ty "tuple") (u := .type "tuple") (by rfl) T.n_tuple (by decide +kernel) rfl) pa_nil))) (pe_and (pe_cmpR op_le (pe_callB (r := rLen K) c_len (by rfl) T.n_len (by decide +kernel) (pa_cons (pv 0) pa_nil)) pe_int (nomark _)) (pe_one (pe_callB (r := rAll K) (cr_all rfl) (by rfl) T.n_all (by decide +kernel) (pa_cons (pe_lc (own := [("row", 1)]) (g := (gName 1)) rfl sc_are_rows.nd (pi_tup (pv 0)) (blkOk_by (own := [("row", 1)]) (N := N_are_rows) (sc := defScope s_are_rows) (by decide +kernel)) (fun _ _ _ _ _ => (pg_name (i := 1) sc_are_rows.nd rfl (.inl rfl))) (fun _ _ _ _ _ => pts_nil) (fun _ _ _ _ _ => (pe_call G_is_text (hr.mono (by omega)) (by rfl) D_is_text.g D_is_text.kp B_is_text V_is_text pass0 (pa_cons (pv 1) pa_nil)))) pa_nil)))))))
      , ?_⟩
    rw [show L2.start N_are_rows [V.ref r] = [some (.ref r), none] from rfl]
    walk_at "x"
    refine w_yes (by rw [List.length_map]; omega) ?_
    walk_at "g"
    refine lcp_map (walk_tup (K := K) (a := r) (xs := rows.map V.str)) [] ((rows.map fun _ => true).map V.bl) (by simp) (by rw [List.length_map]; omega) (fun H' k => .of (k _ _ (by simp) hr0)) ?_ (by simp) ?_
    · rintro i x H1 H2 R hi k1 ⟨rfl, hx⟩ hR
      obtain ⟨z, hz', rfl⟩ := map_at hx
      have hzo := hz z (List.mem_of_getElem? hz')
      refine w_name ⟨rfl, ?_⟩
      walk_at "g"
      refine ⟨.str z, 40, rfl, .leaf (.str z) (by decide) (fun z' e => by cases e; exact hzo.1), by omega, fun _ _ _ H3 k3 => ?_, fun hn => absurd hzo (hn z rfl)⟩
      refine hR _ _ ?_ (Kp.of k3)
      rw [List.getElem?_map, List.getElem?_map, hz']
      rfl
    · intro L H1 hL k1 eL
      walk_at "g"
      rw [show (rows.map fun _ => true).all id = true by simp]
      exact q _ k1.same
end
/-! ### a book's own defs -/
def spIsName (P : Program) (w : World) (C : Addr) : Sp := fun vs H Q _ => ∃ (p dx lc ld lg : Addr) (cs : List (Addr × Ct)) (ds : List Nat) (x : V) (a : String), vs = [.ref p, x] ∧ BookAt P w C H p dx lc ld lg cs ds ∧ Ty H x a ∧ (∀ n : Nat, x = nV n → n < cs.length → Q (.bl true) H) ∧ ((∀ n : Nat, x = nV n → ¬ n < cs.length) → Q (.bl false) H)
def spIsKind (P : Program) (w : World) (C : Addr) : Sp := fun vs H Q _ => ∃ (p dx lc ld lg : Addr) (cs : List (Addr × Ct)) (ds : List Nat) (x : V) (a : String) (k : Str), vs = [.ref p, x, .str k] ∧ BookAt P w C H p dx lc ld lg cs ds ∧ Ty H x a ∧ (∀ (n : Nat) (q : Addr × Ct), x = nV n → cs[n]? = some q → Q (.bl (decide (q.2.word = k))) H) ∧ ((∀ n : Nat, x = nV n → ¬ n < cs.length) → Q (.bl false) H)
def spIsPair2 : Sp := fun vs H Q _ => ∃ (a : Addr) (x y : V), vs = [.ref a] ∧ H a = some (.tup [x, y]) ∧ Q (.bl true) H
def spIsEntry (P : Program) (w : World) (C : Addr) : Sp := fun vs H Q _ => ∃ (p dx lc ld lg e : Addr) (cs : List (Addr × Ct)) (ds : List Nat) (z : Str) (n : Nat) (q : Addr × Ct), vs = [.ref p, .ref e] ∧ BookAt P w C H p dx lc ld lg cs ds ∧ H e = some (.tup [.str z, nV n]) ∧ LabOk z ∧ cs[n]? = some q ∧ q.2.word ≠ "version" ∧ ∀ H', Same H H' → Q (.bl true) H'
def spDepth (C : Addr) : Sp := fun vs H Q _ => ∃ (p dx lc ld lg a : Addr) (ds : List Nat) (c : Ct), vs = [.ref p, .ref a] ∧ H p = some (.ins C dx [("contents", .ref lc), ("depths", .ref ld), ("given", .ref lg)]) ∧ H ld = some (.lst (ds.map nV)) ∧ CtAt H a c ∧ (∀ es, c = .tree es → es.length ≤ 20 ∧ ∀ e ∈ es, e.2 < ds.length) ∧ ∀ H', Same H H' → Q (nV (depOf ds c)) H'
def spIsTree (P : Program) (w : World) (C : Addr) : Sp := fun vs H Q _ => ∃ (p dx lc ld lg r : Addr) (cs : List (Addr × Ct)) (ds : List Nat) (qs : List (Addr × Str × Nat)), vs = [.ref p, .ref r] ∧ BookAt P w C H p dx lc ld lg cs ds ∧ H r = some (.tup (qs.map fun q => .ref q.1)) ∧ (∀ q ∈ qs, H q.1 = some (.tup [.str q.2.1, nV q.2.2])) ∧ CtOk (cs.map (·.2)) ds (.tree (qs.map (·.2))) ∧ ∀ H', Same H H' → Q (.bl true) H'
def spIsContent (P : Program) (w : World) (C : Addr) : Sp := fun vs H Q _ => ∃ (p dx lc ld lg a : Addr) (cs : List (Addr × Ct)) (ds : List Nat) (c : Ct), vs = [.ref p, .ref a] ∧ BookAt P w C H p dx lc ld lg cs ds ∧ CtAt H a c ∧ CtOk (cs.map (·.2)) ds c ∧ ∀ H', Same H H' → Q (.bl true) H'
def spIsVersion (P : Program) (w : World) (C : Addr) : Sp := fun vs H Q _ => ∃ (p dx lc ld lg a : Addr) (cs : List (Addr × Ct)) (ds : List Nat) (ps : List Nat) (root stamp : Nat), vs = [.ref p, .ref a] ∧ BookAt P w C H p dx lc ld lg cs ds ∧ CtAt H a (.ver ps root stamp) ∧ CtOk (cs.map (·.2)) ds (.ver ps root stamp) ∧ ∀ H', Same H H' → Q (.bl true) H'
def spBookInit (P : Program) (w : World) (C : Addr) : Sp := fun vs H Q _ => ∃ (p dx : Addr), vs = [.ref p] ∧ H p = some (.ins C dx []) ∧ ∀ (lc ld lg : Addr) (H' : Hp), H lc = none → H ld = none → H lg = none → BookAt P w C H' p dx lc ld lg [] [] → Kp [p] H H' → Q .non H'
/-- what naming a content makes of a book -/
def spNamed (P : Program) (w : World) (C : Addr) : Sp := fun vs H Q _ => ∃ (p dx lc ld lg a : Addr) (cs : List (Addr × Ct)) (ds : List Nat) (c : Ct), vs = [.ref p, .ref a] ∧ BookAt P w C H p dx lc ld lg cs ds ∧ CtAt H a c ∧ CtOk (cs.map (·.2)) ds c ∧ cs.length < 400 ∧
  (∀ (j : Nat) (b : Addr) (H' : Hp), cs[j]? = some (b, c) → Same H H' → Q (nV j) H') ∧ ((∀ q ∈ cs, q.2 ≠ c) → ∀ H', BookAt P w C H' p dx lc ld lg (cs ++ [(a, c)]) (ds ++ [depOf ds c]) → Kp [lc, ld, lg] H H' → KT H H' → Q (nV cs.length) H')
def spThing (P : Program) (w : World) (C : Addr) : Sp := fun vs H Q _ => ∃ (p dx lc ld lg : Addr) (cs : List (Addr × Ct)) (ds : List Nat) (n : Nat) (q : Addr × Ct), vs = [.ref p, nV n] ∧ BookAt P w C H p dx lc ld lg cs ds ∧ cs[n]? = some q ∧ Q (.ref q.1) H
def spKind (P : Program) (w : World) (C : Addr) : Sp := fun vs H Q _ => ∃ (p dx lc ld lg : Addr) (cs : List (Addr × Ct)) (ds : List Nat) (n : Nat) (q : Addr × Ct), vs = [.ref p, nV n] ∧ BookAt P w C H p dx lc ld lg cs ds ∧ cs[n]? = some q ∧ Q (.str q.2.word) H
def spPartsV (P : Program) (w : World) (C : Addr) : Sp := fun vs H Q _ => ∃ (p dx lc ld lg : Addr) (cs : List (Addr × Ct)) (ds : List Nat) (n : Nat) (a : Addr) (ps : List Nat) (root stamp : Nat), vs = [.ref p, nV n] ∧ BookAt P w C H p dx lc ld lg cs ds ∧ cs[n]? = some (a, .ver ps root stamp) ∧ ps.length ≤ 900 ∧ ∀ H' r, Same H H' → H' r = some (.tup ((ps ++ [root]).map nV)) → Q (.ref r) H'
theorem CtAt.head {H : Hp} {a : Addr} {c : Ct} (h : CtAt H a c) : ∃ xs, H a = some (.tup (.str c.word :: xs)) := by
  cases c with
  | leaf rows => obtain ⟨r, h1, _⟩ := h; exact ⟨_, h1⟩
  | tree es => obtain ⟨r, qs, h1, _⟩ := h; exact ⟨_, h1⟩
  | ver ps root stamp => obtain ⟨r, h1, _⟩ := h; exact ⟨_, h1⟩
theorem fold_max (m : Nat) : ∀ (ns : List Nat) (b : Nat), (m = b ∨ m ∈ ns) → b ≤ m → (∀ y ∈ ns, y ≤ m) → ns.foldl max b = m
  | [], b, h, _, _ => by
    rcases h with h | h
    · exact h.symm
    · cases h
  | n :: ns, b, h, hb, hall => by
    show ns.foldl max (max b n) = m
    have hn := hall n (by simp)
    refine fold_max m ns (max b n) ?_ (by omega) fun y hy => hall y (by simp [hy])
    rcases h with h | h
    · exact .inl (by omega)
    · rcases List.mem_cons.mp h with h | h
      · exact .inl (by omega)
      · exact .inr h
theorem small1kl {n : Nat} (h : n ≤ 1000) : n < sizeLine := Nat.lt_of_le_of_lt h (by decide)
section
variable {P : Program} {w : World} {K : PySem.W.Frag} {mg : Str → Option Value} {base : Heap} {C : Addr}
theorem ok_isname {f fI : Addr} {fd fdI : FuncData} (T : Txt K mg) (F : Fun K "is_name" "is_name" s_is_name f fd) (K_Book : Kl K mg "Book" C ["contents", "depths", "given"]) (D_is_int : DfD K mg "is_int" s_is_int ["thing", "least"] [.int 0] fI fdI) : FnOk P w K mg base CX0 2 f fd ["book", "thing"] (spIsName P w C) := by
  obtain ⟨ds_is_int, V_is_int, B_is_int⟩ := D_is_int.b
  have G_is_int : FnOk P w K mg base CX0 1 fI fdI ["thing", "least"] spIsInt := ok_isint T D_is_int
  have cl := K_Book.cl
  have n1 := K_Book.na "contents" (by simp)
  refine F.ok sc_is_name (fun vs H Q E h => ?_) (fun cdv A outer s H vs Q E hr h => ?_)
  · obtain ⟨p, dx, lc, ld, lg, cs, ds, x, a, rfl, _⟩ := h
    rfl
  · obtain ⟨p, dx, lc, ld, lg, cs, ds, x, a, rfl, B, t, q1, q2⟩ := h
    have ob := B.ob
    have co := B.co
    refine ⟨_,
      (pss_one
        (ps_ret (pe_and (pe_call G_is_int (hr.mono (by omega)) (by rfl) D_is_int.g D_is_int.kp B_is_int V_is_int pass0 (pa_cons (pv 1) pa_nil)) (pe_one (pe_cmpR op_lt (pv 1) (pe_callB (r := rLen K) c_len (by rfl) T.n_len (by decide +kernel) (pa_cons (pe_fldK (K := K) rfl (pv 0) rfl) pa_nil)) (nomark _))))))
      , ?_⟩
    rw [show L2.start N_is_name [V.ref p, x] = [some (.ref p), some x] from rfl]
    walk_at "x"
    refine ⟨x, a, rfl, t, fun n hn => ?_, fun hn => ?_⟩
    · subst hn
      walk_at "g"
      by_cases h : n < cs.length
      · rw [decide_eq_true (by rw [List.length_map]; omega)]
        exact q1 n rfl h
      · rw [decide_eq_false (by rw [List.length_map]; omega)]
        exact q2 fun m e => by
          have : (n : Int) = m := V.int.inj e
          omega
    · walk_at "g"
      exact q2 fun n e => absurd e (hn n)
theorem ok_iskind {f fN fI : Addr} {fd fdN fdI : FuncData} (T : Txt K mg) (F : Fun K "is_kind" "is_kind" s_is_kind f fd) (K_Book : Kl K mg "Book" C ["contents", "depths", "given"]) (D_is_name : Df K mg "is_name" s_is_name ["book", "thing"] fN fdN) (D_is_int : DfD K mg "is_int" s_is_int ["thing", "least"] [.int 0] fI fdI) : FnOk P w K mg base CX0 3 f fd ["book", "thing", "kind"] (spIsKind P w C) := by
  have G_is_name : FnOk P w K mg base CX0 2 fN fdN ["book", "thing"] (spIsName P w C) := ok_isname T D_is_name.fn K_Book D_is_int
  have cl := K_Book.cl
  have n1 := K_Book.na "contents" (by simp)
  refine F.ok sc_is_kind (fun vs H Q E h => ?_) (fun cdv A outer s H vs Q E hr h => ?_)
  · obtain ⟨p, dx, lc, ld, lg, cs, ds, x, a, k, rfl, _⟩ := h
    rfl
  · obtain ⟨p, dx, lc, ld, lg, cs, ds, x, a, k, rfl, B, t, q1, q2⟩ := h
    have ob := B.ob
    have co := B.co
    refine ⟨_,
      (pss_one
        (ps_ret (pe_and (pe_call G_is_name (hr.mono (by omega)) (by rfl) D_is_name.g D_is_name.fn.kp D_is_name.b .nil pass0 (pa_cons (pv 0) (pa_cons (pv 1) pa_nil))) (pe_one (pe_cmpR op_eq (pe_ix (r := rIxT K) ix_tup (pe_ix (r := rIxL K) ix_list (pe_fldK (K := K) rfl (pv 0) rfl) (pv 1) (fun _ _ => rfl)) pe_int (fun _ _ => rfl)) (pv 2) (nomark _))))))
      , ?_⟩
    rw [show L2.start N_is_kind [V.ref p, x, V.str k] = [some (.ref p), some x, some (.str k)] from rfl]
    walk_at "x"
    refine ⟨p, dx, lc, ld, lg, cs, ds, x, a, rfl, B, t, fun n hn hl => ?_, fun hn => ?_⟩
    · subst hn
      have hq := List.getElem?_eq_getElem hl
      generalize cs[n] = q at hq
      obtain ⟨xs, hh⟩ := (B.ct q (List.mem_of_getElem? hq)).head
      have at1 : atI (cs.map fun q => V.ref q.1) (n : Int) = some (.ref q.1) := atI_nat (by rw [List.getElem?_map, hq]; rfl)
      have at0 : atI (V.str q.2.word :: xs) 0 = some (.str q.2.word) := atI_nat (j := 0) rfl
      walk_at "g"
      exact q1 n q rfl hq
    · walk_at "g"
      exact q2 hn
theorem ok_ispair2 {f : Addr} {fd : FuncData} (T : Txt K mg) (F : Fun K "is_pair" "is_pair" s_is_pair f fd) : FnOk P w K mg base CX0 1 f fd ["thing"] spIsPair2 := by
  refine F.ok sc_is_pair (fun vs H Q E h => ?_) (fun cdv A outer s H vs Q E hr h => ?_)
  · obtain ⟨a, x, y, rfl, _⟩ := h
    rfl
  · obtain ⟨a, x, y, rfl, ha, q⟩ := h
    refine ⟨_,
      (pss_one
        (ps_ret (pe_and (pe_callB (r := rIsi K) call_isi (by rfl) T.n_isinstance (by decide +kernel) (pa_cons (pv 0) (pa_cons (pe_bltn (v := .ty "tuple") (u := .type "tuple") (by rfl) T.n_tuple (by decide +kernel) rfl) pa_nil))) (pe_one (pe_cmpR op_eq (pe_callB (r := rLen K) c_len (by rfl) T.n_len (by decide +kernel) (pa_cons (pv 0) pa_nil)) pe_int (nomark _))))))
      , ?_⟩
    rw [show L2.start N_is_pair [V.ref a] = [some (.ref a)] from rfl]
    walk_at "x"
    exact q
theorem ok_isentry {f fN fI fP fL : Addr} {fd fdN fdI fdP fdL : FuncData} (T : Txt K mg) (F : Fun K "is_entry" "is_entry" s_is_entry f fd) (K_Book : Kl K mg "Book" C ["contents", "depths", "given"]) (D_is_name : Df K mg "is_name" s_is_name ["book", "thing"] fN fdN) (D_is_int : DfD K mg "is_int" s_is_int ["thing", "least"] [.int 0] fI fdI) (D_is_pair : Df K mg "is_pair" s_is_pair ["thing"] fP fdP) (D_is_label : Df K mg "is_label" s_is_label ["thing"] fL fdL) : FnOk P w K mg base CX0 3 f fd ["book", "thing"] (spIsEntry P w C) := by
  have G_is_name : FnOk P w K mg base CX0 2 fN fdN ["book", "thing"] (spIsName P w C) := ok_isname T D_is_name.fn K_Book D_is_int
  have G_is_pair : FnOk P w K mg base CX0 1 fP fdP ["thing"] spIsPair2 := ok_ispair2 T D_is_pair.fn
  have G_is_label : FnOk P w K mg base CX0 1 fL fdL ["thing"] spIsLabel := ok_islabel T D_is_label.fn
  have cl := K_Book.cl
  have n1 := K_Book.na "contents" (by simp)
  refine F.ok sc_is_entry (fun vs H Q E h => ?_) (fun cdv A outer s H vs Q E hr h => ?_)
  · obtain ⟨p, dx, lc, ld, lg, e, cs, ds, z, n, q, rfl, _⟩ := h
    rfl
  · obtain ⟨p, dx, lc, ld, lg, e, cs, ds, z, n, q, rfl, B, he, hz, hq, hw, qq⟩ := h
    have he' : H e = some (.tup [.str z, .int (n : Int)]) := he
    refine ⟨_,
      (pss_cons
        (ps_if (PW.pt (pw_or (pt_not (pt_val (pe_call G_is_pair (hr.mono (by omega)) (by rfl) D_is_pair.g D_is_pair.fn.kp D_is_pair.b .nil pass0 (pa_cons (pv 1) pa_nil)))) (pw_or1 (pt_not (pt_val (pe_call G_is_label (hr.mono (by omega)) (by rfl) D_is_label.g D_is_label.fn.kp D_is_label.b .nil pass0 (pa_cons (pe_ix (r := rIxT K) ix_tup (pv 1) pe_int (fun _ _ => rfl)) pa_nil)))))))
          (pss_one
            (ps_ret pe_bl))
          pss_nil)
      (pss_one
        (ps_ret (pe_and (pe_call G_is_name (hr.mono (by omega)) (by rfl) D_is_name.g D_is_name.fn.kp D_is_name.b .nil pass0 (pa_cons (pv 0) (pa_cons (pe_ix (r := rIxT K) ix_tup (pv 1) pe_int (fun _ _ => rfl)) pa_nil))) (pe_one (pe_cmpR op_ne (pe_ix (r := rIxT K) ix_tup (pe_ix (r := rIxL K) ix_list (pe_fldK (K := K) rfl (pv 0) rfl) (pe_ix (r := rIxT K) ix_tup (pv 1) pe_int (fun _ _ => rfl)) (fun _ _ => rfl)) pe_int (fun _ _ => rfl)) pe_str (nomark _)))))))
      , ?_⟩
    rw [show L2.start N_is_entry [V.ref p, V.ref e] = [some (.ref p), some (.ref e)] from rfl]
    refine w_seq ?_
    walk_at "x"
    refine ⟨e, _, _, rfl, he', ?_⟩
    walk_at "g"
    refine ⟨z, rfl, hz, fun H1 k1 => ?_⟩
    have B1 := B.same k1
    have ob1 := B1.ob
    have co1 := B1.co
    have he1 := k1 _ _ he'
    have hl : n < cs.length := (List.getElem?_eq_some_iff.mp hq).1
    obtain ⟨xs, hh⟩ := (B1.ct q (List.mem_of_getElem? hq)).head
    have at1 : atI (cs.map fun q => V.ref q.1) (n : Int) = some (.ref q.1) := atI_nat (by rw [List.getElem?_map, hq]; rfl)
    have at0 : atI (V.str q.2.word :: xs) 0 = some (.str q.2.word) := atI_nat (j := 0) rfl
    walk_at "g"
    refine ⟨p, dx, lc, ld, lg, cs, ds, .int (n : Int), "int", rfl, B1, .int _, fun m hm hml => ?_, fun hm => absurd hl (hm n rfl)⟩
    walk_at "g"
    rw [decide_eq_false hw]
    exact qq _ k1
theorem ok_depth {f : Addr} {fd : FuncData} (T : Txt K mg) (F : Fun K "depth_of" "depth_of" s_depth_of f fd) (K_Book : Kl K mg "Book" C ["contents", "depths", "given"]) : FnOk P w K mg base CX0 1 f fd ["book", "content"] (spDepth C) := by
  have cl := K_Book.cl
  have n2 := K_Book.na "depths" (by simp)
  refine F.ok sc_depth_of (fun vs H Q E h => ?_) (fun cdv A outer s H vs Q E hr h => ?_)
  · obtain ⟨p, dx, lc, ld, lg, a, ds, c, rfl, _⟩ := h
    rfl
  · obtain ⟨p, dx, lc, ld, lg, a, ds, c, rfl, ob, de, hc, ht, q⟩ := h
    refine ⟨_,
      (pss_cons
        (ps_if (pt_cmpR op_ne (pe_ix (r := rIxT K) ix_tup (pv 1) pe_int (fun _ _ => rfl)) pe_str (nomark _))
          (pss_one
            (ps_ret pe_int))
          pss_nil)
      (pss_one
        (ps_ret (pe_op op_add pe_int (pe_callBK (r := rMaxD K) (c_maxD rfl hr.units) (by rfl) T.n_max (by decide +kernel) (pa_cons (pe_lc (own := [("label", 2), ("name", 3)]) (g := (gTup K 2 (gCons (gName 2) (gCons (gName 3) gNil)))) rfl sc_depth_of.nd (pi_tup (pe_ix (r := rIxT K) ix_tup (pv 1) pe_int (fun _ _ => rfl))) (blkOk_by (own := [("label", 2), ("name", 3)]) (N := N_depth_of) (sc := defScope s_depth_of) (by decide +kernel)) (fun _ _ _ _ _ => (pg_tup rfl (pgs_cons (pg_name (i := 2) sc_depth_of.nd rfl (.inl rfl)) (pgs_cons (pg_name (i := 3) sc_depth_of.nd rfl (.inl rfl)) pgs_nil)))) (fun _ _ _ _ _ => pts_nil) (fun _ _ _ _ _ => (pe_ix (r := rIxL K) ix_list (pe_fldK (K := K) rfl (pv 0) rfl) (pv 3) (fun _ _ => rfl)))) pa_nil) (pk_cons pe_int pk_nil))))))
      , ?_⟩
    rw [show L2.start N_depth_of [V.ref p, V.ref a] = [some (.ref p), some (.ref a), none, none] from rfl]
    refine w_seq ?_
    have sm : Same H H := fun _ _ z => z
    cases c with
    | leaf rows =>
      obtain ⟨r, h1, _⟩ := hc
      walk_at "x"
      refine w_nno lit_ne1 ?_
      walk_at "g"
      exact q _ sm
    | ver ps root stamp =>
      obtain ⟨r, h1, _⟩ := hc
      walk_at "x"
      refine w_nno lit_ne6 ?_
      walk_at "g"
      exact q _ sm
    | tree es =>
      obtain ⟨r, qs, h1, h2, rfl, h4⟩ := hc
      obtain ⟨hl20, hin⟩ := ht _ rfl
      rw [List.length_map] at hl20
      walk_at "x"
      refine w_nyes rfl ?_
      walk_at "g"
      refine lcp_map (walk_tup (K := K) (a := r) (xs := qs.map fun q => V.ref q.1)) [] ((qs.map fun q => ds.getD q.2.2 0).map nV) (by simp) (by rw [List.length_map]; omega) (fun H' k => .of (k _ _ (by simp) h2)) ?_ (by simp) ?_
      · rintro i x H1 H2 R hi k1 ⟨rfl, hx⟩ hR
        obtain ⟨z, hz, rfl⟩ := map_at hx
        have hzm := List.mem_of_getElem? hz
        have e1 : H2 z.1 = some (.tup [.str z.2.1, .int (z.2.2 : Int)]) := k1.same _ _ (h4 z hzm)
        have ob1 := k1.same _ _ ob
        have de1 := k1.same _ _ de
        have hlt : z.2.2 < ds.length := hin z.2 (List.mem_map_of_mem hzm)
        have at1 : atI (ds.map nV) (z.2.2 : Int) = some (nV (ds.getD z.2.2 0)) := by
          refine atI_nat ?_
          rw [nV_at hlt, List.getD_eq_getElem?_getD, List.getElem?_eq_getElem hlt]
          rfl
        refine w_gtup (.of e1) rfl (w_gcons (w_name (w_gcons (w_name (w_gnil ⟨rfl, ?_⟩)))))
        walk_at "g"
        refine hR _ _ ?_ Kp.refl
        rw [List.getElem?_map, List.getElem?_map, hz]
        rfl
      · intro L H1 hL k1 eL
        have eL' : H1 L = some (.lst (((qs.map fun q => ds.getD q.2.2 0).map fun n : Nat => (n : Int)).map V.int)) := by rw [List.map_map]; exact eL
        walk_at "g"
        refine w_maxD' (.of eL') (fun e0 => ?_) fun m hm hall => ?_
        · have e1 : qs = [] := by simpa using e0
          subst e1
          walk_at "g"
          exact q _ k1.same
        · obtain ⟨n, hn, rfl⟩ := List.mem_map.mp hm
          walk_at "g"
          have e : depOf ds (.tree (qs.map (·.2))) = 1 + n := by
            show 1 + ((qs.map (·.2)).map fun e => ds.getD e.2 0).foldl max 0 = 1 + n
            rw [List.map_map]
            rw [fold_max n (qs.map ((fun e : Str × Nat => ds.getD e.2 0) ∘ fun q : Addr × Str × Nat => q.2)) 0 (.inr hn) (Nat.zero_le _) fun y hy => by
              have := hall (y : Int) (List.mem_map.mpr ⟨y, hy, rfl⟩)
              omega]
          have := q _ k1.same
          rw [e] at this
          rw [show nV (1 + n) = V.int (1 + (n : Int)) from congrArg V.int (by omega)] at this
          exact this
theorem ok_istree {f fE fR fO fN fI fP fL : Addr} {fd fdE fdR fdO fdN fdI fdP fdL : FuncData} (T : Txt K mg) (F : Fun K "is_tree" "is_tree" s_is_tree f fd) (K_Book : Kl K mg "Book" C ["contents", "depths", "given"]) (D_is_entry : Df K mg "is_entry" s_is_entry ["book", "thing"] fE fdE) (D_rise : Df K mg "rise" s_rise ["row"] fR fdR) (D_depth_of : Df K mg "depth_of" s_depth_of ["book", "content"] fO fdO) (D_is_name : Df K mg "is_name" s_is_name ["book", "thing"] fN fdN) (D_is_int : DfD K mg "is_int" s_is_int ["thing", "least"] [.int 0] fI fdI) (D_is_pair : Df K mg "is_pair" s_is_pair ["thing"] fP fdP) (D_is_label : Df K mg "is_label" s_is_label ["thing"] fL fdL) : FnOk P w K mg base CX0 4 f fd ["book", "entries"] (spIsTree P w C) := by
  have G_is_entry : FnOk P w K mg base CX0 3 fE fdE ["book", "thing"] (spIsEntry P w C) := ok_isentry T D_is_entry.fn K_Book D_is_name D_is_int D_is_pair D_is_label
  have G_rise : FnOk P w K mg base CX0 1 fR fdR ["row"] spRiseS := ok_riseS T D_rise.fn
  have G_depth_of : FnOk P w K mg base CX0 1 fO fdO ["book", "content"] (spDepth C) := ok_depth T D_depth_of.fn K_Book
  obtain ⟨tk_DEEP, g_DEEP⟩ := T.g_DEEP
  refine F.ok sc_is_tree (fun vs H Q E h => ?_) (fun cdv A outer s H vs Q E hr h => ?_)
  · obtain ⟨p, dx, lc, ld, lg, r, cs, ds, qs, rfl, _⟩ := h
    rfl
  · obtain ⟨p, dx, lc, ld, lg, r, cs, ds, qs, rfl, B, hr', hqs, ⟨c1, c2, c3, c4⟩, q⟩ := h
    rw [List.length_map] at c1
    refine ⟨_,
      (pss_cons
        (ps_if (PW.pt (pw_or (pt_not (pt_val (pe_callB (r := rIsi K) call_isi (by rfl) T.n_isinstance (by decide +kernel) (pa_cons (pv 1) (pa_cons (pe_bltn (v := .ty "tuple") (u := .type "tuple") (by rfl) T.n_tuple (by decide +kernel) rfl) pa_nil))))) (pw_or1 (pt_cmpR op_gt (pe_callB (r := rLen K) c_len (by rfl) T.n_len (by decide +kernel) (pa_cons (pv 1) pa_nil)) pe_int (nomark _)))))
          (pss_one
            (ps_ret pe_bl))
          pss_nil)
      (pss_cons
        (ps_if (PW.pt (pw_or (pt_not (pt_val (pe_callB (r := rAll K) (cr_all rfl) (by rfl) T.n_all (by decide +kernel) (pa_cons (pe_lc (own := [("entry", 2)]) (g := (gName 2)) rfl sc_is_tree.nd (pi_tup (pv 1)) (blkOk_by (own := [("entry", 2)]) (N := N_is_tree) (sc := defScope s_is_tree) (by decide +kernel)) (fun _ _ _ _ _ => (pg_name (i := 2) sc_is_tree.nd rfl (.inl rfl))) (fun _ _ _ _ _ => pts_nil) (fun _ _ _ _ _ => (pe_call G_is_entry (hr.mono (by omega)) (by rfl) D_is_entry.g D_is_entry.fn.kp D_is_entry.b .nil pass0 (pa_cons (pv 0) (pa_cons (pv 2) pa_nil))))) pa_nil)))) (pw_or1 (pt_not (pt_val (pe_call G_rise (hr.mono (by omega)) (by rfl) D_rise.g D_rise.fn.kp D_rise.b .nil pass0 (pa_cons (pe_lc (own := [("entry", 2)]) (g := (gName 2)) rfl sc_is_tree.nd (pi_tup (pv 1)) (blkOk_by (own := [("entry", 2)]) (N := N_is_tree) (sc := defScope s_is_tree) (by decide +kernel)) (fun _ _ _ _ _ => (pg_name (i := 2) sc_is_tree.nd rfl (.inl rfl))) (fun _ _ _ _ _ => pts_nil) (fun _ _ _ _ _ => (pe_ix (r := rIxT K) ix_tup (pv 2) pe_int (fun _ _ => rfl)))) pa_nil)))))))
          (pss_one
            (ps_ret pe_bl))
          pss_nil)
      (pss_one
        (ps_ret (pe_cmpR op_le (pe_call G_depth_of (hr.mono (by omega)) (by rfl) D_depth_of.g D_depth_of.fn.kp D_depth_of.b .nil pass0 (pa_cons (pv 0) (pa_cons (pe_tup (pa_cons pe_str (pa_cons (pv 1) pa_nil))) pa_nil))) (pe_glob (v := .int 8) rfl g_DEEP ⟨_, rfl⟩) (nomark _))))))
      , ?_⟩
    rw [show L2.start N_is_tree [V.ref p, V.ref r] = [some (.ref p), some (.ref r), none] from rfl]
    refine w_seq ?_
    walk_at "x"
    refine w_no (by rw [List.length_map]; omega) ?_
    walk_at "g"
    refine w_seq ?_
    walk_at "g"
    refine lcp_map (walk_tup (K := K) (a := r) (xs := qs.map fun q => V.ref q.1)) [] ((qs.map fun _ => true).map V.bl) (by simp) (by rw [List.length_map]; omega) (fun H' k => .of (k _ _ (by simp) hr')) ?_ (by simp) ?_
    · rintro i x H1 H2 R hi k1 ⟨rfl, hx⟩ hR
      obtain ⟨z, hz, rfl⟩ := map_at hx
      have hzm := List.mem_of_getElem? hz
      obtain ⟨g1, c, g2, g3⟩ := c2 z.2 (List.mem_map_of_mem hzm)
      rw [List.getElem?_map] at g2
      obtain ⟨q', hq', rfl⟩ := Option.map_eq_some_iff.mp g2
      refine w_name ⟨rfl, ?_⟩
      walk_at "g"
      refine ⟨p, dx, lc, ld, lg, z.1, cs, ds, z.2.1, z.2.2, q', rfl, B.same k1.same, k1.same _ _ (hqs z hzm), g1, hq', g3, fun H3 k3 => ?_⟩
      refine hR _ _ ?_ (Kp.of k3)
      rw [List.getElem?_map, List.getElem?_map, hz]
      rfl
    · intro L H1 hL k1' eL
      have k1 := k1'.same
      have hr1 := k1 _ _ hr'
      walk_at "g"
      rw [show (qs.map fun _ => true).all id = true by simp]
      walk_at "g"
      refine lcp_map (walk_tup (K := K) (a := r) (xs := qs.map fun q => V.ref q.1)) [] ((qs.map fun q => q.2.1).map V.str) (by simp) (by rw [List.length_map]; omega) (fun H' k => .of (k _ _ (by simp) hr1)) ?_ (by simp) ?_
      · rintro i x H2 H3 R hi k2 ⟨rfl, hx⟩ hR
        obtain ⟨z, hz, rfl⟩ := map_at hx
        have hzm := List.mem_of_getElem? hz
        have e1 : H3 z.1 = some (.tup [.str z.2.1, .int (z.2.2 : Int)]) := k2.same _ _ (k1 _ _ (hqs z hzm))
        refine w_name ⟨rfl, ?_⟩
        walk_at "g"
        refine hR _ _ ?_ Kp.refl
        rw [List.getElem?_map, List.getElem?_map, hz]
        rfl
      · intro L2' H2 hL2 k2' eL2
        have k2 := k2'.same
        walk_at "g"
        refine ⟨L2', qs.map fun q => q.2.1, rfl, eL2, by rw [List.length_map]; omega, ?_, fun H3 k3 => ?_⟩
        · rw [List.pairwise_map] at c3 ⊢
          exact c3
        walk_at "g"
        refine w_new fun t H4 ht e4 k4 => ?_
        have k04 : Same H H4 := Same.trans k1 (Same.trans k2 (Same.trans k3 k4))
        walk_at "g"
        refine ⟨p, dx, lc, ld, lg, t, ds, .tree (qs.map (·.2)), rfl, k04 _ _ B.ob, k04 _ _ B.de, ⟨r, qs, e4, k04 _ _ hr', rfl, fun z hz => k04 _ _ (hqs z hz)⟩, fun es e => ?_, fun H5 k5 => ?_⟩
        · cases e
          refine ⟨by rw [List.length_map]; exact c1, fun z hz => ?_⟩
          obtain ⟨_, c, g2, _⟩ := c2 z hz
          have := (List.getElem?_eq_some_iff.mp g2).1
          rw [B.dl]
          rwa [List.length_map] at this
        walk_at "g"
        rw [decide_eq_true (by omega)]
        exact q _ (Same.trans k04 k5)
theorem ok_isversion {f fG fA fR fK fN fI : Addr} {fd fdG fdA fdR fdK fdN fdI : FuncData} (T : Txt K mg) (F : Fun K "is_version" "is_version" s_is_version f fd) (K_Book : Kl K mg "Book" C ["contents", "depths", "given"]) (D_rising_ints : Df K mg "rising_ints" s_rising_ints ["thing"] fG fdG) (D_are_ints : Df K mg "are_ints" s_are_ints ["thing"] fA fdA) (D_rise : Df K mg "rise" s_rise ["row"] fR fdR) (D_is_kind : Df K mg "is_kind" s_is_kind ["book", "thing", "kind"] fK fdK) (D_is_name : Df K mg "is_name" s_is_name ["book", "thing"] fN fdN) (D_is_int : DfD K mg "is_int" s_is_int ["thing", "least"] [.int 0] fI fdI) : FnOk P w K mg base CX0 4 f fd ["book", "content"] (spIsVersion P w C) := by
  obtain ⟨ds_is_int, V_is_int, B_is_int⟩ := D_is_int.b
  have G_is_int : FnOk P w K mg base CX0 1 fI fdI ["thing", "least"] spIsInt := ok_isint T D_is_int
  have G_rising_ints : FnOk P w K mg base CX0 3 fG fdG ["thing"] spRisingInts := ok_risingints T D_rising_ints.fn D_are_ints D_rise D_is_int
  have G_is_kind : FnOk P w K mg base CX0 3 fK fdK ["book", "thing", "kind"] (spIsKind P w C) := ok_iskind T D_is_kind.fn K_Book D_is_name D_is_int
  refine F.ok sc_is_version (fun vs H Q E h => ?_) (fun cdv A outer s H vs Q E hr h => ?_)
  · obtain ⟨p, dx, lc, ld, lg, a, cs, ds, ps, root, stamp, rfl, _⟩ := h
    rfl
  · obtain ⟨p, dx, lc, ld, lg, a, cs, ds, ps, root, stamp, rfl, B, ⟨r, h1, h2⟩, ⟨c1, c2, c3, ⟨cr, c4, c5⟩, c6⟩, q⟩ := h
    refine ⟨_,
      (pss_cons
        (ps_set (i := 2) sc_is_version.nd rfl (.inl rfl) (pe_ix (r := rIxT K) ix_tup (pv 1) pe_int (fun _ _ => rfl)))
      (pss_cons
        (ps_if (PW.pt (pw_or (pt_not (pt_val (pe_call G_rising_ints (hr.mono (by omega)) (by rfl) D_rising_ints.g D_rising_ints.fn.kp D_rising_ints.b .nil pass0 (pa_cons (pv 2) pa_nil)))) (pw_or1 (pt_cmpR op_gt (pe_callB (r := rLen K) c_len (by rfl) T.n_len (by decide +kernel) (pa_cons (pv 2) pa_nil)) pe_int (nomark _)))))
          (pss_one
            (ps_ret pe_bl))
          pss_nil)
      (pss_cons
        (ps_if (PW.pt (pw_or (pt_not (pt_val (pe_callB (r := rAll K) (cr_all rfl) (by rfl) T.n_all (by decide +kernel) (pa_cons (pe_lc (own := [("parent", 3)]) (g := (gName 3)) rfl sc_is_version.nd (pi_tup (pv 2)) (blkOk_by (own := [("parent", 3)]) (N := N_is_version) (sc := defScope s_is_version) (by decide +kernel)) (fun _ _ _ _ _ => (pg_name (i := 3) sc_is_version.nd rfl (.inl rfl))) (fun _ _ _ _ _ => pts_nil) (fun _ _ _ _ _ => (pe_call G_is_kind (hr.mono (by omega)) (by rfl) D_is_kind.g D_is_kind.fn.kp D_is_kind.b .nil pass0 (pa_cons (pv 0) (pa_cons (pv 3) (pa_cons pe_str pa_nil)))))) pa_nil)))) (pw_or1 (pt_not (pt_val (pe_call G_is_kind (hr.mono (by omega)) (by rfl) D_is_kind.g D_is_kind.fn.kp D_is_kind.b .nil pass0 (pa_cons (pv 0) (pa_cons (pe_ix (r := rIxT K) ix_tup (pv 1) pe_int (fun _ _ => rfl)) (pa_cons pe_str pa_nil)))))))))
          (pss_one
            (ps_ret pe_bl))
          pss_nil)
      (pss_one
        (ps_ret (pe_and (pe_call G_is_int (hr.mono (by omega)) (by rfl) D_is_int.g D_is_int.kp B_is_int V_is_int pass0 (pa_cons (pe_ix (r := rIxT K) ix_tup (pv 1) pe_int (fun _ _ => rfl)) pa_nil)) (pe_one (pe_cmpR op_le (pe_ix (r := rIxT K) ix_tup (pv 1) pe_int (fun _ _ => rfl)) (pe_op op_pow pe_int pe_int) (nomark _)))))))))
      , ?_⟩
    rw [show L2.start N_is_version [V.ref p, V.ref a] = [some (.ref p), some (.ref a), none, none] from rfl]
    walk_at "x"
    refine w_seq ?_
    walk_at "g"
    have dat : DatT 10 H (.ref r) := .tup h2 (by rw [List.length_map]; omega) fun y hy => by
      obtain ⟨n, _, rfl⟩ := List.mem_map.mp hy
      exact .leaf (.int _) (by decide) fun z e => by cases e
    refine ⟨.ref r, 10, rfl, dat, by decide, fun ns hns hp H1 k1 => ?_, fun hn => absurd c1 (hn ps ⟨r, rfl, h2⟩)⟩
    have h11 := k1 _ _ h1
    have h21 := k1 _ _ h2
    walk_at "g"
    refine w_no (by rw [List.length_map]; omega) ?_
    walk_at "g"
    refine w_seq ?_
    walk_at "g"
    refine lcp_map (walk_tup (K := K) (a := r) (xs := ps.map nV)) [] ((ps.map fun _ => true).map V.bl) (by simp) (by rw [List.length_map]; omega) (fun H' k => .of (k _ _ (by simp) h21)) ?_ (by simp) ?_
    · rintro i x H2 H3 R hi k2 ⟨rfl, hx⟩ hR
      obtain ⟨n, hn, rfl⟩ := map_at hx
      obtain ⟨c, g2, g3⟩ := c3 n (List.mem_of_getElem? hn)
      rw [List.getElem?_map] at g2
      obtain ⟨q', hq', rfl⟩ := Option.map_eq_some_iff.mp g2
      have hl : n < cs.length := (List.getElem?_eq_some_iff.mp hq').1
      refine w_name ⟨rfl, ?_⟩
      walk_at "g"
      refine ⟨p, dx, lc, ld, lg, cs, ds, nV n, "int", "version", rfl, (B.same k1).same k2.same, .int _, fun m qm em hm => ?_, fun hm => absurd hl (hm n rfl)⟩
      have en : n = m := by have : (n : Int) = m := V.int.inj em; omega
      subst en
      rw [hq'] at hm
      cases hm
      rw [decide_eq_true g3]
      refine hR _ _ ?_ Kp.refl
      rw [List.getElem?_map, List.getElem?_map, hn]
      rfl
    · intro L H2 hL k2' eL
      have k2 := k2'.same
      have h12 := k2 _ _ h11
      rw [List.getElem?_map] at c4
      obtain ⟨q', hq', rfl⟩ := Option.map_eq_some_iff.mp c4
      have hl : root < cs.length := (List.getElem?_eq_some_iff.mp hq').1
      walk_at "g"
      rw [show (ps.map fun _ => true).all id = true by simp]
      walk_at "g"
      refine ⟨p, dx, lc, ld, lg, cs, ds, nV root, "int", "tree", rfl, (B.same k1).same k2, .int _, fun m qm em hm => ?_, fun hm => absurd hl (hm root rfl)⟩
      have en : root = m := by have : (root : Int) = m := V.int.inj em; omega
      subst en
      rw [hq'] at hm
      cases hm
      rw [decide_eq_true c5]
      walk_at "g"
      refine ⟨nV stamp, "int", rfl, .int _, fun m em => ?_, fun hm => absurd rfl (hm stamp)⟩
      walk_at "g"
      rw [decide_eq_true (by rw [show (10 : Int) ^ Int.toNat 18 = 1000000000000000000 by decide]; omega)]
      exact q _ (Same.trans k1 k2)
end
section
variable {P : Program} {w : World} {K : PySem.W.Frag} {mg : Str → Option Value} {base : Heap} {C : Addr}
theorem ok_iscontent {f fT fV fO fW fE fR fP fL fG fA fK fN fI fX : Addr} {fd fdT fdV fdO fdW fdE fdR fdP fdL fdG fdA fdK fdN fdI fdX : FuncData} (T : Txt K mg) (F : Fun K "is_content" "is_content" s_is_content f fd) (K_Book : Kl K mg "Book" C ["contents", "depths", "given"]) (D_is_tree : Df K mg "is_tree" s_is_tree ["book", "entries"] fT fdT) (D_is_version : Df K mg "is_version" s_is_version ["book", "content"] fV fdV) (D_depth_of : Df K mg "depth_of" s_depth_of ["book", "content"] fO fdO) (D_are_rows : Df K mg "are_rows" s_are_rows ["thing"] fW fdW) (D_is_entry : Df K mg "is_entry" s_is_entry ["book", "thing"] fE fdE) (D_rise : Df K mg "rise" s_rise ["row"] fR fdR) (D_is_pair : Df K mg "is_pair" s_is_pair ["thing"] fP fdP) (D_is_label : Df K mg "is_label" s_is_label ["thing"] fL fdL) (D_rising_ints : Df K mg "rising_ints" s_rising_ints ["thing"] fG fdG) (D_are_ints : Df K mg "are_ints" s_are_ints ["thing"] fA fdA) (D_is_kind : Df K mg "is_kind" s_is_kind ["book", "thing", "kind"] fK fdK) (D_is_name : Df K mg "is_name" s_is_name ["book", "thing"] fN fdN) (D_is_int : DfD K mg "is_int" s_is_int ["thing", "least"] [.int 0] fI fdI) (D_is_text : DfD K mg "is_text" s_is_text ["thing", "most"] [.int 40] fX fdX) : FnOk P w K mg base CX0 5 f fd ["book", "thing"] (spIsContent P w C) := by
  have G_is_tree : FnOk P w K mg base CX0 4 fT fdT ["book", "entries"] (spIsTree P w C) := ok_istree T D_is_tree.fn K_Book D_is_entry D_rise D_depth_of D_is_name D_is_int D_is_pair D_is_label
  have G_is_version : FnOk P w K mg base CX0 4 fV fdV ["book", "content"] (spIsVersion P w C) := ok_isversion T D_is_version.fn K_Book D_rising_ints D_are_ints D_rise D_is_kind D_is_name D_is_int
  have G_are_rows : FnOk P w K mg base CX0 2 fW fdW ["thing"] spAreRows := ok_arerows T D_are_rows.fn D_is_text
  refine F.ok sc_is_content (fun vs H Q E h => ?_) (fun cdv A outer s H vs Q E hr h => ?_)
  · obtain ⟨p, dx, lc, ld, lg, a, cs, ds, c, rfl, _⟩ := h
    rfl
  · obtain ⟨p, dx, lc, ld, lg, a, cs, ds, c, rfl, B, hc, ok, q⟩ := h
    refine ⟨_,
      (pss_cons
        (ps_if (PW.pt (pw_or (pt_not (pt_val (pe_callB (r := rIsi K) call_isi (by rfl) T.n_isinstance (by decide +kernel) (pa_cons (pv 1) (pa_cons (pe_bltn (v := .ty "tuple") (u := .type "tuple") (by rfl) T.n_tuple (by decide +kernel) rfl) pa_nil))))) (pw_or (pt_cmpR op_lt (pe_callB (r := rLen K) c_len (by rfl) T.n_len (by decide +kernel) (pa_cons (pv 1) pa_nil)) pe_int (nomark _)) (pw_or1 (pt_not (pt_val (pe_callB (r := rIsi K) call_isi (by rfl) T.n_isinstance (by decide +kernel) (pa_cons (pe_ix (r := rIxT K) ix_tup (pv 1) pe_int (fun _ _ => rfl)) (pa_cons (pe_bltn (v := .ty "str") (u := .type "str") (by rfl) T.n_str (by decide +kernel) rfl) pa_nil)))))))))
          (pss_one
            (ps_ret pe_bl))
          pss_nil)
      (pss_cons
        (ps_if (pt_cmpR op_eq (pe_ix (r := rIxT K) ix_tup (pv 1) pe_int (fun _ _ => rfl)) pe_str (nomark _))
          (pss_one
            (ps_ret (pe_and (pe_cmpR op_eq (pe_callB (r := rLen K) c_len (by rfl) T.n_len (by decide +kernel) (pa_cons (pv 1) pa_nil)) pe_int (nomark _)) (pe_one (pe_call G_are_rows (hr.mono (by omega)) (by rfl) D_are_rows.g D_are_rows.fn.kp D_are_rows.b .nil pass0 (pa_cons (pe_ix (r := rIxT K) ix_tup (pv 1) pe_int (fun _ _ => rfl)) pa_nil))))))
          pss_nil)
      (pss_cons
        (ps_if (pt_cmpR op_eq (pe_ix (r := rIxT K) ix_tup (pv 1) pe_int (fun _ _ => rfl)) pe_str (nomark _))
          (pss_one
            (ps_ret (pe_and (pe_cmpR op_eq (pe_callB (r := rLen K) c_len (by rfl) T.n_len (by decide +kernel) (pa_cons (pv 1) pa_nil)) pe_int (nomark _)) (pe_one (pe_call G_is_tree (hr.mono (by omega)) (by rfl) D_is_tree.g D_is_tree.fn.kp D_is_tree.b .nil pass0 (pa_cons (pv 0) (pa_cons (pe_ix (r := rIxT K) ix_tup (pv 1) pe_int (fun _ _ => rfl)) pa_nil)))))))
          pss_nil)
      (pss_one
        (ps_ret (pe_and (pe_cmpR op_eq (pe_ix (r := rIxT K) ix_tup (pv 1) pe_int (fun _ _ => rfl)) pe_str (nomark _)) (pe_and (pe_cmpR op_eq (pe_callB (r := rLen K) c_len (by rfl) T.n_len (by decide +kernel) (pa_cons (pv 1) pa_nil)) pe_int (nomark _)) (pe_one (pe_call G_is_version (hr.mono (by omega)) (by rfl) D_is_version.g D_is_version.fn.kp D_is_version.b .nil pass0 (pa_cons (pv 0) (pa_cons (pv 1) pa_nil)))))))))))
      , ?_⟩
    rw [show L2.start N_is_content [V.ref p, V.ref a] = [some (.ref p), some (.ref a)] from rfl]
    refine w_seq ?_
    cases c with
    | leaf rows =>
      obtain ⟨r, h1, h2⟩ := hc
      walk_at "x"
      refine w_no (by simp only [List.length_cons, List.length_nil]; omega) ?_
      walk_at "g"
      refine w_seq ?_
      walk_at "g"
      refine w_yes rfl ?_
      walk_at "g"
      refine w_yes rfl ?_
      walk_at "g"
      refine ⟨r, rows, rfl, h2, ok.1, ok.2, q⟩
    | tree es =>
      obtain ⟨r, qs, h1, h2, rfl, h4⟩ := hc
      walk_at "x"
      refine w_no (by simp only [List.length_cons, List.length_nil]; omega) ?_
      walk_at "g"
      refine w_seq ?_
      walk_at "g"
      refine w_no lit_ne4 ?_
      walk_at "g"
      refine w_seq ?_
      walk_at "g"
      refine w_yes rfl ?_
      walk_at "g"
      refine w_yes rfl ?_
      walk_at "g"
      refine ⟨p, dx, lc, ld, lg, r, cs, ds, qs, rfl, B, h2, h4, ok, q⟩
    | ver ps root stamp =>
      have hc' := hc
      obtain ⟨r, h1, h2⟩ := hc
      walk_at "x"
      refine w_no (by simp only [List.length_cons, List.length_nil]; omega) ?_
      walk_at "g"
      refine w_seq ?_
      walk_at "g"
      refine w_no lit_ne5 ?_
      walk_at "g"
      refine w_seq ?_
      walk_at "g"
      refine w_no lit_ne6 ?_
      walk_at "g"
      refine w_yes rfl ?_
      walk_at "g"
      refine w_yes rfl ?_
      walk_at "g"
      refine ⟨p, dx, lc, ld, lg, a, cs, ds, ps, root, stamp, rfl, B, hc', ok, q⟩
theorem ok_bookinit {f : Addr} {fd : FuncData} (T : Txt K mg) (F : Fun K "__init__" "Book.__init__" s_Book___init__ f fd) (K_Book : Kl K mg "Book" C ["contents", "depths", "given"]) : FnOk P w K mg base CX0 1 f fd ["self"] (spBookInit P w C) := by
  have cl := K_Book.cl
  have n1 := K_Book.na "contents" (by simp)
  have n2 := K_Book.na "depths" (by simp)
  have n3 := K_Book.na "given" (by simp)
  refine F.ok sc_Book___init__ (fun vs H Q E h => ?_) (fun cdv A outer s H vs Q E hr h => ?_)
  · obtain ⟨p, dx, rfl, _⟩ := h
    rfl
  · obtain ⟨p, dx, rfl, hp, q⟩ := h
    refine ⟨_,
      (pss_cons
        (ps_fld (pv 0) (pe_lst pa_nil) rfl)
      (pss_cons
        (ps_fld (pv 0) (pe_lst pa_nil) rfl)
      (pss_one
        (ps_fld (pv 0) pe_nnew rfl))))
      , ?_⟩
    rw [show L2.start N_Book___init__ [V.ref p] = [some (.ref p)] from rfl]
    walk_at "x"
    refine w_new fun lc H1 hlc e1 k1 => ?_
    have hp1 := k1 _ _ hp
    walk_at "g"
    refine w_fldS' hp1 cl n1 (by decide) fun H2 o2 f2 => ?_
    have nlc : lc ≠ p := (ne_of_none hp hlc).symm
    walk_at "g"
    refine w_new fun ld H3 hld e3 k3 => ?_
    have o3 := k3 _ _ o2
    have nld : ld ≠ p := (ne_of_none o2 hld).symm
    have hld1 : H1 ld = none := by rw [← f2 ld nld]; exact hld
    walk_at "g"
    refine w_fldS' o3 cl n2 (show (1 : Nat) < 1000 by decide) fun H4 o4 f4 => ?_
    walk_at "g"
    refine w_nnew fun lg H5 hlg d5 k5 => ?_
    have o5 := k5 _ _ o4
    have nlg : lg ≠ p := (ne_of_none o4 hlg).symm
    have hlg3 : H3 lg = none := by rw [← f4 lg nlg]; exact hlg
    walk_at "g"
    refine w_fldS' o5 cl n3 (show (2 : Nat) < 1000 by decide) fun H6 o6 f6 => ?_
    have e2 := f2.get nlc e1
    have ndc : lc ≠ ld := ne_of_none e2 hld
    have e6 : H6 lc = some (.lst []) := f6.get nlc (k5 _ _ (f4.get nlc (k3 _ _ e2)))
    have e6d : H6 ld = some (.lst []) := f6.get nld (k5 _ _ (f4.get nld e3))
    have d6 : NDict P w H6 lg [] := ⟨f6.get nlg d5.at', fun q hq => by cases hq⟩
    have hld0 : H ld = none := by
      cases e : H ld with
      | none => rfl
      | some o => rw [k1 _ _ e] at hld1; cases hld1
    have hlg0 : H lg = none := by
      cases e : H lg with
      | none => rfl
      | some o =>
        have := k3 _ _ (f2.get nlg (k1 _ _ e))
        rw [this] at hlg3
        cases hlg3
    refine q lc ld lg H6 hlc hld0 hlg0 ⟨o6, e6, e6d, d6, by simp, by simp, rfl, ndc, by simp⟩ fun b o hb e => ?_
    have hb' : b ≠ p := by simpa using hb
    exact f6.get hb' (k5 _ _ (f4.get hb' (k3 _ _ (f2.get hb' (k1 _ _ e)))))
theorem ok_thing {f fN fI : Addr} {fd fdN fdI : FuncData} (T : Txt K mg) (F : Fun K "thing" "Book.thing" s_Book_thing f fd) (K_Book : Kl K mg "Book" C ["contents", "depths", "given"]) (D_is_name : Df K mg "is_name" s_is_name ["book", "thing"] fN fdN) (D_is_int : DfD K mg "is_int" s_is_int ["thing", "least"] [.int 0] fI fdI) : FnOk P w K mg base CX0 3 f fd ["self", "name"] (spThing P w C) := by
  have G_is_name : FnOk P w K mg base CX0 2 fN fdN ["book", "thing"] (spIsName P w C) := ok_isname T D_is_name.fn K_Book D_is_int
  have cl := K_Book.cl
  have n1 := K_Book.na "contents" (by simp)
  refine F.ok sc_Book_thing (fun vs H Q E h => ?_) (fun cdv A outer s H vs Q E hr h => ?_)
  · obtain ⟨p, dx, lc, ld, lg, cs, ds, n, q, rfl, _⟩ := h
    rfl
  · obtain ⟨p, dx, lc, ld, lg, cs, ds, n, qc, rfl, B, hq, q⟩ := h
    have ob := B.ob
    have co := B.co
    have hl : n < cs.length := (List.getElem?_eq_some_iff.mp hq).1
    have at1 : atI (cs.map fun q => V.ref q.1) (n : Int) = some (.ref qc.1) := atI_nat (by rw [List.getElem?_map, hq]; rfl)
    refine ⟨_,
      (pss_cons
        (ps_if (pt_not (pt_val (pe_call G_is_name (hr.mono (by omega)) (by rfl) D_is_name.g D_is_name.fn.kp D_is_name.b .nil pass0 (pa_cons (pv 0) (pa_cons (pv 1) pa_nil)))))
          pss_never
          pss_nil)
      (pss_one
        (ps_ret (pe_ix (r := rIxL K) ix_list (pe_fldK (K := K) rfl (pv 0) rfl) (pv 1) (fun _ _ => rfl)))))
      , ?_⟩
    rw [show L2.start N_Book_thing [V.ref p, nV n] = [some (.ref p), some (.int (n : Int))] from rfl]
    refine w_seq ?_
    walk_at "x"
    refine ⟨p, dx, lc, ld, lg, cs, ds, nV n, "int", rfl, B, .int _, fun m _ _ => ?_, fun hm => absurd hl (hm n rfl)⟩
    walk_at "g"
    exact q
theorem ok_kind {f fG fN fI : Addr} {fd fdG fdN fdI : FuncData} (T : Txt K mg) (F : Fun K "kind" "Book.kind" s_Book_kind f fd) (K_Book : Kl K mg "Book" C ["contents", "depths", "given"]) (D_Book_thing : DfM K C "thing" "Book.thing" s_Book_thing ["self", "name"] fG fdG) (D_is_name : Df K mg "is_name" s_is_name ["book", "thing"] fN fdN) (D_is_int : DfD K mg "is_int" s_is_int ["thing", "least"] [.int 0] fI fdI) : FnOk P w K mg base CX0 4 f fd ["self", "name"] (spKind P w C) := by
  have G_Book_thing : FnOk P w K mg base CX0 3 fG fdG ["self", "name"] (spThing P w C) := ok_thing T D_Book_thing.fn K_Book D_is_name D_is_int
  refine F.ok sc_Book_kind (fun vs H Q E h => ?_) (fun cdv A outer s H vs Q E hr h => ?_)
  · obtain ⟨p, dx, lc, ld, lg, cs, ds, n, q, rfl, _⟩ := h
    rfl
  · obtain ⟨p, dx, lc, ld, lg, cs, ds, n, qc, rfl, B, hq, q⟩ := h
    have ob := B.ob
    obtain ⟨xs, hh⟩ := (B.ct qc (List.mem_of_getElem? hq)).head
    have at0 : atI (V.str qc.2.word :: xs) 0 = some (.str qc.2.word) := atI_nat (j := 0) rfl
    refine ⟨_,
      (pss_one
        (ps_ret (pe_ix (r := rIxT K) ix_tup (pe_meth (pv 0) K_Book.cl D_Book_thing.m G_Book_thing (hr.mono (by omega)) D_Book_thing.b .nil pass0 (pa_cons (pv 1) pa_nil)) pe_int (fun _ _ => rfl))))
      , ?_⟩
    rw [show L2.start N_Book_kind [V.ref p, nV n] = [some (.ref p), some (.int (n : Int))] from rfl]
    walk_at "x"
    refine ⟨p, dx, lc, ld, lg, cs, ds, n, qc, rfl, B, hq, ?_⟩
    walk_at "g"
    exact q
theorem ok_named {f fC fO : Addr} {fd fdC fdO : FuncData} (T : Txt K mg) (F : Fun K "named" "Book.named" s_Book_named f fd) (K_Book : Kl K mg "Book" C ["contents", "depths", "given"]) (D_is_content : Df K mg "is_content" s_is_content ["book", "thing"] fC fdC) (D_depth_of : Df K mg "depth_of" s_depth_of ["book", "content"] fO fdO) (G_is_content : FnOk P w K mg base CX0 5 fC fdC ["book", "thing"] (spIsContent P w C)) : FnOk P w K mg base CX0 6 f fd ["self", "content"] (spNamed P w C) := by
  have G_depth_of : FnOk P w K mg base CX0 1 fO fdO ["book", "content"] (spDepth C) := ok_depth T D_depth_of.fn K_Book
  obtain ⟨tk_MOST, g_MOST⟩ := T.g_MOST
  have cl := K_Book.cl
  have n1 := K_Book.na "contents" (by simp)
  have n2 := K_Book.na "depths" (by simp)
  have n3 := K_Book.na "given" (by simp)
  refine F.ok sc_Book_named (fun vs H Q E h => ?_) (fun cdv A outer s H vs Q E hr h => ?_)
  · obtain ⟨p, dx, lc, ld, lg, a, cs, ds, c, rfl, _⟩ := h
    rfl
  · obtain ⟨p, dx, lc, ld, lg, a, cs, ds, c, rfl, B, hc, ok, hlt, q1, q2⟩ := h
    refine ⟨_,
      (pss_cons
        (ps_if (pt_not (pt_val (pe_call G_is_content (hr.mono (by omega)) (by rfl) D_is_content.g D_is_content.fn.kp D_is_content.b .nil pass0 (pa_cons (pv 0) (pa_cons (pv 1) pa_nil)))))
          pss_never
          pss_nil)
      (pss_cons
        (ps_if (pt_cmp (pc_nin hr.units (pv 1) (pe_fldK (K := K) rfl (pv 0) rfl)))
          (pss_one
            (ps_ret (pe_nget hr.units (pe_fldK (K := K) rfl (pv 0) rfl) (pv 1) (fun _ _ => rfl))))
          pss_nil)
      (pss_cons
        (ps_if (pt_cmpR op_ge (pe_callB (r := rLen K) c_len (by rfl) T.n_len (by decide +kernel) (pa_cons (pe_fldK (K := K) rfl (pv 0) rfl) pa_nil)) (pe_glob (v := .int 400) rfl g_MOST ⟨_, rfl⟩) (nomark _))
          pss_never
          pss_nil)
      (pss_cons
        (ps_nput hr.units (pe_fldK (K := K) rfl (pv 0) rfl) (pv 1) (pe_callB (r := rLen K) c_len (by rfl) T.n_len (by decide +kernel) (pa_cons (pe_fldK (K := K) rfl (pv 0) rfl) pa_nil)) rfl)
      (pss_cons
        (ps_expr (pe_bm PySem.F.plainAttrs_list PySem.F.slot_list_append PySem.F.type_list_append mt_append (pe_fldK (K := K) rfl (pv 0) rfl) (pa_cons (pv 1) pa_nil)))
      (pss_cons
        (ps_expr (pe_bm PySem.F.plainAttrs_list PySem.F.slot_list_append PySem.F.type_list_append mt_append (pe_fldK (K := K) rfl (pv 0) rfl) (pa_cons (pe_call G_depth_of (hr.mono (by omega)) (by rfl) D_depth_of.g D_depth_of.fn.kp D_depth_of.b .nil pass0 (pa_cons (pv 0) (pa_cons (pv 1) pa_nil))) pa_nil)))
      (pss_one
        (ps_ret (pe_op op_sub (pe_callB (r := rLen K) c_len (by rfl) T.n_len (by decide +kernel) (pa_cons (pe_fldK (K := K) rfl (pv 0) rfl) pa_nil)) pe_int)))))))))
      , ?_⟩
    rw [show L2.start N_Book_named [V.ref p, V.ref a] = [some (.ref p), some (.ref a)] from rfl]
    refine w_seq ?_
    walk_at "x"
    refine ⟨p, dx, lc, ld, lg, a, cs, ds, c, rfl, B, hc, ok, fun H1 k1 => ?_⟩
    have B1 := B.same k1
    have hc1 := hc.kt (KT.of k1)
    have ob1 := B1.ob
    have co1 := B1.co
    have de1 := B1.de
    walk_at "g"
    refine w_seq ?_
    walk_at "g"
    refine w_nin' B1.gi hc1.nk c.key_depth ?_
    walk_at "g"
    by_cases hin : ∀ q ∈ cs, q.2 ≠ c
    · rw [ents_none cs 0 hin, Option.isSome_none]
      walk_at "g"
      refine w_seq ?_
      walk_at "g"
      refine w_no (by rw [List.length_map]; omega) ?_
      walk_at "g"
      refine w_nput' B1.gi hc1.nk c.key_depth (by rw [entsF_len]; exact small1kl (by omega)) fun H2 d2 o2 => ?_
      have t2 : KT H1 H2 := ⟨fun b ys e => o2.get (ne_of e B1.gi.at' (fun z => nomatch z)) e, fun b _ ys e => o2.get (ne_of e B1.gi.at' (fun z => nomatch z)) e⟩
      have nlc : lc ≠ lg := ne_of co1 B1.gi.at' (fun z => nomatch z)
      have nld : ld ≠ lg := ne_of de1 B1.gi.at' (fun z => nomatch z)
      have npg : p ≠ lg := ne_of ob1 B1.gi.at' (fun z => nomatch z)
      have npc : p ≠ lc := ne_of ob1 co1 (fun z => nomatch z)
      have npd : p ≠ ld := ne_of ob1 de1 (fun z => nomatch z)
      have co2 := o2.get nlc co1
      have de2 := o2.get nld de1
      have ob2 := o2.get npg ob1
      have ep : NPut (entsF 0 cs) c.key a (V.int ((cs.map fun q => V.ref q.1).length : Int)) = entsF 0 (cs ++ [(a, c)]) := by
        unfold NPut
        rw [ents_none cs 0 hin, entsF_snoc, List.length_map, Nat.zero_add]
        rfl
      rw [ep] at d2
      walk_at "g"
      refine w_app co2 (by rw [List.length_map]; exact small1kl (by omega)) fun H3 e3 o3 => ?_
      have t3 : KT H2 H3 := KT.off o3 co2
      have de3 := o3.get B1.ne.symm de2
      have ob3 := o3.get npc ob2
      walk_at "g"
      have kt13 := t2.trans t3
      have ct3 : ∀ q ∈ cs ++ [(a, c)], CtAt H3 q.1 q.2 := fun q hq => by
        rcases List.mem_append.mp hq with h | h
        · exact (B1.ct q h).kt kt13
        · have e : q = (a, c) := by simpa using h
          subst e
          exact hc1.kt kt13
      refine ⟨p, dx, lc, ld, lg, a, ds, c, rfl, ob3, de3, hc1.kt kt13, fun es e => ?_, fun H4 k4 => ?_⟩
      · subst e
        refine ⟨ok.1, fun z hz => ?_⟩
        obtain ⟨_, c', g2, _⟩ := ok.2.1 z hz
        have := (List.getElem?_eq_some_iff.mp g2).1
        rw [B.dl]
        rwa [List.length_map] at this
      have de4 := k4 _ _ de3
      walk_at "g"
      refine w_app de4 (by rw [List.length_map, B.dl]; exact small1kl (by omega)) fun H5 e5 o5 => ?_
      have t5 : KT H4 H5 := KT.off o5 de4
      have ob5 := o5.get npd (k4 _ _ ob3)
      have co5 := o5.get B1.ne (k4 _ _ e3)
      have d5 : NDict P w H5 lg (entsF 0 (cs ++ [(a, c)])) := ((d2.kp (M := [lc]) (o3.kp (by simp)) t3 (by simpa using nlc.symm)).kp (M := []) (Kp.of k4) (KT.of k4) (by simp)).kp (M := [ld]) (o5.kp (by simp)) t5 (by simpa using nld.symm)
      have kt15 : KT H1 H5 := kt13.trans ((KT.of k4).trans t5)
      walk_at "g"
      have hlen : ((cs.map fun q => V.ref q.1) ++ [V.ref a]).length = cs.length + 1 := by rw [List.length_append, List.length_map]; rfl
      rw [hlen, show (((cs.length + 1 : Nat) : Int) - 1) = (cs.length : Int) by omega]
      refine q2 hin H5 ⟨ob5, by rw [co5, List.map_append]; rfl, by rw [e5, List.map_append]; rfl, d5, fun q hq => (ct3 q hq).kt ((KT.of k4).trans t5), ?_, by rw [List.length_append, List.length_append, B.dl]; rfl, B.ne, by rw [List.length_append]; simp only [List.length_cons, List.length_nil]; omega⟩ ?_ ((KT.of k1).trans kt15)
      · rw [List.map_append, List.nodup_append]
        refine ⟨B.nd, by simp, fun x hx y hy e => ?_⟩
        obtain ⟨z, hz, rfl⟩ := List.mem_map.mp hx
        have e' : y = c := by simpa using hy
        rw [e'] at e
        exact hin z hz e
      · intro b o hb e
        simp only [List.mem_cons, List.not_mem_nil, or_false, not_or] at hb
        exact o5.get hb.2.1 (k4 _ _ (o3.get hb.1 (o2.get hb.2.2 (k1 _ _ e))))
    · obtain ⟨z, hz, ez⟩ : ∃ q ∈ cs, q.2 = c := by
        refine Classical.byContradiction fun h => hin fun q hq e => h ⟨q, hq, e⟩
      obtain ⟨j, hj, ej⟩ := List.getElem_of_mem hz
      have hj' : cs[j]? = some (z.1, c) := by rw [List.getElem?_eq_getElem hj, ej, ← ez]
      have ev := ents_some cs 0 j B.nd hj'
      rw [Nat.zero_add] at ev
      rw [ev, Option.isSome_some]
      walk_at "g"
      refine w_nget' B1.gi hc1.nk c.key_depth ev ?_
      exact q1 j z.1 H1 hj' k1
end
/-! ### views -/
def HereAt (H : Hp) (d : Addr) (hs : List Nat) : Prop := ∃ kvs, H d = some (.dK kvs) ∧ ∀ n : Nat, (valV kvs (Sum.inl (n : Int))).isSome = decide (n ∈ hs)
structure ViewAt (P : Program) (w : World) (C CH : Addr) (H : Hp) (v dv p dx lc ld lg rw' hd : Addr) (cs : List (Addr × Ct)) (ds hs : List Nat) : Prop where
  ob : H v = some (.ins CH dv [("book", .ref p), ("row", .ref rw'), ("here", .ref hd)])
  row : H rw' = some (.lst (hs.map nV))
  here : HereAt H hd hs
  bk : BookAt P w C H p dx lc ld lg cs ds
  in' : ∀ n ∈ hs, n < cs.length
  up : hs.Pairwise (· < ·)
theorem HereAt.kp {M : List Addr} {H H' : Hp} {d : Addr} {hs : List Nat} (h : HereAt H d hs) (k : Kp M H H') (n : d ∉ M) : HereAt H' d hs := by
  obtain ⟨kvs, h1, h2⟩ := h
  exact ⟨kvs, k _ _ n h1, h2⟩
theorem ViewAt.same {P : Program} {w : World} {C CH : Addr} {H H' : Hp} {v dv p dx lc ld lg rw' hd : Addr} {cs : List (Addr × Ct)} {ds hs : List Nat} (h : ViewAt P w C CH H v dv p dx lc ld lg rw' hd cs ds hs) (k : Same H H') : ViewAt P w C CH H' v dv p dx lc ld lg rw' hd cs ds hs :=
  ⟨k _ _ h.ob, k _ _ h.row, h.here.kp (M := []) (Kp.of k) (by simp), h.bk.same k, h.in', h.up⟩
theorem ViewAt.kp {P : Program} {w : World} {C CH : Addr} {M : List Addr} {H H' : Hp} {v dv p dx lc ld lg rw' hd : Addr} {cs : List (Addr × Ct)} {ds hs : List Nat} (h : ViewAt P w C CH H v dv p dx lc ld lg rw' hd cs ds hs) (k : Kp M H H') (t : KT H H') (h1 : v ∉ M) (h2 : rw' ∉ M) (h3 : hd ∉ M) (h4 : p ∉ M) (h5 : lc ∉ M) (h6 : ld ∉ M) (h7 : lg ∉ M) : ViewAt P w C CH H' v dv p dx lc ld lg rw' hd cs ds hs :=
  ⟨k _ _ h1 h.ob, k _ _ h2 h.row, h.here.kp k h3, h.bk.kp k t h4 h5 h6 h7, h.in', h.up⟩
def spViewInit (P : Program) (w : World) (C CH : Addr) : Sp := fun vs H Q _ => ∃ (v dv p dx lc ld lg l : Addr) (cs : List (Addr × Ct)) (ds names : List Nat), vs = [.ref v, .ref p, .ref l] ∧ H v = some (.ins CH dv []) ∧ BookAt P w C H p dx lc ld lg cs ds ∧ H l = some (.lst (names.map nV)) ∧ names.length ≤ 1000 ∧ (∀ n ∈ names, n < cs.length) ∧
  ∀ (rw' hd : Addr) (hs : List Nat) (H' : Hp), H rw' = none → H hd = none → ViewAt P w C CH H' v dv p dx lc ld lg rw' hd cs ds hs → (∀ n, n ∈ hs ↔ n ∈ names) → Kp [v] H H' → Q .non H'
def spHolds (P : Program) (w : World) (C CH : Addr) : Sp := fun vs H Q _ => ∃ (v dv p dx lc ld lg rw' hd : Addr) (cs : List (Addr × Ct)) (ds hs : List Nat) (x : V) (a : String), vs = [.ref v, x] ∧ ViewAt P w C CH H v dv p dx lc ld lg rw' hd cs ds hs ∧ Ty H x a ∧ (∀ n : Nat, x = nV n → n ∈ hs → Q (.bl true) H) ∧ ((∀ n : Nat, x = nV n → n ∉ hs) → Q (.bl false) H)
def pars (cs : List (Addr × Ct)) (n : Nat) : List Nat := match cs[n]? with
  | some (_, .ver ps _ _) => ps
  | _ => []
def isV (cs : List (Addr × Ct)) (n : Nat) : Prop := ∃ a ps r s, cs[n]? = some (a, Ct.ver ps r s)
def hpar (cs : List (Addr × Ct)) (hs : List Nat) (n : Nat) : List Nat := (pars cs n).filter fun p => decide (p ∈ hs)
def edgs (cs : List (Addr × Ct)) (hs ns : List Nat) : List Nat := ns.filter fun n => decide ((hpar cs hs n).length < (pars cs n).length)
theorem isV.at {cs : List (Addr × Ct)} {n : Nat} (h : isV cs n) : ∃ a r s, cs[n]? = some (a, Ct.ver (pars cs n) r s) := by
  obtain ⟨a, ps, r, s, e⟩ := h
  refine ⟨a, r, s, ?_⟩
  unfold pars
  rw [e]
theorem isV.of {cs : List (Addr × Ct)} {n p : Nat} (h : p ∈ pars cs n) : isV cs n := by
  unfold pars at h
  split at h
  · rename_i a ps r s e
    exact ⟨a, ps, r, s, e⟩
  · cases h
/-- a version's parents are versions, few -/
structure BkOk (cs : List (Addr × Ct)) : Prop where
  par : ∀ n p, p ∈ pars cs n → isV cs p ∧ p < n
  few : ∀ n, (pars cs n).length ≤ 4
theorem isV.lt {cs : List (Addr × Ct)} {n : Nat} (h : isV cs n) : n < cs.length := by
  obtain ⟨a, ps, r, s, e⟩ := h
  exact (List.getElem?_eq_some_iff.mp e).1
theorem rise_len : ∀ (hs : List Nat) (a b : Nat), hs.Pairwise (· < ·) → (∀ n ∈ hs, a ≤ n) → (∀ n ∈ hs, n < b) → a ≤ b → hs.length + a ≤ b
  | [], a, b, _, _, _, h => by simpa using h
  | n :: r, a, b, hp, h1, h2, h => by
    rw [List.pairwise_cons] at hp
    have q1 := h1 n (by simp)
    have q2 := h2 n (by simp)
    have := rise_len r (n + 1) b hp.2 (fun m hm => hp.1 m hm) (fun m hm => h2 m (by simp [hm])) (by omega)
    rw [List.length_cons]
    omega
def natSel (p : Nat → Bool) (ns : List Nat) (i : Nat) : Option V := ns[i]?.bind fun n => if p n = true then some (nV n) else none
theorem natSel_all (p : Nat → Bool) : ∀ ns : List Nat, (List.range ns.length).filterMap (natSel p ns) = (ns.filter p).map nV
  | [] => rfl
  | n :: ns => by
    have e : (List.range (n :: ns).length).filterMap (natSel p (n :: ns)) = (natSel p (n :: ns) 0).toList ++ (List.range ns.length).filterMap (natSel p ns) := by
      rw [List.length_cons, List.range_succ_eq_map, List.filterMap_cons]
      have e2 : List.filterMap (natSel p (n :: ns)) (List.map Nat.succ (List.range ns.length)) = List.filterMap (natSel p ns) (List.range ns.length) := by
        rw [List.filterMap_map]
        rfl
      rw [e2]
      cases natSel p (n :: ns) 0 <;> rfl
    rw [e, natSel_all p ns]
    show (if p n = true then some (nV n) else none).toList ++ _ = _
    by_cases h : p n = true
    · rw [if_pos h, List.filter_cons_of_pos h]
      rfl
    · rw [if_neg h, List.filter_cons_of_neg h]
      rfl
def spHeldParents (P : Program) (w : World) (C CH : Addr) : Sp := fun vs H Q _ => ∃ (v dv p dx lc ld lg rw' hd : Addr) (cs : List (Addr × Ct)) (ds hs : List Nat) (n : Nat), vs = [.ref v, nV n] ∧ ViewAt P w C CH H v dv p dx lc ld lg rw' hd cs ds hs ∧ BkOk cs ∧ isV cs n ∧ ∀ (H' : Hp) (l : Addr), Same H H' → H l = none → H' l = some (.lst ((hpar cs hs n).map nV)) → Q (.ref l) H'
def spEdgesOf (P : Program) (w : World) (C CH : Addr) : Sp := fun vs H Q _ => ∃ (v dv p dx lc ld lg rw' hd r : Addr) (cs : List (Addr × Ct)) (ds hs ns : List Nat), vs = [.ref v, .ref r] ∧ ViewAt P w C CH H v dv p dx lc ld lg rw' hd cs ds hs ∧ BkOk cs ∧ H r = some (.tup (ns.map nV)) ∧ ns.length ≤ 1000 ∧ (∀ n ∈ ns, isV cs n) ∧ ∀ (H' : Hp) (t : Addr), Same H H' → H' t = some (.tup ((edgs cs hs ns).map nV)) → Q (.ref t) H'
section
variable {P : Program} {w : World} {K : PySem.W.Frag} {mg : Str → Option Value} {base : Heap} {C CH : Addr}
theorem ok_viewinit {f fN fI : Addr} {fd fdN fdI : FuncData} (T : Txt K mg) (F : Fun K "__init__" "Holding.__init__" s_Holding___init__ f fd) (K_Book : Kl K mg "Book" C ["contents", "depths", "given"]) (K_Holding : Kl K mg "Holding" CH ["book", "row", "here"]) (D_is_name : Df K mg "is_name" s_is_name ["book", "thing"] fN fdN) (D_is_int : DfD K mg "is_int" s_is_int ["thing", "least"] [.int 0] fI fdI) : FnOk P w K mg base CX0 3 f fd ["self", "book", "names"] (spViewInit P w C CH) := by
  have G_is_name : FnOk P w K mg base CX0 2 fN fdN ["book", "thing"] (spIsName P w C) := ok_isname T D_is_name.fn K_Book D_is_int
  have cl := K_Holding.cl
  have n1 := K_Holding.na "book" (by simp)
  have n2 := K_Holding.na "row" (by simp)
  have n3 := K_Holding.na "here" (by simp)
  refine F.ok sc_Holding___init__ (fun vs H Q E h => ?_) (fun cdv A outer s H vs Q E hr h => ?_)
  · obtain ⟨v, dv, p, dx, lc, ld, lg, l, cs, ds, names, rfl, _⟩ := h
    rfl
  · obtain ⟨v, dv, p, dx, lc, ld, lg, l, cs, ds, names, rfl, hv, B, hl, hnl, hin, q⟩ := h
    refine ⟨_,
      (pss_cons
        (ps_for PassesOwn.never rfl (pi_list (pv 2)) (pg_name (i := 3) sc_Holding___init__.nd rfl (.inl rfl))
          (pss_one
            (ps_if (pt_not (pt_val (pe_call G_is_name (hr.mono (by omega)) (by rfl) D_is_name.g D_is_name.fn.kp D_is_name.b .nil pass0 (pa_cons (pv 1) (pa_cons (pv 3) pa_nil)))))
              pss_never
              pss_nil)))
      (pss_cons
        (ps_fld (pv 0) (pv 1) rfl)
      (pss_cons
        (ps_fld (pv 0) (pe_callB (r := rSortS w) (c_sortS rfl) (by rfl) T.n_sorted (by decide +kernel) (pa_cons (pe_callTy (r := rSetL K w) (c_setL rfl) (by rfl) T.n_set (by decide +kernel) (pa_cons (pv 2) pa_nil)) pa_nil)) rfl)
      (pss_one
        (ps_fld (pv 0) (pe_dc (own := [("name", 3)]) (g := (gName 3)) rfl sc_Holding___init__.nd (pi_list (pe_fldK (K := K) rfl (pv 0) rfl)) (blkOk_by (own := [("name", 3)]) (N := N_Holding___init__) (sc := defScope s_Holding___init__) (by decide +kernel)) (fun _ _ _ _ _ => (pg_name (i := 3) sc_Holding___init__.nd rfl (.inl rfl))) (fun _ _ _ _ _ => pts_nil) (fun _ _ _ _ _ => (pv 3)) (fun _ _ _ _ _ => pe_bl)) rfl)))))
      , ?_⟩
    rw [show L2.start N_Holding___init__ [V.ref v, V.ref p, V.ref l] = [some (.ref v), some (.ref p), some (.ref l), none] from rfl]
    walk_at "x"
    refine lp_list (xs := names.map nV) (fun i σ H' => H' = H ∧ ∃ y : Option V, σ = [some (.ref v), some (.ref p), some (.ref l), y]) ⟨rfl, _, rfl⟩ (fun i σ H' _ ⟨e, _⟩ => by rw [e]; exact .of hl) ?_ ?_
    · rintro i x σ H1 hx ⟨rfl, y, rfl⟩
      obtain ⟨n, hn, rfl⟩ := map_at hx
      have hlt := hin n (List.mem_of_getElem? hn)
      walk_at "g"
      refine ⟨p, dx, lc, ld, lg, cs, ds, nV n, "int", rfl, B, .int _, fun m _ _ => ?_, fun hm => absurd hlt (hm n rfl)⟩
      walk_at "g"
      exact ⟨rfl, _, rfl⟩
    · rintro σ H1 ⟨rfl, y, rfl⟩
      walk_at "g"
      refine w_fldS' hv cl n1 (by decide) fun H2 o2 f2 => ?_
      have vl : l ≠ v := ne_of hl hv (fun z => nomatch z)
      have hl2 := f2.get vl hl
      have hl2' : H2 l = some (.lst ((names.map fun n : Nat => (n : Int)).map V.int)) := by rw [List.map_map]; exact hl2
      walk_at "g"
      refine w_setOf (.of hl2') (by rw [List.length_map]; omega) fun st c H3 hst hc e3 k3 => ?_
      walk_at "g"
      refine w_sortS e3 (by rw [List.length_map] at hc; omega) fun ys rw' H4 hup hmem hrw e4 k4 => ?_
      have k24 := Same.trans k3 k4
      have o4 := k24 _ _ o2
      obtain ⟨hs, rfl⟩ : ∃ hs : List Nat, ys = hs.map fun n : Nat => (n : Int) := by
        have : ∀ {zs : List Int}, (∀ z ∈ zs, ∃ n : Nat, z = n) → ∃ hs : List Nat, zs = hs.map fun n : Nat => (n : Int) := by
          intro zs
          induction zs with
          | nil => intro _; exact ⟨[], rfl⟩
          | cons z zs ih =>
            intro h
            obtain ⟨n, rfl⟩ := h z (by simp)
            obtain ⟨hs, rfl⟩ := ih fun y hy => h y (by simp [hy])
            exact ⟨n :: hs, rfl⟩
        refine this fun z hz => ?_
        have := (hmem z).mp hz
        obtain ⟨n, _, rfl⟩ := List.mem_map.mp (of_decide_eq_true this)
        exact ⟨n, rfl⟩
      have hm2 : ∀ n, n ∈ hs ↔ n ∈ names := fun n => by
        have h1 := hmem (n : Int)
        have a1 : (n : Int) ∈ (hs.map fun n : Nat => (n : Int)) ↔ n ∈ hs := ⟨fun h => by
          obtain ⟨m, hm, e⟩ := List.mem_map.mp h
          have : m = n := by omega
          rw [← this]; exact hm, fun h => List.mem_map.mpr ⟨n, h, rfl⟩⟩
        have a2 : (n : Int) ∈ (names.map fun n : Nat => (n : Int)) ↔ n ∈ names := ⟨fun h => by
          obtain ⟨m, hm, e⟩ := List.mem_map.mp h
          have : m = n := by omega
          rw [← this]; exact hm, fun h => List.mem_map.mpr ⟨n, h, rfl⟩⟩
        rw [← a1, h1, decide_eq_true_iff, a2]
      have hup2 : hs.Pairwise (· < ·) := by
        rw [List.pairwise_map] at hup
        exact hup.imp fun {a b} h => by omega
      have e4' : H4 rw' = some (.lst (hs.map nV)) := by rw [e4, List.map_map]; rfl
      have nrw : rw' ≠ v := by
        intro z
        subst z
        rw [k3 _ _ o2] at hrw
        cases hrw
      have hrw0 : H1 rw' = none := by
        cases e : H1 rw' with
        | none => rfl
        | some o => rw [k3 _ _ (f2.get nrw e)] at hrw; cases hrw
      walk_at "g"
      refine w_fldS' o4 cl n2 (show (1 : Nat) < 1000 by decide) fun H5 o5 f5 => ?_
      have e5 := f5.get nrw e4'
      have hslen : hs.length ≤ 1000 := by
        have := rise_len hs 0 cs.length hup2 (fun n _ => Nat.zero_le n) (fun n hn => hin n ((hm2 n).mp hn)) (Nat.zero_le _)
        have := B.few
        omega
      walk_at "g"
      refine dcp_map (walk_list (K := K) (a := rw') (xs := hs.map nV)) [] (hs.map fun n : Nat => ((Sum.inl (n : Int) : Key), V.bl true)) (by simp) (by rw [List.length_map]; omega) (fun H' k => .of (k _ _ (by simp) e5)) ?_ (by simp) ?_
      · rintro i x H6 H7 R hi k6 ⟨rfl, hx⟩ hR
        obtain ⟨n, hn, rfl⟩ := map_at hx
        refine w_name ⟨rfl, ?_⟩
        walk_at "g"
        exact hR _ _ (by rw [List.getElem?_map, hn]; rfl) Kp.refl
      · intro hd H6 hhd k6' e6
        have k6 := k6'.same
        have o6 := k6 _ _ o5
        have nhd : hd ≠ v := by
          intro z
          subst z
          rw [o5] at hhd
          cases hhd
        have hhd0 : H1 hd = none := by
          cases e : H1 hd with
          | none => rfl
          | some o => rw [f5.get nhd (k24 _ _ (f2.get nhd e))] at hhd; cases hhd
        walk_at "g"
        refine w_fldS' o6 cl n3 (show (2 : Nat) < 1000 by decide) fun H7 o7 f7 => ?_
        have K17 : Kp [v] H1 H7 := fun b o hb e => by
          have hb' : b ≠ v := by simpa using hb
          exact f7.get hb' (k6 _ _ (f5.get hb' (k24 _ _ (f2.get hb' e))))
        have T17 : KT H1 H7 := ⟨fun b ys e => K17 b _ (by simpa using ne_of e hv (fun z => nomatch z)) e, fun b _ ys e => K17 b _ (by simpa using ne_of e hv (fun z => nomatch z)) e⟩
        have hpv : p ≠ v := fun z => by
          subst z
          have := B.ob
          rw [hv] at this
          have e2 := Option.some.inj this
          injection e2 with _ _ e2
          cases e2
        have hB := B.kp K17 T17 (by simpa using hpv) (by simpa using ne_of B.co hv (fun z => nomatch z)) (by simpa using ne_of B.de hv (fun z => nomatch z)) (by simpa using ne_of B.gi.at' hv (fun z => nomatch z))
        refine q rw' hd hs H7 hrw0 hhd0 ⟨o7, f7.get nrw (k6 _ _ e5), ⟨_, f7.get nhd e6, fun n => ?_⟩, hB, fun n hn => hin n ((hm2 n).mp hn), hup2⟩ hm2 K17
        rw [valV_merge, valV_nil, Bool.eq_iff_iff]
        simp
        exact ⟨fun ⟨x, hx, e⟩ => by rw [show n = x by omega]; exact hx, fun h => ⟨n, h, rfl⟩⟩
theorem ok_holds {f fN fI : Addr} {fd fdN fdI : FuncData} (T : Txt K mg) (F : Fun K "holds" "Holding.holds" s_Holding_holds f fd) (K_Book : Kl K mg "Book" C ["contents", "depths", "given"]) (K_Holding : Kl K mg "Holding" CH ["book", "row", "here"]) (D_is_name : Df K mg "is_name" s_is_name ["book", "thing"] fN fdN) (D_is_int : DfD K mg "is_int" s_is_int ["thing", "least"] [.int 0] fI fdI) : FnOk P w K mg base CX0 3 f fd ["self", "name"] (spHolds P w C CH) := by
  have G_is_name : FnOk P w K mg base CX0 2 fN fdN ["book", "thing"] (spIsName P w C) := ok_isname T D_is_name.fn K_Book D_is_int
  have cl := K_Holding.cl
  have n1 := K_Holding.na "book" (by simp)
  have n3 := K_Holding.na "here" (by simp)
  refine F.ok sc_Holding_holds (fun vs H Q E h => ?_) (fun cdv A outer s H vs Q E hr h => ?_)
  · obtain ⟨v, dv, p, dx, lc, ld, lg, rw', hd, cs, ds, hs, x, a, rfl, _⟩ := h
    rfl
  · obtain ⟨v, dv, p, dx, lc, ld, lg, rw', hd, cs, ds, hs, x, a, rfl, W, t, q1, q2⟩ := h
    have hu := hu_of hr
    have ob := W.ob
    obtain ⟨kvs, hh, hk⟩ := W.here
    refine ⟨_,
      (pss_one
        (ps_ret (pe_and (pe_call G_is_name (hr.mono (by omega)) (by rfl) D_is_name.g D_is_name.fn.kp D_is_name.b .nil pass0 (pa_cons (pe_fldK (K := K) rfl (pv 0) rfl) (pa_cons (pv 1) pa_nil))) (pe_one (pe_cmp (pc_din hu (pv 1) (pe_fldK (K := K) rfl (pv 0) rfl)))))))
      , ?_⟩
    rw [show L2.start N_Holding_holds [V.ref v, x] = [some (.ref v), some x] from rfl]
    walk_at "x"
    refine ⟨p, dx, lc, ld, lg, cs, ds, x, a, rfl, W.bk, t, fun n hn hl => ?_, fun hn => ?_⟩
    · subst hn
      walk_at "g"
      rw [hk]
      by_cases h : n ∈ hs
      · rw [decide_eq_true h]
        exact q1 n rfl h
      · rw [decide_eq_false h]
        exact q2 fun m e => by
          have : n = m := by have : (n : Int) = m := V.int.inj e; omega
          subst this
          exact h
    · walk_at "g"
      exact q2 fun n e h => hn n e (W.in' n h)
end
theorem dp_nats {K : PySem.W.Frag} {H : Hp} : ∀ ns : List Nat, DpAll K H (ns.map nV) (ns.map fun n : Nat => PyData.int (n : Int))
  | [] => .nil
  | n :: r => .cons (.int _) (dp_nats r)
theorem nats_eqv : ∀ ls xs : List Nat, PyData.eqvAll (ls.map fun n : Nat => PyData.int (n : Int)) (xs.map fun n : Nat => PyData.int (n : Int)) = decide (ls = xs)
  | [], [] => rfl
  | [], x :: xs => by simp [PyData.eqvAll]
  | z :: ls, [] => by simp [PyData.eqvAll]
  | z :: ls, x :: xs => by
    rw [List.map_cons, List.map_cons, PyData.eqvAll, PyData.eqv, nats_eqv ls xs]
    by_cases h1 : z = x
    · subst h1
      simp
    · have : ¬ (z : Int) = x := by omega
      simp [h1, this]
theorem nats_lay : ∀ ns : List Nat, PyData.canLayAll0 (ns.map fun n : Nat => PyData.int (n : Int)) = true ∧ PyData.depthAll (ns.map fun n : Nat => PyData.int (n : Int)) ≤ 1
  | [] => ⟨rfl, by decide⟩
  | n :: r => by
    obtain ⟨h1, h2⟩ := nats_lay r
    refine ⟨?_, ?_⟩
    · rw [List.map_cons, PyData.canLayAll0, h1, PyData.canLay0]; rfl
    · rw [List.map_cons, PyData.depthAll, PyData.depth]; omega
theorem nV_map (ns : List Nat) : ns.map nV = (ns.map fun n : Nat => (n : Int)).map V.int := by rw [List.map_map]; rfl
theorem int_mem {ns : List Nat} {n : Nat} : (n : Int) ∈ (ns.map fun n : Nat => (n : Int)) ↔ n ∈ ns := by
  constructor
  · intro h
    obtain ⟨m, hm, e⟩ := List.mem_map.mp h
    have : m = n := by omega
    rw [← this]
    exact hm
  · exact fun h => List.mem_map.mpr ⟨n, h, rfl⟩
theorem w_inNL {K : PySem.W.Frag} {H : Hp} {Q : VK} {p : Addr} {ns : List Nat} {n : Nat} (h1 : H p = some (.lst (ns.map nV))) (h : Q (.bl (decide (n ∈ ns))) H) : rIn K false (nV n) (.ref p) H Q := by
  refine w_inL (vs := ns.map fun n : Nat => (n : Int)) (.of (by rw [← nV_map]; exact h1)) ?_
  rw [decide_eq_decide.mpr int_mem]
  exact h
theorem w_ninNL {K : PySem.W.Frag} {H : Hp} {Q : VK} {p : Addr} {ns : List Nat} {n : Nat} (h1 : H p = some (.lst (ns.map nV))) (h : Q (.bl (!decide (n ∈ ns))) H) : rIn K true (nV n) (.ref p) H Q := by
  refine w_ninL (vs := ns.map fun n : Nat => (n : Int)) (.of (by rw [← nV_map]; exact h1)) ?_
  rw [decide_eq_decide.mpr int_mem]
  exact h
def Vw (P : Program) (w : World) (C CH : Addr) (H : Hp) (v : Addr) (cs : List (Addr × Ct)) (hs : List Nat) : Prop := ∃ (dv p dx lc ld lg rw' hd : Addr) (ds : List Nat), ViewAt P w C CH H v dv p dx lc ld lg rw' hd cs ds hs
theorem Vw.same {P : Program} {w : World} {C CH : Addr} {H H' : Hp} {v : Addr} {cs : List (Addr × Ct)} {hs : List Nat} (h : Vw P w C CH H v cs hs) (k : Same H H') : Vw P w C CH H' v cs hs := by
  obtain ⟨dv, p, dx, lc, ld, lg, rw', hd, ds, W⟩ := h
  exact ⟨dv, p, dx, lc, ld, lg, rw', hd, ds, W.same k⟩
def addK (ks : List Int) (x : Int) : List Int := if x ∈ ks then ks else ks ++ [x]
theorem mem_addK {ks : List Int} {x y : Int} : y ∈ addK ks x ↔ y ∈ ks ∨ y = x := by
  unfold addK
  by_cases h : x ∈ ks
  · rw [if_pos h]
    constructor
    · exact .inl
    · rintro (a | rfl)
      · exact a
      · exact h
  · rw [if_neg h]
    simp
theorem nd_addK {ks : List Int} {x : Int} (h : ks.Nodup) : (addK ks x).Nodup := by
  unfold addK
  by_cases e : x ∈ ks
  · rw [if_pos e]; exact h
  · rw [if_neg e]
    exact List.nodup_append.mpr ⟨h, by simp, fun a ha b hb => by
      have : b = x := by simpa using hb
      subst this
      exact fun z => e (z ▸ ha)⟩
theorem putK_keys {fk : List (Key × V)} {ks : List Int} {x : Int} {v : V} (h : fk.map (·.1) = ks.map (Sum.inl : Int → Key)) : (putK fk (Sum.inl x) v).map (·.1) = (addK ks x).map (Sum.inl : Int → Key) := by
  have he : (fk.any fun kv => decide (kv.1 = (Sum.inl x : Key))) = true ↔ x ∈ ks := by
    rw [List.any_eq_true]
    constructor
    · rintro ⟨kv, hk, e⟩
      have m : (Sum.inl x : Key) ∈ ks.map Sum.inl := by
        rw [← h, ← of_decide_eq_true e]
        exact List.mem_map_of_mem hk
      obtain ⟨y, hy, e2⟩ := List.mem_map.mp m
      exact Sum.inl.inj e2 ▸ hy
    · intro hx
      have m : (Sum.inl x : Key) ∈ fk.map (·.1) := by
        rw [h]
        exact List.mem_map_of_mem hx
      obtain ⟨kv, hk, e⟩ := List.mem_map.mp m
      exact ⟨kv, hk, decide_eq_true e⟩
  unfold putK addK
  by_cases e : x ∈ ks
  · rw [if_pos (he.mpr e), if_pos e, ← h, List.map_map]
    apply List.map_congr_left
    intro kv _
    show (if kv.1 = Sum.inl x then (kv.1, v) else kv).1 = kv.1
    by_cases q : kv.1 = (Sum.inl x : Key)
    · rw [if_pos q]
    · rw [if_neg q]
  · rw [if_neg (fun z => e (he.mp z)), if_neg e, List.map_append, List.map_append, h]
    rfl
theorem nodup_le : ∀ (ks vs : List Int), ks.Nodup → (∀ x ∈ ks, x ∈ vs) → ks.length ≤ vs.length
  | [], _, _, _ => Nat.zero_le _
  | k :: ks, vs, h, hs => by
    rw [List.nodup_cons] at h
    have hk := hs k (by simp)
    have ih := nodup_le ks (vs.erase k) h.2 fun x hx => (List.mem_erase_of_ne (fun z => h.1 (by rw [← z]; exact hx))).mpr (hs x (by simp [hx]))
    rw [List.length_erase_of_mem hk] at ih
    have : 0 < vs.length := List.length_pos_of_mem hk
    rw [List.length_cons]
    omega
structure FoundAt (H : Hp) (f : Addr) (ks : List Int) : Prop where
  at' : ∃ fk, H f = some (.dK fk) ∧ fk.map (·.1) = ks.map (Sum.inl : Int → Key)
  nd : ks.Nodup
theorem FoundAt.put {H1 : Hp} {f : Addr} {ks : List Int} {fk : List (Key × V)} {x : Int} {v : V} (hk : fk.map (·.1) = ks.map (Sum.inl : Int → Key)) (nd : ks.Nodup) (e : H1 f = some (.dK (putK fk (Sum.inl x) v))) : FoundAt H1 f (addK ks x) := ⟨⟨_, e, putK_keys hk⟩, nd_addK nd⟩
theorem val_keys {kvs : List (Key × V)} {ks : List Int} (h : kvs.map (·.1) = ks.map (Sum.inl : Int → Key)) (x : Int) : (valV kvs (Sum.inl x)).isSome = decide (x ∈ ks) := by
  rw [Bool.eq_iff_iff, decide_eq_true_iff]
  constructor
  · intro z
    obtain ⟨v, e⟩ := Option.isSome_iff_exists.mp z
    have m := valV_in e
    rw [h] at m
    obtain ⟨y, hy, e2⟩ := List.mem_map.mp m
    exact Sum.inl.inj e2 ▸ hy
  · intro z
    cases e : valV kvs (Sum.inl x) with
    | some v => rfl
    | none => exact absurd (by rw [h]; exact List.mem_map_of_mem z) (valV_not e)
/-! ### contents as plain data -/
def Ct.data : Ct → PyData
  | .leaf rows => .tuple [.str "leaf", .tuple (rows.map .str)]
  | .tree es => .tuple [.str "tree", .tuple (es.map fun e => .tuple [.str e.1, .int (e.2 : Int)])]
  | .ver ps root stamp => .tuple [.str "version", .tuple (ps.map fun n : Nat => .int (n : Int)), .int (root : Int), .int (stamp : Int)]
def Ct.txts : Ct → Prop
  | .leaf rows => ∀ z ∈ rows, PyData.strOk z = true
  | .tree es => ∀ e ∈ es, PyData.strOk e.1 = true
  | .ver _ _ _ => True
theorem dp_txts {K : PySem.W.Frag} {H : Hp} : ∀ ls : List Str, DpAll K H (ls.map V.str) (ls.map .str)
  | [] => .nil
  | z :: r => .cons (.str z) (dp_txts r)
theorem dp_ents {K : PySem.W.Frag} {H : Hp} : ∀ qs : List (Addr × Str × Nat), (∀ q ∈ qs, H q.1 = some (.tup [.str q.2.1, nV q.2.2])) → DpAll K H (qs.map fun q => .ref q.1) ((qs.map (·.2)).map fun e => .tuple [.str e.1, .int (e.2 : Int)])
  | [], _ => .nil
  | q :: r, h => .cons (.tup (.of (h q (by simp))) (.cons (.str _) (.cons (.int _) .nil))) (dp_ents r fun z hz => h z (by simp [hz]))
theorem CtAt.dp {K : PySem.W.Frag} {H : Hp} {a : Addr} {c : Ct} (h : CtAt H a c) : Dp K H (.ref a) c.data := by
  cases c with
  | leaf rows =>
    obtain ⟨r, h1, h2⟩ := h
    exact .tup (.of h1) (.cons (.str _) (.cons (.tup (.of h2) (dp_txts rows)) .nil))
  | tree es =>
    obtain ⟨r, qs, h1, h2, rfl, h4⟩ := h
    exact .tup (.of h1) (.cons (.str _) (.cons (.tup (.of h2) (dp_ents qs h4)) .nil))
  | ver ps root stamp =>
    obtain ⟨r, h1, h2⟩ := h
    exact .tup (.of h1) (.cons (.str _) (.cons (.tup (.of h2) (dp_nats ps)) (.cons (.int _) (.cons (.int _) .nil))))
theorem txts_eqv : ∀ ls xs : List Str, PyData.eqvAll (ls.map .str) (xs.map .str) = true ↔ ls = xs
  | [], [] => by simp [PyData.eqvAll]
  | [], x :: xs => by simp [PyData.eqvAll]
  | z :: ls, [] => by simp [PyData.eqvAll]
  | z :: ls, x :: xs => by
    rw [List.map_cons, List.map_cons, PyData.eqvAll, PyData.eqv, Bool.and_eq_true_iff, txts_eqv ls xs, beq_iff_eq, List.cons.injEq]
theorem ents_eqv : ∀ ls xs : List (Str × Nat), PyData.eqvAll (ls.map fun e => .tuple [.str e.1, .int (e.2 : Int)]) (xs.map fun e => .tuple [.str e.1, .int (e.2 : Int)]) = true ↔ ls = xs
  | [], [] => by simp [PyData.eqvAll]
  | [], x :: xs => by simp [PyData.eqvAll]
  | z :: ls, [] => by simp [PyData.eqvAll]
  | (z, n) :: ls, (x, m) :: xs => by
    rw [List.map_cons, List.map_cons, PyData.eqvAll, PyData.eqv, Bool.and_eq_true_iff, ents_eqv ls xs, List.cons.injEq, Prod.mk.injEq]
    simp only [PyData.eqvAll, PyData.eqv, Bool.and_true, Bool.and_eq_true, beq_iff_eq]
    constructor
    · rintro ⟨⟨h1, h2⟩, h3⟩
      exact ⟨⟨h1, by omega⟩, h3⟩
    · rintro ⟨⟨h1, h2⟩, h3⟩
      exact ⟨⟨h1, by omega⟩, h3⟩
theorem Ct.eqv_iff (c d : Ct) : PyData.eqv c.data d.data = true ↔ c = d := by
  cases c with
  | leaf r =>
    cases d with
    | leaf r' => simp [Ct.data, PyData.eqv, PyData.eqvAll, txts_eqv]
    | tree e' => simp [Ct.data, PyData.eqv, PyData.eqvAll, lit_ne1]
    | ver a b c => simp [Ct.data, PyData.eqv, PyData.eqvAll]
  | tree e =>
    cases d with
    | leaf r' => simp [Ct.data, PyData.eqv, PyData.eqvAll, lit_ne4]
    | tree e' => simp [Ct.data, PyData.eqv, PyData.eqvAll, ents_eqv]
    | ver a b c => simp [Ct.data, PyData.eqv, PyData.eqvAll]
  | ver a b c =>
    cases d with
    | leaf r' => simp [Ct.data, PyData.eqv, PyData.eqvAll]
    | tree e' => simp [Ct.data, PyData.eqv, PyData.eqvAll]
    | ver a' b' c' =>
      simp only [Ct.data, PyData.eqv, PyData.eqvAll, nats_eqv, Bool.and_true, Bool.and_eq_true, beq_iff_eq, decide_eq_true_iff, Ct.ver.injEq, true_and, beq_self_eq_true]
      constructor
      · rintro ⟨h1, h2, h3⟩
        exact ⟨h1, by omega, by omega⟩
      · rintro ⟨h1, h2, h3⟩
        exact ⟨h1, by omega, by omega⟩
theorem lay_txts : ∀ {ls : List Str}, (∀ z ∈ ls, PyData.strOk z = true) → PyData.canLayAll0 (ls.map .str) = true ∧ PyData.depthAll (ls.map .str) = 0
  | [], _ => ⟨rfl, rfl⟩
  | z :: ls, h => by
    obtain ⟨h1, h2⟩ := lay_txts (ls := ls) fun x hx => h x (by simp [hx])
    have hz := h z (by simp)
    simp only [List.map_cons, PyData.canLayAll0, PyData.depthAll, PyData.canLay0, PyData.depth, h1, h2, hz]
    exact ⟨rfl, rfl⟩
theorem lay_ents : ∀ {es : List (Str × Nat)}, (∀ e ∈ es, PyData.strOk e.1 = true) → PyData.canLayAll0 (es.map fun e => .tuple [.str e.1, .int (e.2 : Int)]) = true ∧ PyData.depthAll (es.map fun e => .tuple [.str e.1, .int (e.2 : Int)]) ≤ 1
  | [], _ => ⟨rfl, by decide⟩
  | z :: ls, h => by
    obtain ⟨h1, h2⟩ := lay_ents (es := ls) fun x hx => h x (by simp [hx])
    have hz := h z (by simp)
    rw [List.map_cons, PyData.canLayAll0, PyData.depthAll, h1]
    simp only [PyData.canLay0, PyData.canLayAll0, PyData.depth, PyData.depthAll, hz]
    exact ⟨rfl, by omega⟩
theorem Ct.lay {c : Ct} (h : c.txts) : PyData.canLay0 c.data = true ∧ PyData.depth c.data ≤ 4 := by
  have w1 : PyData.strOk (Str.ofString "leaf") = true := by decide +kernel
  have w2 : PyData.strOk (Str.ofString "tree") = true := by decide +kernel
  have w3 : PyData.strOk (Str.ofString "version") = true := by decide +kernel
  cases c with
  | leaf rows =>
    obtain ⟨h1, h2⟩ := lay_txts h
    simp only [Ct.data, PyData.canLay0, PyData.canLayAll0, PyData.depth, PyData.depthAll, h1, h2, w1]
    exact ⟨rfl, by decide⟩
  | tree es =>
    obtain ⟨h1, h2⟩ := lay_ents h
    simp only [Ct.data, PyData.canLay0, PyData.canLayAll0, PyData.depth, PyData.depthAll, h1, w2]
    exact ⟨rfl, by omega⟩
  | ver ps r s =>
    obtain ⟨h1, h2⟩ := nats_lay ps
    simp only [Ct.data, PyData.canLay0, PyData.canLayAll0, PyData.depth, PyData.depthAll, h1, w3]
    exact ⟨rfl, by omega⟩
theorem Ct.shaped {c : Ct} (h : c.txts) : SeqAt.shaped c.data = true := by
  obtain ⟨h1, h2⟩ := Ct.lay h
  unfold SeqAt.shaped
  rw [Bool.and_eq_true_iff]
  exact ⟨h1, decide_eq_true (by omega)⟩
theorem cts_lay : ∀ {cs : List Ct}, (∀ c ∈ cs, c.txts) → PyData.canLayAll0 (cs.map Ct.data) = true ∧ PyData.depthAll (cs.map Ct.data) ≤ 4
  | [], _ => ⟨rfl, by decide⟩
  | c :: cs, h => by
    obtain ⟨h1, h2⟩ := cts_lay (cs := cs) fun x hx => h x (by simp [hx])
    obtain ⟨g1, g2⟩ := Ct.lay (h c (by simp))
    rw [List.map_cons, PyData.canLayAll0, PyData.depthAll, h1, g1]
    exact ⟨rfl, by omega⟩
theorem cts_shaped {cs : List Ct} (h : ∀ c ∈ cs, c.txts) : SeqAt.shaped (.list (cs.map Ct.data)) = true := by
  obtain ⟨h1, h2⟩ := cts_lay h
  unfold SeqAt.shaped
  rw [Bool.and_eq_true_iff]
  refine ⟨by rw [PyData.canLay0]; exact h1, decide_eq_true ?_⟩
  rw [PyData.depth]
  omega
/-- the law's own list of contents -/
structure ThAt (H : Hp) (th : Addr) (cs : List (Addr × Ct)) : Prop where
  at' : H th = some (.lst (cs.map fun q => .ref q.1))
  ct : ∀ q ∈ cs, CtAt H q.1 q.2
theorem ThAt.kp {M : List Addr} {H H' : Hp} {th : Addr} {cs : List (Addr × Ct)} (h : ThAt H th cs) (k : Kp M H H') (t : KT H H') (n : th ∉ M) : ThAt H' th cs := ⟨k _ _ n h.at', fun q hq => (h.ct q hq).kt t⟩
theorem ThAt.same {H H' : Hp} {th : Addr} {cs : List (Addr × Ct)} (h : ThAt H th cs) (k : Same H H') : ThAt H' th cs := h.kp (M := []) (Kp.of k) (KT.of k) (by simp)
theorem dp_cts {K : PySem.W.Frag} {H : Hp} : ∀ cs : List (Addr × Ct), (∀ q ∈ cs, CtAt H q.1 q.2) → DpAll K H (cs.map fun q => .ref q.1) ((cs.map (·.2)).map Ct.data)
  | [], _ => .nil
  | q :: r, h => .cons (h q (by simp)).dp (dp_cts r fun z hz => h z (by simp [hz]))
theorem ThAt.dp {K : PySem.W.Frag} {H : Hp} {th : Addr} {cs : List (Addr × Ct)} (h : ThAt H th cs) : Dp K H (.ref th) (.list ((cs.map (·.2)).map Ct.data)) := .lst (.of h.at') (dp_cts cs h.ct)
/-! ### dicts of names -/
def FAt (H : Hp) (f : Addr) (F : Nat → Prop) : Prop := ∃ (fk : List (Key × V)) (ks : List Int), H f = some (.dK fk) ∧ fk.map (·.1) = ks.map (Sum.inl : Int → Key) ∧ ks.Nodup ∧ (∀ k ∈ ks, 0 ≤ k ∧ k < 1000) ∧ ∀ n : Nat, (n : Int) ∈ ks ↔ F n
theorem FAt.kp {M : List Addr} {H H' : Hp} {f : Addr} {F : Nat → Prop} (h : FAt H f F) (k : Kp M H H') (n : f ∉ M) : FAt H' f F := by
  obtain ⟨fk, ks, h1, h2⟩ := h
  exact ⟨fk, ks, k _ _ n h1, h2⟩
theorem FAt.same {H H' : Hp} {f : Addr} {F : Nat → Prop} (h : FAt H f F) (k : Same H H') : FAt H' f F := h.kp (M := []) (Kp.of k) (by simp)
theorem FAt.iff {H : Hp} {f : Addr} {F G : Nat → Prop} (h : FAt H f F) (e : ∀ n, F n ↔ G n) : FAt H f G := by
  obtain ⟨fk, ks, h1, h2, h3, h4, h5⟩ := h
  exact ⟨fk, ks, h1, h2, h3, h4, fun n => (h5 n).trans (e n)⟩
theorem FAt.obj {H : Hp} {f : Addr} {F : Nat → Prop} (h : FAt H f F) : ∃ fk, H f = some (.dK fk) := by
  obtain ⟨fk, ks, h1, _⟩ := h
  exact ⟨fk, h1⟩
theorem few_keys {ks : List Int} (nd : ks.Nodup) (h : ∀ k ∈ ks, 0 ≤ k ∧ k < 1000) : ks.length ≤ 1000 := by
  have := nodup_le ks ((List.range 1000).map fun n : Nat => (n : Int)) nd fun k hk => by
    obtain ⟨h1, h2⟩ := h k hk
    exact List.mem_map.mpr ⟨k.toNat, List.mem_range.mpr (by omega), by omega⟩
  rwa [List.length_map, List.length_range] at this
theorem w_fput {H : Hp} {f : Addr} {F : Nat → Prop} {n : Nat} {v : V} {R : Hp → Prop} (h1 : FAt H f F) (hn : n < 1000) (h : ∀ H1, FAt H1 f (fun m => F m ∨ m = n) → Off f H H1 → R H1) : rDPut (.ref f) (nV n) v H R := by
  obtain ⟨fk, ks, e, hk, nd, hb, hm⟩ := h1
  have hfl : fk.length = ks.length := by rw [← List.length_map (f := (·.1)), hk, List.length_map]
  have := few_keys nd hb
  refine w_dputI e (by rw [hfl]; exact small1kl this) fun H1 e1 o1 => h H1 ⟨_, _, e1, putK_keys hk, nd_addK nd, fun k hk' => ?_, fun m => ?_⟩ o1
  · rcases mem_addK.mp hk' with h | h
    · exact hb k h
    · omega
  · rw [mem_addK, hm]
    constructor
    · rintro (h | h)
      · exact .inl h
      · exact .inr (by omega)
    · rintro (h | h)
      · exact .inl h
      · exact .inr (by omega)
theorem ints_nats : ∀ {zs : List Int}, (∀ z ∈ zs, 0 ≤ z) → ∃ hs : List Nat, zs = hs.map fun n : Nat => (n : Int)
  | [], _ => ⟨[], rfl⟩
  | z :: zs, h => by
    obtain ⟨hs, rfl⟩ := ints_nats (zs := zs) fun y hy => h y (by simp [hy])
    exact ⟨z.toNat :: hs, by rw [List.map_cons, show ((z.toNat : Nat) : Int) = z by have := h z (by simp); omega]⟩
theorem lt_of_le_nd : ∀ {zs : List Int}, zs.Pairwise (· ≤ ·) → zs.Nodup → zs.Pairwise (· < ·)
  | [], _, _ => .nil
  | z :: zs, h, nd => by
    rw [List.pairwise_cons] at h ⊢
    rw [List.nodup_cons] at nd
    exact ⟨fun y hy => by
      have := h.1 y hy
      have : z ≠ y := fun e => nd.1 (by rw [e]; exact hy)
      omega, lt_of_le_nd h.2 nd.2⟩
theorem w_fsort {H : Hp} {f : Addr} {F : Nat → Prop} {Q : VK} (h1 : FAt H f F) (h : ∀ (ns : List Nat) p H1, ns.Pairwise (· < ·) → (∀ n, n ∈ ns ↔ F n) → ns.length ≤ 1000 → H p = none → H1 p = some (.lst (ns.map nV)) → Same H H1 → Q (.ref p) H1) : rSortA [.ref f] H Q := by
  obtain ⟨fk, ks, e, hk, nd, hb, hm⟩ := h1
  have fw := few_keys nd hb
  refine w_sortA e hk (by omega) fun ys p H1 hp hle hnone e1 k1 => ?_
  obtain ⟨ns, rfl⟩ := ints_nats (zs := ys) fun z hz => (hb z (hp.mem_iff.mp hz)).1
  have hlt := lt_of_le_nd hle (hp.nodup_iff.mpr nd)
  refine h ns p H1 ?_ (fun n => ?_) ?_ hnone (by rw [e1, nV_map]) k1
  · rw [List.pairwise_map] at hlt
    exact hlt.imp fun {a b} h => by omega
  · rw [← int_mem, hp.mem_iff, hm]
  · have := hp.length_eq
    rw [List.length_map] at this
    omega
theorem KX.offN {d L : Addr} {H H1 H2 : Hp} (k : KX d H H1) (o : Off L H1 H2) (h : H L = none) : KX d H H2 where
  t := ⟨fun b xs e => o.get (ne_of_none e h) (k.t b xs e), fun b u xs e => o.get (ne_of_none e h) (k.t.f b u xs e)⟩
  l := fun b xs e => by
    obtain ⟨ys, e1⟩ := k.l b xs e
    exact ⟨ys, o.get (ne_of_none e h) e1⟩
  d := fun b xs e => by
    obtain ⟨ys, e1⟩ := k.d b xs e
    exact ⟨ys, o.get (ne_of_none e h) e1⟩
  p := fun b u hb e => o.get (ne_of_none e h) (k.p b u hb e)
def spGive : Sp := fun vs H Q _ => ∃ (th a : Addr) (cs : List (Addr × Ct)) (c : Ct), vs = [.ref th, .ref a] ∧ ThAt H th cs ∧ (cs.map (·.2)).Nodup ∧ CtAt H a c ∧ cs.length < 1000 ∧ (∀ q ∈ cs, q.2.txts) ∧ c.txts ∧
  (∀ j b, cs[j]? = some (b, c) → Q (nV j) H) ∧ ((∀ q ∈ cs, q.2 ≠ c) → ∀ H', ThAt H' th (cs ++ [(a, c)]) → Off th H H' → Q (nV cs.length) H')
def spSome : Sp := fun vs H Q _ => ∃ (d c l : Addr) (n m : Nat) (names : List Nat), vs = [.ref d, .ref l, nV m] ∧ Deck H d c n ∧ n + m ≤ MOSTD ∧ H l = some (.lst (names.map nV)) ∧ l ≠ d ∧ l ≠ c ∧ names.length ≤ 1000 ∧ m ≤ 1000 ∧
  ∀ (H' : Hp) (t : Addr) (ns : List Nat), Deck H' d c (n + m) → KX d H H' → H' t = some (.tup (ns.map nV)) → ns.Pairwise (· < ·) → ns.length ≤ m → (∀ x ∈ ns, x ∈ names) → Q (.ref t) H'
def dsOf (cs : List Ct) : List Nat := cs.foldl (fun ds c => ds ++ [depOf ds c]) []
theorem dsOf_snoc (cs : List Ct) (c : Ct) : dsOf (cs ++ [c]) = dsOf cs ++ [depOf (dsOf cs) c] := by
  unfold dsOf
  rw [List.foldl_append]
  rfl
/-- every content is good behind those ahead of it -/
def ScnOk (cs : List Ct) : Prop := ∀ i c, cs[i]? = some c → CtOk (cs.take i) (dsOf (cs.take i)) c
def spLBook (P : Program) (w : World) (C : Addr) : Sp := fun vs H Q _ => ∃ (th : Addr) (cs : List (Addr × Ct)), vs = [.ref th] ∧ ThAt H th cs ∧ ScnOk (cs.map (·.2)) ∧ (cs.map (·.2)).Nodup ∧ cs.length ≤ 400 ∧
  ∀ H' p dx lc ld lg ds, H p = none → H lc = none → H ld = none → H lg = none → BookAt P w C H' p dx lc ld lg cs ds → Same H H' → Q (.ref p) H'
def spLHere : Sp := fun vs H Q _ => ∃ (l : Addr) (hs : List Nat), vs = [.ref l] ∧ H l = some (.lst (hs.map nV)) ∧ (∀ n ∈ hs, n < 1000) ∧ ∀ H' f, H f = none → Same H H' → FAt H' f (fun n => n ∈ hs) → Q (.ref f) H'
def spLParents : Sp := fun vs H Q _ => ∃ (th f : Addr) (cs : List (Addr × Ct)) (hs : List Nat) (n : Nat), vs = [.ref th, .ref f, nV n] ∧ ThAt H th cs ∧ FAt H f (fun n => n ∈ hs) ∧ isV cs n ∧ (pars cs n).length ≤ 1000 ∧ ∀ H' l, Same H H' → H l = none → H' l = some (.lst ((hpar cs hs n).map nV)) → Q (.ref l) H'
def spLVersions : Sp := fun vs H Q _ => ∃ (th f : Addr) (cs : List (Addr × Ct)) (hs : List Nat), vs = [.ref th, .ref f] ∧ ThAt H th cs ∧ FAt H f (fun n => n ∈ hs) ∧ (∀ n ∈ hs, n < cs.length) ∧ hs.length ≤ 1000 ∧
  ∀ (H' : Hp) (l : Addr) (vsn : List Nat), Same H H' → H l = none → H' l = some (.lst (vsn.map nV)) → vsn.Pairwise (· < ·) → (∀ n, n ∈ vsn ↔ n ∈ hs ∧ isV cs n) → vsn.length ≤ 1000 → Q (.ref l) H'
def spLBrims : Sp := fun vs H Q _ => ∃ (th f r : Addr) (cs : List (Addr × Ct)) (hs ns : List Nat), vs = [.ref th, .ref f, .ref r] ∧ ThAt H th cs ∧ FAt H f (fun n => n ∈ hs) ∧ H r = some (.tup (ns.map nV)) ∧ ns.length ≤ 1000 ∧ (∀ n ∈ ns, isV cs n) ∧ (∀ n, (pars cs n).length ≤ 1000) ∧ ∀ H' t, Same H H' → H t = none → H' t = some (.tup ((edgs cs hs ns).map nV)) → Q (.ref t) H'
theorem nodup_at {α : Type} {l : List α} (nd : l.Nodup) {i j : Nat} {hi : i < l.length} {hj : j < l.length} (h : l[i] = l[j]) : i = j := by
  refine Classical.byContradiction fun hne => ?_
  rcases Nat.lt_or_gt_of_ne hne with g | g
  · exact List.pairwise_iff_getElem.mp nd i j hi hj g h
  · exact List.pairwise_iff_getElem.mp nd j i hj hi g h.symm
theorem word_isV {cs : List (Addr × Ct)} {n : Nat} {q : Addr × Ct} (h : cs[n]? = some q) : q.2.word = "version" ↔ isV cs n := by
  obtain ⟨a, c⟩ := q
  constructor
  · intro hw
    cases c with
    | leaf _ => exact absurd hw lit_ne2
    | tree _ => exact absurd hw lit_ne3
    | ver ps r s => exact ⟨a, ps, r, s, h⟩
  · rintro ⟨a', ps, r, s, e⟩
    rw [h] at e
    cases e
    rfl
section
variable {P : Program} {w : World} {K : PySem.W.Frag} {mg : Str → Option Value} {base : Heap} {C : Addr}
theorem ok_give {f : Addr} {fd : FuncData} (T : Txt K mg) (F : Fun K "_law_give" "_law_give" s_law_give f fd) : FnOk P w K mg base CX0 1 f fd ["_law_things", "_law_content"] spGive := by
  refine F.ok sc_law_give (fun vs H Q E h => ?_) (fun cdv A outer s H vs Q E hr h => ?_)
  · obtain ⟨th, a, cs, c, rfl, _⟩ := h
    rfl
  · obtain ⟨th, a, cs, c, rfl, ht, nd, hc, hl, ho, hco, q1, q2⟩ := h
    have hth := ht.at'
    have hlay : ∀ d ∈ cs.map (·.2), d.txts := fun d hd => by
      obtain ⟨q, hq, rfl⟩ := List.mem_map.mp hd
      exact ho q hq
    refine ⟨_,
      (pss_cons
        (ps_if (pt_cmpR (r := rInD K) (op_inD (Nat.lt_of_le_of_lt (Nat.add_le_add_left (show 65 ≤ 100 by decide) _) (room100 hr))) (pv 1) (pv 0) rfl)
          (pss_one
            (ps_ret (pe_bm PySem.F.plainAttrs_list PySem.F.slot_list_index PySem.F.type_list_index (mt_indexD (Nat.lt_of_le_of_lt (Nat.add_le_add_left (show 65 ≤ 100 by decide) _) (room100 hr))) (pv 0) (pa_cons (pv 1) pa_nil))))
          pss_nil)
      (pss_cons
        (ps_expr (pe_bm PySem.F.plainAttrs_list PySem.F.slot_list_append PySem.F.type_list_append mt_append (pv 0) (pa_cons (pv 1) pa_nil)))
      (pss_one
        (ps_ret (pe_op op_sub (pe_callB (r := rLen K) c_len (by rfl) T.n_len (by decide +kernel) (pa_cons (pv 0) pa_nil)) pe_int)))))
      , ?_⟩
    rw [show L2.start N_law_give [V.ref th, V.ref a] = [some (.ref th), some (.ref a)] from rfl]
    refine w_seq ?_
    walk_at "x"
    refine ⟨c.data, _, hc.dp, ht.dp, Ct.shaped hco, cts_shaped hlay, ?_⟩
    walk_at "g"
    by_cases hin : ∀ q ∈ cs, q.2 ≠ c
    · have e : ((cs.map (·.2)).map Ct.data).any (fun z => PyData.eqv z c.data) = false := by
        rw [Bool.eq_false_iff]
        intro h
        rw [List.any_eq_true] at h
        obtain ⟨z, hz, e⟩ := h
        obtain ⟨d, hd, rfl⟩ := List.mem_map.mp hz
        obtain ⟨q, hq, rfl⟩ := List.mem_map.mp hd
        exact hin q hq ((Ct.eqv_iff _ _).mp e)
      rw [e]
      walk_at "g"
      refine w_app ht.at' (by rw [List.length_map]; exact small1kl (by omega)) fun H1 e1 o1 => ?_
      walk_at "g"
      rw [show (((cs.map fun q => V.ref q.1) ++ [V.ref a]).length : Int) - 1 = (cs.length : Int) by rw [List.length_append, List.length_map]; simp]
      refine q2 hin H1 ⟨by rw [e1, List.map_append]; rfl, fun q hq => ?_⟩ o1
      have t1 : KT H H1 := KT.off o1 ht.at'
      rcases List.mem_append.mp hq with h | h
      · exact (ht.ct q h).kt t1
      · have e : q = (a, c) := by simpa using h
        subst e
        exact hc.kt t1
    · obtain ⟨z, hz, ez⟩ : ∃ q ∈ cs, q.2 = c := by
        refine Classical.byContradiction fun h => hin fun q hq e => h ⟨q, hq, e⟩
      obtain ⟨j, hj, ej⟩ := List.getElem_of_mem hz
      have hj' : cs[j]? = some (z.1, c) := by rw [List.getElem?_eq_getElem hj, ej, ← ez]
      have e : ((cs.map (·.2)).map Ct.data).any (fun z => PyData.eqv z c.data) = true := by
        rw [List.any_eq_true]
        exact ⟨c.data, List.mem_map.mpr ⟨c, List.mem_map.mpr ⟨z, hz, ez⟩, rfl⟩, (Ct.eqv_iff _ _).mpr rfl⟩
      rw [e]
      walk_at "g"
      refine ⟨th, .ref a, c.data, _, j, c.data, rfl, rfl, ht.dp, hc.dp, cts_shaped hlay, Ct.shaped hco, by rw [List.getElem?_map, List.getElem?_map, hj']; rfl, (Ct.eqv_iff _ _).mpr rfl, fun m z' hm hz' => ?_, ?_⟩
      · rw [List.getElem?_map, List.getElem?_map] at hz'
        have hmj : m < cs.length := by omega
        rw [List.getElem?_eq_getElem hmj] at hz'
        have e2 : (cs[m]).2.data = z' := Option.some.inj hz'
        rw [← e2, Bool.eq_false_iff]
        intro h
        have e3 := (Ct.eqv_iff _ _).mp h
        have e4 : cs[j] = (z.1, c) := by
          have := List.getElem?_eq_getElem hj
          rw [hj'] at this
          exact (Option.some.inj this).symm
        have h1 : (cs.map (·.2))[m]'(by rw [List.length_map]; omega) = (cs.map (·.2))[j]'(by rw [List.length_map]; omega) := by
          rw [List.getElem_map, List.getElem_map, e3, e4]
        have := nodup_at nd h1
        omega
      · walk_at "g"
        exact q1 j z.1 hj'
theorem ok_some {f fM fD : Addr} {fd fdM fdD : FuncData} (T : Txt K mg) (F : Fun K "_law_some" "_law_some" s_law_some f fd) (D_law_mixed : Df K mg "_law_mixed" s_law_mixed ["_law_cell", "_law_turn"] fM fdM)
    (D_law_draw : Df K mg "_law_draw" s_law_draw ["_law_deck_here", "_law_many"] fD fdD) : FnOk P w K mg base CX0 3 f fd ["_law_deck_here", "_law_names", "_law_count"] spSome := by
  have G_law_draw : FnOk P w K mg base CX0 2 fD fdD ["_law_deck_here", "_law_many"] spDraw := ok_draw T D_law_draw.fn D_law_mixed
  refine F.ok sc_law_some (fun vs H Q E h => ?_) (fun cdv A outer s H vs Q E hr h => ?_)
  · obtain ⟨d, c, l, n, m, names, rfl, _⟩ := h
    rfl
  · obtain ⟨d, c, l, n, m, names, rfl, D0, hn, hl, ld, lc, hnl, hm, q⟩ := h
    refine ⟨_,
      (pss_cons
        (ps_set (i := 3) sc_law_some.nd rfl (.inl rfl) (pe_lst pa_nil))
      (pss_cons
        (ps_for PassesOwn.never rfl (pi_range1 (by rfl) T.n_range (pa_cons (pe_callB (c_min2 rfl) (by rfl) T.n_min (by decide +kernel) (pa_cons (pv 2) (pa_cons (pe_callB (r := rLen K) c_len (by rfl) T.n_len (by decide +kernel) (pa_cons (pv 1) pa_nil)) pa_nil))) pa_nil)) (pg_name (i := 4) sc_law_some.nd rfl (.inl rfl))
          (pss_one
            (ps_expr (pe_bm PySem.F.plainAttrs_list PySem.F.slot_list_append PySem.F.type_list_append mt_append (pv 3) (pa_cons (pe_ix (r := rIxL K) ix_list (pv 1) (pe_call G_law_draw (hr.mono (by omega)) (by rfl) D_law_draw.g D_law_draw.fn.kp D_law_draw.b .nil pass0 (pa_cons (pv 0) (pa_cons (pe_callB (r := rLen K) c_len (by rfl) T.n_len (by decide +kernel) (pa_cons (pv 1) pa_nil)) pa_nil))) (fun _ _ => rfl)) pa_nil)))))
      (pss_one
        (ps_ret (pe_callTy (r := rTupOf K) c_tupOf (by rfl) T.n_tuple (by decide +kernel) (pa_cons (pe_callB (r := rSortS w) (c_sortS rfl) (by rfl) T.n_sorted (by decide +kernel) (pa_cons (pe_callTy (r := rSetL K w) (c_setL rfl) (by rfl) T.n_set (by decide +kernel) (pa_cons (pv 3) pa_nil)) pa_nil)) pa_nil))))))
      , ?_⟩
    rw [show L2.start N_law_some [V.ref d, V.ref l, nV m] = [some (.ref d), some (.ref l), some (.int (m : Int)), none, none] from rfl]
    walk_at "x"
    refine w_new fun L H1 hL e1 k1 => ?_
    have D1 : Deck H1 d c n := D0.kp (M := []) (Kp.of k1) (by simp) (by simp)
    have hl1 := k1 _ _ hl
    obtain ⟨Ld, Lc⟩ := D0.ne1 hL
    have Ll : l ≠ L := ne_of_none hl hL
    walk_at "g"
    try refine w_rng1' (by simp only [List.length_map]; omega) (by simp only [List.length_map]; omega) ?_
    refine lp_range (fun i σ H' => ∃ (y : Option V) (dr : List Nat), σ = [some (.ref d), some (.ref l), some (.int (m : Int)), some (.ref L), y] ∧ Deck H' d c (n + i) ∧ KX d H H' ∧ H' L = some (.lst (dr.map nV)) ∧ dr.length = i ∧ ∀ x ∈ dr, x ∈ names) ⟨_, [], rfl, D1, KX.of k1, e1, rfl, by simp⟩ ?_ ?_
    · rintro i σ H2 hi ⟨y, dr, rfl, D2, k2, e2, hdl, hdr⟩
      have hi2 : i < m ∧ 0 < names.length := by
        simp only [List.length_map] at hi
        omega
      have hl2 := k2.p _ _ (by simpa using ld) hl
      walk_at "g"
      refine w_draw D2 (by omega) (by rw [List.length_map]; omega) (by rw [List.length_map]; omega) fun r H3 hr3 D3 o3 => ?_
      have hr4 : r < names.length := by rw [List.length_map] at hr3; omega
      have e3 := o3.get Ld e2
      have hl3 := o3.get ld hl2
      have at1 : atI (names.map nV) (r : Int) = some (.int ((names[r] : Nat) : Int)) := atI_nat (nV_at hr4)
      walk_at "g"
      refine w_app e3 (by rw [List.length_map]; exact small1kl (by omega)) fun H4 e4 o4 => ?_
      walk_at "g"
      refine ⟨_, dr ++ [names[r]], rfl, (D3.kp (M := [L]) (o4.kp (by simp)) (by simpa using Ld.symm) (by simpa using Lc.symm)).mono (by omega), (k2.trans (D2.kx D3 o3)).offN o4 hL, by rw [e4, List.map_append]; rfl, by rw [List.length_append, hdl]; rfl, fun x hx => ?_⟩
      rcases List.mem_append.mp hx with h | h
      · exact hdr x h
      · have : x = names[r] := by simpa using h
        rw [this]
        exact List.getElem_mem hr4
    · rintro σ H2 ⟨y, dr, rfl, D2, k2, e2, hdl, hdr⟩
      have hlm : dr.length ≤ m := by
        simp only [List.length_map] at hdl
        omega
      have e2' : H2 L = some (.lst ((dr.map fun n : Nat => (n : Int)).map V.int)) := by rw [e2, nV_map]
      walk_at "g"
      refine w_setOf (.of e2') (by rw [List.length_map]; omega) fun st c3 H3 hst hc e3 k3 => ?_
      walk_at "g"
      refine w_sortS e3 (by rw [List.length_map] at hc; omega) fun ys rw' H4 hup hmem hrw e4 k4 => ?_
      obtain ⟨ns, rfl⟩ := ints_nats (zs := ys) fun z hz => by
        have := of_decide_eq_true ((hmem z).mp hz)
        obtain ⟨n, _, rfl⟩ := List.mem_map.mp this
        omega
      have hmem2 : ∀ x ∈ ns, x ∈ dr := fun x hx => int_mem.mp (of_decide_eq_true ((hmem x).mp (int_mem.mpr hx)))
      have hup2 : ns.Pairwise (· < ·) := by
        rw [List.pairwise_map] at hup
        exact hup.imp fun {a b} h => by omega
      have hlen := nodup_le (ns.map fun n : Nat => (n : Int)) (dr.map fun n : Nat => (n : Int)) (hup.imp fun {a b} h => Int.ne_of_lt h) fun x hx => of_decide_eq_true ((hmem x).mp hx)
      rw [List.length_map, List.length_map] at hlen
      walk_at "g"
      refine w_tupL (.of e4) fun t H5 ht e5 k5 => ?_
      have k25 := Same.trans k3 (Same.trans k4 k5)
      refine q H5 t ns ((D2.kp (M := []) (Kp.of k25) (by simp) (by simp)).mono ?_) (k2.trans (KX.of k25)) (by rw [e5, nV_map]) hup2 (by omega) fun x hx => hdr x (hmem2 x hx)
      simp only [List.length_map] at hdl ⊢
      omega
theorem ok_lbook {f fI fN : Addr} {fd fdI fdN : FuncData} (T : Txt K mg) (F : Fun K "_law_book" "_law_book" s_law_book f fd) (K_Book : Kl K mg "Book" C ["contents", "depths", "given"]) (M_Book : Mk K C fI)
    (D_Book___init__ : DfM K C "__init__" "Book.__init__" s_Book___init__ ["self"] fI fdI) (D_Book_named : DfM K C "named" "Book.named" s_Book_named ["self", "content"] fN fdN) (G_Book_named : FnOk P w K mg base CX0 6 fN fdN ["self", "content"] (spNamed P w C)) : FnOk P w K mg base CX0 7 f fd ["_law_things"] (spLBook P w C) := by
  have G_Book___init__ : FnOk P w K mg base CX0 1 fI fdI ["self"] (spBookInit P w C) := ok_bookinit T D_Book___init__.fn K_Book
  refine F.ok sc_law_book (fun vs H Q E h => ?_) (fun cdv A outer s H vs Q E hr h => ?_)
  · obtain ⟨th, cs, rfl, _⟩ := h
    rfl
  · obtain ⟨th, cs, rfl, ht, hok, nd, hlen, q⟩ := h
    refine ⟨_,
      (pss_cons
        (ps_set (i := 1) sc_law_book.nd rfl (.inl rfl) (pe_make0 M_Book G_Book___init__ (hr.mono (by omega)) (by rfl) K_Book.g D_Book___init__.b .nil pass0))
      (pss_cons
        (ps_for PassesOwn.never rfl (pi_list (pv 0)) (pg_name (i := 2) sc_law_book.nd rfl (.inl rfl))
          (pss_one
            (ps_expr (pe_meth (pv 1) K_Book.cl D_Book_named.m G_Book_named (hr.mono (by omega)) D_Book_named.b .nil pass0 (pa_cons (pv 2) pa_nil)))))
      (pss_one
        (ps_ret (pv 1)))))
      , ?_⟩
    rw [show L2.start N_law_book [V.ref th] = [some (.ref th), none, none] from rfl]
    walk_at "x"
    refine w_make' fun p dx H1 hp hdx hne e1 k1 => ?_
    refine ⟨p, dx, rfl, e1, fun lc ld lg H2 hlc hld hlg B2 k2 => ⟨rfl, ?_⟩⟩
    have hlc0 := k1.free hlc
    have hld0 := k1.free hld
    have hlg0 := k1.free hlg
    have s2 : Same H H2 := fun b o e => k2 _ _ (by simpa using ne_of_none e hp) (k1 _ _ e)
    walk_at "g"
    refine w_itL' (.of (s2 _ _ ht.at')) ?_
    refine lp_list (xs := cs.map fun q => V.ref q.1) (fun i σ H' => (∃ y : Option V, σ = [some (.ref th), some (.ref p), y]) ∧ Same H H' ∧ BookAt P w C H' p dx lc ld lg (cs.take i) (dsOf ((cs.take i).map (·.2)))) ⟨⟨_, rfl⟩, s2, B2⟩ (fun i σ H' _ h => .of (h.2.1 _ _ ht.at')) ?_ ?_
    · rintro i x σ H3 hx ⟨⟨y, rfl⟩, s3, B3⟩
      obtain ⟨qc, hq, rfl⟩ := map_at hx
      have hi := (List.getElem?_eq_some_iff.mp hq).1
      have ob3 := B3.ob
      have etake : cs.take (i + 1) = cs.take i ++ [qc] := by rw [List.take_add_one, hq]; rfl
      have hlt : (cs.take i).length < 400 := by rw [List.length_take]; omega
      walk_at "g"
      refine ⟨p, dx, lc, ld, lg, qc.1, cs.take i, _, qc.2, rfl, B3, (ht.ct qc (List.mem_of_getElem? hq)).kt (KT.of s3), ?_, hlt, fun j b H4 hj k4 => ?_, fun hn H4 B4 k4 t4 => ?_⟩
      · have := hok i qc.2 (by rw [List.getElem?_map, hq]; rfl)
        rwa [← List.map_take] at this
      · exfalso
        have hj1 := (List.getElem?_eq_some_iff.mp hj).1
        rw [List.length_take] at hj1
        have hj2 : cs[j]? = some (b, qc.2) := by
          rw [List.getElem?_take] at hj
          rwa [if_pos (by omega)] at hj
        have h1 : (cs.map (·.2))[j]? = some qc.2 := by rw [List.getElem?_map, hj2]; rfl
        have h2 : (cs.map (·.2))[i]? = some qc.2 := by rw [List.getElem?_map, hq]; rfl
        obtain ⟨g1, g1'⟩ := List.getElem?_eq_some_iff.mp h1
        obtain ⟨g2, g2'⟩ := List.getElem?_eq_some_iff.mp h2
        have := nodup_at nd (g1'.trans g2'.symm)
        omega
      · walk_at "g"
        refine ⟨⟨_, rfl⟩, fun b o e => k4 _ _ ?_ (s3 _ _ e), ?_⟩
        · simp only [List.mem_cons, List.not_mem_nil, or_false, not_or]
          exact ⟨ne_of_none e hlc0, ne_of_none e hld0, ne_of_none e hlg0⟩
        · rw [etake, List.map_append, List.map_cons, List.map_nil, dsOf_snoc]
          exact B4
    · rintro σ H3 ⟨⟨y, rfl⟩, s3, B3⟩
      rw [List.length_map, List.take_length] at B3
      walk_at "g"
      exact q H3 p dx lc ld lg _ hp hlc0 hld0 hlg0 B3 s3
end
/-! ### labels, rows, entries of the drawn families -/
theorem seqIndex_nat {r n : Nat} (h : r < n) : seqIndex? (r : Int) n = some r := by
  unfold seqIndex?
  simp
  omega
theorem erase_map {α β : Type} (f : α → β) : ∀ (l : List α) (r : Nat), (l.map f).eraseIdx r = (l.eraseIdx r).map f
  | [], _ => by simp
  | x :: l, 0 => rfl
  | x :: l, r + 1 => by
    show f x :: (l.map f).eraseIdx r = f x :: (l.eraseIdx r).map f
    rw [erase_map f l r]
theorem small2000 {n : Nat} (h : n ≤ 2000) : n ≤ sizeLine := Nat.le_trans h (by decide)
theorem Deck.kxK {H H' : Hp} {d c : Addr} {n m : Nat} (D : Deck H d c n) (D' : Deck H' d c m) (k : Kp [d] H H') : KX d H H' := by
  obtain ⟨⟨xs, e⟩, _⟩ := D.at
  obtain ⟨⟨xs', e'⟩, _⟩ := D'.at
  refine ⟨⟨KT.kp k (by simp [e]), fun b ys h => ?_, fun b ys h => ?_⟩, k⟩
  · by_cases hb : b = d
    · subst hb
      exact ⟨_, e'⟩
    · exact ⟨_, k _ _ (by simpa using hb) h⟩
  · exact ⟨_, k _ _ (by simpa using ne_of h e (fun z => nomatch z)) h⟩
theorem Deck.ktK {H H' : Hp} {d c : Addr} {n : Nat} (D : Deck H d c n) (k : Kp [d] H H') : KT H H' := by
  obtain ⟨⟨xs, e⟩, _⟩ := D.at
  exact KT.kp k (by simp [e])
theorem w_bm0D {K : PySem.W.Frag} {σ : L2.St} {H : Hp} {Q : VK} {r : V → List V → Hp → VK → Prop} {to : TE} (h : to σ H fun x H1 => tyV K "dict" x H1 ∧ r x [] H1 Q) : tBM0 K "dict" r to σ H Q := h
theorem w_tyDK {K : PySem.W.Frag} {H : Hp} {p : Addr} {kvs : List (Key × V)} {A : Prop} (h1 : H p = some (.dK kvs)) (h : A) : tyV K "dict" (.ref p) H ∧ A := ⟨.inr (.inr (.inl ⟨rfl, .inl ⟨_, h1⟩⟩)), h⟩
def spText : Sp := fun vs H Q _ => ∃ (d c : Addr) (n : Nat) (m : Nat), vs = [.ref d, .int (m : Int)] ∧ Deck H d c n ∧ n + 42 ≤ MOSTD ∧ m ≤ 40 ∧ ∀ H' z, Deck H' d c (n + 42) → Kp [d] H H' → KT H H' → LineOk z → Q (.str z) H'
def spLabel : Sp := fun vs H Q _ => ∃ (d c : Addr) (n : Nat), vs = [.ref d] ∧ Deck H d c n ∧ n + 12 ≤ MOSTD ∧ ∀ H' z, Deck H' d c (n + 12) → Kp [d] H H' → KT H H' → LabOk z → Q (.str z) H'
def spRows : Sp := fun vs H Q _ => ∃ (d c t : Addr) (n : Nat) (ls : List Str), vs = [.ref d, .ref t] ∧ Deck H d c n ∧ n + 300 ≤ MOSTD ∧ RwAt H t ls ∧ ls.length ≤ 7 ∧ (∀ z ∈ ls, LineOk z) ∧
  ∀ H' r (ls' : List Str), Deck H' d c (n + 300) → KX d H H' → RwAt H' r ls' → ls'.length ≤ 7 → (∀ z ∈ ls', LineOk z) → Q (.ref r) H'
def spEntries : Sp := fun vs H Q _ => ∃ (d c l : Addr) (n : Nat) (lows : List Nat), vs = [.ref d, .ref l] ∧ Deck H d c n ∧ n + 60 ≤ MOSTD ∧ H l = some (.lst (lows.map nV)) ∧ l ≠ d ∧ lows ≠ [] ∧ lows.length ≤ 1000 ∧
  ∀ H' t (qs : List (Addr × Str × Nat)), Deck H' d c (n + 60) → KX d H H' → H' t = some (.tup (qs.map fun q => .ref q.1)) → (∀ q ∈ qs, H' q.1 = some (.tup [.str q.2.1, nV q.2.2])) → qs.length ≤ 3 → qs.Pairwise (fun x y => txLt x.2.1 y.2.1) → (∀ q ∈ qs, LabOk q.2.1 ∧ q.2.2 ∈ lows) → Q (.ref t) H'
theorem chs_of {S : List Nat} {ys : List V} (h : ∀ y ∈ ys, ∃ ch : Nat, y = .str ⟨#[ch]⟩ ∧ ch ∈ S) : ∃ zs : List Nat, ys = (zs.map fun ch => (⟨#[ch]⟩ : Str)).map V.str ∧ ∀ ch ∈ zs, ch ∈ S := by
  induction ys with
  | nil => exact ⟨[], rfl, by simp⟩
  | cons y ys ih =>
    obtain ⟨ch, rfl, hch⟩ := h y (by simp)
    obtain ⟨zs, rfl, hz⟩ := ih fun y hy => h y (by simp [hy])
    exact ⟨ch :: zs, rfl, fun c hc => by
      rcases List.mem_cons.mp hc with rfl | hc
      · exact hch
      · exact hz c hc⟩
theorem chs_sum (l : List Nat) : (l.map fun ch => ((⟨#[ch]⟩ : Str)).length).sum = l.length := by
  induction l with
  | nil => rfl
  | cons x l ih =>
    rw [List.map_cons, List.sum_cons, ih, List.length_cons]
    show 1 + l.length = _
    omega
theorem chs_flat (l : List Nat) : ((l.map fun ch => (⟨#[ch]⟩ : Str)).map fun y => y.cps.toList).flatten = l := by
  induction l with
  | nil => rfl
  | cons x l ih =>
    rw [List.map_cons, List.map_cons, List.flatten_cons, ih]
    rfl
abbrev LTR : Str := Str.ofString "abcdefghijklmnopqrstuvwxyz"
theorem strs_of {ys : List V} {p : Str → Prop} (h : ∀ y ∈ ys, ∃ z : Str, y = .str z ∧ p z) : ∃ zs : List Str, ys = zs.map V.str ∧ ∀ z ∈ zs, p z := by
  induction ys with
  | nil => exact ⟨[], rfl, by simp⟩
  | cons y ys ih =>
    obtain ⟨z, rfl, hz⟩ := h y (by simp)
    obtain ⟨zs, rfl, hs⟩ := ih fun y hy => h y (by simp [hy])
    exact ⟨z :: zs, rfl, fun c hc => by
      rcases List.mem_cons.mp hc with rfl | hc
      · exact hz
      · exact hs c hc⟩
theorem w_dputS {H : Hp} {a : Addr} {kvs : List (Key × V)} {z : Str} {v : V} {R : Hp → Prop} (e : H a = some (.dK kvs)) (hl : kvs.length < sizeLine) (h : ∀ H1, H1 a = some (.dK (putK kvs (Sum.inr z) v)) → Off a H H1 → R H1) : rDPut (.ref a) (.str z) v H R :=
  ⟨a, _, rfl, DPut.k (k := Sum.inr z) e hl, h _ upd_same fun x hx => upd_ne hx⟩
def putTI (qs : List (Str × Int)) (z : Str) (v : Int) : List (Str × Int) := if (qs.any fun q => decide (q.1 = z)) = true then qs.map (fun q => if q.1 = z then (q.1, v) else q) else qs ++ [(z, v)]
theorem putTI_kv (qs : List (Str × Int)) (z : Str) (v : Int) : putK (kvTI qs) (Sum.inr z) (V.int v) = kvTI (putTI qs z v) := by
  unfold putK putTI kvTI
  have e : ((qs.map fun q => ((Sum.inr q.1 : Key), V.int q.2)).any fun kv => decide (kv.1 = (Sum.inr z : Key))) = (qs.any fun q => decide (q.1 = z)) := by
    rw [List.any_map]
    congr 1
    funext q
    show decide ((Sum.inr q.1 : Key) = Sum.inr z) = decide (q.1 = z)
    by_cases h : q.1 = z
    · rw [decide_eq_true h, decide_eq_true (by rw [h])]
    · rw [decide_eq_false h, decide_eq_false (fun e => h (Sum.inr.inj e))]
  rw [e]
  by_cases h : (qs.any fun q => decide (q.1 = z)) = true
  · rw [if_pos h, if_pos h, List.map_map, List.map_map]
    refine List.map_congr_left fun q _ => ?_
    show (if (Sum.inr q.1 : Key) = Sum.inr z then ((Sum.inr q.1 : Key), V.int v) else ((Sum.inr q.1 : Key), V.int q.2)) = ((Sum.inr (if q.1 = z then (q.1, v) else q).1 : Key), V.int (if q.1 = z then (q.1, v) else q).2)
    by_cases g : q.1 = z
    · rw [if_pos (by rw [g]), if_pos g]
    · rw [if_neg (fun e => g (Sum.inr.inj e)), if_neg g]
  · rw [if_neg h, if_neg h, List.map_append]
    rfl
theorem putTI_nd {qs : List (Str × Int)} {z : Str} {v : Int} (nd : (qs.map (·.1)).Nodup) : ((putTI qs z v).map (·.1)).Nodup := by
  unfold putTI
  by_cases h : (qs.any fun q => decide (q.1 = z)) = true
  · rw [if_pos h, List.map_map]
    have : ((fun x : Str × Int => x.1) ∘ fun q => if q.1 = z then (q.1, v) else q) = fun q : Str × Int => q.1 := by
      funext q
      show (if q.1 = z then (q.1, v) else q).1 = q.1
      by_cases g : q.1 = z
      · rw [if_pos g]
      · rw [if_neg g]
    rw [this]
    exact nd
  · rw [if_neg h, List.map_append, List.nodup_append]
    refine ⟨nd, by simp, fun x hx y hy e => ?_⟩
    have : y = z := by simpa using hy
    subst this
    obtain ⟨q, hq, e2⟩ := List.mem_map.mp hx
    exact h (List.any_eq_true.mpr ⟨q, hq, decide_eq_true (e2.trans e)⟩)
theorem putTI_mem {qs : List (Str × Int)} {z : Str} {v : Int} {q : Str × Int} (h : q ∈ putTI qs z v) : q ∈ qs ∨ q = (z, v) := by
  unfold putTI at h
  by_cases g : (qs.any fun q => decide (q.1 = z)) = true
  · rw [if_pos g] at h
    obtain ⟨q', hq', e⟩ := List.mem_map.mp h
    by_cases f : q'.1 = z
    · rw [if_pos f] at e
      exact .inr (by rw [← e, f])
    · rw [if_neg f] at e
      exact .inl (by rw [← e]; exact hq')
  · rw [if_neg g] at h
    simpa using h
theorem putTI_len {qs : List (Str × Int)} {z : Str} {v : Int} : (putTI qs z v).length ≤ qs.length + 1 := by
  unfold putTI
  by_cases g : (qs.any fun q => decide (q.1 = z)) = true
  · rw [if_pos g, List.length_map]
    omega
  · rw [if_neg g, List.length_append]
    simp
section
variable {P : Program} {w : World} {K : PySem.W.Frag} {mg : Str → Option Value} {base : Heap}
theorem ok_text {f fM fD : Addr} {fd fdM fdD : FuncData} (T : Txt K mg) (F : Fun K "_law_text" "_law_text" s_law_text f fd) (D_law_mixed : Df K mg "_law_mixed" s_law_mixed ["_law_cell", "_law_turn"] fM fdM) (D_law_draw : Df K mg "_law_draw" s_law_draw ["_law_deck_here", "_law_many"] fD fdD) : FnOk P w K mg base CX0 3 f fd ["_law_deck_here", "_law_size"] spText := by
  have G_law_draw : FnOk P w K mg base CX0 2 fD fdD ["_law_deck_here", "_law_many"] spDraw := ok_draw T D_law_draw.fn D_law_mixed
  refine F.ok sc_law_text (fun vs H Q E h => ?_) (fun cdv A outer s H vs Q E hr h => ?_)
  · obtain ⟨d, c, n, m, rfl, _⟩ := h
    rfl
  · obtain ⟨d, c, n, m, rfl, D0, hn, hm, q⟩ := h
    refine ⟨_,
      (pss_cons
        (ps_set (i := 2) sc_law_text.nd rfl (.inr rfl) pe_str)
      (pss_cons
        (ps_if (pt_cmpR op_eq (pe_call G_law_draw (hr.mono (by omega)) (by rfl) D_law_draw.g D_law_draw.fn.kp D_law_draw.b .nil pass0 (pa_cons (pv 0) (pa_cons pe_int pa_nil))) pe_int (nomark _))
          (pss_one
            (ps_set (i := 2) sc_law_text.nd rfl (.inr rfl) pe_str))
          pss_nil)
      (pss_one
        (ps_ret (p_join pe_str (pe_lc (own := [("_law_k", 3)]) (g := (gName 3)) rfl sc_law_text.nd (pi_range1 (by rfl) T.n_range (pa_cons (pe_call G_law_draw (hr.mono (by omega)) (by rfl) D_law_draw.g D_law_draw.fn.kp D_law_draw.b .nil pass0 (pa_cons (pv 0) (pa_cons (pe_op op_add (pv 1) pe_int) pa_nil))) pa_nil)) (blkOk_by (own := [("_law_k", 3)]) (N := N_law_text) (sc := defScope s_law_text) (by decide +kernel)) (fun _ _ _ _ _ => (pg_name (i := 3) sc_law_text.nd rfl (.inl rfl))) (fun _ _ _ _ _ => pts_nil) (fun _ _ _ _ _ => (pe_ix ix_str (pv 2) (pe_call G_law_draw (hr.mono (by omega)) (by rfl) D_law_draw.g D_law_draw.fn.kp D_law_draw.b .nil pass0 (pa_cons (pv 0) (pa_cons (pe_callB c_lenS (by rfl) T.n_len (by decide +kernel) (pa_cons (pv 2) pa_nil)) pa_nil))) (fun _ _ => rfl)))))))))
      , ?_⟩
    rw [show L2.start N_law_text [V.ref d, V.int (m : Int)] = [some (.ref d), some (.int (m : Int)), none, none] from rfl]
    walk_at "x"
    refine w_seqJ (fun σ' H' => ∃ sg : Str, σ' = [some (.ref d), some (.int (m : Int)), some (.str sg), none] ∧ Deck H' d c (n + 1) ∧ Kp [d] H H' ∧ 0 < sg.length ∧ sg.length ≤ 100 ∧ ∀ c ∈ sg.cps.toList, c ∈ SG.cps.toList) ?_ ?_
    rotate_left
    · intro U hU
      walk_at "g"
      refine w_draw D0 (by omega) (by decide) (by decide) fun r H1 hr1 D1 o1 => ?_
      walk_at "g"
      refine w_ite (fun h => ?_) (fun h => ?_)
      · walk_at "g"
        exact hU _ _ ⟨_, rfl, D1, o1.kp (by simp), by decide, by decide, by decide⟩
      · walk_at "g"
        exact hU _ _ ⟨_, rfl, D1, o1.kp (by simp), by decide +kernel, by decide +kernel, fun c h => h⟩
    rintro σ' H1 ⟨sg, rfl, D1, k1, hs0, hs1, hsg⟩
    obtain ⟨⟨dx, ed1⟩, ⟨cx, ec1⟩⟩ := D1.at
    walk_at "g"
    refine w_draw D1 (by omega) (by omega) (by omega) fun r H2 hr2 D2 o2 => ?_
    obtain ⟨⟨dx2, ed2⟩, _⟩ := D2.at
    walk_at "g"
    refine lcp_gen (walk_range (lo := 0) (n := (r : Int).toNat)) [d] (fun i y _ => ∃ ch : Nat, y = .str ⟨#[ch]⟩ ∧ ch ∈ SG.cps.toList) (fun i H' => Deck H' d c (n + 2 + i)) (by omega) (fun _ _ _ _ _ h => h) (fun D hD i H1' o z => z.mut (D2.ne1 hD).1 (D2.ne1 hD).2) (fun _ _ _ _ => trivial) D2 ?_ (by intro b hb; have e : b = d := (by simpa using hb); subst e; exact ⟨_, ed2⟩) ?_
    · rintro i x H3 H4 R hi k3 t3 D3 ⟨rfl, rfl⟩ hR
      refine w_name ⟨rfl, ?_⟩
      walk_at "g"
      refine w_lenS (small2000 (by omega)) ?_
      walk_at "g"
      refine w_draw D3 (by unfold MOSTD at *; omega) (by omega) (by omega) fun r4 H5 hr4 D5 o5 => ?_
      obtain ⟨⟨dx3, ed3⟩, _⟩ := D3.at
      obtain ⟨ch, hch, ech⟩ : ∃ ch, sg.cps.toList[r4]? = some ch ∧ atI sg.cps.toList (r4 : Int) = some ch := by
        have hl : r4 < sg.cps.toList.length := by
          have : sg.length = sg.cps.toList.length := by show sg.cps.size = _; simp
          omega
        exact ⟨_, List.getElem?_eq_getElem hl, atI_nat (List.getElem?_eq_getElem hl)⟩
      walk_at "g"
      refine w_ixS (small2000 (by omega)) ech ?_
      exact hR _ _ ⟨ch, rfl, hsg ch (List.mem_of_getElem? hch)⟩ (o5.kp (by simp)) (KT.off o5 ed3) D5
    · intro L H3 ys hyl hyp hL k3 t3 D3 eL
      obtain ⟨zs, hzs, hzc⟩ : ∃ zs : List Nat, ys = (zs.map fun ch => (⟨#[ch]⟩ : Str)).map V.str ∧ ∀ ch ∈ zs, ch ∈ SG.cps.toList := by
        have : ∀ {ys : List V}, (∀ y ∈ ys, ∃ ch : Nat, y = .str ⟨#[ch]⟩ ∧ ch ∈ SG.cps.toList) → ∃ zs : List Nat, ys = (zs.map fun ch => (⟨#[ch]⟩ : Str)).map V.str ∧ ∀ ch ∈ zs, ch ∈ SG.cps.toList := by
          intro ys
          induction ys with
          | nil => intro _; exact ⟨[], rfl, by simp⟩
          | cons y ys ih =>
            intro h
            obtain ⟨ch, rfl, hch⟩ := h y (by simp)
            obtain ⟨zs, rfl, hz⟩ := ih fun y hy => h y (by simp [hy])
            exact ⟨ch :: zs, rfl, fun c hc => by
              rcases List.mem_cons.mp hc with rfl | hc
              · exact hch
              · exact hz c hc⟩
        refine this fun y hy => ?_
        obtain ⟨i, hi, e⟩ := List.getElem_of_mem hy
        exact hyp i y (by rw [List.getElem?_eq_getElem hi, e])
      have hzl : zs.length = (r : Int).toNat := by rw [← hyl, hzs]; simp
      subst hzs
      have hsum : ∀ l : List Nat, (l.map fun ch => ((⟨#[ch]⟩ : Str)).length).sum = l.length := by
        intro l
        induction l with
        | nil => rfl
        | cons x l ih =>
          rw [List.map_cons, List.sum_cons, ih, List.length_cons]
          show 1 + l.length = _
          omega
      have hflat : ∀ l : List Nat, ((l.map fun ch => (⟨#[ch]⟩ : Str)).map fun y => y.cps.toList).flatten = l := by
        intro l
        induction l with
        | nil => rfl
        | cons x l ih =>
          rw [List.map_cons, List.map_cons, List.flatten_cons, ih]
          rfl
      walk_at "g"
      refine w_joinL (.of eL) ?_ ?_
      · rw [List.map_map, List.length_map]
        have := hsum zs
        show (zs.map fun ch => ((⟨#[ch]⟩ : Str)).length).sum + zs.length * 0 ≤ _
        omega
      · have ec := join_cps (zs.map fun ch => (⟨#[ch]⟩ : Str))
        rw [hflat] at ec
        refine q H3 _ (D3.mono (by omega)) (k1.trans ((o2.kp (by simp)).trans k3)) ?_ ⟨?_, fun ch hch => ?_⟩
        · exact D0.ktK (k1.trans ((o2.kp (by simp)).trans k3))
        · show (Txt.join (Str.ofString "") (zs.map fun ch => (⟨#[ch]⟩ : Str))).cps.size ≤ 40
          rw [← Array.length_toList, ec]
          omega
        · rw [ec] at hch
          exact hzc ch hch
theorem ok_label {f fM fD : Addr} {fd fdM fdD : FuncData} (T : Txt K mg) (F : Fun K "_law_label" "_law_label" s_law_label f fd) (D_law_mixed : Df K mg "_law_mixed" s_law_mixed ["_law_cell", "_law_turn"] fM fdM) (D_law_draw : Df K mg "_law_draw" s_law_draw ["_law_deck_here", "_law_many"] fD fdD) : FnOk P w K mg base CX0 3 f fd ["_law_deck_here"] spLabel := by
  have G_law_draw : FnOk P w K mg base CX0 2 fD fdD ["_law_deck_here", "_law_many"] spDraw := ok_draw T D_law_draw.fn D_law_mixed
  refine F.ok sc_law_label (fun vs H Q E h => ?_) (fun cdv A outer s H vs Q E hr h => ?_)
  · obtain ⟨d, c, n, rfl, _⟩ := h
    rfl
  · obtain ⟨d, c, n, rfl, D0, hn, q⟩ := h
    refine ⟨_,
      (pss_cons
        (ps_if (pt_cmpR op_gt (pe_call G_law_draw (hr.mono (by omega)) (by rfl) D_law_draw.g D_law_draw.fn.kp D_law_draw.b .nil pass0 (pa_cons (pv 0) (pa_cons pe_int pa_nil))) pe_int (nomark _))
          (pss_one
            (ps_ret (pe_ix ix_str pe_str (pe_call G_law_draw (hr.mono (by omega)) (by rfl) D_law_draw.g D_law_draw.fn.kp D_law_draw.b .nil pass0 (pa_cons (pv 0) (pa_cons pe_int pa_nil))) (fun _ _ => rfl))))
          pss_nil)
      (pss_cons
        (ps_set (i := 1) sc_law_label.nd rfl (.inr rfl) pe_str)
      (pss_one
        (ps_ret (p_join pe_str (pe_lc (own := [("_law_k", 2)]) (g := (gName 2)) rfl sc_law_label.nd (pi_range1 (by rfl) T.n_range (pa_cons (pe_op op_add pe_int (pe_call G_law_draw (hr.mono (by omega)) (by rfl) D_law_draw.g D_law_draw.fn.kp D_law_draw.b .nil pass0 (pa_cons (pv 0) (pa_cons pe_int pa_nil)))) pa_nil)) (blkOk_by (own := [("_law_k", 2)]) (N := N_law_label) (sc := defScope s_law_label) (by decide +kernel)) (fun _ _ _ _ _ => (pg_name (i := 2) sc_law_label.nd rfl (.inl rfl))) (fun _ _ _ _ _ => pts_nil) (fun _ _ _ _ _ => (pe_ix ix_str (pv 1) (pe_call G_law_draw (hr.mono (by omega)) (by rfl) D_law_draw.g D_law_draw.fn.kp D_law_draw.b .nil pass0 (pa_cons (pv 0) (pa_cons pe_int pa_nil))) (fun _ _ => rfl)))))))))
      , ?_⟩
    rw [show L2.start N_law_label [V.ref d] = [some (.ref d), none, none] from rfl]
    refine w_seq ?_
    walk_at "x"
    refine w_draw D0 (by omega) (by decide) (by decide) fun r H1 hr1 D1 o1 => ?_
    walk_at "g"
    refine w_ite (fun h => ?_) (fun h => ?_)
    · walk_at "g"
      refine w_draw D1 (by omega) (by decide) (by decide) fun r2 H2 hr2 D2 o2 => ?_
      have hl : r2 < (Str.ofString "abcd").cps.toList.length := by
        have : (Str.ofString "abcd").cps.toList.length = 4 := by decide +kernel
        omega
      have ech : atI (Str.ofString "abcd").cps.toList (r2 : Int) = some (Str.ofString "abcd").cps.toList[r2] := atI_nat (List.getElem?_eq_getElem hl)
      walk_at "g"
      refine w_ixS (by decide +kernel) ech ?_
      walk_at "g"
      have k2 : Kp [d] H H2 := (o1.kp (by simp)).trans (o2.kp (by simp))
      refine q H2 _ (D2.mono (by omega)) k2 ((D0.kx D1 o1).trans (D1.kx D2 o2)).t ⟨Nat.le_refl 1, (show (1 : Nat) ≤ 8 by decide), fun ch hch => ?_⟩
      have hm : (Str.ofString "abcd").cps.toList[r2] ∈ (Str.ofString "abcd").cps.toList := List.getElem_mem hl
      have e : ch = (Str.ofString "abcd").cps.toList[r2] := by simpa using hch
      rw [← e] at hm
      have hsub : ∀ x ∈ (Str.ofString "abcd").cps.toList, x ∈ LTR.cps.toList := by decide +kernel
      exact hsub ch hm
    · walk_at "g"
      refine w_draw D1 (by omega) (by decide) (by decide) fun r2 H2 hr2 D2 o2 => ?_
      obtain ⟨⟨dx2, ed2⟩, _⟩ := D2.at
      walk_at "g"
      refine lcp_gen (walk_range (lo := 0) (n := (1 + (r2 : Int)).toNat)) [d] (fun i y _ => ∃ ch : Nat, y = .str ⟨#[ch]⟩ ∧ ch ∈ LTR.cps.toList) (fun i H' => Deck H' d c (n + 2 + i)) (by omega) (fun _ _ _ _ _ h => h) (fun D hD i H1' o z => z.mut (D2.ne1 hD).1 (D2.ne1 hD).2) (fun _ _ _ _ => trivial) D2 ?_ (by intro b hb; have e : b = d := (by simpa using hb); subst e; exact ⟨_, ed2⟩) ?_
      · rintro i x H3 H4 R hi k3 t3 D3 ⟨rfl, rfl⟩ hR
        refine w_name ⟨rfl, ?_⟩
        walk_at "g"
        refine w_draw D3 (by unfold MOSTD at *; omega) (by decide) (by decide) fun r4 H5 hr4 D5 o5 => ?_
        obtain ⟨⟨dx3, ed3⟩, _⟩ := D3.at
        have hl : r4 < LTR.cps.toList.length := by
          have : LTR.cps.toList.length = 26 := by decide +kernel
          omega
        have ech : atI LTR.cps.toList (r4 : Int) = some LTR.cps.toList[r4] := atI_nat (List.getElem?_eq_getElem hl)
        walk_at "g"
        refine w_ixS (by decide +kernel) ech ?_
        exact hR _ _ ⟨_, rfl, List.getElem_mem hl⟩ (o5.kp (by simp)) (KT.off o5 ed3) D5
      · intro L H3 ys hyl hyp hL k3 t3 D3 eL
        obtain ⟨zs, hzs, hzc⟩ := chs_of (S := LTR.cps.toList) (ys := ys) fun y hy => by
          obtain ⟨i, hi, e⟩ := List.getElem_of_mem hy
          exact hyp i y (by rw [List.getElem?_eq_getElem hi, e])
        have hzl : zs.length = (1 + (r2 : Int)).toNat := by rw [← hyl, hzs]; simp
        subst hzs
        walk_at "g"
        refine w_joinL (.of eL) ?_ ?_
        · rw [List.map_map, List.length_map]
          have := chs_sum zs
          show (zs.map fun ch => ((⟨#[ch]⟩ : Str)).length).sum + zs.length * 0 ≤ _
          omega
        · have ec := join_cps (zs.map fun ch => (⟨#[ch]⟩ : Str))
          rw [chs_flat] at ec
          have hlen : (Txt.join (Str.ofString "") (zs.map fun ch => (⟨#[ch]⟩ : Str))).length = zs.length := by
            show (Txt.join (Str.ofString "") (zs.map fun ch => (⟨#[ch]⟩ : Str))).cps.size = _
            rw [← Array.length_toList, ec]
          have k03 := ((o1.kp (M := [d]) (by simp)).trans ((o2.kp (by simp)).trans k3))
          refine q H3 _ (D3.mono (by omega)) k03 (D0.kxK D3 k03).t ⟨by omega, by omega, fun ch hch => ?_⟩
          rw [ec] at hch
          exact hzc ch hch
theorem ok_rows {f fM fD fT : Addr} {fd fdM fdD fdT : FuncData} (T : Txt K mg) (F : Fun K "_law_rows" "_law_rows" s_law_rows f fd) (D_law_mixed : Df K mg "_law_mixed" s_law_mixed ["_law_cell", "_law_turn"] fM fdM) (D_law_draw : Df K mg "_law_draw" s_law_draw ["_law_deck_here", "_law_many"] fD fdD) (D_law_text : Df K mg "_law_text" s_law_text ["_law_deck_here", "_law_size"] fT fdT) : FnOk P w K mg base CX0 4 f fd ["_law_deck_here", "_law_elder"] spRows := by
  have G_law_draw : FnOk P w K mg base CX0 2 fD fdD ["_law_deck_here", "_law_many"] spDraw := ok_draw T D_law_draw.fn D_law_mixed
  have G_law_text : FnOk P w K mg base CX0 3 fT fdT ["_law_deck_here", "_law_size"] spText := ok_text T D_law_text.fn D_law_mixed D_law_draw
  refine F.ok sc_law_rows (fun vs H Q E h => ?_) (fun cdv A outer s H vs Q E hr h => ?_)
  · obtain ⟨d, c, t, n, ls, rfl, _⟩ := h
    rfl
  · obtain ⟨d, c, t, n, ls, rfl, D0, hn, ht, hl7, hok, q⟩ := h
    refine ⟨_,
      (pss_cons
        (ps_set (i := 2) sc_law_rows.nd rfl (.inl rfl) (pe_callTy (r := rListOf K) c_listOf (by rfl) T.n_list (by decide +kernel) (pa_cons (pv 1) pa_nil)))
      (pss_cons
        (ps_if (pt_cmpR op_eq (pe_call G_law_draw (hr.mono (by omega)) (by rfl) D_law_draw.g D_law_draw.fn.kp D_law_draw.b .nil pass0 (pa_cons (pv 0) (pa_cons pe_int pa_nil))) pe_int (nomark _))
          (pss_one
            (ps_setLc (i := 2) (own := [("_law_k", 3)]) (g := (gName 3)) rfl sc_law_rows.nd rfl rfl (sw_true rfl rfl rfl (by decide +kernel)) (pi_range1 (by rfl) T.n_range (pa_cons (pe_call G_law_draw (hr.mono (by omega)) (by rfl) D_law_draw.g D_law_draw.fn.kp D_law_draw.b .nil pass0 (pa_cons (pv 0) (pa_cons pe_int pa_nil))) pa_nil)) (blkOk_by (own := [("_law_k", 3)]) (N := N_law_rows) (sc := defScope s_law_rows) (by decide +kernel)) (fun _ _ _ _ _ => (pg_name (i := 3) sc_law_rows.nd rfl (.inl rfl))) (fun _ _ _ _ _ => pts_nil) (fun _ _ _ _ _ => (pe_call G_law_text (hr.mono (by omega)) (by rfl) D_law_text.g D_law_text.fn.kp D_law_text.b .nil pass0 (pa_cons (pv 0) (pa_cons pe_int pa_nil))))))
          pss_nil)
      (pss_cons
        (ps_if (pt_cmpR op_eq (pe_call G_law_draw (hr.mono (by omega)) (by rfl) D_law_draw.g D_law_draw.fn.kp D_law_draw.b .nil pass0 (pa_cons (pv 0) (pa_cons pe_int pa_nil))) pe_int (nomark _))
          (pss_one
            (ps_expr (pe_bm PySem.F.plainAttrs_list PySem.F.slot_list_insert PySem.F.type_list_insert m_insert (pv 2) (pa_cons (pe_call G_law_draw (hr.mono (by omega)) (by rfl) D_law_draw.g D_law_draw.fn.kp D_law_draw.b .nil pass0 (pa_cons (pv 0) (pa_cons (pe_op op_add (pe_callB (r := rLen K) c_len (by rfl) T.n_len (by decide +kernel) (pa_cons (pv 2) pa_nil)) pe_int) pa_nil))) (pa_cons (pe_call G_law_text (hr.mono (by omega)) (by rfl) D_law_text.g D_law_text.fn.kp D_law_text.b .nil pass0 (pa_cons (pv 0) (pa_cons pe_int pa_nil))) pa_nil)))))
          pss_nil)
      (pss_cons
        (ps_if (pt_cmpR op_gt (pe_callB (r := rLen K) c_len (by rfl) T.n_len (by decide +kernel) (pa_cons (pv 2) pa_nil)) pe_int (nomark _))
          (pss_one
            (ps_expr (pe_bm PySem.F.plainAttrs_list PySem.F.slot_list_pop PySem.F.type_list_pop mt_popAt (pv 2) (pa_cons (pe_call G_law_draw (hr.mono (by omega)) (by rfl) D_law_draw.g D_law_draw.fn.kp D_law_draw.b .nil pass0 (pa_cons (pv 0) (pa_cons (pe_callB (r := rLen K) c_len (by rfl) T.n_len (by decide +kernel) (pa_cons (pv 2) pa_nil)) pa_nil))) pa_nil))))
          pss_nil)
      (pss_one
        (ps_ret (pe_callTy (r := rTupOf K) c_tupOf (by rfl) T.n_tuple (by decide +kernel) (pa_cons (pv 2) pa_nil))))))))
      , ?_⟩
    rw [show L2.start N_law_rows [V.ref d, V.ref t] = [some (.ref d), some (.ref t), none, none] from rfl]
    walk_at "x"
    refine w_listT (.of ht) fun L H1 hL e1 k1 => ?_
    have D1 : Deck H1 d c n := D0.kp (M := []) (Kp.of k1) (by simp) (by simp)
    walk_at "g"
    refine w_seqJ (fun σ' H' => ∃ (L : Addr) (y : Option V) (zs : List Str), σ' = [some (.ref d), some (.ref t), some (.ref L), y] ∧ Deck H' d c (n + 200) ∧ KX d H H' ∧ H L = none ∧ H' L = some (.lst (zs.map V.str)) ∧ zs.length ≤ 7 ∧ ∀ z ∈ zs, LineOk z) ?_ ?_
    · rintro σ' H2 ⟨L2', y, zs, rfl, D2, x2, hL2, e2, hz7, hzk⟩
      obtain ⟨Ld, Lc⟩ := D0.ne1 hL2
      refine w_seqJ (fun σ' H' => ∃ (zs : List Str), σ' = [some (.ref d), some (.ref t), some (.ref L2'), y] ∧ Deck H' d c (n + 250) ∧ KX d H H' ∧ H' L2' = some (.lst (zs.map V.str)) ∧ zs.length ≤ 8 ∧ ∀ z ∈ zs, LineOk z) ?_ ?_
      · rintro σ' H3 ⟨zs3, rfl, D3, x3, e3, hz8, hzk3⟩
        refine w_seqJ (fun σ' H' => ∃ (zs : List Str), σ' = [some (.ref d), some (.ref t), some (.ref L2'), y] ∧ Deck H' d c (n + 260) ∧ KX d H H' ∧ H' L2' = some (.lst (zs.map V.str)) ∧ zs.length ≤ 7 ∧ ∀ z ∈ zs, LineOk z) ?_ ?_
        · rintro σ' H4 ⟨zs4, rfl, D4, x4, e4, hz74, hzk4⟩
          walk_at "g"
          refine w_tupL (.of e4) fun r H5 hr5 e5 k5 => ?_
          exact q H5 r zs4 ((D4.kp (M := []) (Kp.of k5) (by simp) (by simp)).mono (by omega)) (x4.trans (KX.of k5)) e5 hz74 hzk4
        · intro U hU
          walk_at "g"
          refine w_ite (fun h => ?_) (fun h => ?_)
          · have hl8 : zs3.length = 8 := by rw [List.length_map] at h; omega
            walk_at "g"
            refine w_draw D3 (by omega) (by rw [List.length_map]; omega) (by rw [List.length_map]; omega) fun r H4 hr4 D4 o4 => ?_
            rw [List.length_map] at hr4
            have hr8 : r < zs3.length := by omega
            have e4 := o4.get Ld e3
            walk_at "g"
            refine w_popAt (k := r) (y := .str zs3[r]) e4 (by omega) (by omega) (seqIndex_nat (by rw [List.length_map]; omega)) (by rw [List.getElem?_map, List.getElem?_eq_getElem hr8]; rfl) fun H5 e5 o5 => ?_
            walk_at "g"
            refine hU _ _ ⟨zs3.eraseIdx r, rfl, (D4.kp (M := [L2']) (o5.kp (by simp)) (by simpa using Ld.symm) (by simpa using Lc.symm)).mono (by omega), (x3.trans (D3.kx D4 o4)).offN o5 hL2, by rw [e5, erase_map], by rw [List.length_eraseIdx]; split <;> omega, fun z hz => hzk3 z (List.mem_of_mem_eraseIdx hz)⟩
          · walk_at "g"
            exact hU _ _ ⟨zs3, rfl, D3.mono (by omega), x3, e3, by rw [List.length_map] at h; omega, hzk3⟩
      · intro U hU
        walk_at "g"
        refine w_draw D2 (by omega) (by decide) (by decide) fun r H3 hr3 D3 o3 => ?_
        have e3 := o3.get Ld e2
        have x3 := x2.trans (D2.kx D3 o3)
        walk_at "g"
        refine w_ite (fun h => ?_) (fun h => ?_)
        · walk_at "g"
          refine w_draw D3 (by omega) (by rw [List.length_map]; omega) (by rw [List.length_map]; omega) fun r2 H4 hr4 D4 o4 => ?_
          have e4 := o4.get Ld e3
          walk_at "g"
          refine ⟨d, c, _, 3, rfl, D4, by omega, by omega, fun H5 z D5 k5 t5 hz => ?_⟩
          have x5 := (x3.trans (D3.kx D4 o4)).trans (D4.kxK D5 k5)
          have e5 := k5 _ _ (by simpa using Ld) e4
          walk_at "g"
          refine w_insert e5 (by rw [List.length_map]; exact small1kl (by omega)) (by rw [List.length_map] at hr4; omega) fun H6 e6 o6 => ?_
          walk_at "g"
          refine hU _ _ ⟨zs.take r2 ++ [z] ++ zs.drop r2, rfl, (D5.kp (M := [L2']) (o6.kp (by simp)) (by simpa using Ld.symm) (by simpa using Lc.symm)).mono (by omega), x5.offN o6 hL2, by rw [e6, List.map_append, List.map_append, List.map_take, List.map_drop]; rfl, ?_, fun y hy => ?_⟩
          · rw [List.length_append, List.length_append, List.length_take, List.length_drop]
            simp only [List.length_cons, List.length_nil]
            omega
          · rcases List.mem_append.mp hy with hy | hy
            · rcases List.mem_append.mp hy with hy | hy
              · exact hzk y (List.mem_of_mem_take hy)
              · have : y = z := by simpa using hy
                rw [this]
                exact hz
            · exact hzk y (List.mem_of_mem_drop hy)
        · walk_at "g"
          exact hU _ _ ⟨zs, rfl, D3.mono (by omega), x3, e3, by omega, hzk⟩
    · intro U hU
      walk_at "g"
      refine w_draw D1 (by omega) (by decide) (by decide) fun r H2 hr2 D2 o2 => ?_
      obtain ⟨Ld, Lc⟩ := D0.ne1 hL
      have e2 := o2.get Ld e1
      have x2 : KX d H H2 := (KX.of k1).trans (D1.kx D2 o2)
      walk_at "g"
      refine w_ite (fun h => ?_) (fun h => ?_)
      · walk_at "g"
        refine w_draw D2 (by omega) (by decide) (by decide) fun r2 H3 hr3 D3 o3 => ?_
        obtain ⟨⟨dx3, ed3⟩, _⟩ := D3.at
        have x3 : KX d H H3 := x2.trans (D2.kx D3 o3)
        walk_at "g"
        refine lcp_gen (walk_range (lo := 0) (n := (r2 : Int).toNat)) [d] (fun i y _ => ∃ z : Str, y = .str z ∧ LineOk z) (fun i H' => Deck H' d c (n + 2 + 42 * i)) (by omega) (fun _ _ _ _ _ h => h) (fun D hD i H1' o z => z.mut (D3.ne1 hD).1 (D3.ne1 hD).2) (fun _ _ _ _ => trivial) D3 ?_ (by intro b hb; have e : b = d := (by simpa using hb); subst e; exact ⟨_, ed3⟩) ?_
        · rintro i x H4 H5 R hi k4 t4 D4 ⟨rfl, rfl⟩ hR
          refine w_name ⟨rfl, ?_⟩
          walk_at "g"
          refine ⟨d, c, _, 3, rfl, D4, by omega, by omega, fun H6 z D6 k6 t6 hz => ?_⟩
          exact hR _ _ ⟨z, rfl, hz⟩ k6 t6 (by rw [show n + 2 + 42 * (i + 1) = n + 2 + 42 * i + 42 by omega]; exact D6)
        · intro L2' H4 ys hyl hyp hL2 k4 t4 D4 eL
          obtain ⟨zs, rfl, hzk⟩ := strs_of (p := LineOk) (ys := ys) fun y hy => by
            obtain ⟨i, hi, e⟩ := List.getElem_of_mem hy
            exact hyp i y (by rw [List.getElem?_eq_getElem hi, e])
          have hL20 : H L2' = none := by
            cases e : H L2' with
            | none => rfl
            | some o =>
              by_cases hld : L2' = d
              · rw [hld, ed3] at hL2
                cases hL2
              · rw [x3.p _ _ (by simpa using hld) e] at hL2
                cases hL2
          rw [List.length_map] at hyl
          walk_at "g"
          exact hU _ _ ⟨L2', _, zs, rfl, D4.mono (by omega), x3.trans (D3.kxK D4 k4), hL20, eL, by omega, hzk⟩
      · walk_at "g"
        exact hU _ _ ⟨L, _, ls, rfl, D2.mono (by omega), x2, hL, e2, hl7, hok⟩
theorem ok_entries {f fM fD fL : Addr} {fd fdM fdD fdL : FuncData} (T : Txt K mg) (F : Fun K "_law_entries" "_law_entries" s_law_entries f fd) (D_law_mixed : Df K mg "_law_mixed" s_law_mixed ["_law_cell", "_law_turn"] fM fdM) (D_law_draw : Df K mg "_law_draw" s_law_draw ["_law_deck_here", "_law_many"] fD fdD) (D_law_label : Df K mg "_law_label" s_law_label ["_law_deck_here"] fL fdL) : FnOk P w K mg base CX0 4 f fd ["_law_deck_here", "_law_lows"] spEntries := by
  have G_law_draw : FnOk P w K mg base CX0 2 fD fdD ["_law_deck_here", "_law_many"] spDraw := ok_draw T D_law_draw.fn D_law_mixed
  have G_law_label : FnOk P w K mg base CX0 3 fL fdL ["_law_deck_here"] spLabel := ok_label T D_law_label.fn D_law_mixed D_law_draw
  refine F.ok sc_law_entries (fun vs H Q E h => ?_) (fun cdv A outer s H vs Q E hr h => ?_)
  · obtain ⟨d, c, l, n, lows, rfl, _⟩ := h
    rfl
  · obtain ⟨d, c, l, n, lows, rfl, D0, hn, hl, ld, hne, hll, q⟩ := h
    have hpos : 0 < lows.length := List.length_pos_iff.mpr hne
    have hu := hu_of hr
    refine ⟨_,
      (pss_cons
        (ps_set (i := 2) sc_law_entries.nd rfl (.inl rfl) pe_dnewK)
      (pss_cons
        (ps_for PassesOwn.never rfl (pi_range1 (by rfl) T.n_range (pa_cons (pe_call G_law_draw (hr.mono (by omega)) (by rfl) D_law_draw.g D_law_draw.fn.kp D_law_draw.b .nil pass0 (pa_cons (pv 0) (pa_cons pe_int pa_nil))) pa_nil)) (pg_name (i := 3) sc_law_entries.nd rfl (.inl rfl))
          (pss_one
            (ps_dput hu (pv 2) (pe_call G_law_label (hr.mono (by omega)) (by rfl) D_law_label.g D_law_label.fn.kp D_law_label.b .nil pass0 (pa_cons (pv 0) pa_nil)) (pe_ix (r := rIxL K) ix_list (pv 1) (pe_call G_law_draw (hr.mono (by omega)) (by rfl) D_law_draw.g D_law_draw.fn.kp D_law_draw.b .nil pass0 (pa_cons (pv 0) (pa_cons (pe_callB (r := rLen K) c_len (by rfl) T.n_len (by decide +kernel) (pa_cons (pv 1) pa_nil)) pa_nil))) (fun _ _ => rfl)) rfl)))
      (pss_one
        (ps_ret (pe_callTy (r := rTupOf K) c_tupOf (by rfl) T.n_tuple (by decide +kernel) (pa_cons (pe_callB (r := rSortI) (c_sortI rfl hr.units) (by rfl) T.n_sorted (by decide +kernel) (pa_cons (pe_bm0 PySem.F.plainAttrs_dict PySem.F.slot_dict_items PySem.F.type_dict_items mt_itemsK (pv 2)) pa_nil)) pa_nil))))))
      , ?_⟩
    rw [show L2.start N_law_entries [V.ref d, V.ref l] = [some (.ref d), some (.ref l), none, none] from rfl]
    walk_at "x"
    refine w_new fun e H1 he e1 k1 => ?_
    have D1 : Deck H1 d c n := D0.kp (M := []) (Kp.of k1) (by simp) (by simp)
    obtain ⟨ed, ec⟩ := D0.ne1 he
    have el : l ≠ e := ne_of_none hl he
    walk_at "g"
    refine w_draw D1 (by omega) (by decide) (by decide) fun many H2 hmany D2 o2 => ?_
    walk_at "g"
    try refine w_rng1' (by omega) (by omega) ?_
    refine lp_range (fun i σ H' => ∃ (y : Option V) (qs : List (Str × Int)), σ = [some (.ref d), some (.ref l), some (.ref e), y] ∧ Deck H' d c (n + 1 + 13 * i) ∧ KX d H H' ∧ H' e = some (.dK (kvTI qs)) ∧ qs.length ≤ i ∧ (qs.map (·.1)).Nodup ∧ ∀ q ∈ qs, LabOk q.1 ∧ ∃ m : Nat, q.2 = m ∧ m ∈ lows) ⟨_, [], rfl, D2, (KX.of k1).trans (D1.kx D2 o2), o2.get ed e1, by simp, by simp, by simp⟩ ?_ ?_
    · rintro i σ H3 hi ⟨y, qs, rfl, D3, x3, e3, hql, hnd, hqs⟩
      have hi3 : i < 3 := by omega
      have hl3 := x3.p _ _ (by simpa using ld) hl
      walk_at "g"
      refine w_draw D3 (by omega) (by rw [List.length_map]; omega) (by rw [List.length_map]; omega) fun r H4 hr4 D4 o4 => ?_
      rw [List.length_map] at hr4
      have hr5 : r < lows.length := by omega
      have hl4 := o4.get ld hl3
      have e4 := o4.get ed e3
      have at1 : atI (lows.map nV) (r : Int) = some (.int ((lows[r] : Nat) : Int)) := atI_nat (nV_at hr5)
      walk_at "g"
      refine ⟨d, c, _, rfl, D4, by omega, fun H5 z D5 k5 t5 hz => ?_⟩
      have e5 := k5 _ _ (by simpa using ed) e4
      have x5 := (x3.trans (D3.kx D4 o4)).trans (D4.kxK D5 k5)
      walk_at "g"
      refine w_dputS e5 (by unfold kvTI; rw [List.length_map]; exact small1kl (by omega)) fun H6 e6 o6 => ?_
      rw [putTI_kv] at e6
      walk_at "g"
      refine ⟨_, _, rfl, (D5.kp (M := [e]) (o6.kp (by simp)) (by simpa using ed.symm) (by simpa using ec.symm)).mono (by omega), x5.offN o6 he, e6, by have := putTI_len (qs := qs) (z := z) (v := ((lows[r] : Nat) : Int)); omega, putTI_nd hnd, fun q' hq' => ?_⟩
      rcases putTI_mem hq' with h | h
      · exact hqs q' h
      · rw [h]
        exact ⟨hz, lows[r], rfl, List.getElem_mem hr5⟩
    · rintro σ H3 ⟨y, qs, rfl, D3, x3, e3, hql, hnd, hqs⟩
      walk_at "g"
      refine w_bm0D ?_
      walk_at "g"
      refine w_tyDK e3 ?_
      refine w_itemsK e3 fun v H4 hv4 e4 k4 => ?_
      walk_at "g"
      refine w_sortI e4 (k4 _ _ e3) hnd fun H5 p ts k5 hp5 e5 hts hperm hsrt => ?_
      walk_at "g"
      refine w_tupL (.of e5) fun t H6 ht6 e6 k6 => ?_
      have k36 := Same.trans k4 (Same.trans k5 k6)
      have hval : ∀ b ∈ ts, LabOk b.2.1 ∧ ∃ m : Nat, b.2.2 = m ∧ m ∈ lows := fun b hb => hqs b.2 (hperm.mem_iff.mp (List.mem_map_of_mem hb))
      refine q H6 t (ts.map fun b => (b.1, b.2.1, b.2.2.toNat)) ((D3.kp (M := []) (Kp.of k36) (by simp) (by simp)).mono (by omega)) (x3.trans (KX.of k36)) (by rw [e6, List.map_map]; rfl) (fun q' hq' => ?_) ?_ ?_ (fun q' hq' => ?_)
      · obtain ⟨b, hb, rfl⟩ := List.mem_map.mp hq'
        obtain ⟨_, m, em, _⟩ := hval b hb
        have := k6 _ _ (hts b hb)
        show H6 b.1 = some (.tup [.str b.2.1, .int ((b.2.2.toNat : Nat) : Int)])
        rw [this, em]
        rfl
      · have h1 := hperm.length_eq
        rw [List.length_map] at h1
        rw [List.length_map]
        omega
      · rw [List.pairwise_map]
        exact hsrt
      · obtain ⟨b, hb, rfl⟩ := List.mem_map.mp hq'
        obtain ⟨g1, m, em, hm⟩ := hval b hb
        exact ⟨g1, by show b.2.2.toNat ∈ lows; rw [em]; exact hm⟩
end
/-! ### drawn families -/
theorem ScnOk.nil : ScnOk [] := fun i c h => by simp at h
theorem ScnOk.snoc {cs : List Ct} {c : Ct} (h : ScnOk cs) (hc : CtOk cs (dsOf cs) c) : ScnOk (cs ++ [c]) := by
  intro i x hx
  by_cases hi : i < cs.length
  · rw [List.getElem?_append_left hi] at hx
    have e : (cs ++ [c]).take i = cs.take i := List.take_append_of_le_length (by omega)
    rw [e]
    exact h i x hx
  · have hi2 : i = cs.length := by
      have := (List.getElem?_eq_some_iff.mp hx).1
      rw [List.length_append] at this
      simp only [List.length_cons, List.length_nil] at this
      omega
    subst hi2
    have e : (cs ++ [c]).take cs.length = cs := by simp
    rw [e]
    have : x = c := by simpa using hx.symm
    rw [this]
    exact hc
theorem fold_max_le {t : Nat} : ∀ (l : List Nat) (a : Nat), a ≤ t → (∀ x ∈ l, x ≤ t) → l.foldl max a ≤ t
  | [], a, h, _ => h
  | x :: l, a, h, h2 => fold_max_le l (max a x) (by have := h2 x (by simp); omega) fun y hy => h2 y (by simp [hy])
def DepLe (cs : List Ct) (t : Nat) : Prop := ∀ d ∈ dsOf cs, d ≤ t
theorem DepLe.tree {cs : List Ct} {t : Nat} (h : DepLe cs t) (es : List (Str × Nat)) : depOf (dsOf cs) (.tree es) ≤ t + 1 := by
  have := fold_max_le (t := t) (es.map fun e => (dsOf cs).getD e.2 0) 0 (Nat.zero_le _) fun x hx => by
    obtain ⟨e, _, rfl⟩ := List.mem_map.mp hx
    rw [List.getD_eq_getElem?_getD]
    cases g : (dsOf cs)[e.2]? with
    | none => exact Nat.zero_le _
    | some d => exact h d (List.mem_of_getElem? g)
  show 1 + _ ≤ _
  omega
theorem DepLe.snoc {cs : List Ct} {c : Ct} {t : Nat} (h : DepLe cs t) (hc : depOf (dsOf cs) c ≤ t) : DepLe (cs ++ [c]) t := by
  intro d hd
  rw [dsOf_snoc] at hd
  rcases List.mem_append.mp hd with g | g
  · exact h d g
  · have : d = depOf (dsOf cs) c := by simpa using g
    rw [this]
    exact hc
theorem sg_smallF : ∀ c ∈ SG.cps.toList, c < 0x110000 := by decide +kernel
theorem ltr_small : ∀ c ∈ LTR.cps.toList, c < 0x110000 := by decide +kernel
theorem line_strF {z : Str} (h : LineOk z) : PyData.strOk z = true := by
  unfold PyData.strOk
  rw [Array.all_eq_true_iff_forall_mem]
  intro c hc
  exact decide_eq_true (sg_smallF c (h.2 c (by simpa using hc)))
theorem lab_str {z : Str} (h : LabOk z) : PyData.strOk z = true := by
  unfold PyData.strOk
  rw [Array.all_eq_true_iff_forall_mem]
  intro c hc
  exact decide_eq_true (ltr_small c (h.2.2 c (by simpa using hc)))
theorem CtOk.txts {cs : List Ct} {ds : List Nat} {c : Ct} (h : CtOk cs ds c) : c.txts := by
  cases c with
  | leaf rows => exact fun z hz => line_strF (h.2 z hz)
  | tree es => exact fun e he => lab_str (h.2.1 e he).1
  | ver ps r s => trivial
structure Fam (cs : List (Addr × Ct)) (t : Nat) : Prop where
  ok : ScnOk (cs.map (·.2))
  nd : (cs.map (·.2)).Nodup
  dp : DepLe (cs.map (·.2)) t
theorem Fam.txts {cs : List (Addr × Ct)} {t : Nat} (h : Fam cs t) : ∀ q ∈ cs, q.2.txts := by
  intro q hq
  obtain ⟨i, hi, e⟩ := List.getElem_of_mem hq
  exact (h.ok i q.2 (by rw [List.getElem?_map, List.getElem?_eq_getElem hi, e]; rfl)).txts
theorem Fam.mono {cs : List (Addr × Ct)} {t u : Nat} (h : Fam cs t) (l : t ≤ u) : Fam cs u := ⟨h.ok, h.nd, fun d hd => Nat.le_trans (h.dp d hd) l⟩
theorem Fam.bk {cs : List (Addr × Ct)} {t : Nat} (h : Fam cs t) : BkOk cs := by
  have key : ∀ n, isV cs n → (pars cs n).length ≤ 4 ∧ ∀ p ∈ pars cs n, isV cs p ∧ p < n := fun n iv => by
    obtain ⟨a, r, s, e⟩ := iv.at
    obtain ⟨h1, h2, h3, _⟩ := h.ok n _ (by rw [List.getElem?_map, e]; rfl)
    refine ⟨h2, fun p hp => ?_⟩
    obtain ⟨c, hc, hw⟩ := h3 p hp
    have hpn : p < n := by
      have := (List.getElem?_eq_some_iff.mp hc).1
      rw [List.length_take] at this
      omega
    rw [List.getElem?_take, if_pos hpn, List.getElem?_map] at hc
    obtain ⟨q, hq, e2⟩ := Option.map_eq_some_iff.mp hc
    exact ⟨(word_isV hq).mp (by rw [e2]; exact hw), hpn⟩
  refine ⟨fun n p hp => (key n (isV.of hp)).2 p hp, fun n => ?_⟩
  by_cases iv : isV cs n
  · exact (key n iv).1
  · cases e : pars cs n with
    | nil => exact Nat.zero_le _
    | cons p r => exact absurd (isV.of (p := p) (by rw [e]; simp)) iv
def Grow (cs cs' : List (Addr × Ct)) : Prop := ∀ (i : Nat) (x : Addr × Ct), cs[i]? = some x → cs'[i]? = some x
theorem Grow.refl {cs : List (Addr × Ct)} : Grow cs cs := fun _ _ h => h
theorem Grow.snoc {cs : List (Addr × Ct)} {x : Addr × Ct} : Grow cs (cs ++ [x]) := fun i y h => by
  rw [List.getElem?_append_left (List.getElem?_eq_some_iff.mp h).1]
  exact h
theorem w_give {H : Hp} {Q : VK} {E : XK} {th a : Addr} {cs : List (Addr × Ct)} {c : Ct} {t : Nat} (ht : ThAt H th cs) (fm : Fam cs t) (hc : CtAt H a c) (ok : CtOk (cs.map (·.2)) (dsOf (cs.map (·.2))) c) (dp : depOf (dsOf (cs.map (·.2))) c ≤ t) (hl : cs.length < 900)
    (h : ∀ (H' : Hp) (cs' : List (Addr × Ct)) (j : Nat) (b : Addr), ThAt H' th cs' → Fam cs' t → Grow cs cs' → cs'[j]? = some (b, c) → cs'.length ≤ cs.length + 1 → Off th H H' → Q (nV j) H') : spGive ([V.ref th, V.ref a] ++ []) H Q E := by
  refine ⟨th, a, cs, c, rfl, ht, fm.nd, hc, by omega, fm.txts, ok.txts, fun j b hj => ?_, fun hno H' ht' o' => ?_⟩
  · exact h H cs j b ht fm .refl hj (by omega) fun _ _ => rfl
  · refine h H' _ cs.length a ht' ⟨?_, ?_, ?_⟩ .snoc (by simp) (by simp) o'
    · rw [List.map_append, List.map_cons, List.map_nil]
      exact fm.ok.snoc ok
    · rw [List.map_append, List.map_cons, List.map_nil, List.nodup_append]
      refine ⟨fm.nd, by simp, fun x hx y hy e => ?_⟩
      obtain ⟨z, hz, rfl⟩ := List.mem_map.mp hx
      have e' : y = c := by simpa using hy
      rw [e'] at e
      exact hno z hz e
    · rw [List.map_append, List.map_cons, List.map_nil]
      exact fm.dp.snoc dp
theorem cut_nats (ns : List Nat) (lo hi : Option Int) : ∃ ms : List Nat, cutV (ns.map nV) lo hi = ms.map nV ∧ (∀ x ∈ ms, x ∈ ns) ∧ ms.length ≤ ns.length := by
  refine ⟨(ns.drop (HT.sIx (ns.map nV).length 0 lo)).take (HT.sIx (ns.map nV).length (ns.map nV).length hi - HT.sIx (ns.map nV).length 0 lo), ?_, fun x hx => List.mem_of_mem_drop (List.mem_of_mem_take hx), ?_⟩
  · unfold cutV
    rw [List.map_take, List.map_drop]
  · rw [List.length_take, List.length_drop]
    omega
def isL (cs : List (Addr × Ct)) (n : Nat) : Prop := ∃ a rows, cs[n]? = some (a, Ct.leaf rows)
def isT (cs : List (Addr × Ct)) (n : Nat) : Prop := ∃ a es, cs[n]? = some (a, Ct.tree es)
theorem isL.grow {cs cs' : List (Addr × Ct)} {n : Nat} (h : isL cs n) (g : Grow cs cs') : isL cs' n := by
  obtain ⟨a, r, e⟩ := h
  exact ⟨a, r, g _ _ e⟩
theorem isT.grow {cs cs' : List (Addr × Ct)} {n : Nat} (h : isT cs n) (g : Grow cs cs') : isT cs' n := by
  obtain ⟨a, r, e⟩ := h
  exact ⟨a, r, g _ _ e⟩
theorem isV.grow {cs cs' : List (Addr × Ct)} {n : Nat} (h : isV cs n) (g : Grow cs cs') : isV cs' n := by
  obtain ⟨a, p, r, s, e⟩ := h
  exact ⟨a, p, r, s, g _ _ e⟩
theorem isV.word {cs : List (Addr × Ct)} {n : Nat} (h : isV cs n) : ∃ c, (cs.map (·.2))[n]? = some c ∧ c.word = "version" := by
  obtain ⟨a, p, r, s, e⟩ := h
  exact ⟨_, by rw [List.getElem?_map, e]; rfl, rfl⟩
theorem isT.word {cs : List (Addr × Ct)} {n : Nat} (h : isT cs n) : ∃ c, (cs.map (·.2))[n]? = some c ∧ c.word = "tree" := by
  obtain ⟨a, r, e⟩ := h
  exact ⟨_, by rw [List.getElem?_map, e]; rfl, rfl⟩
theorem low_word {cs : List (Addr × Ct)} {n : Nat} (h : isL cs n ∨ isT cs n) : ∃ c, (cs.map (·.2))[n]? = some c ∧ c.word ≠ "version" := by
  rcases h with ⟨a, r, e⟩ | ⟨a, r, e⟩
  · exact ⟨.leaf r, by rw [List.getElem?_map, e]; rfl, lit_ne2⟩
  · exact ⟨.tree r, by rw [List.getElem?_map, e]; rfl, lit_ne3⟩
def spFamily : Sp := fun vs H Q _ => ∃ (d c : Addr) (n l t v : Nat), vs = [.ref d, nV l, nV t, nV v] ∧ Deck H d c n ∧ 1 ≤ l ∧ 1 ≤ t ∧ t ≤ 8 ∧ l + t + v ≤ 390 ∧ n + 300 * l + 60 * t + 10 * v ≤ MOSTD ∧
  ∀ (H' : Hp) (th : Addr) (cs : List (Addr × Ct)), Deck H' d c (n + 300 * l + 60 * t + 10 * v) → KX d H H' → H th = none → ThAt H' th cs → Fam cs t → cs.length ≤ l + t + v → 1 ≤ cs.length → (1 ≤ v → ∃ i, isV cs i) → Q (.ref th) H'
section
variable {P : Program} {w : World} {K : PySem.W.Frag} {mg : Str → Option Value} {base : Heap} {C : Addr}
theorem ok_family {f fM fD fT fL fR fE fS fG : Addr} {fd fdM fdD fdT fdL fdR fdE fdS fdG : FuncData} (T : Txt K mg) (F : Fun K "_law_family" "_law_family" s_law_family f fd) (D_law_mixed : Df K mg "_law_mixed" s_law_mixed ["_law_cell", "_law_turn"] fM fdM)
    (D_law_draw : Df K mg "_law_draw" s_law_draw ["_law_deck_here", "_law_many"] fD fdD) (D_law_text : Df K mg "_law_text" s_law_text ["_law_deck_here", "_law_size"] fT fdT) (D_law_label : Df K mg "_law_label" s_law_label ["_law_deck_here"] fL fdL)
    (D_law_rows : Df K mg "_law_rows" s_law_rows ["_law_deck_here", "_law_elder"] fR fdR) (D_law_entries : Df K mg "_law_entries" s_law_entries ["_law_deck_here", "_law_lows"] fE fdE) (D_law_some : Df K mg "_law_some" s_law_some ["_law_deck_here", "_law_names", "_law_count"] fS fdS) (D_law_give : Df K mg "_law_give" s_law_give ["_law_things", "_law_content"] fG fdG) : FnOk P w K mg base CX0 5 f fd ["_law_deck_here", "_law_leaves", "_law_trees", "_law_versions_here"] spFamily := by
  have G_law_draw : FnOk P w K mg base CX0 2 fD fdD ["_law_deck_here", "_law_many"] spDraw := ok_draw T D_law_draw.fn D_law_mixed
  have G_law_rows : FnOk P w K mg base CX0 4 fR fdR ["_law_deck_here", "_law_elder"] spRows := ok_rows T D_law_rows.fn D_law_mixed D_law_draw D_law_text
  have G_law_entries : FnOk P w K mg base CX0 4 fE fdE ["_law_deck_here", "_law_lows"] spEntries := ok_entries T D_law_entries.fn D_law_mixed D_law_draw D_law_label
  have G_law_some : FnOk P w K mg base CX0 3 fS fdS ["_law_deck_here", "_law_names", "_law_count"] spSome := ok_some T D_law_some.fn D_law_mixed D_law_draw
  have G_law_give : FnOk P w K mg base CX0 1 fG fdG ["_law_things", "_law_content"] spGive := ok_give T D_law_give.fn
  refine F.ok sc_law_family (fun vs H Q E h => ?_) (fun cdv A outer s H vs Q E hr h => ?_)
  · obtain ⟨d, c, n, l, t, v, rfl, _⟩ := h
    rfl
  · obtain ⟨d, c, n, l, t, v, rfl, D0, hl1, ht1, ht8, hsum, hn, q⟩ := h
    refine ⟨_,
      (pss_cons
        (ps_set (i := 4) sc_law_family.nd rfl (.inl rfl) (pe_lst pa_nil))
      (pss_cons
        (ps_set (i := 5) sc_law_family.nd rfl (.inl rfl) (pe_tup pa_nil))
      (pss_cons
        (ps_set (i := 6) sc_law_family.nd rfl (.inl rfl) (pe_lst pa_nil))
      (pss_cons
        (ps_for PassesOwn.never rfl (pi_range1 (by rfl) T.n_range (pa_cons (pv 1) pa_nil)) (pg_name (i := 7) sc_law_family.nd rfl (.inl rfl))
          (pss_cons
            (ps_set (i := 5) sc_law_family.nd rfl (.inl rfl) (pe_call G_law_rows (hr.mono (by omega)) (by rfl) D_law_rows.g D_law_rows.fn.kp D_law_rows.b .nil pass0 (pa_cons (pv 0) (pa_cons (pv 5) pa_nil))))
          (pss_one
            (ps_expr (pe_bm PySem.F.plainAttrs_list PySem.F.slot_list_append PySem.F.type_list_append mt_append (pv 6) (pa_cons (pe_call G_law_give (hr.mono (by omega)) (by rfl) D_law_give.g D_law_give.fn.kp D_law_give.b .nil pass0 (pa_cons (pv 4) (pa_cons (pe_tup (pa_cons pe_str (pa_cons (pv 5) pa_nil))) pa_nil))) pa_nil))))))
      (pss_cons
        (ps_set (i := 8) sc_law_family.nd rfl (.inl rfl) (pe_lst pa_nil))
      (pss_cons
        (ps_for PassesOwn.never rfl (pi_range1 (by rfl) T.n_range (pa_cons (pv 2) pa_nil)) (pg_name (i := 7) sc_law_family.nd rfl (.inl rfl))
          (pss_one
            (ps_expr (pe_bm PySem.F.plainAttrs_list PySem.F.slot_list_append PySem.F.type_list_append mt_append (pv 8) (pa_cons (pe_call G_law_give (hr.mono (by omega)) (by rfl) D_law_give.g D_law_give.fn.kp D_law_give.b .nil pass0 (pa_cons (pv 4) (pa_cons (pe_tup (pa_cons pe_str (pa_cons (pe_call G_law_entries (hr.mono (by omega)) (by rfl) D_law_entries.g D_law_entries.fn.kp D_law_entries.b .nil pass0 (pa_cons (pv 0) (pa_cons (pe_op op_cat (pv 6) (pv 8)) pa_nil))) pa_nil))) pa_nil))) pa_nil)))))
      (pss_cons
        (ps_set (i := 9) sc_law_family.nd rfl (.inl rfl) (pe_lst pa_nil))
      (pss_cons
        (ps_for PassesOwn.never rfl (pi_range1 (by rfl) T.n_range (pa_cons (pv 3) pa_nil)) (pg_name (i := 7) sc_law_family.nd rfl (.inl rfl))
          (pss_cons
            (ps_set (i := 10) sc_law_family.nd rfl (.inl rfl) (pe_call G_law_some (hr.mono (by omega)) (by rfl) D_law_some.g D_law_some.fn.kp D_law_some.b .nil pass0 (pa_cons (pv 0) (pa_cons (pe_slice sl_list (pv 9) (po_some (pe_un un_neg pe_int)) po_none) (pa_cons (pe_call G_law_draw (hr.mono (by omega)) (by rfl) D_law_draw.g D_law_draw.fn.kp D_law_draw.b .nil pass0 (pa_cons (pv 0) (pa_cons pe_int pa_nil))) pa_nil)))))
          (pss_cons
            (ps_set (i := 11) sc_law_family.nd rfl (.inl rfl) (pe_ix (r := rIxL K) ix_list (pv 8) (pe_call G_law_draw (hr.mono (by omega)) (by rfl) D_law_draw.g D_law_draw.fn.kp D_law_draw.b .nil pass0 (pa_cons (pv 0) (pa_cons (pe_callB (r := rLen K) c_len (by rfl) T.n_len (by decide +kernel) (pa_cons (pv 8) pa_nil)) pa_nil))) (fun _ _ => rfl)))
          (pss_one
            (ps_expr (pe_bm PySem.F.plainAttrs_list PySem.F.slot_list_append PySem.F.type_list_append mt_append (pv 9) (pa_cons (pe_call G_law_give (hr.mono (by omega)) (by rfl) D_law_give.g D_law_give.fn.kp D_law_give.b .nil pass0 (pa_cons (pv 4) (pa_cons (pe_tup (pa_cons pe_str (pa_cons (pv 10) (pa_cons (pv 11) (pa_cons (pe_call G_law_draw (hr.mono (by omega)) (by rfl) D_law_draw.g D_law_draw.fn.kp D_law_draw.b .nil pass0 (pa_cons (pv 0) (pa_cons (pe_op op_add (pe_op op_pow pe_int pe_int) pe_int) pa_nil))) pa_nil))))) pa_nil))) pa_nil)))))))
      (pss_one
        (ps_ret (pv 4)))))))))))
      , ?_⟩
    rw [show L2.start N_law_family [V.ref d, nV l, nV t, nV v] = [some (.ref d), some (.int (l : Int)), some (.int (t : Int)), some (.int (v : Int)), none, none, none, none, none, none, none, none] from rfl]
    walk_at "x"
    refine w_new fun th H1 hth e1 k1 => ?_
    walk_at "g"
    refine w_new fun r0 H2 hr0 e2 k2 => ?_
    walk_at "g"
    refine w_new fun lo H3 hlo e3 k3 => ?_
    have k13 := Same.trans k1 (Same.trans k2 k3)
    have hlo0 : H lo = none := (Same.trans k1 k2).free hlo
    obtain ⟨thd, thc⟩ := D0.ne1 hth
    obtain ⟨lod, loc⟩ := D0.ne1 hlo0
    have nlt : lo ≠ th := fun e => by rw [e, k2 _ _ e1] at hlo; cases hlo
    have D3 : Deck H3 d c n := D0.kp (M := []) (Kp.of k13) (by simp) (by simp)
    walk_at "g"
    try refine w_rng1' (by omega) (by omega) ?_
    refine lp_range (fun i σ H' => ∃ (r : Addr) (y : Option V) (cs : List (Addr × Ct)) (ls : List Str) (lows : List Nat), σ = [some (.ref d), some (.int (l : Int)), some (.int (t : Int)), some (.int (v : Int)), some (.ref th), some (.ref r), some (.ref lo), y, none, none, none, none] ∧ Deck H' d c (n + 300 * i) ∧ KX d H H' ∧ ThAt H' th cs ∧ Fam cs 0 ∧ RwAt H' r ls ∧ ls.length ≤ 7 ∧ (∀ z ∈ ls, LineOk z) ∧ H' lo = some (.lst (lows.map nV)) ∧ lows.length = i ∧ cs.length ≤ i ∧ (∀ x ∈ lows, isL cs x)) ⟨r0, _, [], [], [], rfl, D3, KX.of k13, ⟨k3 _ _ (k2 _ _ e1), by simp⟩, ⟨.nil, by simp, fun d hd => by cases hd⟩, k3 _ _ e2, by simp, by simp, e3, rfl, by simp, by simp⟩ ?_ ?_
    · rintro i σ H4 hi ⟨r, y, cs, ls, lows, rfl, D4, x4, T4, F4, hr4, hl7, hok, elo4, hlow, hcl, hisl⟩
      have hil : i < l := by omega
      walk_at "g"
      refine ⟨d, c, r, _, ls, rfl, D4, by omega, hr4, hl7, hok, fun H5 r5 ls5 D5 x5 er5 hl5 hok5 => ?_⟩
      have elo5 := x5.p _ _ (by simpa using lod) elo4
      have T5 := T4.kp x5.p x5.t (by simpa using thd)
      walk_at "g"
      refine w_new fun a H6 ha e6 k6 => ?_
      have T6 := T5.same k6
      have elo6 := k6 _ _ elo5
      have okc : CtOk (cs.map (·.2)) (dsOf (cs.map (·.2))) (.leaf ls5) := ⟨by omega, hok5⟩
      walk_at "g"
      refine w_give (c := .leaf ls5) T6 F4 ⟨r5, e6, k6 _ _ er5⟩ okc (Nat.zero_le _) (by omega) fun H7 cs7 j b T7 F7 g7 hj hc7 o7 => ?_
      have elo7 := o7.get nlt elo6
      walk_at "g"
      refine w_app elo7 (by rw [List.length_map]; exact small1kl (by omega)) fun H8 e8 o8 => ?_
      walk_at "g"
      have x6 := (x4.trans x5).trans (KX.of k6)
      have x8 := (x6.offN o7 hth).offN o8 hlo0
      have t7 : KT H7 H8 := KT.off o8 elo7
      refine ⟨r5, _, cs7, ls5, lows ++ [j], rfl, ?_, x8, T7.kp (M := [lo]) (o8.kp (by simp)) t7 (by simpa using nlt.symm), F7, t7 _ _ (KT.off o7 T6.at' _ _ (k6 _ _ er5)), hl5, hok5, by rw [e8, List.map_append]; rfl, by rw [List.length_append, hlow]; rfl, by omega, fun x hx => ?_⟩
      · exact (((D5.kp (M := []) (Kp.of k6) (by simp) (by simp)).kp (M := [th]) (o7.kp (by simp)) (by simpa using thd.symm) (by simpa using thc.symm)).kp (M := [lo]) (o8.kp (by simp)) (by simpa using lod.symm) (by simpa using loc.symm)).mono (by omega)
      · rcases List.mem_append.mp hx with h | h
        · exact (hisl x h).grow g7
        · have : x = j := by simpa using h
          rw [this]
          exact ⟨b, ls5, hj⟩
    rintro σ H4 ⟨r, y, cs, ls, lows, rfl, D4, x4, T4, F4, hr4, hl7, hok, elo4, hlow, hcl, hisl⟩
    have hlt : ((l : Int)).toNat = l := by omega
    rw [hlt] at D4 hlow hcl
    walk_at "g"
    refine w_new fun ro H5 hro e5 k5 => ?_
    have hro0 : H ro = none := by
      cases e : H ro with
      | none => rfl
      | some o =>
        by_cases hd : ro = d
        · obtain ⟨⟨xs, e'⟩, _⟩ := D4.at
          rw [hd, e'] at hro
          cases hro
        · rw [x4.p _ _ (by simpa using hd) e] at hro
          cases hro
    obtain ⟨rod, roc⟩ := D0.ne1 hro0
    have nrt : ro ≠ th := fun e => by rw [e, T4.at'] at hro; cases hro
    have nrl : ro ≠ lo := fun e => by rw [e, elo4] at hro; cases hro
    have D5 : Deck H5 d c (n + 300 * l) := D4.kp (M := []) (Kp.of k5) (by simp) (by simp)
    walk_at "g"
    try refine w_rng1' (by omega) (by omega) ?_
    refine lp_range (fun i σ H' => ∃ (y : Option V) (cs : List (Addr × Ct)) (roots : List Nat), σ = [some (.ref d), some (.int (l : Int)), some (.int (t : Int)), some (.int (v : Int)), some (.ref th), some (.ref r), some (.ref lo), y, some (.ref ro), none, none, none] ∧ Deck H' d c (n + 300 * l + 60 * i) ∧ KX d H H' ∧ ThAt H' th cs ∧ Fam cs i ∧ H' lo = some (.lst (lows.map nV)) ∧ H' ro = some (.lst (roots.map nV)) ∧ roots.length = i ∧ cs.length ≤ l + i ∧ (∀ x ∈ lows, isL cs x) ∧ (∀ x ∈ roots, isT cs x)) ⟨_, cs, [], rfl, D5, x4.trans (KX.of k5), T4.same k5, F4, k5 _ _ elo4, e5, rfl, by omega, hisl, by simp⟩ ?_ ?_
    · rintro i σ H6 hi ⟨y, cs, roots, rfl, D6, x6, T6, F6, elo6, ero6, hrl, hcl, hisl, hist⟩
      have hit : i < t := by omega
      walk_at "g"
      refine w_cat elo6 ero6 (by rw [List.length_map, List.length_map]; exact Nat.le_of_lt (small1kl (by omega))) fun ca H7 hca e7 k7 => ?_
      rw [← List.map_append] at e7
      have D7 : Deck H7 d c _ := D6.kp (M := []) (Kp.of k7) (by simp) (by simp)
      obtain ⟨cad, cac⟩ := D6.ne1 hca
      walk_at "g"
      refine ⟨d, c, ca, _, lows ++ roots, rfl, D7, by omega, e7, cad, by intro e; have := congrArg List.length e; rw [List.length_append] at this; simp only [List.length_nil] at this; omega, by rw [List.length_append]; omega, fun H8 te qs D8 x8 e8 hqs hq3 hqp hql => ?_⟩
      have x78 := (KX.of (d := d) k7).trans x8
      have T8 := T6.kp x78.p x78.t (by simpa using thd)
      have elo8 := x78.p _ _ (by simpa using lod) elo6
      have ero8 := x78.p _ _ (by simpa using rod) ero6
      walk_at "g"
      refine w_new fun a H9 ha e9 k9 => ?_
      have T9 := T8.same k9
      have ero9 := k9 _ _ ero8
      have elo9 := k9 _ _ elo8
      have hdep := F6.dp.tree (qs.map (·.2))
      have okc : CtOk (cs.map (·.2)) (dsOf (cs.map (·.2))) (.tree (qs.map (·.2))) := by
        refine ⟨by rw [List.length_map]; omega, fun e he => ?_, by rw [List.pairwise_map]; exact hqp, by omega⟩
        obtain ⟨q', hq', rfl⟩ := List.mem_map.mp he
        obtain ⟨g1, g2⟩ := hql q' hq'
        refine ⟨g1, low_word ?_⟩
        rcases List.mem_append.mp g2 with h | h
        · exact .inl (hisl _ h)
        · exact .inr (hist _ h)
      walk_at "g"
      refine w_give (c := .tree (qs.map (·.2))) T9 (F6.mono (Nat.le_succ i)) ⟨te, qs, e9, k9 _ _ e8, rfl, fun q' hq' => k9 _ _ (hqs q' hq')⟩ okc hdep (by omega) fun H10 cs10 j b T10 F10 g10 hj hc10 o10 => ?_
      have ero10 := o10.get nrt ero9
      have elo10 := o10.get nlt elo9
      walk_at "g"
      refine w_app ero10 (by rw [List.length_map]; exact small1kl (by omega)) fun H11 e11 o11 => ?_
      walk_at "g"
      have x11 := (((x6.trans x78).trans (KX.of k9)).offN o10 hth).offN o11 hro0
      refine ⟨_, cs10, roots ++ [j], rfl, ?_, x11, T10.kp (M := [ro]) (o11.kp (by simp)) (KT.off o11 ero10) (by simpa using nrt.symm), F10, o11.get nrl.symm elo10, by rw [e11, List.map_append]; rfl, by rw [List.length_append, hrl]; rfl, by omega, fun x hx => (hisl x hx).grow g10, fun x hx => ?_⟩
      · exact (((D8.kp (M := []) (Kp.of k9) (by simp) (by simp)).kp (M := [th]) (o10.kp (by simp)) (by simpa using thd.symm) (by simpa using thc.symm)).kp (M := [ro]) (o11.kp (by simp)) (by simpa using rod.symm) (by simpa using roc.symm)).mono (by omega)
      · rcases List.mem_append.mp hx with h | h
        · exact (hist x h).grow g10
        · have : x = j := by simpa using h
          rw [this]
          exact ⟨b, _, hj⟩
    rintro σ H6 ⟨y, cs, roots, rfl, D6, x6, T6, F6, elo6, ero6, hrl, hcl, hisl, hist⟩
    have htt : ((t : Int)).toNat = t := by omega
    rw [htt] at D6 hrl hcl F6
    walk_at "g"
    refine w_new fun sd H7 hsd e7 k7 => ?_
    have hsd0 : H sd = none := by
      cases e : H sd with
      | none => rfl
      | some o =>
        by_cases hd : sd = d
        · obtain ⟨⟨xs, e'⟩, _⟩ := D6.at
          rw [hd, e'] at hsd
          cases hsd
        · rw [x6.p _ _ (by simpa using hd) e] at hsd
          cases hsd
    obtain ⟨sdd, sdc⟩ := D0.ne1 hsd0
    have nst : sd ≠ th := fun e => by rw [e, T6.at'] at hsd; cases hsd
    have nsr : sd ≠ ro := fun e => by rw [e, ero6] at hsd; cases hsd
    have D7 : Deck H7 d c (n + 300 * l + 60 * t) := D6.kp (M := []) (Kp.of k7) (by simp) (by simp)
    walk_at "g"
    try refine w_rng1' (by omega) (by omega) ?_
    refine lp_range (fun i σ H' => ∃ (y y2 y3 : Option V) (cs : List (Addr × Ct)) (sts : List Nat), σ = [some (.ref d), some (.int (l : Int)), some (.int (t : Int)), some (.int (v : Int)), some (.ref th), some (.ref r), some (.ref lo), y, some (.ref ro), some (.ref sd), y2, y3] ∧ Deck H' d c (n + 300 * l + 60 * t + 10 * i) ∧ KX d H H' ∧ ThAt H' th cs ∧ Fam cs t ∧ H' ro = some (.lst (roots.map nV)) ∧ H' sd = some (.lst (sts.map nV)) ∧ sts.length = i ∧ cs.length ≤ l + t + i ∧ 1 ≤ cs.length ∧ (∀ x ∈ roots, isT cs x) ∧ (∀ x ∈ sts, isV cs x)) ⟨_, _, _, cs, [], rfl, D7, x6.trans (KX.of k7), T6.same k7, F6, k7 _ _ ero6, e7, rfl, by omega, ?_, hist, by simp⟩ ?_ ?_
    · obtain ⟨x, hx⟩ : ∃ x, x ∈ roots := by
        cases roots with
        | nil => simp only [List.length_nil] at hrl; omega
        | cons x _ => exact ⟨x, by simp⟩
      obtain ⟨a, es, e⟩ := hist x hx
      have := (List.getElem?_eq_some_iff.mp e).1
      omega
    · rintro i σ H8 hi ⟨y, y2, y3, cs, sts, rfl, D8, x8, T8, F8, ero8, esd8, hsl, hcl, hc1, hist, hisv⟩
      have hiv : i < v := by omega
      obtain ⟨ms, ecut, hms, hml⟩ := cut_nats sts (some (-5)) none
      walk_at "g"
      refine w_slL (.of esd8) fun sl H9 hsl9 e9 k9 => ?_
      rw [ecut] at e9
      have D9 : Deck H9 d c _ := D8.kp (M := []) (Kp.of k9) (by simp) (by simp)
      obtain ⟨sld, slc⟩ := D8.ne1 hsl9
      walk_at "g"
      refine w_draw D9 (by omega) (by decide) (by decide) fun cnt H10 hcnt D10 o10 => ?_
      have e10 := o10.get sld e9
      walk_at "g"
      refine ⟨d, c, sl, _, cnt, ms, rfl, D10, by omega, e10, sld, slc, by omega, by omega, fun H11 tp ps D11 x11 e11 hup hpl hpm => ?_⟩
      have x8_11 : KX d H8 H11 := ((KX.of k9).trans (D9.kx D10 o10)).trans x11
      have ero11 := x8_11.p _ _ (by simpa using rod) ero8
      walk_at "g"
      refine w_draw D11 (by omega) (by rw [List.length_map]; omega) (by rw [List.length_map]; omega) fun ri H12 hri D12 o12 => ?_
      have hri2 : ri < roots.length := by rw [List.length_map] at hri; omega
      have ero12 := o12.get rod ero11
      have at1 : atI (roots.map nV) (ri : Int) = some (.int ((roots[ri] : Nat) : Int)) := atI_nat (nV_at hri2)
      have x8_12 := x8_11.trans (D11.kx D12 o12)
      have esd12 := x8_12.p _ _ (by simpa using sdd) esd8
      walk_at "g"
      refine w_draw D12 (by omega) (by decide) (by decide) fun st H13 hst D13 o13 => ?_
      have h18 : (10 : Int) ^ Int.toNat 18 = 1000000000000000000 := by decide
      have hst2 : st ≤ 10 ^ 18 := by
        have : (st : Int) < (10 : Int) ^ Int.toNat 18 + 1 := hst
        rw [h18] at this
        omega
      have x8_13 := x8_12.trans (D12.kx D13 o13)
      have T13 := T8.kp x8_13.p x8_13.t (by simpa using thd)
      have esd13 := x8_13.p _ _ (by simpa using sdd) esd8
      have ero13 := x8_13.p _ _ (by simpa using rod) ero8
      have e13 := ((D11.kx D12 o12).trans (D12.kx D13 o13)).t _ _ e11
      walk_at "g"
      refine w_new fun a H14 ha e14 k14 => ?_
      have T14 := T13.same k14
      have esd14 := k14 _ _ esd13
      have ero14 := k14 _ _ ero13
      have okc : CtOk (cs.map (·.2)) (dsOf (cs.map (·.2))) (.ver ps roots[ri] st) := ⟨hup, by omega, fun p hp => (hisv p (hms p (hpm p hp))).word, (hist _ (List.getElem_mem hri2)).word, hst2⟩
      walk_at "g"
      refine w_give (c := .ver ps roots[ri] st) T14 F8 ⟨tp, e14, k14 _ _ e13⟩ okc (Nat.zero_le _) (by omega) fun H15 cs15 j b T15 F15 g15 hj hc15 o15 => ?_
      have esd15 := o15.get nst esd14
      have ero15 := o15.get nrt ero14
      walk_at "g"
      refine w_app esd15 (by rw [List.length_map]; exact small1kl (by omega)) fun H16 e16 o16 => ?_
      walk_at "g"
      have x16 := (((x8.trans x8_13).trans (KX.of k14)).offN o15 hth).offN o16 hsd0
      refine ⟨_, _, _, cs15, sts ++ [j], rfl, ?_, x16, T15.kp (M := [sd]) (o16.kp (by simp)) (KT.off o16 esd15) (by simpa using nst.symm), F15, o16.get nsr.symm ero15, by rw [e16, List.map_append]; rfl, by rw [List.length_append, hsl]; rfl, by omega, ?_, fun x hx => (hist x hx).grow g15, fun x hx => ?_⟩
      · exact (((D13.kp (M := []) (Kp.of k14) (by simp) (by simp)).kp (M := [th]) (o15.kp (by simp)) (by simpa using thd.symm) (by simpa using thc.symm)).kp (M := [sd]) (o16.kp (by simp)) (by simpa using sdd.symm) (by simpa using sdc.symm)).mono (by omega)
      · have := (List.getElem?_eq_some_iff.mp hj).1
        omega
      · rcases List.mem_append.mp hx with h | h
        · exact (hisv x h).grow g15
        · have : x = j := by simpa using h
          rw [this]
          exact ⟨b, _, _, _, hj⟩
    · rintro σ H8 ⟨y, y2, y3, cs, sts, rfl, D8, x8, T8, F8, ero8, esd8, hsl, hcl, hc1, hist, hisv⟩
      have hvt : ((v : Int)).toNat = v := by omega
      rw [hvt] at D8 hsl hcl
      walk_at "g"
      refine q H8 th cs D8 x8 hth T8 F8 hcl hc1 fun hv => ?_
      cases sts with
      | nil => simp only [List.length_nil] at hsl; omega
      | cons x _ => exact ⟨x, hisv x (by simp)⟩
end
/-! ### versions of views -/
def isVb (cs : List (Addr × Ct)) (n : Nat) : Bool := decide ((cs.getD n (0, .leaf [])).2.word = "version")
theorem isVb_iff {cs : List (Addr × Ct)} {n : Nat} (h : n < cs.length) : isVb cs n = true ↔ isV cs n := by
  unfold isVb
  have eg : cs.getD n (0, .leaf []) = cs[n] := by rw [List.getD_eq_getElem?_getD, List.getElem?_eq_getElem h]; rfl
  rw [decide_eq_true_iff, eg]
  exact word_isV (List.getElem?_eq_getElem h)
def vers (cs : List (Addr × Ct)) (hs : List Nat) : List Nat := hs.filter (isVb cs)
/-! ### drawn holdings -/
theorem w_extLF {H : Hp} {Q : VK} {l b : Addr} {xs zs : List V} (h1 : H l = some (.lst xs)) (h2 : H b = some (.lst zs)) (hz : xs.length + zs.length ≤ sizeLine) (h : ∀ H1, H1 l = some (.lst (xs ++ zs)) → Off l H H1 → Q .non H1) : rExtend (.ref l) [.ref b] H Q :=
  ⟨l, b, xs, zs, rfl, rfl, h1, h2, hz, h _ upd_same fun x hx => upd_ne hx⟩
theorem w_lstRgF {σ : L2.St} {H : Hp} {Q : VK} {te : L2.St → Hp → (Int → Int → Hp → Prop) → Prop} (h : te σ H fun a b H1 => RgOk a b ∧ Nw (.lst (rgV a b)) H1 Q) : tLstRg te σ H Q := h
def rRg1F (x : V) (H : Hp) (R : Int → Int → Hp → Prop) : Prop := ∃ n, x = .int n ∧ R 0 n H
theorem w_rg1F {σ : L2.St} {H : Hp} {ta : TE} {R : Int → Int → Hp → Prop} (h : ta σ H fun x H1 => rRg1F x H1 R) : tRg1 ta σ H R := h
theorem w_rg1F' {H : Hp} {j : Int} {R : Int → Int → Hp → Prop} (h : R 0 j H) : rRg1F (.int j) H R := ⟨j, rfl, h⟩
theorem rgV_allF {j : Int} (b : Nat) (hj : j = b) : rgV 0 j = (List.range b).map nV := by
  unfold rgV
  rw [show (j - 0).toNat = b by omega]
  refine List.map_congr_left fun k _ => ?_
  show V.int (0 + (k : Nat)) = V.int ((k : Nat) : Int)
  rw [Int.zero_add]
local macro_rules | `(tactic| walk_at "s") => `(tactic| first
  | with_reducible refine w_lstRgF ?_
  | with_reducible refine w_rg1F ?_
  | with_reducible refine w_rg1F' ?_
  )
/-- [x for .. if ..]: A tells what is gathered so far -/
theorem lcp_acc {σ : L2.St} {H : Hp} {Q : VK} {J : It} {n : Nat} {G : Hp → Prop} {Y : Nat → Hp → V → Hp → Prop} (w : Walk J n G Y) {g : TG} {tt : TT} {te : TE} {vs : List Nat} (M : List Addr) (A : Nat → List V → Prop) (S : Nat → Hp → Prop) (hz : n ≤ 1000000)
    (SD : ∀ D, H D = none → ∀ i H1 o, S i H1 → S i (upd H1 D o)) (hG : ∀ i H', Kp M H H' → S i H' → G H') (S0 : S 0 H) (A0 : A 0 []) (hA : ∀ i acc, A i acc → acc.length ≤ i)
    (hs : ∀ i x H1 H2 (acc : List V) (R : V → Hp → Prop) (R0 : Hp → Prop), i < n → Kp M H H1 → S i H1 → A i acc → Y i H1 x H2 → (∀ y H4, A (i + 1) (acc ++ [y]) → Kp M H1 H4 → S (i + 1) H4 → R y H4) → (∀ H4, A (i + 1) acc → Kp M H1 H4 → S (i + 1) H4 → R0 H4) → g x (wipe σ vs) H2 fun σ2 H3 => wipe σ2 vs = wipe σ vs ∧ tt σ2 H3 fun b H4 => if b = true then te σ2 H4 R else R0 H4)
    (hM : ∀ b ∈ M, ∃ o, H b = some o)
    (hd : ∀ D H' ys, A n ys → H D = none → Kp M H H' → S n H' → H' D = some (.lst ys) → Q (.ref D) H') : LcP J g tt te vs Q σ H := by
  intro D hD
  have hDM : D ∉ M := fun z => by obtain ⟨o, e⟩ := hM D z; rw [hD] at e; cases e
  refine lc_it w (fun i H' => Kp M H H' ∧ S i H' ∧ ∃ ys, A i ys ∧ H' D = some (.lst ys)) ⟨Kp.new hD, SD D hD _ _ _ S0, [], A0, upd_same⟩ (fun i H' _ z => hG i H' z.1 z.2.1) ?_ ?_
  · rintro i x H1 H2 hi ⟨k1, s1, ys, ha, e1⟩ y
    have hl := hA i ys ha
    refine hs i x H1 H2 ys _ _ hi k1 s1 ha y ?_ ?_
    · intro z H4 az k4 s4
      exact ⟨ys, k4 _ _ hDM e1, Nat.lt_of_le_of_lt hl (Nat.lt_of_lt_of_le (Nat.lt_of_lt_of_le hi hz) (by decide)), (k1.trans k4).mutN hD, SD D hD _ _ _ s4, ys ++ [z], az, upd_same⟩
    · intro H4 a4 k4 s4
      exact ⟨k1.trans k4, s4, ys, a4, k4 _ _ hDM e1⟩
  · rintro H' ⟨k, sn, ys, ha, e⟩
    exact hd D H' ys ha hD k sn e
/-- what is gathered of 0, 1, .. -/
def UpTo (i : Nat) (acc : List V) : Prop := ∃ ms : List Nat, acc = ms.map nV ∧ ms.Pairwise (· < ·) ∧ ∀ m ∈ ms, m < i
theorem UpTo.nil : UpTo 0 [] := ⟨[], rfl, .nil, by simp⟩
theorem UpTo.len {i : Nat} {acc : List V} (h : UpTo i acc) : acc.length ≤ i := by
  obtain ⟨ms, rfl, h1, h2⟩ := h
  have := rise_len ms 0 i h1 (fun _ _ => Nat.zero_le _) h2 (Nat.zero_le _)
  rw [List.length_map]
  omega
theorem UpTo.add {i : Nat} {acc : List V} (h : UpTo i acc) : UpTo (i + 1) (acc ++ [nV i]) := by
  obtain ⟨ms, rfl, h1, h2⟩ := h
  refine ⟨ms ++ [i], by rw [List.map_append]; rfl, ?_, fun m hm => ?_⟩
  · rw [List.pairwise_append]
    refine ⟨h1, List.pairwise_singleton _ _, fun a ha b hb => ?_⟩
    have : b = i := by simpa using hb
    have := h2 a ha
    omega
  · rcases List.mem_append.mp hm with h | h
    · have := h2 m h
      omega
    · have : m = i := by simpa using h
      omega
theorem UpTo.skip {i : Nat} {acc : List V} (h : UpTo i acc) : UpTo (i + 1) acc := by
  obtain ⟨ms, rfl, h1, h2⟩ := h
  exact ⟨ms, rfl, h1, fun m hm => Nat.lt_succ_of_lt (h2 m hm)⟩
theorem range_at {n i : Nat} (h : i < n) : ((List.range n).map nV)[i]? = some (nV i) := by
  rw [List.getElem?_map, List.getElem?_eq_getElem (by rw [List.length_range]; exact h), List.getElem_range]
  rfl
def Ct.parts : Ct → List Nat
  | .leaf _ => []
  | .tree es => es.map (·.2)
  | .ver ps r _ => ps ++ [r]
theorem Fam.parts_lt {cs : List (Addr × Ct)} {t : Nat} (h : Fam cs t) {n : Nat} {q : Addr × Ct} (hn : cs[n]? = some q) : q.2.parts.length ≤ 20 ∧ ∀ p ∈ q.2.parts, p < n := by
  have hok := h.ok n q.2 (by rw [List.getElem?_map, hn]; rfl)
  have tk : ∀ {p : Nat} {c : Ct}, ((cs.map (·.2)).take n)[p]? = some c → p < n := fun {p c} hc => by
    have := (List.getElem?_eq_some_iff.mp hc).1
    rw [List.length_take] at this
    omega
  obtain ⟨a, c⟩ := q
  cases c with
  | leaf rows => exact ⟨Nat.zero_le _, fun p hp => by cases hp⟩
  | tree es =>
    obtain ⟨h1, h2, _⟩ := hok
    refine ⟨by show (es.map (·.2)).length ≤ 20; rw [List.length_map]; exact h1, fun p hp => ?_⟩
    obtain ⟨e, he, rfl⟩ := List.mem_map.mp (show p ∈ es.map (·.2) from hp)
    obtain ⟨_, c, hc, _⟩ := h2 e he
    exact tk hc
  | ver ps r s =>
    obtain ⟨h1, h2, h3, ⟨c, hc, _⟩, _⟩ := hok
    refine ⟨by show (ps ++ [r]).length ≤ 20; rw [List.length_append]; simp only [List.length_cons, List.length_nil]; omega, fun p hp => ?_⟩
    rcases List.mem_append.mp (show p ∈ ps ++ [r] from hp) with g | g
    · obtain ⟨c', hc', _⟩ := h3 p g
      exact tk hc'
    · have : p = r := by simpa using g
      rw [this]
      exact tk hc
def spParts : Sp := fun vs H Q _ => ∃ (a : Addr) (c : Ct), vs = [.ref a] ∧ CtAt H a c ∧ c.parts.length ≤ 1000 ∧ ∀ (l : Addr) (H' : Hp), H l = none → H' l = some (.lst (c.parts.map nV)) → Same H H' → Q (.ref l) H'
def spUnder : Sp := fun vs H Q _ => ∃ (th l : Addr) (cs : List (Addr × Ct)) (starts : List Nat) (t : Nat), vs = [.ref th, .ref l] ∧ ThAt H th cs ∧ Fam cs t ∧ cs.length ≤ 400 ∧ H l = some (.lst (starts.map nV)) ∧ (∀ n ∈ starts, n < cs.length) ∧ starts.length ≤ 1000 ∧
  ∀ (l' : Addr) (H' : Hp) (ns : List Nat), H l' = none → H' l' = some (.lst (ns.map nV)) → ns.Pairwise (· < ·) → (∀ n ∈ ns, n < cs.length) → Same H H' → Q (.ref l') H'
def spLHeld : Sp := fun vs H Q _ => ∃ (d c th : Addr) (n : Nat) (cs : List (Addr × Ct)) (t : Nat), vs = [.ref d, .ref th] ∧ Deck H d c n ∧ n + 500 ≤ MOSTD ∧ ThAt H th cs ∧ th ≠ d ∧ Fam cs t ∧ cs.length ≤ 400 ∧
  ∀ (l' : Addr) (H' : Hp) (hs : List Nat), H l' = none → H' l' = some (.lst (hs.map nV)) → hs.Pairwise (· < ·) → (∀ n ∈ hs, n < cs.length) → Deck H' d c (n + 500) → KX d H H' → Q (.ref l') H'
section
variable {P : Program} {w : World} {K : PySem.W.Frag} {mg : Str → Option Value} {base : Heap}
theorem ok_parts {f : Addr} {fd : FuncData} (T : Txt K mg) (F : Fun K "_law_parts" "_law_parts" s_law_parts f fd) : FnOk P w K mg base CX0 1 f fd ["_law_content"] spParts := by
  refine F.ok sc_law_parts (fun vs H Q E h => ?_) (fun cdv A outer s H vs Q E hr h => ?_)
  · obtain ⟨a, c, rfl, _⟩ := h
    rfl
  · obtain ⟨a, c, rfl, hc, hl, q⟩ := h
    refine ⟨_,
      (pss_cons
        (ps_if (pt_cmpR op_eq (pe_ix (r := rIxT K) ix_tup (pv 0) pe_int (fun _ _ => rfl)) pe_str (nomark _))
          (pss_one
            (ps_ret (pe_lst pa_nil)))
          pss_nil)
      (pss_cons
        (ps_if (pt_cmpR op_eq (pe_ix (r := rIxT K) ix_tup (pv 0) pe_int (fun _ _ => rfl)) pe_str (nomark _))
          (pss_one
            (ps_ret (pe_lc (own := [("_law_label_here", 1), ("_law_name", 2)]) (g := (gTup K 2 (gCons (gName 1) (gCons (gName 2) gNil)))) rfl sc_law_parts.nd (pi_tup (pe_ix (r := rIxT K) ix_tup (pv 0) pe_int (fun _ _ => rfl))) (blkOk_by (own := [("_law_label_here", 1), ("_law_name", 2)]) (N := N_law_parts) (sc := defScope s_law_parts) (by decide +kernel)) (fun _ _ _ _ _ => (pg_tup rfl (pgs_cons (pg_name (i := 1) sc_law_parts.nd rfl (.inl rfl)) (pgs_cons (pg_name (i := 2) sc_law_parts.nd rfl (.inl rfl)) pgs_nil)))) (fun _ _ _ _ _ => pts_nil) (fun _ _ _ _ _ => (pv 2)))))
          pss_nil)
      (pss_one
        (ps_ret (pe_op op_cat (pe_callTy (r := rListOf K) c_listOf (by rfl) T.n_list (by decide +kernel) (pa_cons (pe_ix (r := rIxT K) ix_tup (pv 0) pe_int (fun _ _ => rfl)) pa_nil)) (pe_lst (pa_cons (pe_ix (r := rIxT K) ix_tup (pv 0) pe_int (fun _ _ => rfl)) pa_nil)))))))
      , ?_⟩
    rw [show L2.start N_law_parts [V.ref a] = [some (.ref a), none, none] from rfl]
    cases c with
    | leaf rows =>
      obtain ⟨r, h1, h2⟩ := hc
      refine w_seq ?_
      walk_at "x"
      refine w_yes rfl ?_
      walk_at "g"
      refine w_new fun l H1 hl1 e1 k1 => ?_
      exact q l H1 hl1 e1 k1
    | tree es =>
      obtain ⟨r, qs, h1, h2, h3, h4⟩ := hc
      refine w_seq ?_
      walk_at "x"
      refine w_no lit_ne4 ?_
      walk_at "g"
      refine w_seq ?_
      walk_at "g"
      refine w_yes rfl ?_
      walk_at "g"
      have hql : qs.length ≤ 1000 := by
        have e : (es.map (·.2)).length = qs.length := by rw [← h3, List.length_map, List.length_map]
        have : (es.map (·.2)).length ≤ 1000 := hl
        omega
      refine lcp_map (walk_tup (K := K) (a := r) (xs := qs.map fun z => V.ref z.1)) [] (qs.map fun z => nV z.2.2) (by simp) (by rw [List.length_map]; omega) (fun H' k => .of (k _ _ (by simp) h2)) ?_ (by simp) ?_
      · rintro i x H3 H4 R hi k3 ⟨rfl, hx⟩ hR
        obtain ⟨z, hz, rfl⟩ := map_at hx
        have hz3 := k3.same _ _ (h4 z (List.mem_of_getElem? hz))
        walk_at "g"
        refine ⟨rfl, ?_⟩
        walk_at "g"
        exact hR _ _ (by rw [List.getElem?_map, hz]; rfl) Kp.refl
      · intro L H3 hL k3 eL
        walk_at "g"
        refine q L H3 hL ?_ k3.same
        rw [eL]
        show _ = some (HO.lst ((es.map (·.2)).map nV))
        rw [← h3, List.map_map, List.map_map]
        rfl
    | ver ps root stamp =>
      obtain ⟨r, h1, h2⟩ := hc
      have hpl : ps.length ≤ 1000 := by
        have : (ps ++ [root]).length ≤ 1000 := hl
        rw [List.length_append] at this
        omega
      refine w_seq ?_
      walk_at "x"
      refine w_no lit_ne5 ?_
      walk_at "g"
      refine w_seq ?_
      walk_at "g"
      refine w_no lit_ne6 ?_
      walk_at "g"
      refine w_listT (.of h2) fun l1 H1 hl1 e1 k1 => ?_
      have h1' := k1 _ _ h1
      walk_at "g"
      refine w_new fun l2 H2 hl2 e2 k2 => ?_
      walk_at "g"
      refine w_cat (k2 _ _ e1) e2 (by rw [List.length_map]; simp only [List.length_cons, List.length_nil]; exact Nat.le_trans (show ps.length + 1 ≤ 1001 by omega) (by decide)) fun l3 H3 hl3 e3 k3 => ?_
      exact q l3 H3 ((Same.trans k1 k2).free hl3) (by rw [e3]; show _ = some (HO.lst ((ps ++ [root]).map nV)); rw [List.map_append]; rfl) (Same.trans k1 (Same.trans k2 k3))
theorem ok_under {f fP : Addr} {fd fdP : FuncData} (T : Txt K mg) (F : Fun K "_law_under" "_law_under" s_law_under f fd) (D_law_parts : Df K mg "_law_parts" s_law_parts ["_law_content"] fP fdP) : FnOk P w K mg base CX0 2 f fd ["_law_things", "_law_starts"] spUnder := by
  have G_law_parts : FnOk P w K mg base CX0 1 fP fdP ["_law_content"] spParts := ok_parts T D_law_parts.fn
  refine F.ok sc_law_under (fun vs H Q E h => ?_) (fun cdv A outer s H vs Q E hr h => ?_)
  · obtain ⟨th, l, cs, starts, t, rfl, _⟩ := h
    rfl
  · obtain ⟨th, l, cs, starts, t, rfl, T0, fm, hcl, hl, hst, hsl, q⟩ := h
    have hu := hu_of hr
    refine ⟨_,
      (pss_cons
        (ps_set (i := 2) sc_law_under.nd rfl (.inl rfl) pe_dnewK)
      (pss_cons
        (ps_set (i := 3) sc_law_under.nd rfl (.inl rfl) (pe_callTy (r := rListOf K) c_listOf (by rfl) T.n_list (by decide +kernel) (pa_cons (pv 1) pa_nil)))
      (pss_cons
        (ps_while PassesOwn.never (pt_cmpR op_gt (pe_callB (r := rLen K) c_len (by rfl) T.n_len (by decide +kernel) (pa_cons (pv 3) pa_nil)) pe_int (nomark _))
          (pss_cons
            (ps_set (i := 4) sc_law_under.nd rfl (.inl rfl) (pe_bm0 PySem.F.plainAttrs_list PySem.F.slot_list_pop PySem.F.type_list_pop mt_pop (pv 3)))
          (pss_one
            (ps_if (pt_cmp (pc_dnotin hu (pv 4) (pv 2)))
              (pss_cons
                (ps_dput hu (pv 2) (pv 4) pe_bl rfl)
              (pss_one
                (ps_expr (pe_bm PySem.F.plainAttrs_list PySem.F.slot_list_extend PySem.F.type_list_extend mt_extend (pv 3) (pa_cons (pe_call G_law_parts (hr.mono (by omega)) (by rfl) D_law_parts.g D_law_parts.fn.kp D_law_parts.b .nil pass0 (pa_cons (pe_ix (r := rIxL K) ix_list (pv 0) (pv 4) (fun _ _ => rfl)) pa_nil)) pa_nil)))))
              pss_nil))))
      (pss_one
        (ps_ret (pe_callB (c_sortA rfl) (by rfl) T.n_sorted (by decide +kernel) (pa_cons (pv 2) pa_nil)))))))
      , ?_⟩
    rw [show L2.start N_law_under [V.ref th, V.ref l] = [some (.ref th), some (.ref l), none, none, none] from rfl]
    walk_at "x"
    refine w_new fun fo H1 hfo e1 k1 => ?_
    have hl1 := k1 _ _ hl
    walk_at "g"
    refine w_listL (.of hl1) fun lf H2 hlf e2 k2 => ?_
    have nlf : lf ≠ fo := (ne_of_none e1 hlf).symm
    have k12 := Same.trans k1 k2
    have hlf0 := k1.free hlf
    walk_at "g"
    refine w_whileN (fun m σ H' => ∃ (y : Option V) (fk : List (Key × V)) (ks : List Int) (left : List Nat), σ = [some (.ref th), some (.ref l), some (.ref fo), some (.ref lf), y] ∧ m = 30 * (cs.length - ks.length) + left.length ∧ Same H H' ∧ H' fo = some (.dK fk) ∧ fk.map (·.1) = ks.map (Sum.inl : Int → Key) ∧ ks.Nodup ∧ (∀ k ∈ ks, 0 ≤ k ∧ k < cs.length) ∧ H' lf = some (.lst (left.map nV)) ∧ (∀ n ∈ left, n < cs.length) ∧ left.length + 30 * (cs.length - ks.length) ≤ 14000) _ ⟨_, [], [], starts, rfl, rfl, k12, k2 _ _ e1, rfl, .nil, by simp, e2, hst, by simp only [List.length_nil]; omega⟩ ?_
    rintro m σ H3 ⟨y, fk, ks, left, rfl, rfl, s3, ef3, hk, nd, hks, el3, hleft, hbig⟩
    have hkl : ks.length ≤ cs.length := by
      have := nodup_le ks ((List.range cs.length).map fun n : Nat => (n : Int)) nd fun k hk' => by
        obtain ⟨g1, g2⟩ := hks k hk'
        exact List.mem_map.mpr ⟨k.toNat, List.mem_range.mpr (by omega), by omega⟩
      rwa [List.length_map, List.length_range] at this
    have hfl : fk.length = ks.length := by rw [← List.length_map (f := (·.1)), hk, List.length_map]
    walk_at "g"
    rcases List.eq_nil_or_concat left with rfl | ⟨ms, m, rfl⟩
    · refine w_no (by simp) ?_
      walk_at "g"
      refine w_sortA ef3 hk (by omega) fun ys p H4 hp hle hnone e4 k4 => ?_
      obtain ⟨ns, rfl⟩ := ints_nats (zs := ys) fun z hz => (hks z (hp.mem_iff.mp hz)).1
      have hlt := lt_of_le_nd hle (hp.nodup_iff.mpr nd)
      refine q p H4 ns (s3.free hnone) (by rw [e4, nV_map]) ?_ (fun n hn => ?_) (Same.trans s3 k4)
      · rw [List.pairwise_map] at hlt
        exact hlt.imp fun {a b} h => by omega
      · have := (hks n (hp.mem_iff.mp (int_mem.mpr hn))).2
        omega
    · refine w_yes (by first | (simp; omega) | simp) ?_
      refine w_turn ?_
      have el3' : H3 lf = some (.lst (ms.map nV ++ [nV m])) := by rw [el3]; simp
      have hlm : (ms.concat m).length = ms.length + 1 := by simp
      rw [hlm] at hbig
      have hm : m < cs.length := hleft m (by simp)
      walk_at "g"
      refine w_pop el3' fun H4 e4 o4 => ?_
      have ef4 := o4.get nlf.symm ef3
      have s4 : Same H H4 := fun b o e => o4.get (ne_of_none e hlf0) (s3 _ _ e)
      have T4 := T0.same s4
      have hth4 := T4.at'
      walk_at "g"
      rw [val_keys hk]
      by_cases hin : (m : Int) ∈ ks
      · rw [decide_eq_true hin]
        walk_at "g"
        exact ⟨_, by rw [hlm]; omega, _, fk, ks, ms, rfl, rfl, s4, ef4, hk, nd, hks, e4, fun n hn => hleft n (by simp [hn]), by omega⟩
      · rw [decide_eq_false hin]
        walk_at "g"
        refine w_dputI ef4 (by rw [hfl]; exact small1kl (by omega)) fun H5 e5 o5 => ?_
        have s5 : Same H H5 := fun b o e => o5.get (ne_of_none e hfo) (s4 _ _ e)
        have T5 := T0.same s5
        have hth5 := T5.at'
        have el5 := o5.get nlf e4
        have at1 : atI (cs.map fun q => V.ref q.1) (m : Int) = some (.ref (cs[m]).1) := atI_nat (by rw [List.getElem?_map, List.getElem?_eq_getElem hm]; rfl)
        obtain ⟨hp20, hplt⟩ := fm.parts_lt (List.getElem?_eq_getElem hm)
        walk_at "g"
        refine ⟨(cs[m]).1, (cs[m]).2, rfl, T5.ct _ (List.getElem_mem hm), by omega, fun lp H6 hlp e6 k6 => ?_⟩
        have el6 := k6 _ _ el5
        walk_at "g"
        refine w_extLF el6 e6 (by rw [List.length_map, List.length_map]; exact Nat.le_trans (show ms.length + (cs[m]).2.parts.length ≤ 20000 by omega) (by decide)) fun H7 e7 o7 => ?_
        walk_at "g"
        have hadd : (addK ks (m : Int)).length = ks.length + 1 := by unfold addK; rw [if_neg hin, List.length_append]; rfl
        have hlt : ks.length < cs.length := by
          have := nodup_le (addK ks (m : Int)) ((List.range cs.length).map fun n : Nat => (n : Int)) (nd_addK nd) fun k hk' => by
            rcases mem_addK.mp hk' with h | h
            · obtain ⟨g1, g2⟩ := hks k h
              exact List.mem_map.mpr ⟨k.toNat, List.mem_range.mpr (by omega), by omega⟩
            · exact List.mem_map.mpr ⟨m, List.mem_range.mpr hm, h.symm⟩
          rw [List.length_map, List.length_range, hadd] at this
          omega
        have s7 : Same H H7 := fun b o e => o7.get (ne_of_none e hlf0) (k6 _ _ (s5 _ _ e))
        refine ⟨_, ?_, _, _, addK ks (m : Int), ms ++ (cs[m]).2.parts, rfl, rfl, s7, o7.get nlf.symm (k6 _ _ e5), putK_keys hk, nd_addK nd, fun k hk' => ?_, by rw [e7, List.map_append], fun n hn => ?_, ?_⟩
        · rw [hlm, hadd, List.length_append]
          omega
        · rcases mem_addK.mp hk' with h | h
          · exact hks k h
          · omega
        · rcases List.mem_append.mp hn with h | h
          · exact hleft n (by simp [h])
          · have := hplt n h
            omega
        · rw [hadd, List.length_append]
          omega
theorem ok_lheld {f fM fD fP fU : Addr} {fd fdM fdD fdP fdU : FuncData} (T : Txt K mg) (F : Fun K "_law_held" "_law_held" s_law_held f fd) (D_law_mixed : Df K mg "_law_mixed" s_law_mixed ["_law_cell", "_law_turn"] fM fdM) (D_law_draw : Df K mg "_law_draw" s_law_draw ["_law_deck_here", "_law_many"] fD fdD) (D_law_parts : Df K mg "_law_parts" s_law_parts ["_law_content"] fP fdP) (D_law_under : Df K mg "_law_under" s_law_under ["_law_things", "_law_starts"] fU fdU) : FnOk P w K mg base CX0 3 f fd ["_law_deck_here", "_law_things"] spLHeld := by
  have G_law_draw : FnOk P w K mg base CX0 2 fD fdD ["_law_deck_here", "_law_many"] spDraw := ok_draw T D_law_draw.fn D_law_mixed
  have G_law_under : FnOk P w K mg base CX0 2 fU fdU ["_law_things", "_law_starts"] spUnder := ok_under T D_law_under.fn D_law_parts
  refine F.ok sc_law_held (fun vs H Q E h => ?_) (fun cdv A outer s H vs Q E hr h => ?_)
  · obtain ⟨d, c, th, n, cs, t, rfl, _⟩ := h
    rfl
  · obtain ⟨d, c, th, n, cs, t, rfl, D0, hn, T0, thd, fm, hcl, q⟩ := h
    have hu := hu_of hr
    have hth := T0.at'
    refine ⟨_,
      (pss_cons
        (ps_set (i := 2) sc_law_held.nd rfl (.inl rfl) (pe_listRg rfl (by rfl) T.n_list (prg_1 (by rfl) T.n_range (pe_callB (r := rLen K) c_len (by rfl) T.n_len (by decide +kernel) (pa_cons (pv 1) pa_nil)))))
      (pss_cons
        (ps_set (i := 3) sc_law_held.nd rfl (.inl rfl) (pe_call G_law_draw (hr.mono (by omega)) (by rfl) D_law_draw.g D_law_draw.fn.kp D_law_draw.b .nil pass0 (pa_cons (pv 0) (pa_cons pe_int pa_nil))))
      (pss_cons
        (ps_if (pt_cmpR op_eq (pv 3) pe_int (nomark _))
          (pss_one
            (ps_ret (pe_lc (own := [("_law_name", 8)]) (g := (gName 8)) rfl sc_law_held.nd (pi_list (pv 2)) (blkOk_by (own := [("_law_name", 8)]) (N := N_law_held) (sc := defScope s_law_held) (by decide +kernel)) (fun _ _ _ _ _ => (pg_name (i := 8) sc_law_held.nd rfl (.inl rfl))) (fun _ _ _ _ _ => (pts_one (pt_cmpR op_eq (pe_call G_law_draw (hr.mono (by omega)) (by rfl) D_law_draw.g D_law_draw.fn.kp D_law_draw.b .nil pass0 (pa_cons (pv 0) (pa_cons pe_int pa_nil))) pe_int (nomark _)))) (fun _ _ _ _ _ => (pv 8)))))
          pss_nil)
      (pss_cons
        (ps_if (pt_cmpR op_eq (pv 3) pe_int (nomark _))
          (pss_cons
            (ps_set (i := 4) sc_law_held.nd rfl (.inr rfl) (pe_lc (own := [("_law_k", 9)]) (g := (gName 9)) rfl sc_law_held.nd (pi_range1 (by rfl) T.n_range (pa_cons pe_int pa_nil)) (blkOk_by (own := [("_law_k", 9)]) (N := N_law_held) (sc := defScope s_law_held) (by decide +kernel)) (fun _ _ _ _ _ => (pg_name (i := 9) sc_law_held.nd rfl (.inl rfl))) (fun _ _ _ _ _ => pts_nil) (fun _ _ _ _ _ => (pe_call G_law_draw (hr.mono (by omega)) (by rfl) D_law_draw.g D_law_draw.fn.kp D_law_draw.b .nil pass0 (pa_cons (pv 0) (pa_cons (pe_op op_add (pe_callB (r := rLen K) c_len (by rfl) T.n_len (by decide +kernel) (pa_cons (pv 1) pa_nil)) pe_int) pa_nil))))))
          (pss_one
            (ps_ret (pe_lc (own := [("_law_name", 8)]) (g := (gName 8)) rfl sc_law_held.nd (pi_list (pv 2)) (blkOk_by (own := [("_law_name", 8)]) (N := N_law_held) (sc := defScope s_law_held) (by decide +kernel)) (fun _ _ _ _ _ => (pg_name (i := 8) sc_law_held.nd rfl (.inl rfl))) (fun _ _ _ _ _ => (pts_one (pt_cmpR (r := rIn K true) op_notIn_seq (pv 8) (pv 4) rfl))) (fun _ _ _ _ _ => (pv 8))))))
          pss_nil)
      (pss_cons
        (ps_setLc (i := 5) (own := [("_law_name", 8)]) (g := (gName 8)) rfl sc_law_held.nd rfl rfl (sw_true rfl rfl rfl (by decide +kernel)) (pi_list (pv 2)) (blkOk_by (own := [("_law_name", 8)]) (N := N_law_held) (sc := defScope s_law_held) (by decide +kernel)) (fun _ _ _ _ _ => (pg_name (i := 8) sc_law_held.nd rfl (.inl rfl))) (fun _ _ _ _ _ => (pts_one (PW.pt (pw_and (pt_cmpR op_eq (pe_ix (r := rIxT K) ix_tup (pe_ix (r := rIxL K) ix_list (pv 1) (pv 8) (fun _ _ => rfl)) pe_int (fun _ _ => rfl)) pe_str (nomark _)) (pw_and1 (pt_cmpR op_eq (pe_call G_law_draw (hr.mono (by omega)) (by rfl) D_law_draw.g D_law_draw.fn.kp D_law_draw.b .nil pass0 (pa_cons (pv 0) (pa_cons pe_int pa_nil))) pe_int (nomark _))))))) (fun _ _ _ _ _ => (pv 8)))
      (pss_cons
        (ps_if (pt_cmpR op_eq (pv 3) pe_int (nomark _))
          (pss_one
            (ps_ret (pe_call G_law_under (hr.mono (by omega)) (by rfl) D_law_under.g D_law_under.fn.kp D_law_under.b .nil pass0 (pa_cons (pv 1) (pa_cons (pv 5) pa_nil)))))
          pss_nil)
      (pss_cons
        (ps_set (i := 6) sc_law_held.nd rfl (.inl rfl) pe_dnewK)
      (pss_cons
        (ps_for PassesOwn.never rfl (pi_list (pv 5)) (pg_name (i := 7) sc_law_held.nd rfl (.inl rfl))
          (pss_cons
            (ps_dput hu (pv 6) (pv 7) pe_bl rfl)
          (pss_one
            (ps_for PassesOwn.never rfl (pi_list (pe_call G_law_under (hr.mono (by omega)) (by rfl) D_law_under.g D_law_under.fn.kp D_law_under.b .nil pass0 (pa_cons (pv 1) (pa_cons (pe_lst (pa_cons (pe_ix (r := rIxT K) ix_tup (pe_ix (r := rIxL K) ix_list (pv 1) (pv 7) (fun _ _ => rfl)) pe_int (fun _ _ => rfl)) pa_nil)) pa_nil)))) (pg_name (i := 8) sc_law_held.nd rfl (.inl rfl))
              (pss_one
                (ps_dput hu (pv 6) (pv 8) pe_bl rfl))))))
      (pss_one
        (ps_ret (pe_callB (c_sortA rfl) (by rfl) T.n_sorted (by decide +kernel) (pa_cons (pv 6) pa_nil))))))))))))
      , ?_⟩
    rw [show L2.start N_law_held [V.ref d, V.ref th] = [some (.ref d), some (.ref th), none, none, none, none, none, none, none, none] from rfl]
    walk_at "x"
    refine ⟨⟨by omega, by omega, by omega, by rw [List.length_map]; omega, by rw [List.length_map]; omega⟩, ?_⟩
    refine w_new fun nm H1 hnm e1 k1 => ?_
    rw [rgV_allF cs.length (by rw [List.length_map])] at e1
    have D1 : Deck H1 d c n := D0.kp (M := []) (Kp.of k1) (by simp) (by simp)
    obtain ⟨nmd, nmc⟩ := D0.ne1 hnm
    walk_at "g"
    refine w_draw D1 (by omega) (by decide) (by decide) fun pick H2 hpick D2 o2 => ?_
    have x2 : KX d H H2 := (KX.of k1).trans (D1.kx D2 o2)
    have e2 := o2.get nmd e1
    obtain ⟨⟨dxs, ed2⟩, _⟩ := D2.at
    have T2 := T0.kp x2.p x2.t (by simpa using thd)
    have hth2 := T2.at'
    have fr : ∀ {H' : Hp} {a : Addr}, KX d H H' → (∃ o, H' d = some o) → H' a = none → H a = none := fun {H' a} x ⟨o', e'⟩ ha => by
      cases e : H a with
      | none => rfl
      | some o =>
        by_cases hd : a = d
        · rw [hd, e'] at ha
          cases ha
        · rw [x.p _ _ (by simpa using hd) e] at ha
          cases ha
    have dkx : ∀ {H' : Hp} {m : Nat}, Deck H' d c m → Kp [d] H2 H' → KX d H H' := fun {H' m} D k => x2.trans (D2.kxK D k)
    walk_at "g"
    refine w_seq ?_
    walk_at "g"
    refine w_ite (fun h0 => ?_) (fun h0 => ?_)
    · walk_at "g"
      refine lcp_acc (walk_list (K := K) (a := nm) (xs := (List.range cs.length).map nV)) [d] UpTo (fun i H' => Deck H' d c (n + 1 + i)) (by rw [List.length_map, List.length_range]; omega) (fun D hD i H1' o z => z.mut (D2.ne1 hD).1 (D2.ne1 hD).2) (fun i H' k _ => .of (k _ _ (by simpa using nmd) e2)) D2 .nil (fun i acc h => h.len) ?_ (by intro b hb; have e : b = d := (by simpa using hb); subst e; exact ⟨_, ed2⟩) ?_
      · rintro i x H3 H4 acc R R0 hi k3 D3 ha ⟨rfl, hx⟩ hR hR0
        rw [List.length_map, List.length_range] at hi
        rw [range_at hi] at hx
        cases hx
        refine w_name ⟨rfl, ?_⟩
        walk_at "g"
        refine w_draw D3 (by omega) (by decide) (by decide) fun r H5 hr5 D5 o5 => ?_
        walk_at "g"
        refine w_ite (fun h1 => ?_) (fun h1 => ?_)
        · walk_at "g"
          exact hR _ _ ha.add (o5.kp (by simp)) D5
        · exact hR0 _ ha.skip (o5.kp (by simp)) D5
      · intro L H3 ys ha hL k3 D3 eL
        obtain ⟨ms, rfl, hup, hm⟩ := ha
        rw [List.length_map, List.length_range] at hm D3
        walk_at "g"
        exact q L H3 ms (fr x2 ⟨_, ed2⟩ hL) eL hup hm (D3.mono (by omega)) (dkx D3 k3)
    · walk_at "g"
      refine w_seq ?_
      walk_at "g"
      refine w_ite (fun h1 => ?_) (fun h1 => ?_)
      · walk_at "g"
        refine lcp_gen (walk_range (lo := 0) (n := 3)) [d] (fun i y _ => ∃ k : Nat, y = nV k) (fun i H' => Deck H' d c (n + 1 + i)) (by omega) (fun _ _ _ _ _ h => h) (fun D hD i H1' o z => z.mut (D2.ne1 hD).1 (D2.ne1 hD).2) (fun _ _ _ _ => trivial) D2 ?_ (by intro b hb; have e : b = d := (by simpa using hb); subst e; exact ⟨_, ed2⟩) ?_
        · rintro i x H3 H4 R hi k3 t3 D3 ⟨rfl, rfl⟩ hR
          have hth3 := k3 _ _ (by simpa using thd) hth2
          obtain ⟨⟨dx3, ed3⟩, _⟩ := D3.at
          refine w_name ⟨rfl, ?_⟩
          walk_at "g"
          refine w_draw D3 (by omega) (by rw [List.length_map]; omega) (by rw [List.length_map]; omega) fun r H5 hr5 D5 o5 => ?_
          exact hR _ _ ⟨r, rfl⟩ (o5.kp (by simp)) (KT.off o5 ed3) D5
        · intro G H3 ys hyl hyp hG k3 t3 D3 eG
          obtain ⟨gs, rfl⟩ : ∃ gs : List Nat, ys = gs.map nV := by
            have : ∀ {zs : List V}, (∀ y ∈ zs, ∃ k : Nat, y = nV k) → ∃ gs : List Nat, zs = gs.map nV := by
              intro zs
              induction zs with
              | nil => intro _; exact ⟨[], rfl⟩
              | cons z zs ih =>
                intro h
                obtain ⟨n, rfl⟩ := h z (by simp)
                obtain ⟨hs, rfl⟩ := ih fun y hy => h y (by simp [hy])
                exact ⟨n :: hs, rfl⟩
            refine this fun y hy => ?_
            obtain ⟨i, hi, e⟩ := List.getElem_of_mem hy
            exact hyp i y (by rw [List.getElem?_eq_getElem hi, e])
          have e3 := k3 _ _ (by simpa using nmd) e2
          obtain ⟨⟨dx3, ed3⟩, _⟩ := D3.at
          have x3 := dkx D3 k3
          walk_at "g"
          refine lcp_acc (walk_list (K := K) (a := nm) (xs := (List.range cs.length).map nV)) [] UpTo (fun i H' => True) (by rw [List.length_map, List.length_range]; omega) (fun _ _ _ _ _ _ => trivial) (fun i H' k _ => .of (k _ _ (by simp) e3)) trivial .nil (fun i acc h => h.len) ?_ (by simp) ?_
          · rintro i x H4 H5 acc R R0 hi k4 _ ha ⟨rfl, hx⟩ hR hR0
            rw [List.length_map, List.length_range] at hi
            rw [range_at hi] at hx
            cases hx
            have eG4 := k4.same _ _ eG
            refine w_name ⟨rfl, ?_⟩
            walk_at "g"
            refine w_ninNL eG4 ?_
            refine w_bl ?_
            refine w_itN (fun hni => ?_) (fun hyi => ?_)
            · walk_at "g"
              exact hR _ _ ha.add Kp.refl trivial
            · exact hR0 _ ha.skip Kp.refl trivial
          · intro L H4 ys ha hL k4 _ eL
            obtain ⟨ms, rfl, hup, hm⟩ := ha
            rw [List.length_map, List.length_range] at hm
            walk_at "g"
            exact q L H4 ms (fr x3 ⟨_, ed3⟩ hL) eL hup hm ((D3.kp (M := []) k4 (by simp) (by simp)).mono (by omega)) (x3.trans (KX.of k4.same))
      · walk_at "g"
        refine lcp_acc (walk_list (K := K) (a := nm) (xs := (List.range cs.length).map nV)) [d] (fun i acc => UpTo i acc ∧ ∀ m : Nat, nV m ∈ acc → isVb cs m = true) (fun i H' => Deck H' d c (n + 1 + i)) (by rw [List.length_map, List.length_range]; omega) (fun D hD i H1' o z => z.mut (D2.ne1 hD).1 (D2.ne1 hD).2) (fun i H' k _ => .of (k _ _ (by simpa using nmd) e2)) D2 ⟨.nil, by simp⟩ (fun i acc h => h.1.len) ?_ (by intro b hb; have e : b = d := (by simpa using hb); subst e; exact ⟨_, ed2⟩) ?_
        · rintro i x H3 H4 acc R R0 hi k3 D3 ⟨ha, hav⟩ ⟨rfl, hx⟩ hR hR0
          rw [List.length_map, List.length_range] at hi
          rw [range_at hi] at hx
          cases hx
          have x3 := dkx D3 k3
          have T3 := T0.kp x3.p x3.t (by simpa using thd)
          have hth3 := T3.at'
          have at1 : atI (cs.map fun q => V.ref q.1) (i : Int) = some (.ref (cs[i]).1) := atI_nat (by rw [List.getElem?_map, List.getElem?_eq_getElem hi]; rfl)
          obtain ⟨xs, hh⟩ := (T3.ct _ (List.getElem_mem hi)).head
          have at0 : atI (V.str (cs[i]).2.word :: xs) 0 = some (.str (cs[i]).2.word) := atI_nat (j := 0) rfl
          have eg : cs.getD i (0, .leaf []) = cs[i] := by rw [List.getD_eq_getElem?_getD, List.getElem?_eq_getElem hi]; rfl
          refine w_name ⟨rfl, ?_⟩
          walk_at "g"
          refine w_ite (fun hw => ?_) (fun hw => ?_)
          · walk_at "g"
            refine w_draw D3 (by omega) (by decide) (by decide) fun r H5 hr5 D5 o5 => ?_
            walk_at "g"
            refine w_ite (fun h1 => ?_) (fun h1 => ?_)
            · walk_at "g"
              refine hR _ _ ⟨ha.add, fun m hm => ?_⟩ (o5.kp (by simp)) D5
              rcases List.mem_append.mp hm with g | g
              · exact hav m g
              · have e : nV m = nV i := by simpa using g
                have : m = i := by have : (m : Int) = i := V.int.inj e; omega
                rw [this]
                unfold isVb
                rw [eg]
                exact decide_eq_true hw
            · exact hR0 _ ⟨ha.skip, hav⟩ (o5.kp (by simp)) D5
          · exact hR0 _ ⟨ha.skip, hav⟩ Kp.refl (D3.mono (by omega))
        · rintro L H3 ys ⟨⟨ms, rfl, hup, hm⟩, hav⟩ hL k3 D3 eL
          rw [List.length_map, List.length_range] at hm D3
          have hmv : ∀ m ∈ ms, isVb cs m = true := fun m hm' => hav m (List.mem_map_of_mem hm')
          have hml : ms.length ≤ cs.length := by
            have := rise_len ms 0 cs.length hup (fun _ _ => Nat.zero_le _) hm (Nat.zero_le _)
            omega
          have x3 := dkx D3 k3
          have T3 := T0.kp x3.p x3.t (by simpa using thd)
          obtain ⟨⟨dx3, ed3⟩, _⟩ := D3.at
          have eL' := eL
          walk_at "g"
          refine w_seq ?_
          walk_at "g"
          refine w_ite (fun h2 => ?_) (fun h2 => ?_)
          · walk_at "g"
            refine ⟨th, L, cs, ms, t, rfl, T3, fm, hcl, eL, hm, by omega, fun l' H4 ns hl' e4 hup4 hin4 k4 => ?_⟩
            walk_at "g"
            exact q l' H4 ns (fr x3 ⟨_, ed3⟩ hl') e4 hup4 hin4 ((D3.kp (M := []) (Kp.of k4) (by simp) (by simp)).mono (by omega)) (x3.trans (KX.of k4))
          · walk_at "g"
            refine w_new fun hh H4 hhh e4 k4 => ?_
            have F4 : FAt H4 hh (fun n => False) := ⟨[], [], e4, rfl, .nil, by simp, by simp⟩
            have eL4 := k4 _ _ eL
            have nhL : L ≠ hh := ne_of_none eL hhh
            walk_at "g"
            try refine w_itL' (.of eL4) ?_
            refine lp_list (xs := ms.map nV) (fun i σ H' => (∃ y1 y2 : Option V, σ = [some (.ref d), some (.ref th), some (.ref nm), some (.int (pick : Int)), none, some (.ref L), some (.ref hh), y1, y2, none]) ∧ Kp [hh] H4 H' ∧ ∃ Fm : Nat → Prop, FAt H' hh Fm ∧ ∀ m, Fm m → m < cs.length) ⟨⟨_, _, rfl⟩, Kp.refl, _, F4, fun m h => h.elim⟩ (fun i σ H' _ h => .of (h.2.1 _ _ (by simpa using nhL) eL4)) ?_ ?_
            · rintro i x σ H5 hx ⟨⟨y1, y2, rfl⟩, k5, Fm, F5, hFm⟩
              obtain ⟨m, hmi, rfl⟩ := map_at hx
              have hmm := List.mem_of_getElem? hmi
              have hlt := hm m hmm
              walk_at "g"
              refine w_fput F5 (by omega) fun H6 F6 o6 => ?_
              have s6 : Same H3 H6 := fun b o e => o6.get (ne_of_none e hhh) (k5 _ _ (by simpa using ne_of_none e hhh) (k4 _ _ e))
              have T6 := T3.same s6
              have hth6 := T6.at'
              have iv := (isVb_iff hlt).mp (hmv m hmm)
              obtain ⟨a, r, sst, hcs⟩ := iv.at
              obtain ⟨r', g1, g2⟩ := T6.ct _ (List.mem_of_getElem? hcs)
              have at1 : atI (cs.map fun q => V.ref q.1) (m : Int) = some (.ref a) := atI_nat (by rw [List.getElem?_map, hcs]; rfl)
              walk_at "g"
              refine w_new fun ln H7 hln e7 k7 => ?_
              obtain ⟨_, hplt⟩ := fm.parts_lt hcs
              have hr' : r < cs.length := by
                have := hplt r (by show r ∈ pars cs m ++ [r]; simp)
                omega
              walk_at "g"
              refine ⟨th, ln, cs, [r], t, rfl, T6.same k7, fm, hcl, e7, fun n hn => by have : n = r := (by simpa using hn); omega, by simp, fun l' H8 ns hl' e8 hup8 hin8 k8 => ?_⟩
              have nl' : l' ≠ hh := by
                obtain ⟨fk, hfk⟩ := (F6.same k7).obj
                exact (ne_of_none hfk hl').symm
              have k68 := Same.trans k7 k8
              walk_at "g"
              try refine w_itL' (.of e8) ?_
              refine lp_list (xs := ns.map nV) (fun j σ H' => (∃ y2 : Option V, σ = [some (.ref d), some (.ref th), some (.ref nm), some (.int (pick : Int)), none, some (.ref L), some (.ref hh), some (nV m), y2, none]) ∧ Kp [hh] H8 H' ∧ ∃ Fm : Nat → Prop, FAt H' hh Fm ∧ ∀ m, Fm m → m < cs.length) ⟨⟨_, rfl⟩, Kp.refl, _, F6.same k68, fun m' h => by rcases h with h | h; exact hFm m' h; omega⟩ (fun j σ H' _ h => .of (h.2.1 _ _ (by simpa using nl') e8)) ?_ ?_
              · rintro j x σ H9 hx ⟨⟨y2, rfl⟩, k9, Fm9, F9, hFm9⟩
                obtain ⟨m9, hm9, rfl⟩ := map_at hx
                have hlt9 := hin8 m9 (List.mem_of_getElem? hm9)
                walk_at "g"
                refine w_fput F9 (by omega) fun H10 F10 o10 => ?_
                walk_at "g"
                exact ⟨⟨_, rfl⟩, k9.trans (o10.kp (by simp)), _, F10, fun m' h => by rcases h with h | h; exact hFm9 m' h; omega⟩
              · rintro σ H9 ⟨⟨y2, rfl⟩, k9, Fm9, F9, hFm9⟩
                walk_at "g"
                exact ⟨⟨_, _, rfl⟩, ((k5.trans (o6.kp (by simp))).trans (Kp.of k68)).trans k9, _, F9, hFm9⟩
            · rintro σ H5 ⟨⟨y1, y2, rfl⟩, k5, Fm, F5, hFm⟩
              have s5 : Same H3 H5 := fun b o e => k5 _ _ (by simpa using ne_of_none e hhh) (k4 _ _ e)
              walk_at "g"
              refine w_fsort F5 fun ns p H6 hup6 hmem6 hnl6 hp6 e6 k6 => ?_
              have s6 := Same.trans s5 k6
              exact q p H6 ns (fr x3 ⟨_, ed3⟩ (s5.free hp6)) e6 hup6 (fun n hn => hFm n ((hmem6 n).mp hn)) ((D3.kp (M := []) (Kp.of s6) (by simp) (by simp)).mono (by omega)) (x3.trans (KX.of s6))
end
/-! ### drawn scenes: towers, rows, ladders -/
theorem Fam.snocF {cs : List (Addr × Ct)} {a : Addr} {c : Ct} {t : Nat} (fm : Fam cs t) (ok : CtOk (cs.map (·.2)) (dsOf (cs.map (·.2))) c) (dp : depOf (dsOf (cs.map (·.2))) c ≤ t) (hno : ∀ q ∈ cs, q.2 ≠ c) : Fam (cs ++ [(a, c)]) t := by
  refine ⟨?_, ?_, ?_⟩
  · rw [List.map_append, List.map_cons, List.map_nil]
    exact fm.ok.snoc ok
  · rw [List.map_append, List.map_cons, List.map_nil, List.nodup_append]
    refine ⟨fm.nd, by simp, fun x hx y hy e => ?_⟩
    obtain ⟨z, hz, rfl⟩ := List.mem_map.mp hx
    have e' : y = c := by simpa using hy
    rw [e'] at e
    exact hno z hz e
  · rw [List.map_append, List.map_cons, List.map_nil]
    exact fm.dp.snoc dp
theorem Fam.par {cs : List (Addr × Ct)} {t : Nat} (fm : Fam cs t) {q : Addr × Ct} (hq : q ∈ cs) {ps : List Nat} {r s : Nat} (e : q.2 = .ver ps r s) : ∀ p ∈ ps, p + 1 < cs.length := by
  obtain ⟨j, hj, ej⟩ := List.getElem_of_mem hq
  obtain ⟨_, _, h3, _⟩ := fm.ok j _ (show (cs.map (·.2))[j]? = some (Ct.ver ps r s) by rw [List.getElem?_map, List.getElem?_eq_getElem hj, ej, ← e]; rfl)
  intro p hp
  obtain ⟨c, hc, _⟩ := h3 p hp
  have := (List.getElem?_eq_some_iff.mp hc).1
  rw [List.length_take] at this
  omega
theorem Fam.ent {cs : List (Addr × Ct)} {t : Nat} (fm : Fam cs t) {q : Addr × Ct} (hq : q ∈ cs) {es : List (Str × Nat)} (e : q.2 = .tree es) : ∀ x ∈ es, x.2 + 1 < cs.length := by
  obtain ⟨j, hj, ej⟩ := List.getElem_of_mem hq
  obtain ⟨_, h2, _⟩ := fm.ok j _ (show (cs.map (·.2))[j]? = some (Ct.tree es) by rw [List.getElem?_map, List.getElem?_eq_getElem hj, ej, ← e]; rfl)
  intro x hx
  obtain ⟨_, c, hc, _⟩ := h2 x hx
  have := (List.getElem?_eq_some_iff.mp hc).1
  rw [List.length_take] at this
  omega
theorem grow_app {H1 H2 : Hp} {th a : Addr} {cs : List (Addr × Ct)} {c : Ct} (ht : ThAt H1 th cs) (hc : CtAt H1 a c) (e : H2 th = some (.lst (cs.map (fun q => V.ref q.1) ++ [.ref a]))) (o : Off th H1 H2) : ThAt H2 th (cs ++ [(a, c)]) := by
  have t2 : KT H1 H2 := KT.off o ht.at'
  refine ⟨by rw [e, List.map_append]; rfl, fun q hq => ?_⟩
  rcases List.mem_append.mp hq with h | h
  · exact (ht.ct q h).kt t2
  · have : q = (a, c) := by simpa using h
    rw [this]
    exact hc.kt t2
/-- trees, each over the thing ahead of it -/
structure TrI (cs : List (Addr × Ct)) (i : Nat) : Prop where
  f : Fam cs i
  n : cs.length = i + 1
  t : ∀ j, 1 ≤ j → j < cs.length → isT cs j
  l : isL cs 0
theorem TrI.low {cs : List (Addr × Ct)} {i : Nat} (h : TrI cs i) {j : Nat} (hj : j < cs.length) : isL cs j ∨ isT cs j := by
  by_cases h0 : j = 0
  · rw [h0]; exact .inl h.l
  · exact .inr (h.t j (by omega) hj)
theorem TrI.noV {cs : List (Addr × Ct)} {i : Nat} (h : TrI cs i) {q : Addr × Ct} (hq : q ∈ cs) {ps : List Nat} {r s : Nat} : q.2 ≠ .ver ps r s := fun e => by
  obtain ⟨j, hj, ej⟩ := List.getElem_of_mem hq
  have e1 := List.getElem?_eq_getElem hj
  rcases h.low hj with ⟨a, x, e2⟩ | ⟨a, x, e2⟩
  · rw [e1, ej] at e2
    rw [Option.some.inj e2] at e
    cases e
  · rw [e1, ej] at e2
    rw [Option.some.inj e2] at e
    cases e
theorem TrI.snoc {cs : List (Addr × Ct)} {i : Nat} (h : TrI cs i) (hi : i < 8) {a : Addr} {es : List (Str × Nat)} (h1 : es.length ≤ 20) (h2 : ∀ e ∈ es, LabOk e.1 ∧ e.2 ≤ i) (h3 : es.Pairwise (fun x y => x.1.cps.toList < y.1.cps.toList)) (h4 : ∃ e ∈ es, e.2 = i) : TrI (cs ++ [(a, .tree es)]) (i + 1) := by
  have hn := h.n
  have dp := h.f.dp.tree es
  have ok : CtOk (cs.map (·.2)) (dsOf (cs.map (·.2))) (.tree es) := ⟨h1, fun e he => ⟨(h2 e he).1, low_word (h.low (by have := (h2 e he).2; omega))⟩, h3, by omega⟩
  obtain ⟨e0, he0, ee0⟩ := h4
  refine ⟨(h.f.mono (Nat.le_succ i)).snocF ok dp fun q hq e => ?_, by rw [List.length_append, hn]; rfl, fun j hj1 hj2 => ?_, h.l.grow .snoc⟩
  · have := h.f.ent hq e e0 he0
    omega
  · rw [List.length_append] at hj2
    simp only [List.length_cons, List.length_nil] at hj2
    by_cases hj : j < cs.length
    · exact (h.t j hj1 hj).grow .snoc
    · have : j = cs.length := by omega
      rw [this]
      exact ⟨a, es, by simp⟩
/-- versions by stamps, from place b on -/
structure VrI (b : Nat) (cs : List (Addr × Ct)) (i : Nat) : Prop where
  f : Fam cs 8
  n : cs.length = b + i
  v : ∀ j, b ≤ j → j < cs.length → isV cs j
  s : ∀ q ∈ cs, ∀ ps r s, q.2 = .ver ps r s → s < i
theorem VrI.snoc {b : Nat} {cs : List (Addr × Ct)} {i r : Nat} (h : VrI b cs i) {a : Addr} {ps : List Nat} (h1 : ps.Pairwise (· < ·)) (h2 : ps.length ≤ 4) (h3 : ∀ p ∈ ps, b ≤ p ∧ p < cs.length) (hr : isT cs r) (hi : i ≤ 1000) : VrI b (cs ++ [(a, .ver ps r i)]) (i + 1) := by
  have hn := h.n
  have ok : CtOk (cs.map (·.2)) (dsOf (cs.map (·.2))) (.ver ps r i) := ⟨h1, h2, fun p hp => (h.v p (h3 p hp).1 (h3 p hp).2).word, hr.word, Nat.le_trans hi (by decide)⟩
  refine ⟨h.f.snocF ok (Nat.zero_le _) fun q hq e => ?_, by rw [List.length_append, hn]; rfl, fun j hj1 hj2 => ?_, fun q hq ps' r' s' e => ?_⟩
  · have := h.s q hq _ _ _ e
    omega
  · rw [List.length_append] at hj2
    simp only [List.length_cons, List.length_nil] at hj2
    by_cases hj : j < cs.length
    · exact (h.v j hj1 hj).grow .snoc
    · have : j = cs.length := by omega
      rw [this]
      exact ⟨a, ps, r, i, by simp⟩
  · rcases List.mem_append.mp hq with g | g
    · have := h.s q g _ _ _ e
      omega
    · have : q = (a, .ver ps r i) := by simpa using g
      rw [this] at e
      injection e with _ _ e3
      omega
theorem rgV_from {a b : Int} (x m : Nat) (ha : a = x) (hb : b = ((x + m : Nat) : Int)) : rgV a b = ((List.range m).map fun k => x + k).map nV := by
  unfold rgV
  rw [show (b - a).toNat = m by omega, List.map_map]
  refine List.map_congr_left fun k _ => ?_
  show V.int (a + (k : Nat)) = V.int ((x + k : Nat) : Int)
  rw [ha, Int.natCast_add]
local macro_rules | `(tactic| walk_at "s") => `(tactic| first
  | with_reducible refine w_lstRgF ?_
  | with_reducible refine w_rg1F ?_
  | with_reducible refine w_rg1F' ?_
  )
def ScnQ (H : Hp) (d c : Addr) (n : Nat) (Q : VK) : Prop := ∀ (H' : Hp) (th : Addr) (cs : List (Addr × Ct)), Deck H' d c n → KX d H H' → H th = none → ThAt H' th cs → Fam cs 8 → cs.length ≤ 400 → (∃ i, isV cs i) → Q (.ref th) H'
def spTall : Sp := fun vs H Q _ => ∃ (d c : Addr) (n : Nat), vs = [.ref d] ∧ Deck H d c n ∧ n + 600 ≤ MOSTD ∧ ScnQ H d c (n + 600) Q
def spThick : Sp := fun vs H Q _ => ∃ (d c : Addr) (n : Nat), vs = [.ref d] ∧ Deck H d c n ∧ n + 400 ≤ MOSTD ∧ ScnQ H d c (n + 400) Q
def spScene : Sp := fun vs H Q _ => ∃ (d c : Addr) (n m : Nat), vs = [.ref d, nV m] ∧ (m = 0 ∨ m = 1 ∨ m = 6) ∧ Deck H d c n ∧ n + 1700 ≤ MOSTD ∧ ScnQ H d c (n + 1700) Q
local macro_rules | `(tactic| walk_at "s") => `(tactic| first
  | with_reducible refine w_lstRgF ?_
  | with_reducible refine w_rg1F ?_
  | with_reducible refine w_rg1F' ?_
  )
theorem putTI_has {qs : List (Str × Int)} {z : Str} {v : Int} : ∃ q ∈ putTI qs z v, q.2 = v := by
  unfold putTI
  split
  · rename_i h
    obtain ⟨q, hq, e⟩ := List.any_eq_true.mp h
    have e' : q.1 = z := of_decide_eq_true e
    exact ⟨(q.1, v), List.mem_map.mpr ⟨q, hq, by rw [if_pos e']⟩, rfl⟩
  · exact ⟨(z, v), by simp, rfl⟩
/-- versions behind eight trees -/
def VerQ (H : Hp) (d c th : Addr) (n : Nat) (U : L2.St → Hp → Prop) : Prop := True
theorem TrI.start {a : Addr} {ls : List Str} (hl : ls.length ≤ 7) (ho : ∀ z ∈ ls, LineOk z) : TrI [(a, Ct.leaf ls)] 0 := by
  refine ⟨(show Fam ([] ++ [(a, Ct.leaf ls)]) 0 from Fam.snocF ⟨.nil, by simp, fun d hd => by cases hd⟩ ⟨by omega, ho⟩ (Nat.le_refl 0) (by simp)), rfl, fun j h1 h2 => by simp only [List.length_cons, List.length_nil] at h2; omega, ⟨a, ls, rfl⟩⟩
theorem TrI.vers {cs : List (Addr × Ct)} (h : TrI cs 8) : VrI 9 cs 0 := ⟨h.f, h.n, fun j h1 h2 => by have := h.n; omega, fun q hq ps r s e => absurd e (h.noV hq)⟩
section
variable {P : Program} {w : World} {K : PySem.W.Frag} {mg : Str → Option Value} {base : Heap} {C : Addr}
theorem ok_tall {f fM fD fT fL fR fS : Addr} {fd fdM fdD fdT fdL fdR fdS : FuncData} (T : Txt K mg) (F : Fun K "_law_tall" "_law_tall" s_law_tall f fd) (D_law_mixed : Df K mg "_law_mixed" s_law_mixed ["_law_cell", "_law_turn"] fM fdM) (D_law_draw : Df K mg "_law_draw" s_law_draw ["_law_deck_here", "_law_many"] fD fdD)
    (D_law_text : Df K mg "_law_text" s_law_text ["_law_deck_here", "_law_size"] fT fdT) (D_law_label : Df K mg "_law_label" s_law_label ["_law_deck_here"] fL fdL) (D_law_rows : Df K mg "_law_rows" s_law_rows ["_law_deck_here", "_law_elder"] fR fdR) (D_law_some : Df K mg "_law_some" s_law_some ["_law_deck_here", "_law_names", "_law_count"] fS fdS) : FnOk P w K mg base CX0 5 f fd ["_law_deck_here"] spTall := by
  have G_law_draw : FnOk P w K mg base CX0 2 fD fdD ["_law_deck_here", "_law_many"] spDraw := ok_draw T D_law_draw.fn D_law_mixed
  have G_law_rows : FnOk P w K mg base CX0 4 fR fdR ["_law_deck_here", "_law_elder"] spRows := ok_rows T D_law_rows.fn D_law_mixed D_law_draw D_law_text
  have G_law_label : FnOk P w K mg base CX0 3 fL fdL ["_law_deck_here"] spLabel := ok_label T D_law_label.fn D_law_mixed D_law_draw
  have G_law_some : FnOk P w K mg base CX0 3 fS fdS ["_law_deck_here", "_law_names", "_law_count"] spSome := ok_some T D_law_some.fn D_law_mixed D_law_draw
  refine F.ok sc_law_tall (fun vs H Q E h => ?_) (fun cdv A outer s H vs Q E hr h => ?_)
  · obtain ⟨d, c, n, rfl, _⟩ := h
    rfl
  · obtain ⟨d, c, n, rfl, D0, hn, q⟩ := h
    have hu := hu_of hr
    refine ⟨_,
      (pss_cons
        (ps_set (i := 1) sc_law_tall.nd rfl (.inl rfl) (pe_lst (pa_cons (pe_tup (pa_cons pe_str (pa_cons (pe_call G_law_rows (hr.mono (by omega)) (by rfl) D_law_rows.g D_law_rows.fn.kp D_law_rows.b .nil pass0 (pa_cons (pv 0) (pa_cons (pe_tup pa_nil) pa_nil))) pa_nil))) pa_nil)))
      (pss_cons
        (ps_for PassesOwn.never rfl (pi_range1 (by rfl) T.n_range (pa_cons pe_int pa_nil)) (pg_name (i := 2) sc_law_tall.nd rfl (.inl rfl))
          (pss_cons
            (ps_set (i := 3) sc_law_tall.nd rfl (.inl rfl) (pe_disp (pps_cons (pe_call G_law_label (hr.mono (by omega)) (by rfl) D_law_label.g D_law_label.fn.kp D_law_label.b .nil pass0 (pa_cons (pv 0) pa_nil)) (pe_call G_law_draw (hr.mono (by omega)) (by rfl) D_law_draw.g D_law_draw.fn.kp D_law_draw.b .nil pass0 (pa_cons (pv 0) (pa_cons (pe_op op_add (pv 2) pe_int) pa_nil))) pps_nil) (by rfl) (by rfl) (fun z => by cases z) (by decide)))
          (pss_cons
            (ps_dput hu (pv 3) (pe_call G_law_label (hr.mono (by omega)) (by rfl) D_law_label.g D_law_label.fn.kp D_law_label.b .nil pass0 (pa_cons (pv 0) pa_nil)) (pv 2) rfl)
          (pss_one
            (ps_expr (pe_bm PySem.F.plainAttrs_list PySem.F.slot_list_append PySem.F.type_list_append mt_append (pv 1) (pa_cons (pe_tup (pa_cons pe_str (pa_cons (pe_callTy (r := rTupOf K) c_tupOf (by rfl) T.n_tuple (by decide +kernel) (pa_cons (pe_callB (r := rSortI) (c_sortI rfl hr.units) (by rfl) T.n_sorted (by decide +kernel) (pa_cons (pe_bm0 PySem.F.plainAttrs_dict PySem.F.slot_dict_items PySem.F.type_dict_items mt_itemsK (pv 3)) pa_nil)) pa_nil)) pa_nil))) pa_nil)))))))
      (pss_cons
        (ps_for PassesOwn.never rfl (pi_range1 (by rfl) T.n_range (pa_cons (pe_op op_add pe_int (pe_call G_law_draw (hr.mono (by omega)) (by rfl) D_law_draw.g D_law_draw.fn.kp D_law_draw.b .nil pass0 (pa_cons (pv 0) (pa_cons pe_int pa_nil)))) pa_nil)) (pg_name (i := 2) sc_law_tall.nd rfl (.inl rfl))
          (pss_cons
            (ps_set (i := 4) sc_law_tall.nd rfl (.inl rfl) (pe_call G_law_some (hr.mono (by omega)) (by rfl) D_law_some.g D_law_some.fn.kp D_law_some.b .nil pass0 (pa_cons (pv 0) (pa_cons (pe_listRg rfl (by rfl) T.n_list (prg_2 (by rfl) T.n_range pe_int (pe_callB (r := rLen K) c_len (by rfl) T.n_len (by decide +kernel) (pa_cons (pv 1) pa_nil)))) (pa_cons pe_int pa_nil)))))
          (pss_one
            (ps_expr (pe_bm PySem.F.plainAttrs_list PySem.F.slot_list_append PySem.F.type_list_append mt_append (pv 1) (pa_cons (pe_tup (pa_cons pe_str (pa_cons (pv 4) (pa_cons (pe_op op_sub pe_int (pe_call G_law_draw (hr.mono (by omega)) (by rfl) D_law_draw.g D_law_draw.fn.kp D_law_draw.b .nil pass0 (pa_cons (pv 0) (pa_cons pe_int pa_nil)))) (pa_cons (pv 2) pa_nil))))) pa_nil))))))
      (pss_one
        (ps_ret (pv 1))))))
      , ?_⟩
    rw [show L2.start N_law_tall [V.ref d] = [some (.ref d), none, none, none, none] from rfl]
    walk_at "x"
    refine w_new fun r0 H1 hr0 e1 k1 => ?_
    have D1 : Deck H1 d c n := D0.kp (M := []) (Kp.of k1) (by simp) (by simp)
    walk_at "g"
    refine ⟨d, c, r0, n, [], rfl, D1, by omega, e1, by simp, by simp, fun H2 r1 ls D2 x2 er1 hll hlo => ?_⟩
    walk_at "g"
    refine w_new fun a0 H3 ha0 e3 k3 => ?_
    walk_at "g"
    refine w_new fun th H4 hth4 e4 k4 => ?_
    have x04 : KX d H H4 := ((KX.of k1).trans x2).trans (KX.of (Same.trans k3 k4))
    have hth : H th = none := by
      cases e : H th with
      | none => rfl
      | some o =>
        have h3 := k3.free hth4
        by_cases hd : th = d
        · obtain ⟨⟨xs, e'⟩, _⟩ := D2.at
          rw [hd, e'] at h3
          cases h3
        · rw [x2.p _ _ (by simpa using hd) (k1 _ _ e)] at h3
          cases h3
    obtain ⟨nthd, nthc⟩ := D0.ne1 hth
    have D4 : Deck H4 d c (n + 300) := D2.kp (M := []) (Kp.of (Same.trans k3 k4)) (by simp) (by simp)
    have T4 : ThAt H4 th [(a0, .leaf ls)] := ⟨e4, fun q hq => by
      have : q = (a0, Ct.leaf ls) := by simpa using hq
      rw [this]
      exact ⟨r1, k4 _ _ e3, k4 _ _ (k3 _ _ er1)⟩⟩
    walk_at "g"
    try refine w_rng1' (by omega) (by omega) ?_
    refine lp_range (fun i σ H' => (∃ y3 y4 : Option V, σ = [some (.ref d), some (.ref th), y3, y4, none]) ∧ Deck H' d c (n + 300 + 30 * i) ∧ KX d H H' ∧ ∃ cs, ThAt H' th cs ∧ TrI cs i) ⟨⟨_, _, rfl⟩, D4, x04, _, T4, .start hll hlo⟩ ?_ ?_
    · rintro i σ H5 hi ⟨⟨y3, y4, rfl⟩, D5, x5, cs, T5, I5⟩
      have hi8 : i < 8 := by omega
      have hl5 := I5.n
      walk_at "g"
      refine w_disp fun e H6 he e6 k6 => ?_
      obtain ⟨ned, nec⟩ := D5.ne1 he
      have D6 : Deck H6 d c _ := D5.kp (M := []) (Kp.of k6) (by simp) (by simp)
      have T6 := T5.same k6
      have nte : th ≠ e := ne_of_none T5.at' he
      walk_at "g"
      refine ⟨d, c, _, rfl, D6, by omega, fun H7 z1 D7 k7 t7 hz1 => ?_⟩
      walk_at "g"
      refine w_draw D7 (by omega) (by omega) (by omega) fun u H8 hu8 D8 o8 => ?_
      have e8 := o8.get ned (k7 _ _ (by simpa using ned) e6)
      walk_at "g"
      refine w_dispE [((Sum.inr z1 : Key), V.int (u : Int))] e8 rfl (show (1 : Nat) ≤ 15 by decide) fun H9 e9 o9 => ?_
      have e9' : H9 e = some (.dK (kvTI [(z1, (u : Int))])) := by rw [e9]; rfl
      have D9 : Deck H9 d c _ := D8.kp (M := [e]) (o9.kp (by simp)) (by simpa using ned.symm) (by simpa using nec.symm)
      have x9 : KX d H5 H9 := (((KX.of k6).trans (D6.kxK D7 k7)).trans (D7.kx D8 o8)).offN o9 he
      walk_at "g"
      refine ⟨d, c, _, rfl, D9, by omega, fun H10 z2 D10 k10 t10 hz2 => ?_⟩
      have e10 := k10 _ _ (by simpa using ned) e9'
      have x10 : KX d H5 H10 := x9.trans (D9.kxK D10 k10)
      walk_at "g"
      refine w_dputS e10 (show (1 : Nat) < sizeLine by decide) fun H11 e11 o11 => ?_
      rw [putTI_kv] at e11
      have x11 : KX d H5 H11 := x10.offN o11 he
      have D11 : Deck H11 d c _ := D10.kp (M := [e]) (o11.kp (by simp)) (by simpa using ned.symm) (by simpa using nec.symm)
      have T11 := T5.kp x11.p x11.t (by simpa using nthd)
      have hth11 := T11.at'
      walk_at "g"
      refine w_bm0D ?_
      walk_at "g"
      refine w_tyDK e11 ?_
      refine w_itemsK e11 fun v H12 hv12 e12 k12 => ?_
      walk_at "g"
      refine w_sortI e12 (k12 _ _ e11) (putTI_nd (by simp)) fun H13 p ts k13 hp13 e13 hts hperm hsrt => ?_
      walk_at "g"
      refine w_tupL (.of e13) fun t H14 ht14 e14 k14 => ?_
      walk_at "g"
      refine w_new fun av H15 hav e15 k15 => ?_
      have k11_15 := Same.trans k12 (Same.trans k13 (Same.trans k14 k15))
      have T15 := T11.same k11_15
      have hth15 := T15.at'
      have D15 : Deck H15 d c _ := D11.kp (M := []) (Kp.of k11_15) (by simp) (by simp)
      have hval : ∀ b ∈ ts, LabOk b.2.1 ∧ ∃ m : Nat, b.2.2 = m ∧ m ≤ i := fun b hb => by
        rcases putTI_mem (hperm.mem_iff.mp (List.mem_map_of_mem hb)) with h | h
        · have : b.2 = (z1, (u : Int)) := by simpa using h
          rw [this]
          exact ⟨hz1, u, rfl, by omega⟩
        · rw [h]
          exact ⟨hz2, i, by simp, Nat.le_refl _⟩
      have hlen : ts.length ≤ 2 := by
        have h1 := hperm.length_eq
        rw [List.length_map] at h1
        rw [h1]
        exact Nat.le_trans putTI_len (by simp)
      have ct15 : CtAt H15 av (.tree ((ts.map fun b => (b.1, b.2.1, b.2.2.toNat)).map (·.2))) := by
        refine ⟨t, ts.map fun b => (b.1, b.2.1, b.2.2.toNat), e15, by rw [k15 _ _ e14, List.map_map]; rfl, rfl, fun q' hq' => ?_⟩
        obtain ⟨b, hb, rfl⟩ := List.mem_map.mp hq'
        obtain ⟨_, m, em, _⟩ := hval b hb
        have := k15 _ _ (k14 _ _ (hts b hb))
        show H15 b.1 = some (.tup [.str b.2.1, .int ((b.2.2.toNat : Nat) : Int)])
        rw [this, em]
        rfl
      walk_at "g"
      refine w_app hth15 (by rw [List.length_map]; exact small1kl (by omega)) fun H16 e16 o16 => ?_
      walk_at "g"
      refine ⟨⟨_, _, rfl⟩, (D15.kp (M := [th]) (o16.kp (by simp)) (by simpa using nthd.symm) (by simpa using nthc.symm)).mono (by omega), ((x5.trans x11).trans (KX.of k11_15)).offN o16 hth, _, grow_app T15 ct15 e16 o16, I5.snoc hi8 ?_ ?_ ?_ ?_⟩
      · rw [List.length_map, List.length_map]
        omega
      · intro e' he'
        obtain ⟨q', hq', rfl⟩ := List.mem_map.mp he'
        obtain ⟨b, hb, rfl⟩ := List.mem_map.mp hq'
        obtain ⟨g1, m, em, hm⟩ := hval b hb
        exact ⟨g1, by show b.2.2.toNat ≤ i; rw [em]; exact hm⟩
      · rw [List.pairwise_map, List.pairwise_map]
        exact hsrt
      · obtain ⟨q', hq', e2⟩ := putTI_has (qs := [(z1, (u : Int))]) (z := z2) (v := 0 + (i : Int))
        obtain ⟨b, hb, e3⟩ := List.mem_map.mp (hperm.mem_iff.mpr hq')
        refine ⟨(b.2.1, b.2.2.toNat), List.mem_map.mpr ⟨(b.1, b.2.1, b.2.2.toNat), List.mem_map.mpr ⟨b, hb, rfl⟩, rfl⟩, ?_⟩
        show b.2.2.toNat = i
        rw [e3, e2]
        omega
    · rintro σ H5 ⟨⟨y3, y4, rfl⟩, D5, x5, cs, T5, I5⟩
      have I8 : TrI cs 8 := I5
      have D5' : Deck H5 d c (n + 540) := D5.mono (by show n + 300 + 30 * 8 ≤ _; omega)
      walk_at "g"
      refine w_draw D5' (by omega) (by decide) (by decide) fun m H6 hm D6 o6 => ?_
      have x6 := x5.trans (D5'.kx D6 o6)
      have T6 := T5.kp (M := [d]) (o6.kp (by simp)) (D5'.kx D6 o6).t (by simpa using nthd)
      walk_at "g"
      try refine w_rng1' (by omega) (by omega) ?_
      refine lp_range (fun i σ H' => (∃ y5 y6 : Option V, σ = [some (.ref d), some (.ref th), y5, y4, y6]) ∧ Deck H' d c (n + 541 + 3 * i) ∧ KX d H H' ∧ ∃ cs, ThAt H' th cs ∧ VrI 9 cs i ∧ ∀ j, 1 ≤ j → j ≤ 8 → isT cs j) ⟨⟨_, _, rfl⟩, D6, x6, cs, T6, I8.vers, fun j h1 h2 => I8.t j h1 (by have := I8.n; omega)⟩ ?_ ?_
      · rintro i σ H7 hi ⟨⟨y5, y6, rfl⟩, D7, x7, cs7, T7, V7, ht7⟩
        have hi3 : i < 3 := by omega
        have hl7 := V7.n
        have hth7 := T7.at'
        walk_at "g"
        refine ⟨⟨by omega, by omega, by omega, by rw [List.length_map]; omega, by rw [List.length_map]; omega⟩, ?_⟩
        refine w_new fun l8 H8 hl8 e8 k8 => ?_
        rw [rgV_from 9 i (by omega) (by rw [List.length_map, hl7])] at e8
        have D8 : Deck H8 d c _ := D7.kp (M := []) (Kp.of k8) (by simp) (by simp)
        obtain ⟨nl8d, nl8c⟩ := D7.ne1 hl8
        walk_at "g"
        refine ⟨d, c, l8, _, 2, _, rfl, D8, by omega, e8, nl8d, nl8c, by rw [List.length_map, List.length_range]; omega, by omega, fun H9 t ns D9 x9 e9 hup hnl hns => ?_⟩
        have x79 := (KX.of (d := d) k8).trans x9
        have T9 := T7.kp x79.p x79.t (by simpa using nthd)
        have hth9 := T9.at'
        walk_at "g"
        refine w_draw D9 (by omega) (by decide) (by decide) fun rr H10 hrr D10 o10 => ?_
        have x10 := D9.kx D10 o10
        have T10 := T9.kp x10.p x10.t (by simpa using nthd)
        walk_at "g"
        refine w_new fun av H11 hav e11 k11 => ?_
        have T11 := T10.same k11
        have hth11 := T11.at'
        rw [show 0 + (i : Int) = (i : Int) by omega, show 8 - (rr : Int) = ((8 - rr : Nat) : Int) by omega] at e11
        have ct11 : CtAt H11 av (.ver ns (8 - rr) i) := ⟨t, e11, k11 _ _ (x10.t _ _ e9)⟩
        have D11 : Deck H11 d c _ := D10.kp (M := []) (Kp.of k11) (by simp) (by simp)
        walk_at "g"
        refine w_app hth11 (by rw [List.length_map]; exact small1kl (by omega)) fun H12 e12 o12 => ?_
        walk_at "g"
        refine ⟨⟨_, _, rfl⟩, (D11.kp (M := [th]) (o12.kp (by simp)) (by simpa using nthd.symm) (by simpa using nthc.symm)).mono (by omega), (((x7.trans x79).trans x10).trans (KX.of k11)).offN o12 hth, _, grow_app T11 ct11 e12 o12, V7.snoc hup (by omega) (fun p hp => ?_) (ht7 _ (by omega) (by omega)) (by omega), fun j h1 h2 => (ht7 j h1 h2).grow .snoc⟩
        obtain ⟨k, hk, rfl⟩ := List.mem_map.mp (hns p hp)
        have := List.mem_range.mp hk
        omega
      · rintro σ H7 ⟨⟨y5, y6, rfl⟩, D7, x7, cs7, T7, V7, ht7⟩
        have hl7 := V7.n
        walk_at "g"
        exact q H7 th cs7 (D7.mono (by omega)) x7 hth T7 V7.f (by omega) ⟨9, V7.v 9 (by omega) (by omega)⟩
end
local macro_rules | `(tactic| walk_at "s") => `(tactic| first
  | with_reducible refine w_lstRgF ?_
  | with_reducible refine w_rg1F ?_
  | with_reducible refine w_rg1F' ?_
  )
theorem list_choose {α β : Type} : ∀ (ys : List α) (R : Nat → α → β → Prop), (∀ i y, ys[i]? = some y → ∃ b, R i y b) → ∃ bs : List β, bs.length = ys.length ∧ ∀ i y b, ys[i]? = some y → bs[i]? = some b → R i y b
  | [], _, _ => ⟨[], rfl, fun i y b h => by cases h⟩
  | y :: ys, R, h => by
    obtain ⟨b, hb⟩ := h 0 y rfl
    obtain ⟨bs, h1, h2⟩ := list_choose ys (fun i => R (i + 1)) fun i z hz => h (i + 1) z hz
    refine ⟨b :: bs, by rw [List.length_cons, List.length_cons, h1], fun i z c hz hc => ?_⟩
    cases i with
    | zero =>
      cases hz
      cases hc
      exact hb
    | succ i => exact h2 i z c hz hc
theorem KX.none' {d L : Addr} {H H' : Hp} (k : KX d H H') (n : L ≠ d) (h : H' L = none) : H L = none := by
  cases e : H L with
  | none => rfl
  | some o =>
    rw [k.p _ _ (by simpa using n) e] at h
    cases h
theorem ixN_nat {n j : Nat} (h : j < n) : ixN n (j : Int) = some j := by
  unfold ixN
  rw [if_pos (by omega), if_pos (by omega)]
  simp
abbrev LTS : Str := Str.ofString "abcdefghijklmnopqrst"
theorem cut20 : ∀ m : Nat, m ≤ 20 → (L2.cutS LTS none (some (m : Int))).cps = ((List.range m).map fun i => 97 + i).toArray := by decide +kernel
theorem lab20 : ∀ i < 20, LabOk ⟨#[97 + i]⟩ := by
  intro i hi
  refine ⟨Nat.le_refl 1, show (1 : Nat) ≤ 8 by decide, fun c hc => ?_⟩
  have e : c = 97 + i := by simpa using hc
  rw [e]
  have : ∀ j < 20, 97 + j ∈ (Str.ofString "abcdefghijklmnopqrstuvwxyz").cps.toList := by decide +kernel
  exact this i hi
section
variable {P : Program} {w : World} {K : PySem.W.Frag} {mg : Str → Option Value} {base : Heap} {C : Addr}
theorem ok_thick {f fM fD fT fR fS : Addr} {fd fdM fdD fdT fdR fdS : FuncData} (T : Txt K mg) (F : Fun K "_law_thick" "_law_thick" s_law_thick f fd) (D_law_mixed : Df K mg "_law_mixed" s_law_mixed ["_law_cell", "_law_turn"] fM fdM) (D_law_draw : Df K mg "_law_draw" s_law_draw ["_law_deck_here", "_law_many"] fD fdD)
    (D_law_text : Df K mg "_law_text" s_law_text ["_law_deck_here", "_law_size"] fT fdT) (D_law_rows : Df K mg "_law_rows" s_law_rows ["_law_deck_here", "_law_elder"] fR fdR) (D_law_some : Df K mg "_law_some" s_law_some ["_law_deck_here", "_law_names", "_law_count"] fS fdS) : FnOk P w K mg base CX0 5 f fd ["_law_deck_here"] spThick := by
  have G_law_draw : FnOk P w K mg base CX0 2 fD fdD ["_law_deck_here", "_law_many"] spDraw := ok_draw T D_law_draw.fn D_law_mixed
  have G_law_rows : FnOk P w K mg base CX0 4 fR fdR ["_law_deck_here", "_law_elder"] spRows := ok_rows T D_law_rows.fn D_law_mixed D_law_draw D_law_text
  have G_law_some : FnOk P w K mg base CX0 3 fS fdS ["_law_deck_here", "_law_names", "_law_count"] spSome := ok_some T D_law_some.fn D_law_mixed D_law_draw
  refine F.ok sc_law_thick (fun vs H Q E h => ?_) (fun cdv A outer s H vs Q E hr h => ?_)
  · obtain ⟨d, c, n, rfl, _⟩ := h
    rfl
  · obtain ⟨d, c, n, rfl, D0, hn, q⟩ := h
    refine ⟨_,
      (pss_cons
        (ps_set (i := 1) sc_law_thick.nd rfl (.inl rfl) (pe_lst (pa_cons (pe_tup (pa_cons pe_str (pa_cons (pe_call G_law_rows (hr.mono (by omega)) (by rfl) D_law_rows.g D_law_rows.fn.kp D_law_rows.b .nil pass0 (pa_cons (pv 0) (pa_cons (pe_tup pa_nil) pa_nil))) pa_nil))) pa_nil)))
      (pss_cons
        (ps_for PassesOwn.never rfl (pi_range1 (by rfl) T.n_range (pa_cons pe_int pa_nil)) (pg_name (i := 2) sc_law_thick.nd rfl (.inr rfl))
          (pss_cons
            (ps_set (i := 3) sc_law_thick.nd rfl (.inl rfl) (pe_op op_add pe_int (pe_call G_law_draw (hr.mono (by omega)) (by rfl) D_law_draw.g D_law_draw.fn.kp D_law_draw.b .nil pass0 (pa_cons (pv 0) (pa_cons pe_int pa_nil)))))
          (pss_cons
            (ps_setLc (i := 4) (own := [("_law_label_here", 6)]) (g := (gName 6)) rfl sc_law_thick.nd rfl rfl (sw_true rfl rfl rfl (by decide +kernel)) (pi_str (pe_slice sl_str pe_str po_none (po_some (pv 3)))) (blkOk_by (own := [("_law_label_here", 6)]) (N := N_law_thick) (sc := defScope s_law_thick) (by decide +kernel)) (fun _ _ _ _ _ => (pg_name (i := 6) sc_law_thick.nd rfl (.inl rfl))) (fun _ _ _ _ _ => pts_nil) (fun _ _ _ _ _ => (pe_tup (pa_cons (pv 6) (pa_cons (pv 2) pa_nil)))))
          (pss_cons
            (ps_set (i := 5) sc_law_thick.nd rfl (.inl rfl) (pe_call G_law_draw (hr.mono (by omega)) (by rfl) D_law_draw.g D_law_draw.fn.kp D_law_draw.b .nil pass0 (pa_cons (pv 0) (pa_cons (pv 3) pa_nil))))
          (pss_cons
            (ps_asg (pe_tup (pa_cons (pe_ix (r := rIxT K) ix_tup (pe_ix (r := rIxL K) ix_list (pv 4) (pv 5) (fun _ _ => rfl)) pe_int (fun _ _ => rfl)) (pa_cons (pe_call G_law_draw (hr.mono (by omega)) (by rfl) D_law_draw.g D_law_draw.fn.kp D_law_draw.b .nil pass0 (pa_cons (pv 0) (pa_cons (pe_op op_add (pv 2) pe_int) pa_nil))) pa_nil))) (pg_sub (pv 4) (pv 5) set_list))
          (pss_one
            (ps_expr (pe_bm PySem.F.plainAttrs_list PySem.F.slot_list_append PySem.F.type_list_append mt_append (pv 1) (pa_cons (pe_tup (pa_cons pe_str (pa_cons (pe_callTy (r := rTupOf K) c_tupOf (by rfl) T.n_tuple (by decide +kernel) (pa_cons (pv 4) pa_nil)) pa_nil))) pa_nil)))))))))
      (pss_cons
        (ps_for PassesOwn.never rfl (pi_range1 (by rfl) T.n_range (pa_cons (pe_op op_add pe_int (pe_call G_law_draw (hr.mono (by omega)) (by rfl) D_law_draw.g D_law_draw.fn.kp D_law_draw.b .nil pass0 (pa_cons (pv 0) (pa_cons pe_int pa_nil)))) pa_nil)) (pg_name (i := 2) sc_law_thick.nd rfl (.inr rfl))
          (pss_one
            (ps_expr (pe_bm PySem.F.plainAttrs_list PySem.F.slot_list_append PySem.F.type_list_append mt_append (pv 1) (pa_cons (pe_tup (pa_cons pe_str (pa_cons (pe_call G_law_some (hr.mono (by omega)) (by rfl) D_law_some.g D_law_some.fn.kp D_law_some.b .nil pass0 (pa_cons (pv 0) (pa_cons (pe_listRg rfl (by rfl) T.n_list (prg_2 (by rfl) T.n_range pe_int (pe_callB (r := rLen K) c_len (by rfl) T.n_len (by decide +kernel) (pa_cons (pv 1) pa_nil)))) (pa_cons pe_int pa_nil)))) (pa_cons (pe_op op_sub pe_int (pe_call G_law_draw (hr.mono (by omega)) (by rfl) D_law_draw.g D_law_draw.fn.kp D_law_draw.b .nil pass0 (pa_cons (pv 0) (pa_cons pe_int pa_nil)))) (pa_cons (pv 2) pa_nil))))) pa_nil)))))
      (pss_one
        (ps_ret (pv 1))))))
      , ?_⟩
    rw [show L2.start N_law_thick [V.ref d] = [some (.ref d), none, none, none, none, none, none] from rfl]
    walk_at "x"
    refine w_new fun r0 H1 hr0 e1 k1 => ?_
    have D1 : Deck H1 d c n := D0.kp (M := []) (Kp.of k1) (by simp) (by simp)
    walk_at "g"
    refine ⟨d, c, r0, n, [], rfl, D1, by omega, e1, by simp, by simp, fun H2 r1 ls D2 x2 er1 hll hlo => ?_⟩
    walk_at "g"
    refine w_new fun a0 H3 ha0 e3 k3 => ?_
    walk_at "g"
    refine w_new fun th H4 hth4 e4 k4 => ?_
    have x04 : KX d H H4 := ((KX.of k1).trans x2).trans (KX.of (Same.trans k3 k4))
    have hth : H th = none := by
      cases e : H th with
      | none => rfl
      | some o =>
        have h3 := k3.free hth4
        by_cases hd : th = d
        · obtain ⟨⟨xs, e'⟩, _⟩ := D2.at
          rw [hd, e'] at h3
          cases h3
        · rw [x2.p _ _ (by simpa using hd) (k1 _ _ e)] at h3
          cases h3
    obtain ⟨nthd, nthc⟩ := D0.ne1 hth
    have D4 : Deck H4 d c (n + 300) := D2.kp (M := []) (Kp.of (Same.trans k3 k4)) (by simp) (by simp)
    have T4 : ThAt H4 th [(a0, .leaf ls)] := ⟨e4, fun q hq => by
      have : q = (a0, Ct.leaf ls) := by simpa using hq
      rw [this]
      exact ⟨r1, k4 _ _ e3, k4 _ _ (k3 _ _ er1)⟩⟩
    walk_at "g"
    try refine w_rng1' (by omega) (by omega) ?_
    refine lp_range (fun i σ H' => (∃ y3 y4 y5 y6 : Option V, σ = [some (.ref d), some (.ref th), y3, y4, y5, y6, none]) ∧ Deck H' d c (n + 300 + 3 * i) ∧ KX d H H' ∧ ∃ cs, ThAt H' th cs ∧ TrI cs i) ⟨⟨_, _, _, _, rfl⟩, D4, x04, _, T4, .start hll hlo⟩ ?_ ?_
    · rintro i σ H5 hi ⟨⟨y3, y4, y5, y6, rfl⟩, D5, x5, cs, T5, I5⟩
      have hi8 : i < 8 := by omega
      have hl5 := I5.n
      walk_at "g"
      refine w_draw D5 (by omega) (by decide) (by decide) fun u H6 hu6 D6 o6 => ?_
      have x6 := D5.kx D6 o6
      have ecast : (6 + (u : Int)) = ((6 + u : Nat) : Int) := by omega
      walk_at "g"
      refine ⟨_, rfl, by decide, ?_⟩
      rw [ecast]
      have hcut := cut20 (6 + u) (by omega)
      revert hcut
      generalize hz : L2.cutS LTS none (some ((6 + u : Nat) : Int)) = z
      intro hcut
      have hsz : z.cps.size = 6 + u := by rw [hcut]; simp
      walk_at "g"
      refine lcp_gen (walk_str z) [] (fun j y H' => ∃ a, y = V.ref a ∧ H' a = some (.tup [.str ⟨#[97 + j]⟩, nV i])) (fun _ _ => True) (by omega) (fun j y Ha Hb k ⟨a, e, h⟩ => ⟨a, e, k _ _ h⟩) (fun _ _ _ _ _ h => h) (fun _ _ _ _ => trivial) trivial ?_ (by simp) ?_
      · rintro j x Ha Hb R hj ka ta _ ⟨rfl, cc, hc, rfl⟩ hR
        have ec : cc = 97 + j := by
          rw [hcut, List.getElem?_toArray, List.getElem?_map, List.getElem?_range (by omega)] at hc
          exact (Option.some.inj hc).symm
        subst ec
        refine w_name ⟨rfl, ?_⟩
        walk_at "g"
        refine w_new fun a Hc ha ea kc => ?_
        refine hR _ _ ⟨a, rfl, ?_⟩ (Kp.of kc) (KT.of kc) trivial
        rw [ea]
        show some (HO.tup [_, V.int (0 + (i : Int))]) = _
        rw [Int.zero_add]
      · intro L H7 ys hys hP hL k7 t7 _ eL
        have x7 : KX d H6 H7 := KX.of k7.same
        obtain ⟨as, has, hR⟩ := list_choose ys (fun j y (a : Addr) => y = V.ref a ∧ H7 a = some (.tup [.str ⟨#[97 + j]⟩, nV i])) hP
        have hys6 : ys.length = 6 + u := by rw [hys, hsz]
        have eys : ys = as.map V.ref := by
          refine List.ext_getElem? fun j => ?_
          rw [List.getElem?_map]
          cases hy : ys[j]? with
          | none =>
            rw [List.getElem?_eq_none_iff] at hy
            rw [List.getElem?_eq_none (by omega)]
            rfl
          | some y =>
            have hj := (List.getElem?_eq_some_iff.mp hy).1
            have hj' : j < as.length := by omega
            rw [List.getElem?_eq_getElem hj']
            rw [(hR j y as[j] hy (List.getElem?_eq_getElem hj')).1]
            rfl
        have D7 : Deck H7 d c _ := D6.kp (M := []) k7 (by simp) (by simp)
        obtain ⟨nLd, nLc⟩ := D6.ne1 hL
        walk_at "g"
        refine w_draw D7 (by omega) (by omega) (by omega) fun at' H8 hat D8 o8 => ?_
        have x8 := D7.kx D8 o8
        have eL8 := o8.get nLd eL
        have hat' : at' < as.length := by omega
        have hya : ys[at']? = some (V.ref as[at']) := by rw [eys, List.getElem?_map, List.getElem?_eq_getElem hat']; rfl
        have atL : atI ys (at' : Int) = some (.ref as[at']) := atI_nat hya
        have hea := x8.t _ _ (hR at' _ _ hya (List.getElem?_eq_getElem hat')).2
        walk_at "g"
        refine w_draw D8 (by omega) (by omega) (by omega) fun v H9 hv9 D9 o9 => ?_
        have x9 := D8.kx D9 o9
        have eL9 := o9.get nLd eL8
        walk_at "g"
        refine w_new fun na H10 hna e10 k10 => ?_
        have eL10 := k10 _ _ eL9
        walk_at "g"
        refine w_setL (j := at') eL10 (ixN_nat (by omega)) rfl fun H11 e11 o11 => ?_
        have x5_11 : KX d H5 H11 := by
          have hL5 : H5 L = none := (D5.kx D6 o6).none' nLd hL
          exact ((((x6.trans x7).trans x8).trans x9).trans (KX.of k10)).offN o11 hL5
        have T11 := T5.kp x5_11.p x5_11.t (by simpa using nthd)
        have hth11 := T11.at'
        have D11 : Deck H11 d c _ := (D9.kp (M := []) (Kp.of k10) (by simp) (by simp)).kp (M := [L]) (o11.kp (by simp)) (by simpa using nLd.symm) (by simpa using nLc.symm)
        generalize hqs : ((List.range (6 + u)).map fun j => if j = at' then (na, (⟨#[97 + j]⟩ : Str), v) else (as.getD j 0, (⟨#[97 + j]⟩ : Str), i)) = qs
        have hql : qs.length = 6 + u := by rw [← hqs, List.length_map, List.length_range]
        have hqi : ∀ j, j < 6 + u → qs[j]? = some (if j = at' then (na, (⟨#[97 + j]⟩ : Str), v) else (as.getD j 0, (⟨#[97 + j]⟩ : Str), i)) := fun j hj => by
          rw [← hqs, List.getElem?_map, List.getElem?_range hj]
          rfl
        have hqm : ∀ q' ∈ qs, ∃ j, j < 6 + u ∧ q' = (if j = at' then (na, (⟨#[97 + j]⟩ : Str), v) else (as.getD j 0, (⟨#[97 + j]⟩ : Str), i)) := fun q' hq' => by
          rw [← hqs] at hq'
          obtain ⟨j, hj, rfl⟩ := List.mem_map.mp hq'
          exact ⟨j, List.mem_range.mp hj, rfl⟩
        have eset : ys.set at' (V.ref na) = qs.map fun q => V.ref q.1 := by
          refine List.ext_getElem? fun j => ?_
          by_cases hj : j < 6 + u
          · rw [List.getElem?_map, hqi j hj, List.getElem?_set]
            by_cases hja : at' = j
            · rw [if_pos hja, if_pos (by omega), if_pos hja.symm]
              rfl
            · rw [if_neg hja, if_neg (fun z => hja z.symm), eys, List.getElem?_map, List.getElem?_eq_getElem (by omega)]
              show some (V.ref as[j]) = some (V.ref (as.getD j 0))
              rw [List.getD_eq_getElem?_getD, List.getElem?_eq_getElem (by omega)]
              rfl
          · rw [List.getElem?_eq_none (by rw [List.length_set]; omega), List.getElem?_eq_none (by rw [List.length_map]; omega)]
        rw [eset] at e11
        have hna11 : na ≠ L := (ne_of_none eL9 hna).symm
        have ent11 : ∀ q' ∈ qs, H11 q'.1 = some (.tup [.str q'.2.1, nV q'.2.2]) := fun q' hq' => by
          obtain ⟨j, hj, rfl⟩ := hqm q' hq'
          by_cases hja : j = at'
          · rw [if_pos hja, hja]
            exact o11.get hna11 e10
          · rw [if_neg hja]
            have hja' : j < as.length := by omega
            have e7 := (hR j _ _ (show ys[j]? = some (V.ref as[j]) by rw [eys, List.getElem?_map, List.getElem?_eq_getElem hja']; rfl) (List.getElem?_eq_getElem hja')).2
            show H11 (as.getD j 0) = _
            rw [List.getD_eq_getElem?_getD, List.getElem?_eq_getElem hja']
            exact KT.off o11 eL10 _ _ (k10 _ _ (x9.t _ _ (x8.t _ _ e7)))
        walk_at "g"
        refine w_tupL (.of e11) fun t H12 ht12 e12 k12 => ?_
        walk_at "g"
        refine w_new fun av H13 hav e13 k13 => ?_
        have k11_13 := Same.trans k12 k13
        have T13 := T11.same k11_13
        have hth13 := T13.at'
        have ct13 : CtAt H13 av (.tree (qs.map (·.2))) := ⟨t, qs, e13, k13 _ _ e12, rfl, fun q' hq' => k11_13 _ _ (ent11 q' hq')⟩
        have D13 : Deck H13 d c _ := D11.kp (M := []) (Kp.of k11_13) (by simp) (by simp)
        walk_at "g"
        refine w_app hth13 (by rw [List.length_map]; exact small1kl (by omega)) fun H14 e14 o14 => ?_
        walk_at "g"
        refine ⟨⟨_, _, _, _, rfl⟩, (D13.kp (M := [th]) (o14.kp (by simp)) (by simpa using nthd.symm) (by simpa using nthc.symm)).mono (by omega), ((x5.trans x5_11).trans (KX.of k11_13)).offN o14 hth, _, grow_app T13 ct13 e14 o14, I5.snoc hi8 ?_ ?_ ?_ ?_⟩
        · rw [List.length_map]
          omega
        · intro e' he'
          obtain ⟨q', hq', rfl⟩ := List.mem_map.mp he'
          obtain ⟨j, hj, rfl⟩ := hqm q' hq'
          by_cases hja : j = at'
          · rw [if_pos hja]
            exact ⟨lab20 j (by omega), by show v ≤ i; omega⟩
          · rw [if_neg hja]
            exact ⟨lab20 j (by omega), Nat.le_refl i⟩
        · rw [List.pairwise_map, List.pairwise_iff_getElem]
          intro j1 j2 h1 h2 h12
          have g1 := hqi j1 (by omega)
          have g2 := hqi j2 (by omega)
          rw [List.getElem?_eq_getElem h1] at g1
          rw [List.getElem?_eq_getElem h2] at g2
          have c1 : (qs[j1]).2.1 = ⟨#[97 + j1]⟩ := by rw [Option.some.inj g1]; split <;> rfl
          have c2 : (qs[j2]).2.1 = ⟨#[97 + j2]⟩ := by rw [Option.some.inj g2]; split <;> rfl
          rw [c1, c2]
          exact List.cons_lt_cons_iff.mpr (.inl (show 97 + j1 < 97 + j2 by omega))
        · have hx : ∃ j, j < 6 + u ∧ j ≠ at' := by
            by_cases h0 : at' = 0
            · exact ⟨1, by omega, by omega⟩
            · exact ⟨0, by omega, by omega⟩
          obtain ⟨j, hj, hja⟩ := hx
          have g := hqi j hj
          rw [if_neg hja] at g
          exact ⟨_, List.mem_map.mpr ⟨_, List.mem_of_getElem? g, rfl⟩, rfl⟩
    · rintro σ H5 ⟨⟨y3, y4, y5, y6, rfl⟩, D5, x5, cs, T5, I5⟩
      have I8 : TrI cs 8 := I5
      have D5' : Deck H5 d c (n + 340) := D5.mono (by show n + 300 + 3 * 8 ≤ _; omega)
      walk_at "g"
      refine w_draw D5' (by omega) (by decide) (by decide) fun m H6 hm D6 o6 => ?_
      have x6 := x5.trans (D5'.kx D6 o6)
      have T6 := T5.kp (M := [d]) (o6.kp (by simp)) (D5'.kx D6 o6).t (by simpa using nthd)
      walk_at "g"
      try refine w_rng1' (by omega) (by omega) ?_
      refine lp_range (fun i σ H' => (∃ y7 : Option V, σ = [some (.ref d), some (.ref th), y7, y4, y5, y6, none]) ∧ Deck H' d c (n + 341 + 3 * i) ∧ KX d H H' ∧ ∃ cs, ThAt H' th cs ∧ VrI 9 cs i ∧ ∀ j, 1 ≤ j → j ≤ 8 → isT cs j) ⟨⟨_, rfl⟩, D6, x6, cs, T6, I8.vers, fun j h1 h2 => I8.t j h1 (by have := I8.n; omega)⟩ ?_ ?_
      · rintro i σ H7 hi ⟨⟨y7, rfl⟩, D7, x7, cs7, T7, V7, ht7⟩
        have hi3 : i < 3 := by omega
        have hl7 := V7.n
        have hth7 := T7.at'
        walk_at "g"
        refine ⟨⟨by omega, by omega, by omega, by rw [List.length_map]; omega, by rw [List.length_map]; omega⟩, ?_⟩
        refine w_new fun l8 H8 hl8 e8 k8 => ?_
        rw [rgV_from 9 i (by omega) (by rw [List.length_map, hl7])] at e8
        have D8 : Deck H8 d c _ := D7.kp (M := []) (Kp.of k8) (by simp) (by simp)
        obtain ⟨nl8d, nl8c⟩ := D7.ne1 hl8
        walk_at "g"
        refine ⟨d, c, l8, _, 2, _, rfl, D8, by omega, e8, nl8d, nl8c, by rw [List.length_map, List.length_range]; omega, by omega, fun H9 t ns D9 x9 e9 hup hnl hns => ?_⟩
        have x79 := (KX.of (d := d) k8).trans x9
        have T9 := T7.kp x79.p x79.t (by simpa using nthd)
        have hth9 := T9.at'
        walk_at "g"
        refine w_draw D9 (by omega) (by decide) (by decide) fun rr H10 hrr D10 o10 => ?_
        have x10 := D9.kx D10 o10
        have T10 := T9.kp x10.p x10.t (by simpa using nthd)
        walk_at "g"
        refine w_new fun av H11 hav e11 k11 => ?_
        have T11 := T10.same k11
        have hth11 := T11.at'
        rw [show 0 + (i : Int) = (i : Int) by omega, show 8 - (rr : Int) = ((8 - rr : Nat) : Int) by omega] at e11
        have ct11 : CtAt H11 av (.ver ns (8 - rr) i) := ⟨t, e11, k11 _ _ (x10.t _ _ e9)⟩
        have D11 : Deck H11 d c _ := D10.kp (M := []) (Kp.of k11) (by simp) (by simp)
        walk_at "g"
        refine w_app hth11 (by rw [List.length_map]; exact small1kl (by omega)) fun H12 e12 o12 => ?_
        walk_at "g"
        refine ⟨⟨_, rfl⟩, (D11.kp (M := [th]) (o12.kp (by simp)) (by simpa using nthd.symm) (by simpa using nthc.symm)).mono (by omega), (((x7.trans x79).trans x10).trans (KX.of k11)).offN o12 hth, _, grow_app T11 ct11 e12 o12, V7.snoc hup (by omega) (fun p hp => ?_) (ht7 _ (by omega) (by omega)) (by omega), fun j h1 h2 => (ht7 j h1 h2).grow .snoc⟩
        obtain ⟨k, hk, rfl⟩ := List.mem_map.mp (hns p hp)
        have := List.mem_range.mp hk
        omega
      · rintro σ H7 ⟨⟨y7, rfl⟩, D7, x7, cs7, T7, V7, ht7⟩
        have hl7 := V7.n
        walk_at "g"
        exact q H7 th cs7 (D7.mono (by omega)) x7 hth T7 V7.f (by omega) ⟨9, V7.v 9 (by omega) (by omega)⟩
theorem ok_scene {f fM fD fT fL fR fE fS fG fTa fTh fFa : Addr} {fd fdM fdD fdT fdL fdR fdE fdS fdG fdTa fdTh fdFa : FuncData} (T : Txt K mg) (F : Fun K "_law_scene" "_law_scene" s_law_scene f fd) (D_law_mixed : Df K mg "_law_mixed" s_law_mixed ["_law_cell", "_law_turn"] fM fdM) (D_law_draw : Df K mg "_law_draw" s_law_draw ["_law_deck_here", "_law_many"] fD fdD)
    (D_law_text : Df K mg "_law_text" s_law_text ["_law_deck_here", "_law_size"] fT fdT) (D_law_label : Df K mg "_law_label" s_law_label ["_law_deck_here"] fL fdL) (D_law_rows : Df K mg "_law_rows" s_law_rows ["_law_deck_here", "_law_elder"] fR fdR) (D_law_entries : Df K mg "_law_entries" s_law_entries ["_law_deck_here", "_law_lows"] fE fdE) (D_law_some : Df K mg "_law_some" s_law_some ["_law_deck_here", "_law_names", "_law_count"] fS fdS) (D_law_give : Df K mg "_law_give" s_law_give ["_law_things", "_law_content"] fG fdG)
    (D_law_tall : Df K mg "_law_tall" s_law_tall ["_law_deck_here"] fTa fdTa) (D_law_thick : Df K mg "_law_thick" s_law_thick ["_law_deck_here"] fTh fdTh) (D_law_family : Df K mg "_law_family" s_law_family ["_law_deck_here", "_law_leaves", "_law_trees", "_law_versions_here"] fFa fdFa) : FnOk P w K mg base CX0 6 f fd ["_law_deck_here", "_law_turn"] spScene := by
  have G_law_draw : FnOk P w K mg base CX0 2 fD fdD ["_law_deck_here", "_law_many"] spDraw := ok_draw T D_law_draw.fn D_law_mixed
  have G_law_tall : FnOk P w K mg base CX0 5 fTa fdTa ["_law_deck_here"] spTall := ok_tall T D_law_tall.fn D_law_mixed D_law_draw D_law_text D_law_label D_law_rows D_law_some
  have G_law_thick : FnOk P w K mg base CX0 5 fTh fdTh ["_law_deck_here"] spThick := ok_thick T D_law_thick.fn D_law_mixed D_law_draw D_law_text D_law_rows D_law_some
  have G_law_family : FnOk P w K mg base CX0 5 fFa fdFa ["_law_deck_here", "_law_leaves", "_law_trees", "_law_versions_here"] spFamily := ok_family T D_law_family.fn D_law_mixed D_law_draw D_law_text D_law_label D_law_rows D_law_entries D_law_some D_law_give
  refine F.ok sc_law_scene (fun vs H Q E h => ?_) (fun cdv A outer s H vs Q E hr h => ?_)
  · obtain ⟨d, c, n, m, rfl, _⟩ := h
    rfl
  · obtain ⟨d, c, n, m, rfl, hm, D0, hn, q⟩ := h
    have put : ∀ {b : Nat}, b ≤ 1700 → ScnQ H d c (n + b) Q := fun hb H' th cs D' x' h1 h2 h3 h4 h5 => q H' th cs (D'.mono (by omega)) x' h1 h2 h3 h4 h5
    refine ⟨_,
      (pss_cons
        (ps_if (PW.pt (pw_or (pt_cmpR op_eq (pv 1) pe_int (nomark _)) (pw_or1 (pt_cmpR op_eq (pv 1) pe_int (nomark _)))))
          (pss_one
            (ps_ret (pe_call G_law_tall (hr.mono (by omega)) (by rfl) D_law_tall.g D_law_tall.fn.kp D_law_tall.b .nil pass0 (pa_cons (pv 0) pa_nil))))
          pss_nil)
      (pss_cons
        (ps_if (pt_cmpR op_eq (pv 1) pe_int (nomark _))
          pss_never
          pss_nil)
      (pss_cons
        (ps_if (PW.pt (pw_or (pt_cmpR op_eq (pv 1) pe_int (nomark _)) (pw_or1 (pt_cmpR op_eq (pv 1) pe_int (nomark _)))))
          pss_never
          pss_nil)
      (pss_cons
        (ps_if (pt_cmpR op_eq (pv 1) pe_int (nomark _))
          (pss_one
            (ps_ret (pe_call G_law_thick (hr.mono (by omega)) (by rfl) D_law_thick.g D_law_thick.fn.kp D_law_thick.b .nil pass0 (pa_cons (pv 0) pa_nil))))
          pss_nil)
      (pss_one
        (ps_ret (pe_call G_law_family (hr.mono (by omega)) (by rfl) D_law_family.g D_law_family.fn.kp D_law_family.b .nil pass0 (pa_cons (pv 0) (pa_cons (pe_op op_add pe_int (pe_call G_law_draw (hr.mono (by omega)) (by rfl) D_law_draw.g D_law_draw.fn.kp D_law_draw.b .nil pass0 (pa_cons (pv 0) (pa_cons pe_int pa_nil)))) (pa_cons (pe_op op_add pe_int (pe_call G_law_draw (hr.mono (by omega)) (by rfl) D_law_draw.g D_law_draw.fn.kp D_law_draw.b .nil pass0 (pa_cons (pv 0) (pa_cons pe_int pa_nil)))) (pa_cons (pe_op op_add pe_int (pe_call G_law_draw (hr.mono (by omega)) (by rfl) D_law_draw.g D_law_draw.fn.kp D_law_draw.b .nil pass0 (pa_cons (pv 0) (pa_cons pe_int pa_nil)))) pa_nil)))))))))))
      , ?_⟩
    rw [show L2.start N_law_scene [V.ref d, nV m] = [some (.ref d), some (.int (m : Int))] from rfl]
    refine w_seq ?_
    walk_at "x"
    refine w_ite (fun h1 => ?_) (fun h1 => ?_)
    · walk_at "g"
      exact ⟨d, c, n, rfl, D0, by omega, put (by omega)⟩
    walk_at "g"
    refine w_ite (fun h2 => ?_) (fun h2 => ?_)
    · walk_at "g"
      exact ⟨d, c, n, rfl, D0, by omega, put (by omega)⟩
    walk_at "g"
    refine w_seq ?_
    walk_at "g"
    refine w_ite (fun h3 => by omega) (fun h3 => ?_)
    walk_at "g"
    refine w_seq ?_
    walk_at "g"
    refine w_ite (fun h4 => by omega) (fun h4 => ?_)
    walk_at "g"
    refine w_ite (fun h5 => by omega) (fun h5 => ?_)
    walk_at "g"
    refine w_seq ?_
    walk_at "g"
    refine w_ite (fun h6 => ?_) (fun h6 => ?_)
    · walk_at "g"
      exact ⟨d, c, n, rfl, D0, by omega, put (by omega)⟩
    walk_at "g"
    refine w_draw D0 (by omega) (by decide) (by decide) fun u1 H1 hu1 D1 o1 => ?_
    walk_at "g"
    refine w_draw D1 (by omega) (by decide) (by decide) fun u2 H2 hu2 D2 o2 => ?_
    walk_at "g"
    refine w_draw D2 (by omega) (by decide) (by decide) fun u3 H3 hu3 D3 o3 => ?_
    have x3 : KX d H H3 := ((D0.kx D1 o1).trans (D1.kx D2 o2)).trans (D2.kx D3 o3)
    walk_at "g"
    refine ⟨d, c, _, 1 + u1, 1 + u2, 1 + u3, by rw [show (1 : Int) + (u1 : Int) = ((1 + u1 : Nat) : Int) by omega, show (1 : Int) + (u2 : Int) = ((1 + u2 : Nat) : Int) by omega, show (1 : Int) + (u3 : Int) = ((1 + u3 : Nat) : Int) by omega]; rfl, D3, by omega, by omega, by omega, by omega, by omega, fun H' th cs D' x' hth h2 h3 h4 h5 h6 => q H' th cs (D'.mono (by omega)) (x3.trans x') (x3.none' ?_ hth) h2 (h3.mono (by omega)) (by omega) (h6 (by omega))⟩
    exact (D3.ne1 hth).1
end
/-- [x for .. if ..]: A tells what is gathered so far, and where it stands -/
theorem lcp_accH {σ : L2.St} {H : Hp} {Q : VK} {J : It} {n : Nat} {G : Hp → Prop} {Y : Nat → Hp → V → Hp → Prop} (w : Walk J n G Y) {g : TG} {tt : TT} {te : TE} {vs : List Nat} (M : List Addr) (A : Nat → List V → Hp → Prop) (hz : n ≤ 1000000)
    (mono : ∀ i acc H1 H2, KT H1 H2 → A i acc H1 → A i acc H2) (hG : ∀ (i : Nat) (H' : Hp), Kp M H H' → G H') (A0 : A 0 [] H) (hA : ∀ i acc H', A i acc H' → acc.length ≤ i)
    (hs : ∀ i x H1 H2 (acc : List V) (R : V → Hp → Prop) (R0 : Hp → Prop), i < n → Kp M H H1 → KT H H1 → A i acc H1 → Y i H1 x H2 → (∀ y H4, A (i + 1) (acc ++ [y]) H4 → Kp M H1 H4 → KT H1 H4 → R y H4) → (∀ H4, A (i + 1) acc H4 → Kp M H1 H4 → KT H1 H4 → R0 H4) → g x (wipe σ vs) H2 fun σ2 H3 => wipe σ2 vs = wipe σ vs ∧ tt σ2 H3 fun b H4 => if b = true then te σ2 H4 R else R0 H4)
    (hM : ∀ b ∈ M, ∃ o, H b = some o)
    (hd : ∀ D H' ys, A n ys H' → H D = none → Kp M H H' → KT H H' → H' D = some (.lst ys) → Q (.ref D) H') : LcP J g tt te vs Q σ H := by
  intro D hD
  have hDM : D ∉ M := fun z => by obtain ⟨o, e⟩ := hM D z; rw [hD] at e; cases e
  refine lc_it w (fun i H' => Kp M H H' ∧ KT H H' ∧ ∃ ys, A i ys H' ∧ H' D = some (.lst ys)) ⟨Kp.new hD, KT.refl.upd hD, [], mono _ _ _ _ (KT.refl.upd hD) A0, upd_same⟩ (fun i H' _ z => hG i H' z.1) ?_ ?_
  · rintro i x H1 H2 hi ⟨k1, t1, ys, ha, e1⟩ y
    have hl := hA i ys _ ha
    refine hs i x H1 H2 ys _ _ hi k1 t1 ha y ?_ ?_
    · intro z H4 az k4 t4
      have e4 := k4 _ _ hDM e1
      exact ⟨ys, e4, Nat.lt_of_le_of_lt hl (Nat.lt_of_lt_of_le (Nat.lt_of_lt_of_le hi hz) (by decide)), (k1.trans k4).mutN hD, (t1.trans t4).upd hD, ys ++ [z], mono _ _ _ _ (KT.updL e4) az, upd_same⟩
    · intro H4 a4 k4 t4
      exact ⟨k1.trans k4, t1.trans t4, ys, a4, k4 _ _ hDM e1⟩
  · rintro H' ⟨k, t, ys, ha, e⟩
    exact hd D H' ys ha hD k t e
/-! ### look, reached, missing; refusals -/
theorem mk1_sameR {K : PySem.W.Frag} {C : Addr} {f : Str} {x : V} {H : Hp} {Qx : XK} {a : Addr} (ha : H a = none) (h : ∀ d H', Same H H' → H d = none → H' d = some (.xd [(f, x)]) → Qx (.ref C) (some d) H') :
    spInit1 K C f [.ref a, x] (upd H a (exo a C none)) (fun v H2 => v = .non ∧ ∃ (d : Addr) (fs : List (Str × V)), H2 a = some (exo a C (some d)) ∧ H2 d = some (exd d fs) ∧ H d = none ∧ Qx (.ref C) (some d) (upd (del H2 a) d (.xd fs))) (fun _ _ _ => False) := by
  refine ⟨a, x, rfl, upd_same, fun dx hd hne => ⟨rfl, dx, _, upd_same, ?_, (upd_none hd).1, h dx _ (fun b o e => ?_) (upd_none hd).1 upd_same⟩⟩
  · rw [upd_ne hne, upd_same]
  · have n1 : b ≠ dx := ne_of_none e (upd_none hd).1
    have n2 : b ≠ a := ne_of_none e ha
    rw [upd_ne n1, del_ne n2, upd_ne n2, upd_ne n1, upd_ne n2]
    exact e
/-- NoName of x is raised -/
def NoNm (CN : Addr) (H : Hp) (E : XK) (x : V) : Prop := ∀ (d : Addr) (H' : Hp), Same H H' → H d = none → H' d = some (.xd [("name", x)]) → E (.ref CN) (some d) H'
def spThingE (P : Program) (w : World) (C CN : Addr) : Sp := fun vs H Q E => ∃ (p dx lc ld lg : Addr) (cs : List (Addr × Ct)) (ds : List Nat) (x : V) (a : String), vs = [.ref p, x] ∧ BookAt P w C H p dx lc ld lg cs ds ∧ Ty H x a ∧ (∀ (n : Nat) (q : Addr × Ct), x = nV n → cs[n]? = some q → Q (.ref q.1) H) ∧ ((∀ n : Nat, x = nV n → ¬ n < cs.length) → NoNm CN H E x)
def spKindE (P : Program) (w : World) (C CN : Addr) : Sp := fun vs H Q E => ∃ (p dx lc ld lg : Addr) (cs : List (Addr × Ct)) (ds : List Nat) (x : V) (a : String), vs = [.ref p, x] ∧ BookAt P w C H p dx lc ld lg cs ds ∧ Ty H x a ∧ (∀ (n : Nat) (q : Addr × Ct), x = nV n → cs[n]? = some q → Q (.str q.2.word) H) ∧ ((∀ n : Nat, x = nV n → ¬ n < cs.length) → NoNm CN H E x)
def okI (cs : List (Addr × Ct)) (i : Int) : Prop := ∃ n : Nat, i = n ∧ isV cs n
def spLook (P : Program) (w : World) (C CN : Addr) : Sp := fun vs H Q E => ∃ (p dx lc ld lg sa : Addr) (cs : List (Addr × Ct)) (ds : List Nat) (is : List Int), vs = [.ref p, .ref sa] ∧ BookAt P w C H p dx lc ld lg cs ds ∧ H sa = some (.tup (is.map V.int)) ∧ ((∀ i ∈ is, okI cs i) → Q .non H) ∧
  ∀ (pre post : List Int) (y : Int), is = pre ++ y :: post → (∀ i ∈ pre, okI cs i) → ¬ okI cs y → NoNm CN H E (.int y)
theorem okI_nats {cs : List (Addr × Ct)} : ∀ {is : List Int}, (∀ i ∈ is, okI cs i) → ∃ st : List Nat, is = st.map (fun n : Nat => (n : Int)) ∧ ∀ n ∈ st, isV cs n
  | [], _ => ⟨[], rfl, by simp⟩
  | i :: is, h => by
    obtain ⟨n, rfl, hn⟩ := h i (by simp)
    obtain ⟨st, rfl, hst⟩ := okI_nats (is := is) fun j hj => h j (List.mem_cons_of_mem _ hj)
    exact ⟨n :: st, rfl, fun m hm => (List.mem_cons.mp hm).elim (fun z => z ▸ hn) (hst m)⟩
section
variable {P : Program} {w : World} {K : PySem.W.Frag} {mg : Str → Option Value} {base : Heap} {C CH CN : Addr}
theorem ok_nninit {f C : Addr} {fd : FuncData} (F : Fun K "__init__" "NoName.__init__" s_NoName___init__ f fd) (XT : OexC K C) (n1 : PySem.W.findIn K (.ref C) "name" = some none) : FnOk P w K mg base CX0 1 f fd ["self", "name"] (spInit1 K C "name") := by
  refine F.ok sc_NoName___init__ (fun vs H Q E h => ?_) (fun cdv A outer s H vs Q E hr h => ?_)
  · obtain ⟨a, x, rfl, _⟩ := h
    rfl
  · obtain ⟨a, x, rfl, e, q⟩ := h
    refine ⟨_,
      (pss_one
        (ps_ost (pv 0) (pv 1)))
      , ?_⟩
    rw [show L2.start N_NoName___init__ [V.ref a, x] = [some (.ref a), some x] from rfl]
    refine w_ost ?_
    walk_at "x"
    exact ⟨a, C, rfl, XT, n1, .inl ⟨e, fun dx hd hne => q dx hd hne⟩⟩
theorem ok_thingE {f fN fI fE C_NoName : Addr} {fd fdN fdI fdE : FuncData} (T : Txt K mg) (F : Fun K "thing" "Book.thing" s_Book_thing f fd) (K_Book : Kl K mg "Book" C ["contents", "depths", "given"]) (D_is_name : Df K mg "is_name" s_is_name ["book", "thing"] fN fdN) (D_is_int : DfD K mg "is_int" s_is_int ["thing", "least"] [.int 0] fI fdI)
    (FE : Fun K "__init__" "NoName.__init__" s_NoName___init__ fE fdE) (X_NoName : ExnI K mg "NoName" C_NoName fE fdE ["self", "name"] ["name"]) : FnOk P w K mg base (L2.CX P w) 3 f fd ["self", "name"] (spThingE P w C C_NoName) := by
  have G_is_name : FnOk P w K mg base CX0 2 fN fdN ["book", "thing"] (spIsName P w C) := ok_isname T D_is_name.fn K_Book D_is_int
  have G_NoName___init__ : FnOk P w K mg base CX0 1 fE fdE ["self", "name"] (spInit1 K C_NoName "name") := ok_nninit FE X_NoName.T (X_NoName.nf "name" (by simp))
  have cl := K_Book.cl
  have n1 := K_Book.na "contents" (by simp)
  refine F.okX sc_Book_thing (fun vs H Q E h => ?_) (fun cdv A outer s H vs Q E hr h => ?_)
  · obtain ⟨p, dx, lc, ld, lg, cs, ds, x, a, rfl, _⟩ := h
    rfl
  · obtain ⟨p, dx, lc, ld, lg, cs, ds, x, a, rfl, B, ty, q, qe⟩ := h
    have ob := B.ob
    have co := B.co
    refine ⟨_,
      (pss_cons
        (ps_if (pt_not (pt_val (pe_call G_is_name (hr.mono (by omega)) (by rfl) D_is_name.g D_is_name.fn.kp D_is_name.b .nil pass0 (pa_cons (pv 0) (pa_cons (pv 1) pa_nil)))))
          (pss_one
            (ps_raise rfl (takes_of rfl rfl rfl rfl) (pmk_oex X_NoName.T X_NoName.i X_NoName.t G_NoName___init__ (hr.mono (by omega)) X_NoName.b .nil pass0 (by rfl) X_NoName.g (pa_cons (pv 1) pa_nil))))
          pss_nil)
      (pss_one
        (ps_ret (pe_ix (r := rIxL K) ix_list (pe_fldK (K := K) rfl (pv 0) rfl) (pv 1) (fun _ _ => rfl)))))
      , ?_⟩
    rw [show L2.start N_Book_thing [V.ref p, x] = [some (.ref p), some x] from rfl]
    refine w_seq ?_
    walk_at "x"
    refine ⟨p, dx, lc, ld, lg, cs, ds, x, a, rfl, B, ty, fun n e hn => ?_, fun hn => ?_⟩
    · subst e
      have at1 : atI (cs.map fun q => V.ref q.1) (n : Int) = some (.ref (cs[n]).1) := atI_nat (by rw [List.getElem?_map, List.getElem?_eq_getElem hn]; rfl)
      walk_at "g"
      exact q n cs[n] rfl (List.getElem?_eq_getElem hn)
    · walk_at "g"
      refine w_mkO ?_
      walk_at "g"
      exact ⟨by simp, fun a ha => mk1_sameR ha fun d H4 k4 hd e4 => qe hn d H4 k4 hd e4⟩
theorem ok_kindE {f fG fN fI fE C_NoName : Addr} {fd fdG fdN fdI fdE : FuncData} (T : Txt K mg) (F : Fun K "kind" "Book.kind" s_Book_kind f fd) (K_Book : Kl K mg "Book" C ["contents", "depths", "given"]) (D_Book_thing : DfM K C "thing" "Book.thing" s_Book_thing ["self", "name"] fG fdG) (D_is_name : Df K mg "is_name" s_is_name ["book", "thing"] fN fdN) (D_is_int : DfD K mg "is_int" s_is_int ["thing", "least"] [.int 0] fI fdI)
    (FE : Fun K "__init__" "NoName.__init__" s_NoName___init__ fE fdE) (X_NoName : ExnI K mg "NoName" C_NoName fE fdE ["self", "name"] ["name"]) : FnOk P w K mg base (L2.CX P w) 4 f fd ["self", "name"] (spKindE P w C C_NoName) := by
  have G_Book_thing : FnOk P w K mg base (L2.CX P w) 3 fG fdG ["self", "name"] (spThingE P w C C_NoName) := ok_thingE T D_Book_thing.fn K_Book D_is_name D_is_int FE X_NoName
  refine F.okX sc_Book_kind (fun vs H Q E h => ?_) (fun cdv A outer s H vs Q E hr h => ?_)
  · obtain ⟨p, dx, lc, ld, lg, cs, ds, x, a, rfl, _⟩ := h
    rfl
  · obtain ⟨p, dx, lc, ld, lg, cs, ds, x, a, rfl, B, ty, q, qe⟩ := h
    have ob := B.ob
    refine ⟨_,
      (pss_one
        (ps_ret (pe_ix (r := rIxT K) ix_tup (pe_meth (pv 0) K_Book.cl D_Book_thing.m G_Book_thing (hr.mono (by omega)) D_Book_thing.b .nil (passes_call (takes_of rfl rfl rfl rfl) (fun _ _ _ _ h => h)) (pa_cons (pv 1) pa_nil)) pe_int (fun _ _ => rfl))))
      , ?_⟩
    rw [show L2.start N_Book_kind [V.ref p, x] = [some (.ref p), some x] from rfl]
    walk_at "x"
    refine ⟨p, dx, lc, ld, lg, cs, ds, x, a, rfl, B, ty, fun n qc e hn => ?_, fun hn => qe hn⟩
    obtain ⟨xs, hh⟩ := (B.ct qc (List.mem_of_getElem? hn)).head
    have at0 : atI (V.str qc.2.word :: xs) 0 = some (.str qc.2.word) := atI_nat (j := 0) rfl
    walk_at "g"
    exact q n qc e hn
theorem ok_look {f fK fG fN fI fE C_NoName : Addr} {fd fdK fdG fdN fdI fdE : FuncData} (T : Txt K mg) (F : Fun K "look" "look" s_look f fd) (K_Book : Kl K mg "Book" C ["contents", "depths", "given"]) (D_Book_kind : DfM K C "kind" "Book.kind" s_Book_kind ["self", "name"] fK fdK) (D_Book_thing : DfM K C "thing" "Book.thing" s_Book_thing ["self", "name"] fG fdG) (D_is_name : Df K mg "is_name" s_is_name ["book", "thing"] fN fdN) (D_is_int : DfD K mg "is_int" s_is_int ["thing", "least"] [.int 0] fI fdI)
    (FE : Fun K "__init__" "NoName.__init__" s_NoName___init__ fE fdE) (X_NoName : ExnI K mg "NoName" C_NoName fE fdE ["self", "name"] ["name"]) : FnOk P w K mg base (L2.CX P w) 5 f fd ["book", "names"] (spLook P w C C_NoName) := by
  have G_Book_kind : FnOk P w K mg base (L2.CX P w) 4 fK fdK ["self", "name"] (spKindE P w C C_NoName) := ok_kindE T D_Book_kind.fn K_Book D_Book_thing D_is_name D_is_int FE X_NoName
  have G_NoName___init__ : FnOk P w K mg base CX0 1 fE fdE ["self", "name"] (spInit1 K C_NoName "name") := ok_nninit FE X_NoName.T (X_NoName.nf "name" (by simp))
  refine F.okX sc_look (fun vs H Q E h => ?_) (fun cdv A outer s H vs Q E hr h => ?_)
  · obtain ⟨p, dx, lc, ld, lg, sa, cs, ds, is, rfl, _⟩ := h
    rfl
  · obtain ⟨p, dx, lc, ld, lg, sa, cs, ds, is, rfl, B, hsa, q, qe⟩ := h
    have ob := B.ob
    have clB := K_Book.cl
    refine ⟨_,
      (pss_one
        (ps_for (passes_of rfl) rfl (pi_tup (pv 1)) (pg_name (i := 2) sc_look.nd rfl (.inl rfl))
          (pss_one
            (ps_if (pt_cmpR op_ne (pe_meth (pv 0) K_Book.cl D_Book_kind.m G_Book_kind (hr.mono (by omega)) D_Book_kind.b .nil (passes_call (takes_of rfl rfl rfl rfl) (fun _ _ _ _ h => h)) (pa_cons (pv 2) pa_nil)) pe_str (nomark _))
              (pss_one
                (ps_raise rfl (takes_of rfl rfl rfl rfl) (pmk_oex X_NoName.T X_NoName.i X_NoName.t G_NoName___init__ (hr.mono (by omega)) X_NoName.b .nil pass0 (by rfl) X_NoName.g (pa_cons (pv 2) pa_nil))))
              pss_nil))))
      , ?_⟩
    rw [show L2.start N_look [V.ref p, V.ref sa] = [some (.ref p), some (.ref sa), none] from rfl]
    walk_at "x"
    refine lp_tup (xs := is.map V.int) (fun i σ H' => (∃ y : Option V, σ = [some (.ref p), some (.ref sa), y]) ∧ H' = H ∧ ∀ z ∈ is.take i, okI cs z) ⟨⟨_, rfl⟩, rfl, by simp⟩ (fun i σ H' _ h => by rw [h.2.1]; exact .of hsa) ?_ ?_
    · rintro i x σ H1 hx ⟨⟨y, rfl⟩, rfl, hz⟩
      obtain ⟨z, hz1, rfl⟩ := map_at hx
      have hzl := (List.getElem?_eq_some_iff.mp hz1)
      have etk : is.take (i + 1) = is.take i ++ [z] := by rw [List.take_add_one, hz1]; rfl
      have esp : is = is.take i ++ z :: is.drop (i + 1) := by
        obtain ⟨h1, h2⟩ := hzl
        rw [← h2, ← List.drop_eq_getElem_cons h1, List.take_append_drop]
      walk_at "g"
      refine ⟨p, dx, lc, ld, lg, cs, ds, .int z, "int", rfl, B, .int _, fun n qc e hn => ?_, fun hn => ?_⟩
      · have ez : z = (n : Int) := V.int.inj e
        walk_at "g"
        by_cases h : qc.2.word = "version"
        · rw [decide_eq_true h]
          walk_at "g"
          refine ⟨⟨_, rfl⟩, rfl, fun y' hy' => ?_⟩
          rw [etk] at hy'
          rcases List.mem_append.mp hy' with g | g
          · exact hz y' g
          · have : y' = z := by simpa using g
            rw [this]
            exact ⟨n, ez, (word_isV hn).mp h⟩
        · rw [decide_eq_false h]
          walk_at "g"
          refine w_mkO ?_
          walk_at "g"
          refine ⟨by simp, fun a ha => mk1_sameR ha fun d H4 k4 hd e4 => qe _ _ z esp hz ?_ d H4 k4 hd e4⟩
          rintro ⟨m, em, ⟨a', ps, r, s, em2⟩⟩
          have : m = n := by omega
          rw [this, hn] at em2
          rw [Option.some.inj em2] at h
          exact h rfl
      · refine qe _ _ z esp hz ?_
        rintro ⟨m, em, iv⟩
        exact hn m (by rw [em]) iv.lt
    · rintro σ H1 ⟨⟨y, rfl⟩, rfl, hz⟩
      rw [List.length_map, List.take_length] at hz
      walk_at "g"
      exact q hz
end
/-! ### the laws' own levels -/
local macro_rules | `(tactic| walk_at "s") => `(tactic| first
  | with_reducible refine w_lstRgF ?_
  | with_reducible refine w_rg1F ?_
  | with_reducible refine w_rg1F' ?_
  )
def spLVers : Sp := fun vs H Q _ => ∃ (th : Addr) (cs : List (Addr × Ct)), vs = [.ref th] ∧ ThAt H th cs ∧ cs.length ≤ 400 ∧ ∀ (H' : Hp) (l : Addr), Same H H' → H l = none → H' l = some (.lst (((List.range cs.length).filter (isVb cs)).map nV)) → Q (.ref l) H'
section
variable {P : Program} {w : World} {K : PySem.W.Frag} {mg : Str → Option Value} {base : Heap}
theorem ok_lvers {f : Addr} {fd : FuncData} (T : Txt K mg) (F : Fun K "_law_versions" "_law_versions" s_law_versions f fd) : FnOk P w K mg base CX0 1 f fd ["_law_things"] spLVers := by
  refine F.ok sc_law_versions (fun vs H Q E h => ?_) (fun cdv A outer s H vs Q E hr h => ?_)
  · obtain ⟨th, cs, rfl, _⟩ := h
    rfl
  · obtain ⟨th, cs, rfl, T0, hcl, q⟩ := h
    have hth := T0.at'
    refine ⟨_,
      (pss_one
        (ps_ret (pe_lc (own := [("_law_name", 1)]) (g := (gName 1)) rfl sc_law_versions.nd (pi_range1 (by rfl) T.n_range (pa_cons (pe_callB (r := rLen K) c_len (by rfl) T.n_len (by decide +kernel) (pa_cons (pv 0) pa_nil)) pa_nil)) (blkOk_by (own := [("_law_name", 1)]) (N := N_law_versions) (sc := defScope s_law_versions) (by decide +kernel)) (fun _ _ _ _ _ => (pg_name (i := 1) sc_law_versions.nd rfl (.inl rfl))) (fun _ _ _ _ _ => (pts_one (pt_cmpR op_eq (pe_ix (r := rIxT K) ix_tup (pe_ix (r := rIxL K) ix_list (pv 0) (pv 1) (fun _ _ => rfl)) pe_int (fun _ _ => rfl)) pe_str (nomark _)))) (fun _ _ _ _ _ => (pv 1)))))
      , ?_⟩
    rw [show L2.start N_law_versions [V.ref th] = [some (.ref th), none] from rfl]
    walk_at "x"
    try refine w_rng1' (by rw [List.length_map]; omega) (by rw [List.length_map]; omega) ?_
    refine lcp_sel (walk_range (lo := 0) (n := (((cs.map fun q => V.ref q.1).length : Nat) : Int).toNat)) [] (natSel (isVb cs) (List.range cs.length)) (by rw [List.length_map]; omega) (fun _ _ => trivial) ?_ (by simp) ?_
    · rintro i x Ha Hb R R0 hi k1 ⟨rfl, rfl⟩ h1 h2
      rw [List.length_map] at hi
      have hlt : i < cs.length := by omega
      have Ta := T0.same k1.same
      have htha := Ta.at'
      have at1 : atI (cs.map fun q => V.ref q.1) (0 + (i : Int)) = some (.ref (cs[i]).1) := by rw [Int.zero_add]; exact atI_nat (by rw [List.getElem?_map, List.getElem?_eq_getElem hlt]; rfl)
      obtain ⟨xs, hh⟩ := (Ta.ct _ (List.getElem_mem hlt)).head
      have at0 : atI (V.str (cs[i]).2.word :: xs) 0 = some (.str (cs[i]).2.word) := atI_nat (j := 0) rfl
      have eg : cs.getD i (0, .leaf []) = cs[i] := by rw [List.getD_eq_getElem?_getD, List.getElem?_eq_getElem hlt]; rfl
      have es : natSel (isVb cs) (List.range cs.length) i = if isVb cs i = true then some (nV i) else none := by unfold natSel; rw [List.getElem?_range hlt]; rfl
      refine w_name ⟨rfl, ?_⟩
      walk_at "g"
      by_cases hw : (cs[i]).2.word = "version"
      · refine w_yes hw ?_
        walk_at "g"
        refine h1 _ _ ?_ Kp.refl
        rw [es, if_pos (by unfold isVb; rw [eg]; exact decide_eq_true hw), Int.zero_add]
      · refine w_no hw ?_
        exact h2 _ (by rw [es, if_neg (by unfold isVb; rw [eg]; simpa using hw)]) Kp.refl
    · intro l H1 hl k1 el
      have e : (((cs.map fun q => V.ref q.1).length : Nat) : Int).toNat = (List.range cs.length).length := by rw [List.length_map, List.length_range]; omega
      rw [e, natSel_all] at el
      exact q H1 l k1.same hl el
end
theorem cast_inj : ∀ {xs ys : List Nat}, xs.map (fun n : Nat => (n : Int)) = ys.map (fun n : Nat => (n : Int)) → ys = xs
  | [], [], _ => rfl
  | [], _ :: _, e => by cases e
  | _ :: _, [], e => by cases e
  | x :: xs, y :: ys, e => by
    rw [List.map_cons, List.map_cons] at e
    injection e with e1 e2
    rw [cast_inj e2, show y = x by omega]
theorem rise_extR : ∀ {xs ys : List Nat}, xs.Pairwise (· < ·) → ys.Pairwise (· < ·) → (∀ n, n ∈ xs ↔ n ∈ ys) → xs = ys
  | [], [], _, _, _ => rfl
  | [], y :: ys, _, _, h => absurd ((h y).mpr (by simp)) (by simp)
  | x :: xs, [], _, _, h => absurd ((h x).mp (by simp)) (by simp)
  | x :: xs, y :: ys, hx, hy, h => by
    rw [List.pairwise_cons] at hx hy
    have e : x = y := by
      rcases List.mem_cons.mp ((h x).mp (by simp)) with e | h1
      · exact e
      · rcases List.mem_cons.mp ((h y).mpr (by simp)) with e | h2
        · exact e.symm
        · have := hx.1 y h2
          have := hy.1 x h1
          omega
    subst e
    rw [rise_extR hx.2 hy.2 fun n => ?_]
    constructor
    · intro hn
      rcases List.mem_cons.mp ((h n).mp (by simp [hn])) with e | h1
      · have := hx.1 n hn
        omega
      · exact h1
    · intro hn
      rcases List.mem_cons.mp ((h n).mpr (by simp [hn])) with e | h1
      · have := hy.1 n hn
        omega
      · exact h1
abbrev W2 := Nat × Nat
def wkn (ws : List W2) : List (Key × V) := ws.map fun q => ((Sum.inl (q.1 : Int) : Key), nV q.2)
theorem wkn_keys (ws : List W2) : (wkn ws).map (·.1) = ((ws.map (·.1)).map fun n : Nat => (n : Int)).map (Sum.inl : Int → Key) := by
  unfold wkn
  rw [List.map_map, List.map_map, List.map_map]
  rfl
theorem wkn_val {ws : List W2} {n : Nat} : (valV (wkn ws) (Sum.inl (n : Int))).isSome = decide (n ∈ ws.map (·.1)) := by
  rw [val_keys (wkn_keys ws) (n : Int)]
  exact decide_eq_decide.mpr int_mem
theorem wkn_put {ws : List W2} {q : W2} (h : q.1 ∉ ws.map (·.1)) : putK (wkn ws) (Sum.inl (q.1 : Int)) (nV q.2) = wkn (ws ++ [q]) := by
  have e := wkn_val (ws := ws) (n := q.1)
  rw [decide_eq_false h] at e
  rw [putK_new _ (by simpa using e)]
  unfold wkn
  rw [List.map_append]
  rfl
theorem wkn_get : ∀ {ws : List W2} {q : W2}, (ws.map (·.1)).Nodup → q ∈ ws → valV (wkn ws) (Sum.inl (q.1 : Int)) = some (nV q.2)
  | r :: ws, q, nd, h => by
    rw [List.map_cons, List.nodup_cons] at nd
    rcases List.mem_cons.mp h with e | h'
    · subst e
      exact valV_pos rfl
    · have hne : ¬ (Sum.inl (r.1 : Int) : Key) = Sum.inl (q.1 : Int) := fun z => by
        have e : (r.1 : Int) = (q.1 : Int) := Sum.inl.inj z
        have e' : r.1 = q.1 := by omega
        exact nd.1 (e' ▸ List.mem_map_of_mem h')
      show valV (_ :: wkn ws) _ = _
      rw [valV_neg hne]
      exact wkn_get nd.2 h'
theorem nats_nodup_len {wz : List Nat} {N : Nat} (nd : wz.Nodup) (h : ∀ n ∈ wz, n < N) : wz.length ≤ N := by
  have := nodup_le (wz.map fun n : Nat => (n : Int)) ((List.range N).map fun n : Nat => (n : Int)) ?_ fun x hx => ?_
  · simpa using this
  · rw [List.Nodup, List.pairwise_map]
    exact nd.imp fun {a b} h => by omega
  · obtain ⟨n, hn, rfl⟩ := List.mem_map.mp hx
    exact List.mem_map.mpr ⟨n, List.mem_range.mpr (h n hn), rfl⟩
/-! ### entries of trees; chosen, tops -/
def ents (cs : List (Addr × Ct)) (n : Nat) : List (Str × Nat) := match cs[n]? with
  | some (_, .tree es) => es
  | _ => []
def rootV (cs : List (Addr × Ct)) (n : Nat) : Nat := match cs[n]? with
  | some (_, .ver _ r _) => r
  | _ => 0
def isTr (cs : List (Addr × Ct)) (n : Nat) : Prop := ∃ a es, cs[n]? = some (a, Ct.tree es)
theorem isTr.at {cs : List (Addr × Ct)} {n : Nat} (h : isTr cs n) : ∃ a, cs[n]? = some (a, Ct.tree (ents cs n)) := by
  obtain ⟨a, es, e⟩ := h
  refine ⟨a, ?_⟩
  unfold ents
  rw [e]
theorem isV.root {cs : List (Addr × Ct)} {n : Nat} (h : isV cs n) : ∃ a s, cs[n]? = some (a, Ct.ver (pars cs n) (rootV cs n) s) := by
  obtain ⟨a, ps, r, s, e⟩ := h
  refine ⟨a, s, ?_⟩
  unfold pars rootV
  rw [e]
/-- what the entries of trees are, as far as the walks want it -/
structure TrOk (cs : List (Addr × Ct)) : Prop where
  few : ∀ n, (ents cs n).length ≤ 20
  low : ∀ n e, e ∈ ents cs n → e.2 < n ∧ e.2 < cs.length ∧ ¬ isV cs e.2
  root : ∀ n, isV cs n → isTr cs (rootV cs n) ∧ rootV cs n < n
def pick (us : List Str) (l : Str) : Bool := decide (us = []) || decide (l ∈ us)
def chs (cs : List (Addr × Ct)) (us : List Str) (r : Nat) : List Nat := ((ents cs r).filter fun e => pick us e.1).map (·.2)
def topsOf (cs : List (Addr × Ct)) (hs st : List Nat) : List (Nat × Nat) := (st.filter fun n => decide (n ∈ hs)).map fun n => (n, rootV cs n)
/-- a list of pairs of ints -/
def P2L (H : Hp) (l : Addr) (ps : List (Nat × Nat)) : Prop := ∃ qs : List (Addr × Nat × Nat), H l = some (.lst (qs.map fun q => .ref q.1)) ∧ qs.map (·.2) = ps ∧ ∀ q ∈ qs, H q.1 = some (.tup [nV q.2.1, nV q.2.2])
theorem P2L.same {H H' : Hp} {l : Addr} {ps : List (Nat × Nat)} (h : P2L H l ps) (k : Same H H') : P2L H' l ps := by
  obtain ⟨qs, h1, h2, h3⟩ := h
  exact ⟨qs, k _ _ h1, h2, fun q hq => k _ _ (h3 q hq)⟩
theorem w_eqNoUs {K : PySem.W.Frag} {H : Hp} {Q : VK} {u z : Addr} {us : List Str} (h1 : SqT K H u (us.map V.str)) (hs : ∀ l ∈ us, PyData.strOk l = true) (h2 : H z = some (.tup [])) (h : Q (.bl (decide (us = []))) H) : rEqD K (.ref u) (.ref z) H Q := by
  obtain ⟨g1, g2⟩ := lay_txts hs
  refine ⟨.tuple (us.map .str), .tuple [], .tup h1 (dp_txts us), .tup (.of h2) .nil, ?_, by decide, ?_⟩
  · unfold SeqAt.shaped
    rw [Bool.and_eq_true_iff]
    refine ⟨by rw [PyData.canLay0]; exact g1, decide_eq_true ?_⟩
    rw [PyData.depth]
    omega
  · have e : PyData.eqv (.tuple (us.map .str)) (.tuple []) = decide (us = []) := by
      rw [PyData.eqv]
      cases us with
      | nil => rfl
      | cons q r => rfl
    rw [e]
    exact h
theorem inV_strs (z : Str) (ys : List Str) : inV (.str z) (ys.map V.str) = decide (z ∈ ys) := by
  unfold inV
  rw [Bool.eq_iff_iff, List.any_eq_true]
  constructor
  · rintro ⟨y, hy, e⟩
    obtain ⟨x, hx, rfl⟩ := List.mem_map.mp hy
    have e' : x = z := by simpa [eqV] using e
    subst e'
    exact decide_eq_true hx
  · intro h
    exact ⟨.str z, List.mem_map_of_mem (of_decide_eq_true h), by simp [eqV]⟩
theorem w_inUs {K : PySem.W.Frag} {H : Hp} {Q : VK} {p : Addr} {ys : List Str} {z : Str} (h1 : SqT K H p (ys.map V.str)) (h : Q (.bl (decide (z ∈ ys))) H) : rIn K false (.str z) (.ref p) H Q := ⟨p, _, rfl, .inr h1, rfl, flat_strs ys, by rw [inV_strs]; exact h⟩
/-- labels that are told: a tuple of the heap, or one that the program holds for ever -/
def UsAt (K : PySem.W.Frag) (H : Hp) (u : Addr) (us : List Str) : Prop := H u = some (.tup (us.map V.str)) ∨ ∀ H', SqT K H' u (us.map V.str)
theorem UsAt.sq {K : PySem.W.Frag} {H : Hp} {u : Addr} {us : List Str} (h : UsAt K H u us) : SqT K H u (us.map V.str) := h.elim (fun e => .of e) fun e => e H
theorem UsAt.kt {K : PySem.W.Frag} {H H' : Hp} {u : Addr} {us : List Str} (h : UsAt K H u us) (k : KT H H') : UsAt K H' u us := h.imp (k _ _) id
def spPartsT (P : Program) (w : World) (C : Addr) : Sp := fun vs H Q _ => ∃ (p dx lc ld lg : Addr) (cs : List (Addr × Ct)) (ds : List Nat) (n : Nat), vs = [.ref p, nV n] ∧ BookAt P w C H p dx lc ld lg cs ds ∧ isTr cs n ∧ (ents cs n).length ≤ 20 ∧ ∀ H' r, Same H H' → H' r = some (.tup (((ents cs n).map (·.2)).map nV)) → Q (.ref r) H'
def spChosen (P : Program) (w : World) (K : PySem.W.Frag) (C : Addr) : Sp := fun vs H Q _ => ∃ (p dx lc ld lg u : Addr) (cs : List (Addr × Ct)) (ds : List Nat) (r : Nat) (us : List Str), vs = [.ref p, nV r, .ref u] ∧ BookAt P w C H p dx lc ld lg cs ds ∧ isTr cs r ∧ (ents cs r).length ≤ 20 ∧ UsAt K H u us ∧ (∀ l ∈ us, PyData.strOk l = true) ∧ ∀ H' l, Same H H' → H l = none → H' l = some (.lst ((chs cs us r).map nV)) → Q (.ref l) H'
def spTops (P : Program) (w : World) (C CH : Addr) : Sp := fun vs H Q _ => ∃ (v dv p dx lc ld lg rw' hd sa : Addr) (cs : List (Addr × Ct)) (ds hs st : List Nat), vs = [.ref v, .ref sa] ∧ ViewAt P w C CH H v dv p dx lc ld lg rw' hd cs ds hs ∧ H sa = some (.tup (st.map nV)) ∧ st.length ≤ 400 ∧ (∀ n ∈ st, isV cs n) ∧ ∀ H' l, Same H H' → H l = none → P2L H' l (topsOf cs hs st) → Q (.ref l) H'
section
variable {P : Program} {w : World} {K : PySem.W.Frag} {mg : Str → Option Value} {base : Heap} {C CH : Addr}
theorem ok_tops {f fH fG fN fI : Addr} {fd fdH fdG fdN fdI : FuncData} (T : Txt K mg) (F : Fun K "tops" "tops" s_tops f fd) (K_Book : Kl K mg "Book" C ["contents", "depths", "given"]) (K_Holding : Kl K mg "Holding" CH ["book", "row", "here"]) (D_Holding_holds : DfM K CH "holds" "Holding.holds" s_Holding_holds ["self", "name"] fH fdH) (D_Book_thing : DfM K C "thing" "Book.thing" s_Book_thing ["self", "name"] fG fdG) (D_is_name : Df K mg "is_name" s_is_name ["book", "thing"] fN fdN) (D_is_int : DfD K mg "is_int" s_is_int ["thing", "least"] [.int 0] fI fdI) : FnOk P w K mg base CX0 4 f fd ["view", "versions"] (spTops P w C CH) := by
  have G_Holding_holds : FnOk P w K mg base CX0 3 fH fdH ["self", "name"] (spHolds P w C CH) := ok_holds T D_Holding_holds.fn K_Book K_Holding D_is_name D_is_int
  have G_Book_thing : FnOk P w K mg base CX0 3 fG fdG ["self", "name"] (spThing P w C) := ok_thing T D_Book_thing.fn K_Book D_is_name D_is_int
  have cl := K_Holding.cl
  have clB := K_Book.cl
  have n1 := K_Holding.na "book" (by simp)
  refine F.ok sc_tops (fun vs H Q E h => ?_) (fun cdv A outer s H vs Q E hr h => ?_)
  · obtain ⟨v, dv, p, dx, lc, ld, lg, rw', hd, sa, cs, ds, hs, st, rfl, _⟩ := h
    rfl
  · obtain ⟨v, dv, p, dx, lc, ld, lg, rw', hd, sa, cs, ds, hs, st, rfl, W, hsa, hsl, hst, q⟩ := h
    refine ⟨_,
      (pss_one
        (ps_ret (pe_lc (own := [("name", 2)]) (g := (gName 2)) rfl sc_tops.nd (pi_tup (pv 1)) (blkOk_by (own := [("name", 2)]) (N := N_tops) (sc := defScope s_tops) (by decide +kernel)) (fun _ _ _ _ _ => (pg_name (i := 2) sc_tops.nd rfl (.inl rfl))) (fun _ _ _ _ _ => (pts_one (pt_val (pe_meth (pv 0) K_Holding.cl D_Holding_holds.m G_Holding_holds (hr.mono (by omega)) D_Holding_holds.b .nil pass0 (pa_cons (pv 2) pa_nil))))) (fun _ _ _ _ _ => (pe_tup (pa_cons (pv 2) (pa_cons (pe_ix (r := rIxT K) ix_tup (pe_meth (pe_fldK (K := K) rfl (pv 0) rfl) K_Book.cl D_Book_thing.m G_Book_thing (hr.mono (by omega)) D_Book_thing.b .nil pass0 (pa_cons (pv 2) pa_nil)) pe_int (fun _ _ => rfl)) pa_nil)))))))
      , ?_⟩
    rw [show L2.start N_tops [V.ref v, V.ref sa] = [some (.ref v), some (.ref sa), none] from rfl]
    walk_at "x"
    refine lcp_accH (walk_tup (K := K) (a := sa) (xs := st.map nV)) [] (fun i acc H' => ∃ qs : List (Addr × Nat × Nat), acc = qs.map (fun q => V.ref q.1) ∧ qs.length ≤ i ∧ (∀ q ∈ qs, H' q.1 = some (.tup [nV q.2.1, nV q.2.2])) ∧ qs.map (·.2) = topsOf cs hs (st.take i)) (by rw [List.length_map]; omega) ?_ (fun i H' k => .of (k _ _ (by simp) hsa)) ⟨[], rfl, Nat.le_refl 0, by simp, by simp [topsOf]⟩ ?_ ?_ (by simp) ?_
    · rintro i acc Ha Hb kt ⟨qs, e, hl, h1, h2⟩
      exact ⟨qs, e, hl, fun q hq => kt _ _ (h1 q hq), h2⟩
    · rintro i acc Ha ⟨qs, rfl, hl, _⟩
      rw [List.length_map]
      exact hl
    · rintro i x Ha Hb acc R R0 hi ka ta ⟨qs, rfl, hl, h1, h2⟩ ⟨rfl, hx⟩ hR hR0
      obtain ⟨n, hn, rfl⟩ := map_at hx
      have etk : st.take (i + 1) = st.take i ++ [n] := by rw [List.take_add_one, hn]; rfl
      have Wa := W.same ka.same
      have oba := Wa.ob
      have obB := Wa.bk.ob
      refine w_name ⟨rfl, ?_⟩
      walk_at "g"
      refine ⟨v, dv, p, dx, lc, ld, lg, rw', hd, cs, ds, hs, nV n, "int", rfl, Wa, .int _, fun m e hm => ?_, fun hm => ?_⟩
      · have em : m = n := by have := V.int.inj e; omega
        subst em
        obtain ⟨ca, cst, hget⟩ := (hst m (List.mem_of_getElem? hn)).root
        obtain ⟨cr, g1, g2⟩ := Wa.bk.ct _ (List.mem_of_getElem? hget)
        walk_at "g"
        refine ⟨p, dx, lc, ld, lg, cs, ds, m, _, rfl, Wa.bk, hget, ?_⟩
        walk_at "g"
        refine w_new fun a Hc ha ea kc => ?_
        refine hR _ _ ⟨qs ++ [(a, m, rootV cs m)], by rw [List.map_append]; rfl, by rw [List.length_append]; simp only [List.length_cons, List.length_nil]; omega, fun q' hq' => ?_, ?_⟩ (Kp.of kc) (KT.of kc)
        · rcases List.mem_append.mp hq' with g | g
          · exact kc _ _ (h1 q' g)
          · have : q' = (a, m, rootV cs m) := by simpa using g
            rw [this]
            exact ea
        · rw [List.map_append, h2, etk]
          unfold topsOf
          rw [List.filter_append, List.filter_cons_of_pos (by simpa using hm), List.map_append]
          rfl
      · walk_at "g"
        refine hR0 _ ⟨qs, rfl, by omega, h1, ?_⟩ Kp.refl KT.refl
        rw [h2, etk]
        unfold topsOf
        rw [List.filter_append, List.filter_cons_of_neg (by simpa using hm n rfl), List.filter_nil, List.append_nil]
    · rintro l H1 acc ⟨qs, rfl, _, h1, h2⟩ hl k1 t1 el
      rw [List.length_map, List.take_length] at h2
      walk_at "g"
      exact q H1 l k1.same hl ⟨qs, el, h2, h1⟩
theorem ok_partsT {f fG fN fI : Addr} {fd fdG fdN fdI : FuncData} (T : Txt K mg) (F : Fun K "parts" "Book.parts" s_Book_parts f fd) (K_Book : Kl K mg "Book" C ["contents", "depths", "given"]) (D_Book_thing : DfM K C "thing" "Book.thing" s_Book_thing ["self", "name"] fG fdG) (D_is_name : Df K mg "is_name" s_is_name ["book", "thing"] fN fdN) (D_is_int : DfD K mg "is_int" s_is_int ["thing", "least"] [.int 0] fI fdI) : FnOk P w K mg base CX0 4 f fd ["self", "name"] (spPartsT P w C) := by
  have G_Book_thing : FnOk P w K mg base CX0 3 fG fdG ["self", "name"] (spThing P w C) := ok_thing T D_Book_thing.fn K_Book D_is_name D_is_int
  refine F.ok sc_Book_parts (fun vs H Q E h => ?_) (fun cdv A outer s H vs Q E hr h => ?_)
  · obtain ⟨p, dx, lc, ld, lg, cs, ds, n, rfl, _⟩ := h
    rfl
  · obtain ⟨p, dx, lc, ld, lg, cs, ds, n, rfl, B, it, hel, q⟩ := h
    have ob := B.ob
    obtain ⟨a, hq⟩ := it.at
    obtain ⟨r, qs, h1, h2, h3, h4⟩ := B.ct _ (List.mem_of_getElem? hq)
    have hql : qs.length ≤ 20 := by
      have := congrArg List.length h3
      rw [List.length_map] at this
      omega
    refine ⟨_,
      (pss_cons
        (ps_set (i := 2) sc_Book_parts.nd rfl (.inl rfl) (pe_meth (pv 0) K_Book.cl D_Book_thing.m G_Book_thing (hr.mono (by omega)) D_Book_thing.b .nil pass0 (pa_cons (pv 1) pa_nil)))
      (pss_cons
        (ps_if (pt_cmpR op_eq (pe_ix (r := rIxT K) ix_tup (pv 2) pe_int (fun _ _ => rfl)) pe_str (nomark _))
          (pss_one
            (ps_ret (pe_tup pa_nil)))
          pss_nil)
      (pss_cons
        (ps_if (pt_cmpR op_eq (pe_ix (r := rIxT K) ix_tup (pv 2) pe_int (fun _ _ => rfl)) pe_str (nomark _))
          (pss_one
            (ps_ret (pe_callTy (r := rTupOf K) c_tupOf (by rfl) T.n_tuple (by decide +kernel) (pa_cons (pe_lc (own := [("label", 3), ("part", 4)]) (g := (gTup K 2 (gCons (gName 3) (gCons (gName 4) gNil)))) rfl sc_Book_parts.nd (pi_tup (pe_ix (r := rIxT K) ix_tup (pv 2) pe_int (fun _ _ => rfl))) (blkOk_by (own := [("label", 3), ("part", 4)]) (N := N_Book_parts) (sc := defScope s_Book_parts) (by decide +kernel)) (fun _ _ _ _ _ => (pg_tup rfl (pgs_cons (pg_name (i := 3) sc_Book_parts.nd rfl (.inl rfl)) (pgs_cons (pg_name (i := 4) sc_Book_parts.nd rfl (.inl rfl)) pgs_nil)))) (fun _ _ _ _ _ => pts_nil) (fun _ _ _ _ _ => (pv 4))) pa_nil))))
          pss_nil)
      (pss_one
        (ps_ret (pe_op op_catA (pe_ix (r := rIxT K) ix_tup (pv 2) pe_int (fun _ _ => rfl)) (pe_tup (pa_cons (pe_ix (r := rIxT K) ix_tup (pv 2) pe_int (fun _ _ => rfl)) pa_nil))))))))
      , ?_⟩
    rw [show L2.start N_Book_parts [V.ref p, nV n] = [some (.ref p), some (.int (n : Int)), none, none, none] from rfl]
    walk_at "x"
    refine ⟨p, dx, lc, ld, lg, cs, ds, n, _, rfl, B, hq, ?_⟩
    walk_at "g"
    refine w_seq ?_
    walk_at "g"
    refine w_no (by decide +kernel) ?_
    walk_at "g"
    refine w_seq ?_
    walk_at "g"
    refine w_yes (by decide +kernel) ?_
    walk_at "g"
    refine lcp_map (walk_tup (K := K) (a := r) (xs := qs.map fun q => V.ref q.1)) [] (((ents cs n).map (·.2)).map nV) (by rw [← h3]; simp) (by rw [List.length_map]; omega) (fun H' k => .of (k _ _ (by simp) h2)) ?_ (by simp) ?_
    · rintro i x Ha Hb R hi ka ⟨rfl, hx⟩ hR
      obtain ⟨z, hz, rfl⟩ := map_at hx
      have ez := ka.same _ _ (h4 z (List.mem_of_getElem? hz))
      refine w_gtup (K := K) (.of ez) rfl (w_gcons (w_name (w_gcons (w_name (w_gnil ⟨rfl, ?_⟩)))))
      walk_at "g"
      exact hR _ _ (by rw [← h3, List.map_map, List.getElem?_map, List.getElem?_map, hz]; rfl) Kp.refl
    · intro L H3 hL k3 eL
      walk_at "g"
      refine w_tupL (.of eL) fun t H4 ht e4 k4 => ?_
      exact q H4 t (Same.trans k3.same k4) e4
theorem ok_chosen {f fG fN fI : Addr} {fd fdG fdN fdI : FuncData} (T : Txt K mg) (F : Fun K "chosen" "chosen" s_chosen f fd) (K_Book : Kl K mg "Book" C ["contents", "depths", "given"]) (D_Book_thing : DfM K C "thing" "Book.thing" s_Book_thing ["self", "name"] fG fdG) (D_is_name : Df K mg "is_name" s_is_name ["book", "thing"] fN fdN) (D_is_int : DfD K mg "is_int" s_is_int ["thing", "least"] [.int 0] fI fdI) : FnOk P w K mg base CX0 4 f fd ["book", "root", "under"] (spChosen P w K C) := by
  have G_Book_thing : FnOk P w K mg base CX0 3 fG fdG ["self", "name"] (spThing P w C) := ok_thing T D_Book_thing.fn K_Book D_is_name D_is_int
  refine F.ok sc_chosen (fun vs H Q E h => ?_) (fun cdv A outer s H vs Q E hr h => ?_)
  · obtain ⟨p, dx, lc, ld, lg, u, cs, ds, r, us, rfl, _⟩ := h
    rfl
  · obtain ⟨p, dx, lc, ld, lg, u, cs, ds, r, us, rfl, B, it, hel, hu0, hus, q⟩ := h
    have ob := B.ob
    obtain ⟨a, hq⟩ := it.at
    obtain ⟨r', qs, h1, h2, h3, h4⟩ := B.ct _ (List.mem_of_getElem? hq)
    have hql : qs.length ≤ 20 := by
      have := congrArg List.length h3
      rw [List.length_map] at this
      omega
    refine ⟨_,
      (pss_one
        (ps_ret (pe_lc (own := [("label", 3), ("name", 4)]) (g := (gTup K 2 (gCons (gName 3) (gCons (gName 4) gNil)))) rfl sc_chosen.nd (pi_tup (pe_ix (r := rIxT K) ix_tup (pe_meth (pv 0) K_Book.cl D_Book_thing.m G_Book_thing (hr.mono (by omega)) D_Book_thing.b .nil pass0 (pa_cons (pv 1) pa_nil)) pe_int (fun _ _ => rfl))) (blkOk_by (own := [("label", 3), ("name", 4)]) (N := N_chosen) (sc := defScope s_chosen) (by decide +kernel)) (fun _ _ _ _ _ => (pg_tup rfl (pgs_cons (pg_name (i := 3) sc_chosen.nd rfl (.inl rfl)) (pgs_cons (pg_name (i := 4) sc_chosen.nd rfl (.inl rfl)) pgs_nil)))) (fun _ _ _ _ _ => (pts_one (PW.pt (pw_or (pt_cmpR (r := rEqD K) (op_eqD hr.units) (pv 2) (pe_tup pa_nil) (nomark _)) (pw_or1 (pt_cmpR (r := rIn K false) op_in_seq (pv 3) (pv 2) rfl)))))) (fun _ _ _ _ _ => (pv 4)))))
      , ?_⟩
    rw [show L2.start N_chosen [V.ref p, nV r, V.ref u] = [some (.ref p), some (.int (r : Int)), some (.ref u), none, none] from rfl]
    walk_at "x"
    refine ⟨p, dx, lc, ld, lg, cs, ds, r, _, rfl, B, hq, ?_⟩
    walk_at "g"
    refine lcp_sel (walk_tup (K := K) (a := r') (xs := qs.map fun q => V.ref q.1)) [] (fun i => qs[i]?.bind fun q => if pick us q.2.1 = true then some (nV q.2.2) else none) (by rw [List.length_map]; omega) (fun H' k => by first | exact (h2.kt (KT.of k.same)).sq | exact .of (k _ _ (by simp) h2)) ?_ (by simp) ?_
    · rintro i x Ha Hb R R0 hi ka ⟨rfl, hx⟩ hR hR0
      obtain ⟨z, hz, rfl⟩ := map_at hx
      have ez := ka.same _ _ (h4 z (List.mem_of_getElem? hz))
      have ua := hu0.kt (KT.of ka.same)
      refine w_gtup (K := K) (.of ez) rfl (w_gcons (w_name (w_gcons (w_name (w_gnil ⟨rfl, ?_⟩)))))
      walk_at "g"
      refine w_new fun e0 Hc he0 ec kc => ?_
      refine w_eqNoUs (ua.kt (KT.of kc)).sq hus ec ?_
      walk_at "g"
      by_cases hn : us = []
      · rw [decide_eq_true hn]
        walk_at "g"
        exact hR _ _ (by rw [hz]; show (if pick us z.2.1 = true then _ else _) = _; rw [if_pos (by unfold pick; rw [decide_eq_true hn]; rfl)]) (Kp.of kc)
      rw [decide_eq_false hn]
      walk_at "g"
      refine w_inUs (ua.kt (KT.of kc)).sq ?_
      by_cases hl : z.2.1 ∈ us
      · rw [decide_eq_true hl]
        walk_at "g"
        exact hR _ _ (by rw [hz]; show (if pick us z.2.1 = true then _ else _) = _; rw [if_pos (by unfold pick; rw [decide_eq_true hl, Bool.or_true])]) (Kp.of kc)
      · rw [decide_eq_false hl]
        walk_at "g"
        exact hR0 _ (by rw [hz]; show (if pick us z.2.1 = true then _ else _) = _; rw [if_neg (by unfold pick; rw [decide_eq_false hl, decide_eq_false hn]; simp)]) (Kp.of kc)
    · intro L H3 hL k3 eL
      have e : (List.range qs.length).filterMap (fun i => qs[i]?.bind fun q => if pick us q.2.1 = true then some (nV q.2.2) else none) = (chs cs us r).map nV := by
        rw [range_fm]
        unfold chs
        rw [← h3]
        have : ∀ l : List (Addr × Str × Nat), (l.filterMap fun q => if pick us q.2.1 = true then some (nV q.2.2) else none) = (((l.map (·.2)).filter fun e => pick us e.1).map (·.2)).map nV := by
          intro l
          induction l with
          | nil => rfl
          | cons a r ih =>
            by_cases hp : pick us a.2.1 = true
            · rw [List.filterMap_cons_some (b := nV a.2.2) (by rw [if_pos hp]), List.map_cons, List.filter_cons_of_pos (by exact hp), List.map_cons, List.map_cons, ih]
            · rw [List.filterMap_cons_none (by rw [if_neg hp]), List.map_cons, List.filter_cons_of_neg (by exact hp), ih]
        exact this qs
      rw [List.length_map, e] at eL
      walk_at "g"
      exact q H3 L k3.same hL eL
end
/-! ### entered: the stack of names and trees, step by step -/
def kids (cs : List (Addr × Ct)) (hs : List Nat) (n : Nat) : List W2 := if n ∈ hs then (ents cs n).map fun e => (e.2, n) else []
def stepE (cs : List (Addr × Ct)) (hs : List Nat) (s : List W2 × List W2) : List W2 × List W2 := match s.2.reverse with
  | [] => s
  | q :: r => if q.1 ∈ s.1.map (·.1) then (s.1, r.reverse) else (s.1 ++ [q], r.reverse ++ kids cs hs q.1)
theorem stepE_in {cs : List (Addr × Ct)} {hs : List Nat} {b r : List W2} {q : W2} (h : q.1 ∈ b.map (·.1)) : stepE cs hs (b, r ++ [q]) = (b, r) := by
  unfold stepE
  simp only [List.reverse_append, List.reverse_cons, List.reverse_nil, List.nil_append, List.cons_append, List.reverse_reverse]
  rw [if_pos h]
theorem stepE_out {cs : List (Addr × Ct)} {hs : List Nat} {b r : List W2} {q : W2} (h : q.1 ∉ b.map (·.1)) : stepE cs hs (b, r ++ [q]) = (b ++ [q], r ++ kids cs hs q.1) := by
  unfold stepE
  simp only [List.reverse_append, List.reverse_cons, List.reverse_nil, List.nil_append, List.cons_append, List.reverse_reverse]
  rw [if_neg h]
def itE (cs : List (Addr × Ct)) (hs : List Nat) (s : List W2 × List W2) : Nat → List W2 × List W2
  | 0 => s
  | k + 1 => stepE cs hs (itE cs hs s k)
def rows0 (cs : List (Addr × Ct)) (hs : List Nat) (us : List Str) (ts : List (Nat × Nat)) : List W2 := ts.flatMap fun q => if q.2 ∈ hs then (chs cs us q.2).map fun n => (n, q.2) else []
structure EInv (cs : List (Addr × Ct)) (hs : List Nat) (us : List Str) (st : List Nat) (s : List W2 × List W2) : Prop where
  nd : (s.1.map (·.1)).Nodup
  of : ∀ q, q ∈ s.1 ∨ q ∈ s.2 → q.2 ∈ hs ∧ (∃ e ∈ ents cs q.2, e.2 = q.1) ∧ (q.2 ∈ s.1.map (·.1) ∨ (∃ v ∈ st, v ∈ hs ∧ rootV cs v = q.2) ∧ q.1 ∈ chs cs us q.2)
  cl : ∀ n ∈ s.1.map (·.1), n ∈ hs → ∀ e ∈ ents cs n, e.2 ∈ s.1.map (·.1) ∨ e.2 ∈ s.2.map (·.1)
  top : ∀ q ∈ rows0 cs hs us (topsOf cs hs st), q.1 ∈ s.1.map (·.1) ∨ q.1 ∈ s.2.map (·.1)
theorem mem_topsOf {cs : List (Addr × Ct)} {hs st : List Nat} {q : Nat × Nat} : q ∈ topsOf cs hs st ↔ q.1 ∈ st ∧ q.1 ∈ hs ∧ q.2 = rootV cs q.1 := by
  unfold topsOf
  rw [List.mem_map]
  constructor
  · rintro ⟨n, hn, rfl⟩
    obtain ⟨h1, h2⟩ := List.mem_filter.mp hn
    exact ⟨h1, of_decide_eq_true h2, rfl⟩
  · rintro ⟨h1, h2, h3⟩
    exact ⟨q.1, List.mem_filter.mpr ⟨h1, decide_eq_true h2⟩, by rw [← h3]⟩
theorem mem_rows0 {cs : List (Addr × Ct)} {hs : List Nat} {us : List Str} {ts : List (Nat × Nat)} {q : W2} : q ∈ rows0 cs hs us ts ↔ ∃ p ∈ ts, p.2 = q.2 ∧ q.2 ∈ hs ∧ q.1 ∈ chs cs us q.2 := by
  unfold rows0
  rw [List.mem_flatMap]
  constructor
  · rintro ⟨p, hp, h⟩
    by_cases hh : p.2 ∈ hs
    · rw [if_pos hh] at h
      obtain ⟨n, hn, rfl⟩ := List.mem_map.mp h
      exact ⟨p, hp, rfl, hh, hn⟩
    · rw [if_neg hh] at h
      cases h
  · rintro ⟨p, hp, e, hh, hn⟩
    refine ⟨p, hp, ?_⟩
    rw [e, if_pos hh]
    exact List.mem_map.mpr ⟨q.1, hn, rfl⟩
theorem chs_ent {cs : List (Addr × Ct)} {us : List Str} {r n : Nat} (h : n ∈ chs cs us r) : ∃ e ∈ ents cs r, e.2 = n := by
  obtain ⟨e, he, rfl⟩ := List.mem_map.mp h
  exact ⟨e, (List.mem_filter.mp he).1, rfl⟩
theorem EInv.start {cs : List (Addr × Ct)} {hs : List Nat} {us : List Str} {st : List Nat} : EInv cs hs us st ([], rows0 cs hs us (topsOf cs hs st)) where
  nd := .nil
  of := fun q hq => by
    obtain ⟨p, hp, e, hh, hn⟩ := mem_rows0.mp (hq.resolve_left (by simp))
    obtain ⟨h1, h2, h3⟩ := mem_topsOf.mp hp
    exact ⟨hh, chs_ent hn, .inr ⟨⟨p.1, h1, h2, by rw [← h3, e]⟩, hn⟩⟩
  cl := fun n hn => by cases hn
  top := fun q hq => .inr (List.mem_map_of_mem hq)
theorem mem_kids {cs : List (Addr × Ct)} {hs : List Nat} {n : Nat} {q : W2} : q ∈ kids cs hs n ↔ n ∈ hs ∧ q.2 = n ∧ ∃ e ∈ ents cs n, e.2 = q.1 := by
  unfold kids
  by_cases hh : n ∈ hs
  · rw [if_pos hh, List.mem_map]
    constructor
    · rintro ⟨e, he, rfl⟩
      exact ⟨hh, rfl, e, he, rfl⟩
    · rintro ⟨_, h2, e, he, h3⟩
      exact ⟨e, he, by rw [h3, ← h2]⟩
  · rw [if_neg hh]
    exact ⟨fun h => (by cases h), fun h => absurd h.1 hh⟩
theorem EInv.step {cs : List (Addr × Ct)} {hs : List Nat} {us : List Str} {st : List Nat} {s : List W2 × List W2} (h : EInv cs hs us st s) : EInv cs hs us st (stepE cs hs s) := by
  obtain ⟨b, rs⟩ := s
  rcases List.eq_nil_or_concat rs with e | ⟨r, q, e⟩
  · rw [e] at h ⊢
    exact h
  · rw [List.concat_eq_append] at e
    subst e
    by_cases hin : q.1 ∈ b.map (·.1)
    · rw [stepE_in hin]
      refine ⟨h.nd, fun z hz => h.of z (hz.imp id fun g => List.mem_append.mpr (.inl g)), fun n hn hh e he => ?_, fun z hz => ?_⟩
      · rcases h.cl n hn hh e he with g | g
        · exact .inl g
        · rw [List.map_append] at g
          rcases List.mem_append.mp g with g | g
          · exact .inr g
          · have : e.2 = q.1 := by simpa using g
            rw [this]
            exact .inl hin
      · rcases h.top z hz with g | g
        · exact .inl g
        · rw [List.map_append] at g
          rcases List.mem_append.mp g with g | g
          · exact .inr g
          · have : z.1 = q.1 := by simpa using g
            rw [this]
            exact .inl hin
    · rw [stepE_out hin]
      have key : ∀ {n : Nat}, n ∈ b.map (·.1) ∨ n ∈ (r ++ [q]).map (·.1) → n ∈ (b ++ [q]).map (·.1) ∨ n ∈ (r ++ kids cs hs q.1).map (·.1) := fun {n} g => by
        rw [List.map_append, List.map_append, List.mem_append, List.mem_append]
        rcases g with g | g
        · exact .inl (.inl g)
        · rw [List.map_append] at g
          rcases List.mem_append.mp g with g | g
          · exact .inr (.inl g)
          · exact .inl (.inr g)
      refine ⟨?_, fun z hz => ?_, fun n hn hh e he => ?_, fun z hz => key (h.top z hz)⟩
      · show ((b ++ [q]).map (·.1)).Nodup
        rw [List.map_append, List.nodup_append]
        refine ⟨h.nd, by simp, fun x hx y hy e => ?_⟩
        have : y = q.1 := by simpa using hy
        rw [← this, ← e] at hin
        exact hin hx
      · have lift : ∀ {z : W2}, (z ∈ b ∨ z ∈ r ++ [q]) → z.2 ∈ hs ∧ (∃ e ∈ ents cs z.2, e.2 = z.1) ∧ (z.2 ∈ (b ++ [q]).map (·.1) ∨ (∃ v ∈ st, v ∈ hs ∧ rootV cs v = z.2) ∧ z.1 ∈ chs cs us z.2) := fun {z} g => by
          obtain ⟨g1, g2, g3⟩ := h.of z g
          refine ⟨g1, g2, g3.imp (fun g => ?_) id⟩
          rw [List.map_append]
          exact List.mem_append.mpr (.inl g)
        rcases hz with g | g
        · rcases List.mem_append.mp g with g | g
          · exact lift (.inl g)
          · exact lift (.inr (List.mem_append.mpr (.inr g)))
        · rcases List.mem_append.mp g with g | g
          · exact lift (.inr (List.mem_append.mpr (.inl g)))
          · obtain ⟨k1, k2, e, he, k3⟩ := mem_kids.mp g
            rw [k2]
            exact ⟨k1, ⟨e, he, k3⟩, .inl (by rw [List.map_append]; exact List.mem_append.mpr (.inr (by simp)))⟩
      · have hn' : n ∈ (b ++ [q]).map (·.1) := hn
        rw [List.map_append] at hn'
        rcases List.mem_append.mp hn' with g | g
        · exact key (h.cl n g hh e he)
        · have en : n = q.1 := by simpa using g
          rw [en] at hh he
          refine .inr ?_
          show e.2 ∈ (r ++ kids cs hs q.1).map (·.1)
          rw [List.map_append]
          exact List.mem_append.mpr (.inr (List.mem_map.mpr ⟨(e.2, q.1), mem_kids.mpr ⟨hh, rfl, e, he, rfl⟩, rfl⟩))
theorem EInv.it {cs : List (Addr × Ct)} {hs : List Nat} {us : List Str} {st : List Nat} : ∀ k, EInv cs hs us st (itE cs hs ([], rows0 cs hs us (topsOf cs hs st)) k)
  | 0 => .start
  | k + 1 => (EInv.it k).step
theorem kids_len {cs : List (Addr × Ct)} {hs : List Nat} {n : Nat} (tr : TrOk cs) : (kids cs hs n).length ≤ 20 := by
  unfold kids
  split
  · rw [List.length_map]
    exact tr.few n
  · exact Nat.zero_le _
/-! ### entered -/
theorem dp_pairs {K : PySem.W.Frag} {H : Hp} : ∀ {qs : List (Addr × Nat × Nat)}, (∀ q ∈ qs, H q.1 = some (.tup [nV q.2.1, nV q.2.2])) → DpAll K H (qs.map fun q => V.ref q.1) (qs.map fun q => PyData.tuple [.int (q.2.1 : Int), .int (q.2.2 : Int)])
  | [], _ => .nil
  | q :: r, h => .cons (.tup (.of (h q (by simp))) (.cons (.int _) (.cons (.int _) .nil))) (dp_pairs fun z hz => h z (by simp [hz]))
theorem pair_lays : ∀ {qs : List (Addr × Nat × Nat)}, PyData.canLayAll0 (qs.map fun q => PyData.tuple [.int (q.2.1 : Int), .int (q.2.2 : Int)]) = true ∧ PyData.depthAll (qs.map fun q => PyData.tuple [.int (q.2.1 : Int), .int (q.2.2 : Int)]) ≤ 2
  | [] => ⟨rfl, by decide⟩
  | q :: r => by
    obtain ⟨h1, h2⟩ := pair_lays (qs := r)
    refine ⟨?_, ?_⟩
    · rw [List.map_cons, PyData.canLayAll0, h1]; rfl
    · rw [List.map_cons, PyData.depthAll]
      have : PyData.depth (.tuple [.int (q.2.1 : Int), .int (q.2.2 : Int)]) ≤ 2 := by simp [PyData.depth, PyData.depthAll]
      omega
theorem w_neNilP {K : PySem.W.Frag} {H : Hp} {Q : VK} {a z : Addr} {qs : List (Addr × Nat × Nat)} (h1 : H a = some (.lst (qs.map fun q => V.ref q.1))) (h2 : ∀ q ∈ qs, H q.1 = some (.tup [nV q.2.1, nV q.2.2])) (h3 : H z = some (.lst [])) (h : Q (.bl (!decide (qs = []))) H) : rNeD K (.ref a) (.ref z) H Q := by
  refine ⟨.list (qs.map fun q => PyData.tuple [.int (q.2.1 : Int), .int (q.2.2 : Int)]), .list [], .lst (.of h1) (dp_pairs h2), .lst (.of h3) .nil, ?_, by decide, ?_⟩
  · obtain ⟨g1, g2⟩ := pair_lays (qs := qs)
    unfold SeqAt.shaped
    rw [Bool.and_eq_true_iff]
    refine ⟨by rw [PyData.canLay0]; exact g1, decide_eq_true ?_⟩
    rw [PyData.depth]
    omega
  · have e : PyData.eqv (.list (qs.map fun q => PyData.tuple [.int (q.2.1 : Int), .int (q.2.2 : Int)])) (.list []) = decide (qs = []) := by
      rw [PyData.eqv]
      cases qs with
      | nil => rfl
      | cons q r => rfl
    rw [e]
    exact h
/-- [(name, root) for name in ..] -/
theorem P2L.kp {M : List Addr} {H H' : Hp} {l : Addr} {ps : List (Nat × Nat)} (h : P2L H l ps) (k : Kp M H H') (t : KT H H') (n : l ∉ M) : P2L H' l ps := by
  obtain ⟨qs, h1, h2, h3⟩ := h
  exact ⟨qs, k _ _ n h1, h2, fun q hq => t _ _ (h3 q hq)⟩
def spEntered (P : Program) (w : World) (K : PySem.W.Frag) (C CH : Addr) : Sp := fun vs H Q _ => ∃ (v dv p dx lc ld lg rw' hd sa u : Addr) (cs : List (Addr × Ct)) (ds hs st : List Nat) (us : List Str), vs = [.ref v, .ref sa, .ref u] ∧ ViewAt P w C CH H v dv p dx lc ld lg rw' hd cs ds hs ∧ TrOk cs ∧ H sa = some (.tup (st.map nV)) ∧ st.length ≤ 400 ∧ (∀ n ∈ st, isV cs n) ∧ UsAt K H u us ∧ (∀ l ∈ us, PyData.strOk l = true) ∧
  ∀ (H' : Hp) (b : Addr) (by' : List W2), Same H H' → H b = none → H' b = some (.dK (wkn by')) → (∃ k, itE cs hs ([], rows0 cs hs us (topsOf cs hs st)) k = (by', [])) → Q (.ref b) H'
section
variable {P : Program} {w : World} {K : PySem.W.Frag} {mg : Str → Option Value} {base : Heap} {C CH : Addr}
theorem ok_entered {f fT fC fP fK fH fG fN fI : Addr} {fd fdT fdC fdP fdK fdH fdG fdN fdI : FuncData} (T : Txt K mg) (F : Fun K "entered" "entered" s_entered f fd) (D_tops : Df K mg "tops" s_tops ["view", "versions"] fT fdT) (D_chosen : Df K mg "chosen" s_chosen ["book", "root", "under"] fC fdC) (K_Book : Kl K mg "Book" C ["contents", "depths", "given"]) (K_Holding : Kl K mg "Holding" CH ["book", "row", "here"]) (D_Holding_holds : DfM K CH "holds" "Holding.holds" s_Holding_holds ["self", "name"] fH fdH) (D_Book_parts : DfM K C "parts" "Book.parts" s_Book_parts ["self", "name"] fP fdP) (D_Book_kind : DfM K C "kind" "Book.kind" s_Book_kind ["self", "name"] fK fdK) (D_Book_thing : DfM K C "thing" "Book.thing" s_Book_thing ["self", "name"] fG fdG) (D_is_name : Df K mg "is_name" s_is_name ["book", "thing"] fN fdN) (D_is_int : DfD K mg "is_int" s_is_int ["thing", "least"] [.int 0] fI fdI) : FnOk P w K mg base CX0 5 f fd ["view", "versions", "under"] (spEntered P w K C CH) := by
  have G_tops : FnOk P w K mg base CX0 4 fT fdT ["view", "versions"] (spTops P w C CH) := ok_tops T D_tops.fn K_Book K_Holding D_Holding_holds D_Book_thing D_is_name D_is_int
  have G_chosen : FnOk P w K mg base CX0 4 fC fdC ["book", "root", "under"] (spChosen P w K C) := ok_chosen T D_chosen.fn K_Book D_Book_thing D_is_name D_is_int
  have G_Book_parts : FnOk P w K mg base CX0 4 fP fdP ["self", "name"] (spPartsT P w C) := ok_partsT T D_Book_parts.fn K_Book D_Book_thing D_is_name D_is_int
  have G_Book_kind : FnOk P w K mg base CX0 4 fK fdK ["self", "name"] (spKind P w C) := ok_kind T D_Book_kind.fn K_Book D_Book_thing D_is_name D_is_int
  have G_Holding_holds : FnOk P w K mg base CX0 3 fH fdH ["self", "name"] (spHolds P w C CH) := ok_holds T D_Holding_holds.fn K_Book K_Holding D_is_name D_is_int
  have cl := K_Holding.cl
  have clB := K_Book.cl
  have n1 := K_Holding.na "book" (by simp)
  refine F.ok sc_entered (fun vs H Q E h => ?_) (fun cdv A outer s H vs Q E hr h => ?_)
  · obtain ⟨v, dv, p, dx, lc, ld, lg, rw', hd, sa, u, cs, ds, hs, st, us, rfl, _⟩ := h
    rfl
  · obtain ⟨v, dv, p, dx, lc, ld, lg, rw', hd, sa, u, cs, ds, hs, st, us, rfl, W, tr, hsa, hsl, hst, hU, hus, q⟩ := h
    have hu := hu_of hr
    have few := W.bk.few
    refine ⟨_,
      (pss_cons
        (ps_set (i := 3) sc_entered.nd rfl (.inl rfl) pe_dnewK)
      (pss_cons
        (ps_set (i := 4) sc_entered.nd rfl (.inl rfl) (pe_lst pa_nil))
      (pss_cons
        (ps_for PassesOwn.never rfl (pi_list (pe_call G_tops (hr.mono (by omega)) (by rfl) D_tops.g D_tops.fn.kp D_tops.b .nil pass0 (pa_cons (pv 0) (pa_cons (pv 1) pa_nil)))) (pg_tup rfl (pgs_cons (pg_name (i := 5) sc_entered.nd rfl (.inl rfl)) (pgs_cons (pg_name (i := 6) sc_entered.nd rfl (.inr rfl)) pgs_nil)))
          (pss_one
            (ps_if (pt_val (pe_meth (pv 0) K_Holding.cl D_Holding_holds.m G_Holding_holds (hr.mono (by omega)) D_Holding_holds.b .nil pass0 (pa_cons (pv 6) pa_nil)))
              (pss_one
                (ps_expr (pe_bm PySem.F.plainAttrs_list PySem.F.slot_list_extend PySem.F.type_list_extend mt_extend (pv 4) (pa_cons (pe_lc (own := [("name", 7)]) (g := (gName 7)) rfl sc_entered.nd (pi_list (pe_call G_chosen (hr.mono (by omega)) (by rfl) D_chosen.g D_chosen.fn.kp D_chosen.b .nil pass0 (pa_cons (pe_fldK (K := K) rfl (pv 0) rfl) (pa_cons (pv 6) (pa_cons (pv 2) pa_nil))))) (blkOk_by (own := [("name", 7)]) (N := N_entered) (sc := defScope s_entered) (by decide +kernel)) (fun _ _ _ _ _ => (pg_name (i := 7) sc_entered.nd rfl (.inl rfl))) (fun _ _ _ _ _ => pts_nil) (fun _ _ _ _ _ => (pe_tup (pa_cons (pv 7) (pa_cons (pv 6) pa_nil))))) pa_nil))))
              pss_nil)))
      (pss_cons
        (ps_while PassesOwn.never (pt_cmpR (r := rNeD K) (op_neD hr.units) (pv 4) (pe_lst pa_nil) (nomark _))
          (pss_cons
            (ps_asg (pe_bm0 PySem.F.plainAttrs_list PySem.F.slot_list_pop PySem.F.type_list_pop mt_pop (pv 4)) (pg_tup rfl (pgs_cons (pg_name (i := 7) sc_entered.nd rfl (.inr rfl)) (pgs_cons (pg_name (i := 8) sc_entered.nd rfl (.inl rfl)) pgs_nil))))
          (pss_one
            (ps_if (pt_cmp (pc_dnotin hu (pv 7) (pv 3)))
              (pss_cons
                (ps_dput hu (pv 3) (pv 7) (pv 8) rfl)
              (pss_one
                (ps_if (PW.pt (pw_and (pt_val (pe_meth (pv 0) K_Holding.cl D_Holding_holds.m G_Holding_holds (hr.mono (by omega)) D_Holding_holds.b .nil pass0 (pa_cons (pv 7) pa_nil))) (pw_and1 (pt_cmpR op_eq (pe_meth (pe_fldK (K := K) rfl (pv 0) rfl) K_Book.cl D_Book_kind.m G_Book_kind (hr.mono (by omega)) D_Book_kind.b .nil pass0 (pa_cons (pv 7) pa_nil)) pe_str (nomark _)))))
                  (pss_one
                    (ps_expr (pe_bm PySem.F.plainAttrs_list PySem.F.slot_list_extend PySem.F.type_list_extend mt_extend (pv 4) (pa_cons (pe_lc (own := [("part", 9)]) (g := (gName 9)) rfl sc_entered.nd (pi_tup (pe_meth (pe_fldK (K := K) rfl (pv 0) rfl) K_Book.cl D_Book_parts.m G_Book_parts (hr.mono (by omega)) D_Book_parts.b .nil pass0 (pa_cons (pv 7) pa_nil))) (blkOk_by (own := [("part", 9)]) (N := N_entered) (sc := defScope s_entered) (by decide +kernel)) (fun _ _ _ _ _ => (pg_name (i := 9) sc_entered.nd rfl (.inl rfl))) (fun _ _ _ _ _ => pts_nil) (fun _ _ _ _ _ => (pe_tup (pa_cons (pv 9) (pa_cons (pv 7) pa_nil))))) pa_nil))))
                  pss_nil)))
              pss_nil))))
      (pss_one
        (ps_ret (pv 3)))))))
      , ?_⟩
    rw [show L2.start N_entered [V.ref v, V.ref sa, V.ref u] = [some (.ref v), some (.ref sa), some (.ref u), none, none, none, none, none, none, none] from rfl]
    walk_at "x"
    refine w_new fun b H1 hb0 e1 k1 => ?_
    walk_at "g"
    refine w_new fun rl H2 hrl2 e2 k2 => ?_
    have s2 := Same.trans k1 k2
    have hrl0 : H rl = none := k1.free hrl2
    have nbr : b ≠ rl := ne_of_none e1 hrl2
    have eb2 := k2 _ _ e1
    walk_at "g"
    refine ⟨v, dv, p, dx, lc, ld, lg, rw', hd, sa, cs, ds, hs, st, rfl, W.same s2, s2 _ _ hsa, hsl, hst, fun H3 tl k3 htl P3 => ?_⟩
    have s3 := Same.trans s2 k3
    obtain ⟨qt, et3, eqt, ht3⟩ := P3
    have ntr : tl ≠ rl := (ne_of_none e2 htl).symm
    have eb3 := k3 _ _ eb2
    have er3 := k3 _ _ e2
    have htlen : qt.length ≤ 400 := by
      have := congrArg List.length eqt
      rw [List.length_map] at this
      rw [this]
      unfold topsOf
      rw [List.length_map]
      exact Nat.le_trans (List.length_filter_le _ _) hsl
    walk_at "g"
    try refine w_itL' (.of et3) ?_
    refine lp_list (xs := qt.map fun q => V.ref q.1) (fun i σ H' => (∃ y5 y6 : Option V, σ = [some (.ref v), some (.ref sa), some (.ref u), some (.ref b), some (.ref rl), y5, y6, none, none, none]) ∧ Kp [rl] H3 H' ∧ KT H3 H' ∧ P2L H' rl (rows0 cs hs us ((qt.map (·.2)).take i)) ∧ (rows0 cs hs us ((qt.map (·.2)).take i)).length ≤ 20 * i) ⟨⟨_, _, rfl⟩, Kp.refl, KT.refl, ⟨[], er3, rfl, by simp⟩, Nat.zero_le _⟩ (fun i σ H' _ h => .of (h.2.1 _ _ (by simpa using ntr) et3)) ?_ ?_
    · rintro i x σ H4 hx ⟨⟨y5, y6, rfl⟩, k4, t4, P4, hl4⟩
      obtain ⟨z, hz, rfl⟩ := map_at hx
      have hzm := List.mem_of_getElem? hz
      have ez := t4 _ _ (ht3 z hzm)
      have hzt : z.2 ∈ topsOf cs hs st := by rw [← eqt]; exact List.mem_map_of_mem hzm
      obtain ⟨z1, z2, z3⟩ := mem_topsOf.mp hzt
      obtain ⟨rT, _⟩ := tr.root z.2.1 (hst _ z1)
      rw [← z3] at rT
      have etk : (qt.map (·.2)).take (i + 1) = (qt.map (·.2)).take i ++ [z.2] := by
        rw [List.take_add_one, List.getElem?_map, hz]
        rfl
      have s4 : Same H H4 := fun b o e => k4 _ _ (by simpa using ne_of_none e hrl0) (s3 _ _ e)
      have W4 := W.same s4
      have ob4 := W4.ob
      have er0 : ∀ {l : List W2}, rows0 cs hs us ((qt.map (·.2)).take (i + 1)) = rows0 cs hs us ((qt.map (·.2)).take i) ++ (if z.2.2 ∈ hs then (chs cs us z.2.2).map fun n => (n, z.2.2) else []) := fun {l} => by
        rw [etk]
        unfold rows0
        rw [List.flatMap_append, List.flatMap_cons, List.flatMap_nil, List.append_nil]
      walk_at "g"
      refine ⟨v, dv, p, dx, lc, ld, lg, rw', hd, cs, ds, hs, nV z.2.2, "int", rfl, W4, .int _, fun m e hm => ?_, fun hm => ?_⟩
      · have em : m = z.2.2 := by have := V.int.inj e; omega
        rw [em] at hm
        obtain ⟨qr, e4r, eqr, h4r⟩ := P4
        walk_at "g"
        refine ⟨p, dx, lc, ld, lg, u, cs, ds, z.2.2, us, rfl, W4.bk, rT, tr.few _, (hU.kt (KT.of s4)), hus, fun H5 cl5 k5 hcl5 e5 => ?_⟩
        have hcl : (chs cs us z.2.2).length ≤ 20 := by
          unfold chs
          rw [List.length_map]
          exact Nat.le_trans (List.length_filter_le _ _) (tr.few _)
        walk_at "g"
        try refine w_itL' (.of e5) ?_
        refine lcp_accH (walk_list (K := K) (a := cl5) (xs := (chs cs us z.2.2).map nV)) [] (fun j acc H' => ∃ qs : List (Addr × Nat × Nat), acc = qs.map (fun q => V.ref q.1) ∧ qs.length ≤ j ∧ (∀ q ∈ qs, H' q.1 = some (.tup [nV q.2.1, nV q.2.2])) ∧ qs.map (·.2) = ((chs cs us z.2.2).take j).map fun n => (n, z.2.2)) (by rw [List.length_map]; omega) ?_ (fun j H' k => .of (k _ _ (by simp) e5)) ⟨[], rfl, Nat.le_refl 0, by simp, by simp⟩ ?_ ?_ (by simp) ?_
        · rintro j acc Ha Hb kt ⟨qs, e, hl, h1, h2⟩
          exact ⟨qs, e, hl, fun q hq => kt _ _ (h1 q hq), h2⟩
        · rintro j acc Ha ⟨qs, rfl, hl, _⟩
          rw [List.length_map]
          exact hl
        · rintro j x Ha Hb acc R R0 hj ka ta ⟨qs, rfl, hl, h1, h2⟩ ⟨rfl, hx'⟩ hR hR0
          obtain ⟨n, hn, rfl⟩ := map_at hx'
          refine w_name ⟨rfl, ?_⟩
          walk_at "g"
          refine w_new fun a Hc ha ea kc => ?_
          refine hR _ _ ⟨qs ++ [(a, n, z.2.2)], by rw [List.map_append]; rfl, by rw [List.length_append]; simp only [List.length_cons, List.length_nil]; omega, fun q' hq' => ?_, by rw [List.map_append, h2, List.take_add_one, hn, Option.toList, List.map_append]; rfl⟩ (Kp.of kc) (KT.of kc)
          rcases List.mem_append.mp hq' with g | g
          · exact kc _ _ (h1 q' g)
          · have : q' = (a, n, z.2.2) := by simpa using g
            rw [this]
            exact ea
        · rintro L H6 acc ⟨qs, rfl, hql, h1, h2⟩ hL k6 t6 eL
          rw [List.length_map] at hql
          rw [List.length_map, List.take_length] at h2
          have k46 := Same.trans k5 k6.same
          have e6r := k46 _ _ e4r
          have hqr : qr.length ≤ 20 * i := by
            have := congrArg List.length eqr
            rw [List.length_map] at this
            omega
          have hi : i < qt.length := (List.getElem?_eq_some_iff.mp hz).1
          walk_at "g"
          refine w_extLF e6r eL (by rw [List.length_map, List.length_map]; exact Nat.le_trans (show qr.length + qs.length ≤ 20000 by omega) (by decide)) fun H7 e7 o7 => ?_
          walk_at "g"
          have t7 : KT H4 H7 := (KT.of k46).trans (KT.off o7 e6r)
          refine ⟨⟨_, _, rfl⟩, fun b' o hb e => o7.get (by simpa using hb) (k46 _ _ (k4 _ _ hb e)), t4.trans t7, ⟨qr ++ qs, by rw [e7, List.map_append], by rw [List.map_append, eqr, h2, er0 (l := []), if_pos hm], fun q' hq' => ?_⟩, ?_⟩
          · rcases List.mem_append.mp hq' with g | g
            · exact t7 _ _ (h4r q' g)
            · exact KT.off o7 e6r _ _ (h1 q' g)
          · rw [er0 (l := []), if_pos hm, List.length_append, List.length_map]
            omega
      · have hm' : z.2.2 ∉ hs := hm _ rfl
        walk_at "g"
        refine ⟨⟨_, _, rfl⟩, k4, t4, ?_, ?_⟩
        · rw [er0 (l := []), if_neg hm', List.append_nil]
          exact P4
        · rw [er0 (l := []), if_neg hm', List.append_nil]
          omega
    rintro σ H4 ⟨⟨y5, y6, rfl⟩, k4, t4, P4, hl4⟩
    rw [List.length_map, show (qt.map (·.2)).take qt.length = qt.map (·.2) by rw [List.take_of_length_le (by rw [List.length_map]; exact Nat.le_refl _)], eqt] at P4 hl4
    have s4 : Same H H4 := fun b o e => k4 _ _ (by simpa using ne_of_none e hrl0) (s3 _ _ e)
    have eb4 := k4 _ _ (by simpa using nbr) eb3
    walk_at "g"
    refine w_whileN (fun m σ H' => ∃ (y7 y8 : Option V) (by' rs : List W2) (k : Nat), σ = [some (.ref v), some (.ref sa), some (.ref u), some (.ref b), some (.ref rl), y5, y6, y7, y8, none] ∧ m = (cs.length - by'.length) * 25 + rs.length ∧ itE cs hs ([], rows0 cs hs us (topsOf cs hs st)) k = (by', rs) ∧ Kp [b, rl] H4 H' ∧ KT H4 H' ∧ H' b = some (.dK (wkn by')) ∧ P2L H' rl rs ∧ rs.length ≤ 8000 + 20 * by'.length) _ ⟨_, _, [], _, 0, rfl, rfl, rfl, Kp.refl, KT.refl, eb4, P4, by omega⟩ ?_
    rintro m σ H5 ⟨y7, y8, by', rs, k, rfl, rfl, hit, k5, t5, eb5, P5, hl5⟩
    have inv := EInv.it (cs := cs) (hs := hs) (us := us) (st := st) k
    rw [hit] at inv
    have blen : by'.length ≤ cs.length := by
      have := nats_nodup_len inv.nd fun n hn => by
        obtain ⟨z, hz, rfl⟩ := List.mem_map.mp hn
        obtain ⟨_, ⟨e, he, e2⟩, _⟩ := inv.of z (.inl hz)
        rw [← e2]
        exact (tr.low _ e he).2.1
      rwa [List.length_map] at this
    have s5 : Same H H5 := fun c o e => k5 _ _ (by simpa using ⟨ne_of_none e hb0, ne_of_none e hrl0⟩) (s4 _ _ e)
    obtain ⟨qr, er5, eqr, h5r⟩ := P5
    walk_at "g"
    refine w_new fun z0 H6 hz0 ez0 k6 => ?_
    have er6 := k6 _ _ er5
    have eb6 := k6 _ _ eb5
    refine w_neNilP er6 (fun q' hq' => k6 _ _ (h5r q' hq')) ez0 ?_
    by_cases hnil : qr = []
    · rw [decide_eq_true hnil]
      have : rs = [] := by rw [← eqr, hnil]; rfl
      subst this
      walk_at "g"
      exact q H6 b by' (Same.trans s5 k6) hb0 eb6 ⟨k, hit⟩
    rw [decide_eq_false hnil]
    obtain ⟨qi, zq, eqq⟩ : ∃ qi zq, qr = qi ++ [zq] := by
      rcases List.eq_nil_or_concat qr with e | ⟨a, c, e⟩
      · exact absurd e hnil
      · exact ⟨a, c, by rw [e, List.concat_eq_append]⟩
    subst eqq
    have ers : rs = qi.map (·.2) ++ [zq.2] := by rw [← eqr, List.map_append]; rfl
    have hrl : rs.length = qi.length + 1 := by rw [ers, List.length_append, List.length_map]; rfl
    have ezq : H6 zq.1 = some (.tup [nV zq.2.1, nV zq.2.2]) := k6 _ _ (h5r zq (by simp))
    have er6' : H6 rl = some (.lst ((qi.map fun q => V.ref q.1) ++ [V.ref zq.1])) := by rw [er6, List.map_append]; rfl
    obtain ⟨zh, ⟨ze, hze, ezn⟩, _⟩ := inv.of zq.2 (.inr (by rw [ers]; simp))
    have zlow := tr.low _ ze hze
    rw [ezn] at zlow
    walk_at "g"
    first | refine w_turn ?_ | skip
    walk_at "g"
    refine w_pop er6' fun H7 e7 o7 => ?_
    have t67 : KT H6 H7 := KT.off o7 er6'
    have ezq7 := t67 _ _ ezq
    have eb7 := o7.get nbr eb6
    have t57 : KT H5 H7 := (KT.of k6).trans t67
    have k57 : Kp [b, rl] H5 H7 := (Kp.of k6).trans (o7.kp (by simp))
    have s7 : Same H H7 := fun c o e => o7.get (ne_of_none e hrl0) (k6 _ _ (s5 _ _ e))
    have W7 := W.same s7
    have ob7 := W7.ob
    have obB7 := W7.bk.ob
    walk_at "g"
    try refine w_dnotinI eb7 ?_
    rw [wkn_val]
    by_cases hin : zq.2.1 ∈ by'.map (·.1)
    · rw [decide_eq_true hin]
      walk_at "g"
      refine ⟨_, ?_, _, _, by', qi.map (·.2), k + 1, rfl, rfl, ?_, k5.trans k57, t5.trans t57, eb7, ⟨qi, e7, rfl, fun q' hq' => t57 _ _ (h5r q' (List.mem_append.mpr (.inl hq')))⟩, ?_⟩
      · rw [hrl, List.length_map]
        omega
      · show stepE cs hs (itE cs hs _ k) = _
        rw [hit, ers]
        exact stepE_in hin
      · rw [List.length_map]
        omega
    · rw [decide_eq_false hin]
      walk_at "g"
      refine w_dputI eb7 (by unfold wkn; rw [List.length_map]; exact small1kl (by omega)) fun H8 e8 o8 => ?_
      have e8' : H8 b = some (.dK (wkn (by' ++ [zq.2]))) := by rw [e8]; exact congrArg (fun z => some (HO.dK z)) (wkn_put (q := zq.2) hin)
      have t78 : KT H7 H8 := ⟨fun c xs e => o8.get (ne_of e eb7 (fun z => nomatch z)) e, fun c _ xs e => o8.get (ne_of e eb7 (fun z => nomatch z)) e⟩
      have er8 := o8.get nbr.symm e7
      have s8 : Same H H8 := fun c o e => o8.get (ne_of_none e hb0) (s7 _ _ e)
      have W8 := W.same s8
      have ob8 := W8.ob
      have obB8 := W8.bk.ob
      have t58 := t57.trans t78
      have k58 : Kp [b, rl] H5 H8 := k57.trans (o8.kp (by simp))
      have hkey : ((by' ++ [zq.2]).map (·.1)).Nodup := by
        rw [List.map_append, List.nodup_append]
        refine ⟨inv.nd, by simp, fun x hx y hy e => ?_⟩
        have hy' : y = zq.2.1 := by simpa using hy
        rw [← hy', ← e] at hin
        exact hin hx
      have blen' : by'.length + 1 ≤ cs.length := by
        have := nats_nodup_len (wz := (by' ++ [zq.2]).map (·.1)) hkey fun n hn => by
          rw [List.map_append] at hn
          rcases List.mem_append.mp hn with g | g
          · obtain ⟨z, hz, rfl⟩ := List.mem_map.mp g
            obtain ⟨_, ⟨e, he, e2⟩, _⟩ := inv.of z (.inl hz)
            rw [← e2]
            exact (tr.low _ e he).2.1
          · have : n = zq.2.1 := by simpa using g
            rw [this]
            exact zlow.2.1
        rw [List.length_map, List.length_append] at this
        exact this
      have nokids : (zq.2.1 ∉ hs ∨ ¬ isTr cs zq.2.1) → kids cs hs zq.2.1 = [] := fun h => by
        unfold kids
        by_cases hh : zq.2.1 ∈ hs
        · rw [if_pos hh]
          have : ents cs zq.2.1 = [] := by
            unfold ents
            split
            · rename_i a es e
              exact absurd ⟨a, es, e⟩ (h.resolve_left (fun g => g hh))
            · rfl
          rw [this]
          rfl
        · rw [if_neg hh]
      have stay : kids cs hs zq.2.1 = [] → ∀ {H' : Hp}, H' = H8 → _ := fun hk {H'} e => show (∃ (_ : Unit), itE cs hs ([], rows0 cs hs us (topsOf cs hs st)) (k + 1) = (by' ++ [zq.2], qi.map (·.2))) from ⟨(), by
        show stepE cs hs (itE cs hs _ k) = _
        rw [hit, ers, stepE_out hin, hk, List.append_nil]⟩
      walk_at "g"
      refine ⟨v, dv, p, dx, lc, ld, lg, rw', hd, cs, ds, hs, nV zq.2.1, "int", rfl, W8, .int _, fun m e hm => ?_, fun hm => ?_⟩
      rotate_left
      · obtain ⟨_, hst'⟩ := stay (nokids (.inl (hm _ rfl))) (H' := H8) rfl
        walk_at "g"
        refine ⟨_, ?_, _, _, by' ++ [zq.2], qi.map (·.2), k + 1, rfl, rfl, hst', k5.trans k58, t5.trans t58, e8', ⟨qi, er8, rfl, fun q' hq' => t58 _ _ (h5r q' (List.mem_append.mpr (.inl hq')))⟩, ?_⟩
        · rw [hrl, List.length_map, List.length_append]
          simp only [List.length_cons, List.length_nil]
          omega
        · rw [List.length_map, List.length_append]
          omega
      have em : m = zq.2.1 := by have := V.int.inj e; omega
      rw [em] at hm
      have hcs : cs[zq.2.1]? = some cs[zq.2.1] := List.getElem?_eq_getElem zlow.2.1
      walk_at "g"
      refine ⟨p, dx, lc, ld, lg, cs, ds, zq.2.1, _, rfl, W8.bk, hcs, ?_⟩
      walk_at "g"
      by_cases hw : isTr cs zq.2.1
      rotate_left
      · obtain ⟨_, hst'⟩ := stay (nokids (.inr hw)) (H' := H8) rfl
        have hwd : ¬ (cs[zq.2.1]).2.word = "tree" := fun hword => hw (by
          cases hc : (cs[zq.2.1]).2 with
          | leaf rows => rw [hc] at hword; exact absurd (show Str.ofString "leaf" = Str.ofString "tree" from hword) (by decide +kernel)
          | ver ps r s => rw [hc] at hword; exact absurd (show Str.ofString "version" = Str.ofString "tree" from hword) (by decide +kernel)
          | tree es => exact ⟨(cs[zq.2.1]).1, es, by rw [hcs, ← hc]⟩)
        refine w_no hwd ?_
        walk_at "g"
        refine ⟨_, ?_, _, _, by' ++ [zq.2], qi.map (·.2), k + 1, rfl, rfl, hst', k5.trans k58, t5.trans t58, e8', ⟨qi, er8, rfl, fun q' hq' => t58 _ _ (h5r q' (List.mem_append.mpr (.inl hq')))⟩, ?_⟩
        · rw [hrl, List.length_map, List.length_append]
          simp only [List.length_cons, List.length_nil]
          omega
        · rw [List.length_map, List.length_append]
          omega
      have hwd : (cs[zq.2.1]).2.word = "tree" := by
        obtain ⟨a, es, e⟩ := hw
        rw [hcs] at e
        rw [Option.some.inj e]
        rfl
      refine w_yes hwd ?_
      walk_at "g"
      refine ⟨p, dx, lc, ld, lg, cs, ds, zq.2.1, rfl, W8.bk, hw, tr.few _, fun H9 r9 k9 e9 => ?_⟩
      have hen := tr.few zq.2.1
      walk_at "g"
      refine lcp_accH (walk_tup (K := K) (a := r9) (xs := ((ents cs zq.2.1).map (·.2)).map nV)) [] (fun j acc H' => ∃ qs : List (Addr × Nat × Nat), acc = qs.map (fun q => V.ref q.1) ∧ qs.length ≤ j ∧ (∀ q ∈ qs, H' q.1 = some (.tup [nV q.2.1, nV q.2.2])) ∧ qs.map (·.2) = (((ents cs zq.2.1).map (·.2)).take j).map fun n => (n, zq.2.1)) (by rw [List.length_map, List.length_map]; omega) ?_ (fun j H' k => .of (k _ _ (by simp) e9)) ⟨[], rfl, Nat.le_refl 0, by simp, by simp⟩ ?_ ?_ (by simp) ?_
      · rintro j acc Ha Hb kt ⟨qs, e, hl, h1, h2⟩
        exact ⟨qs, e, hl, fun q hq => kt _ _ (h1 q hq), h2⟩
      · rintro j acc Ha ⟨qs, rfl, hl, _⟩
        rw [List.length_map]
        exact hl
      · rintro j x Ha Hb acc R R0 hj ka ta ⟨qs, rfl, hl, h1, h2⟩ ⟨rfl, hx'⟩ hR hR0
        obtain ⟨n, hn, rfl⟩ := map_at hx'
        refine w_name ⟨rfl, ?_⟩
        walk_at "g"
        refine w_new fun a Hc ha ea kc => ?_
        refine hR _ _ ⟨qs ++ [(a, n, zq.2.1)], by rw [List.map_append]; rfl, by rw [List.length_append]; simp only [List.length_cons, List.length_nil]; omega, fun q' hq' => ?_, by rw [List.map_append, h2, List.take_add_one, hn, Option.toList, List.map_append]; rfl⟩ (Kp.of kc) (KT.of kc)
        rcases List.mem_append.mp hq' with g | g
        · exact kc _ _ (h1 q' g)
        · have : q' = (a, n, zq.2.1) := by simpa using g
          rw [this]
          exact ea
      · rintro L H10 acc ⟨qs, rfl, hql, h1, h2⟩ hL k10 t10 eL
        rw [List.length_map, List.length_map] at hql
        rw [List.length_map, List.take_length, List.map_map] at h2
        have h2' : qs.map (·.2) = kids cs hs zq.2.1 := by rw [h2]; unfold kids; rw [if_pos hm]; rfl
        have k810 := Same.trans k9 k10.same
        have er10 := k810 _ _ er8
        have e10' := k810 _ _ e8'
        walk_at "g"
        refine w_extLF er10 eL (by rw [List.length_map, List.length_map]; exact Nat.le_trans (show qi.length + qs.length ≤ 20000 by omega) (by decide)) fun H11 e11 o11 => ?_
        have t811 : KT H8 H11 := (KT.of k810).trans (KT.off o11 er10)
        have t511 := t58.trans t811
        walk_at "g"
        refine ⟨_, ?_, _, _, by' ++ [zq.2], qi.map (·.2) ++ kids cs hs zq.2.1, k + 1, rfl, rfl, ?_, (k5.trans k58).trans ((Kp.of k810).trans (o11.kp (by simp))), t5.trans t511, o11.get nbr e10', ⟨qi ++ qs, by rw [e11, List.map_append], by rw [List.map_append, h2'], fun q' hq' => ?_⟩, ?_⟩
        · rw [hrl, List.length_append, List.length_append, List.length_map]
          simp only [List.length_cons, List.length_nil]
          have := kids_len (hs := hs) (n := zq.2.1) tr
          omega
        · show stepE cs hs (itE cs hs _ k) = _
          rw [hit, ers]
          exact stepE_out hin
        · rcases List.mem_append.mp hq' with g | g
          · exact t511 _ _ (h5r q' (List.mem_append.mpr (.inl g)))
          · exact KT.off o11 er10 _ _ (h1 q' g)
        · rw [List.length_append, List.length_map, List.length_append]
          have := kids_len (hs := hs) (n := zq.2.1) tr
          simp only [List.length_cons, List.length_nil]
          omega
end
theorem w_lockE {σ : L2.St} {H : Hp} {Q : VK} {t : TE} {d : Addr} {kvs : List (Key × V)} (e : H d = some (.dK kvs)) (h : ∀ od H1, H1 d = some (.frz od (.dK kvs)) → Off d H H1 → t σ H1 fun v H' => H' d = some (.frz od (.dK kvs)) ∧ Q v (upd H' d (.dK kvs))) : tLockE t σ H Q :=
  ⟨d, _, e, trivial, fun od => h od _ upd_same fun x hx => upd_ne hx⟩
/-! ### rows of reasons: a dict of triples -/
/-- {k: v for ..}: A tells what is gathered so far, and where it stands -/
theorem dcp_accH {σ : L2.St} {H : Hp} {Q : VK} {J : It} {n : Nat} {G : Hp → Prop} {Y : Nat → Hp → V → Hp → Prop} (w : Walk J n G Y) {g : TG} {tt : TT} {tk tv : TE} {vs : List Nat} (M : List Addr) (A : Nat → List (Key × V) → Hp → Prop) (hz : n ≤ 1000000)
    (mono : ∀ i acc H1 H2, KT H1 H2 → A i acc H1 → A i acc H2) (hG : ∀ (i : Nat) (H' : Hp), Kp M H H' → G H') (A0 : A 0 [] H) (hA : ∀ i acc H', A i acc H' → acc.length ≤ i)
    (hs : ∀ i x H1 H2 (acc : List (Key × V)) (R : V → V → Hp → Prop) (R0 : Hp → Prop), i < n → Kp M H H1 → KT H H1 → A i acc H1 → Y i H1 x H2 → (∀ k z H4, A (i + 1) (putK acc k z) H4 → Kp M H1 H4 → KT H1 H4 → R (kV k) z H4) → (∀ H4, A (i + 1) acc H4 → Kp M H1 H4 → KT H1 H4 → R0 H4) → g x (wipe σ vs) H2 fun σ2 H3 => wipe σ2 vs = wipe σ vs ∧ tt σ2 H3 fun b H4 => if b = true then tk σ2 H4 fun y H5 => tv σ2 H5 fun z H6 => R y z H6 else R0 H4)
    (hM : ∀ b ∈ M, ∃ o, H b = some o)
    (hd : ∀ D H' acc, A n acc H' → H D = none → Kp M H H' → KT H H' → H' D = some (.dK acc) → Q (.ref D) H') : DcP J g tt tk tv vs Q σ H := by
  intro D hD
  have hDM : D ∉ M := fun z => by obtain ⟨o, e⟩ := hM D z; rw [hD] at e; cases e
  refine ⟨fun i m H' => m = n - i ∧ i ≤ n ∧ Kp M H H' ∧ KT H H' ∧ ∃ acc, A i acc H' ∧ H' D = some (.dK acc), ⟨n, by simp, Nat.zero_le _, Kp.new hD, KT.refl.upd hD, [], mono _ _ _ _ (KT.refl.upd hD) A0, upd_same⟩, ?_⟩
  rintro i m H1 ⟨rfl, hi, k1, t1, acc, ha, e1⟩
  by_cases hlt : i < n
  · refine .inr ⟨w.goes i H1 hlt (hG i _ k1), fun H' => Kp M H H' ∧ KT H H' ∧ ∃ acc, A (i + 1) acc H' ∧ H' D = some (.dK acc), fun H' z => ⟨n - (i + 1), by omega, rfl, hlt, z.1, z.2.1, z.2.2⟩, fun x H2 y => ?_⟩
    have hl := hA i acc _ ha
    refine hs i x H1 H2 acc (fun y z H5 => ∃ kvs k, y = kV k ∧ H5 D = some (.dK kvs) ∧ kvs.length < sizeLine ∧ (Kp M H (upd H5 D (.dK (putK kvs k z))) ∧ KT H (upd H5 D (.dK (putK kvs k z))) ∧ ∃ acc, A (i + 1) acc (upd H5 D (.dK (putK kvs k z))) ∧ (upd H5 D (.dK (putK kvs k z))) D = some (.dK acc))) _ hlt k1 t1 ha (w.yields i H1 x H2 hlt (hG i _ k1) y) ?_ ?_
    · intro k z H4 az k4 t4
      have e4 := k4 _ _ hDM e1
      have tD : KT H4 (upd H4 D (.dK (putK acc k z))) := ⟨fun b xs e => by rw [upd_ne (ne_of e e4 (fun z => nomatch z))]; exact e, fun b u xs e => by rw [upd_ne (ne_of e e4 (fun z => nomatch z))]; exact e⟩
      exact ⟨acc, k, rfl, e4, Nat.lt_of_le_of_lt hl (Nat.lt_of_lt_of_le (Nat.lt_of_lt_of_le hlt hz) (by decide)), (k1.trans k4).mutN hD, (t1.trans t4).trans tD, _, mono _ _ _ _ tD az, upd_same⟩
    · intro H4 a4 k4 t4
      exact ⟨k1.trans k4, t1.trans t4, acc, a4, k4 _ _ hDM e1⟩
  · have e : i = n := by omega
    subst e
    exact .inl ⟨w.stops H1 (hG i _ k1), hd D H1 acc ha hD k1 t1 e1⟩
abbrev R3 := Nat × Bool × Option Nat
def optV : Option Nat → V
  | none => .non
  | some n => nV n
def r3V (q : R3) : List V := [nV q.1, .bl q.2.1, optV q.2.2]
def RsAt (H : Hp) (d : Addr) (F : Nat → Prop) (val : Nat → R3) : Prop := ∃ (kvs : List (Key × V)) (ks : List Int), H d = some (.dK kvs) ∧ kvs.map (·.1) = ks.map (Sum.inl : Int → Key) ∧ ks.Nodup ∧ (∀ k ∈ ks, 0 ≤ k ∧ k < 1000) ∧ (∀ n : Nat, (n : Int) ∈ ks ↔ F n) ∧ ∀ n : Nat, F n → ∃ a, valV kvs (Sum.inl (n : Int)) = some (.ref a) ∧ H a = some (.tup (r3V (val n)))
theorem RsAt.fat {H : Hp} {d : Addr} {F : Nat → Prop} {val : Nat → R3} (h : RsAt H d F val) : FAt H d F := by
  obtain ⟨kvs, ks, h1, h2, h3, h4, h5, _⟩ := h
  exact ⟨kvs, ks, h1, h2, h3, h4, h5⟩
theorem RsAt.kp {M : List Addr} {H H' : Hp} {d : Addr} {F : Nat → Prop} {val : Nat → R3} (h : RsAt H d F val) (k : Kp M H H') (t : KT H H') (n : d ∉ M) : RsAt H' d F val := by
  obtain ⟨kvs, ks, h1, h2, h3, h4, h5, h6⟩ := h
  exact ⟨kvs, ks, k _ _ n h1, h2, h3, h4, h5, fun m hm => by
    obtain ⟨a, g1, g2⟩ := h6 m hm
    exact ⟨a, g1, t _ _ g2⟩⟩
theorem RsAt.same {H H' : Hp} {d : Addr} {F : Nat → Prop} {val : Nat → R3} (h : RsAt H d F val) (k : Same H H') : RsAt H' d F val := h.kp (M := []) (Kp.of k) (KT.of k) (by simp)
theorem RsAt.iff {H : Hp} {d : Addr} {F G : Nat → Prop} {val val' : Nat → R3} (h : RsAt H d F val) (e : ∀ n, F n ↔ G n) (ev : ∀ n, G n → val n = val' n) : RsAt H d G val' := by
  obtain ⟨kvs, ks, h1, h2, h3, h4, h5, h6⟩ := h
  exact ⟨kvs, ks, h1, h2, h3, h4, fun n => (h5 n).trans (e n), fun n hn => by
    rw [← ev n hn]
    exact h6 n ((e n).mpr hn)⟩
theorem RsAt.put {H H1 : Hp} {d a : Addr} {F : Nat → Prop} {val : Nat → R3} {kvs : List (Key × V)} {n : Nat} {r : R3} (h : RsAt H d F val) (e : H d = some (.dK kvs)) (hn : n < 1000) (ha : H a = some (.tup (r3V r))) (e1 : H1 d = some (.dK (putK kvs (Sum.inl (n : Int)) (.ref a)))) (o : Off d H H1) : RsAt H1 d (fun m => F m ∨ m = n) (fun m => if m = n then r else val m) := by
  obtain ⟨kvs', ks, h1, h2, h3, h4, h5, h6⟩ := h
  rw [e] at h1
  cases h1
  have tt : KT H H1 := ⟨fun b xs g => o.get (ne_of g e (fun z => nomatch z)) g, fun b _ xs g => o.get (ne_of g e (fun z => nomatch z)) g⟩
  refine ⟨_, _, e1, putK_keys h2, nd_addK h3, fun k hk => ?_, fun m => ?_, fun m hm => ?_⟩
  · rcases mem_addK.mp hk with h | h
    · exact h4 k h
    · omega
  · rw [mem_addK, h5]
    constructor
    · rintro (h | h)
      · exact .inl h
      · exact .inr (by omega)
    · rintro (h | h)
      · exact .inl h
      · exact .inr (by omega)
  · dsimp only at hm ⊢
    rw [valV_put]
    by_cases hmn : m = n
    · subst hmn
      rw [if_pos rfl, if_pos rfl]
      exact ⟨a, rfl, tt _ _ ha⟩
    · rw [if_neg (fun z => hmn (by have e := Sum.inl.inj z; omega)), if_neg hmn]
      obtain ⟨x, g1, g2⟩ := h6 m (hm.resolve_right hmn)
      exact ⟨x, g1, tt _ _ g2⟩
theorem w_rput {H : Hp} {d a : Addr} {F : Nat → Prop} {val : Nat → R3} {n : Nat} {r : R3} {R : Hp → Prop} (h : RsAt H d F val) (hn : n < 1000) (ha : H a = some (.tup (r3V r))) (q : ∀ H1, RsAt H1 d (fun m => F m ∨ m = n) (fun m => if m = n then r else val m) → Off d H H1 → R H1) : rDPut (.ref d) (nV n) (.ref a) H R := by
  obtain ⟨kvs, ks, h1, h2, h3, h4, h5, h6⟩ := id h
  have hfl : kvs.length = ks.length := by rw [← List.length_map (f := (·.1)), h2, List.length_map]
  have := few_keys h3 h4
  exact w_dputI h1 (by rw [hfl]; exact small1kl this) fun H1 e1 o1 => q H1 (h.put h1 hn ha e1 o1) o1
theorem w_rsetd {H : Hp} {d a : Addr} {F : Nat → Prop} {val : Nat → R3} {n : Nat} {r : R3} {Q : VK} (h : RsAt H d F val) (hn : n < 1000) (ha : H a = some (.tup (r3V r))) (q1 : F n → ∀ x, Q x H) (q2 : ¬ F n → ∀ H1, RsAt H1 d (fun m => F m ∨ m = n) (fun m => if m = n then r else val m) → Off d H H1 → Q (.ref a) H1) : rDSetd d (nV n) (.ref a) H Q := by
  obtain ⟨kvs, ks, h1, h2, h3, h4, h5, h6⟩ := id h
  have hfl : kvs.length = ks.length := by rw [← List.length_map (f := (·.1)), h2, List.length_map]
  have := few_keys h3 h4
  have hv := val_keys h2 (n : Int)
  refine w_dsetdI h1 (by rw [hfl]; exact small1kl this) (fun u e => ?_) fun e H1 e1 o1 => ?_
  · rw [e] at hv
    exact q1 ((h5 n).mp (of_decide_eq_true hv.symm)) u
  · rw [e] at hv
    exact q2 (fun g => by
      have := (h5 n).mpr g
      rw [decide_eq_true this] at hv
      cases hv) H1 (h.put h1 hn ha e1 o1) o1
theorem RsAt.get {H : Hp} {d : Addr} {F : Nat → Prop} {val : Nat → R3} {n : Nat} {Q : VK} (h : RsAt H d F val) (hn : F n) (q : ∀ a, H a = some (.tup (r3V (val n))) → Q (.ref a) H) : rDGet (.ref d) (nV n) H Q := by
  obtain ⟨kvs, ks, h1, h2, h3, h4, h5, h6⟩ := h
  obtain ⟨a, g1, g2⟩ := h6 n hn
  exact w_dgetI h1 g1 (q a g2)
/-! ### reasons -/
def val0 (by' : List W2) (n : Nat) : R3 := match by'.find? fun q => decide (q.1 = n) with
  | some q => (n, true, some q.2)
  | none => (n, false, none)
def valC (by' : List W2) (st : List Nat) (ts : List (Nat × Nat)) (n : Nat) : R3 := if n ∈ st then (n, false, none) else match by'.find? fun q => decide (q.1 = n) with
  | some q => (n, true, some q.2)
  | none => match ts.find? fun p => decide (p.2 = n) with
    | some p => (n, false, some p.1)
    | none => (n, false, none)
theorem find_key {by' : List W2} {q : W2} (nd : (by'.map (·.1)).Nodup) (h : q ∈ by') : (by'.find? fun z => decide (z.1 = q.1)) = some q := by
  induction by' with
  | nil => cases h
  | cons a r ih =>
    rw [List.map_cons, List.nodup_cons] at nd
    rcases List.mem_cons.mp h with e | h'
    · subst e
      rw [List.find?_cons_of_pos (by simp)]
    · have hne : ¬ a.1 = q.1 := fun e => nd.1 (e ▸ List.mem_map_of_mem h')
      rw [List.find?_cons_of_neg (by simpa using hne)]
      exact ih nd.2 h'
theorem find_no {by' : List W2} {n : Nat} (h : n ∉ by'.map (·.1)) : (by'.find? fun z => decide (z.1 = n)) = none := by
  rw [List.find?_eq_none]
  intro z hz
  have : ¬ z.1 = n := fun e => h (e ▸ List.mem_map_of_mem hz)
  simpa using this
theorem valC_nil {by' : List W2} {st : List Nat} {n : Nat} : valC by' st [] n = if n ∈ st then (n, false, none) else val0 by' n := by
  unfold valC val0
  split
  · rfl
  · split <;> rfl
theorem valC_add {by' : List W2} {st : List Nat} {ts : List (Nat × Nat)} {p : Nat × Nat} {n : Nat} (h : n = p.2 → n ∈ st ∨ n ∈ by'.map (·.1) ∨ ∃ z ∈ ts, z.2 = n) : valC by' st (ts ++ [p]) n = valC by' st ts n := by
  unfold valC
  by_cases h1 : n ∈ st
  · rw [if_pos h1, if_pos h1]
  rw [if_neg h1, if_neg h1]
  cases hf : by'.find? fun q => decide (q.1 = n) with
  | some q => rfl
  | none =>
    rw [List.find?_append]
    cases hg : ts.find? fun p => decide (p.2 = n) with
    | some z => rfl
    | none =>
      have hp : ¬ p.2 = n := fun e => by
        rcases h e.symm with g | g | ⟨z, hz, g⟩
        · exact h1 g
        · obtain ⟨x, hx, e2⟩ := List.mem_map.mp g
          have := List.find?_eq_none.mp hf x hx
          exact this (by simpa using e2)
        · have := List.find?_eq_none.mp hg z hz
          exact this (by simpa using g)
      rw [Option.none_or, List.find?_cons_of_neg (by simpa using hp)]
      rfl
theorem valC_new {by' : List W2} {st : List Nat} {ts : List (Nat × Nat)} {p : Nat × Nat} (h1 : p.2 ∉ st) (h2 : p.2 ∉ by'.map (·.1)) (h3 : ¬ ∃ z ∈ ts, z.2 = p.2) : valC by' st (ts ++ [p]) p.2 = (p.2, false, some p.1) := by
  unfold valC
  rw [if_neg h1, find_no h2, List.find?_append]
  have : (ts.find? fun z => decide (z.2 = p.2)) = none := by
    rw [List.find?_eq_none]
    intro z hz
    have : ¬ z.2 = p.2 := fun e => h3 ⟨z, hz, e⟩
    simpa using this
  rw [this, Option.none_or, List.find?_cons_of_pos (by simp)]
def ReasT (H : Hp) (t : Addr) (cs : List (Addr × Ct)) (hs : List Nat) (us : List Str) (st : List Nat) : Prop := ∃ (by' : List W2) (ns : List Nat) (qs : List (Addr × R3)), (∃ k, itE cs hs ([], rows0 cs hs us (topsOf cs hs st)) k = (by', [])) ∧ ns.Pairwise (· < ·) ∧ (∀ n, n ∈ ns ↔ n ∈ by'.map (·.1) ∨ n ∈ st ∨ ∃ p ∈ topsOf cs hs st, p.2 = n) ∧ H t = some (.tup (qs.map fun q => .ref q.1)) ∧ (∀ q ∈ qs, H q.1 = some (.tup (r3V q.2))) ∧ qs.map (·.2) = ns.map (valC by' st (topsOf cs hs st))
def spReasons (P : Program) (w : World) (K : PySem.W.Frag) (C CH CN : Addr) : Sp := fun vs H Q E => ∃ (v dv p dx lc ld lg rw' hd sa u : Addr) (cs : List (Addr × Ct)) (ds hs : List Nat) (is : List Int) (us : List Str), vs = [.ref v, .ref sa, .ref u] ∧ ViewAt P w C CH H v dv p dx lc ld lg rw' hd cs ds hs ∧ TrOk cs ∧ H sa = some (.tup (is.map V.int)) ∧ is.length ≤ 400 ∧ UsAt K H u us ∧ (∀ l ∈ us, PyData.strOk l = true) ∧
  (∀ st : List Nat, is = st.map (fun n : Nat => (n : Int)) → (∀ n ∈ st, isV cs n) → ∀ (H' : Hp) (t : Addr), Same H H' → ReasT H' t cs hs us st → Q (.ref t) H') ∧ ∀ (pre post : List Int) (y : Int), is = pre ++ y :: post → (∀ i ∈ pre, okI cs i) → ¬ okI cs y → NoNm CN H E (.int y)
section
variable {P : Program} {w : World} {K : PySem.W.Frag} {mg : Str → Option Value} {base : Heap} {C CH : Addr}
theorem ok_reasons {ku f fL fEn fT fC fP fH fK fG fN fI fE C_NoName : Addr} {fd fdL fdEn fdT fdC fdP fdH fdK fdG fdN fdI fdE : FuncData} (T : Txt K mg) (D : DfK K mg "reasons" s_reasons ["view", "versions", "under"] [("under", .ref ku)] [.ref ku] f fd) (D_look : Df K mg "look" s_look ["book", "names"] fL fdL) (D_entered : Df K mg "entered" s_entered ["view", "versions", "under"] fEn fdEn) (D_tops : Df K mg "tops" s_tops ["view", "versions"] fT fdT) (D_chosen : Df K mg "chosen" s_chosen ["book", "root", "under"] fC fdC) (K_Book : Kl K mg "Book" C ["contents", "depths", "given"]) (K_Holding : Kl K mg "Holding" CH ["book", "row", "here"]) (D_Holding_holds : DfM K CH "holds" "Holding.holds" s_Holding_holds ["self", "name"] fH fdH) (D_Book_parts : DfM K C "parts" "Book.parts" s_Book_parts ["self", "name"] fP fdP) (D_Book_kind : DfM K C "kind" "Book.kind" s_Book_kind ["self", "name"] fK fdK) (D_Book_thing : DfM K C "thing" "Book.thing" s_Book_thing ["self", "name"] fG fdG) (D_is_name : Df K mg "is_name" s_is_name ["book", "thing"] fN fdN) (D_is_int : DfD K mg "is_int" s_is_int ["thing", "least"] [.int 0] fI fdI)
    (FE : Fun K "__init__" "NoName.__init__" s_NoName___init__ fE fdE) (X_NoName : ExnI K mg "NoName" C_NoName fE fdE ["self", "name"] ["name"]) : FnOk P w K mg base (L2.CX P w) 6 f fd ["view", "versions", "under"] (spReasons P w K C CH C_NoName) := by
  have G_look : FnOk P w K mg base (L2.CX P w) 5 fL fdL ["book", "names"] (spLook P w C C_NoName) := ok_look T D_look.fn K_Book D_Book_kind D_Book_thing D_is_name D_is_int FE X_NoName
  have G_entered : FnOk P w K mg base CX0 5 fEn fdEn ["view", "versions", "under"] (spEntered P w K C CH) := ok_entered T D_entered.fn D_tops D_chosen K_Book K_Holding D_Holding_holds D_Book_parts D_Book_kind D_Book_thing D_is_name D_is_int
  have G_tops : FnOk P w K mg base CX0 4 fT fdT ["view", "versions"] (spTops P w C CH) := ok_tops T D_tops.fn K_Book K_Holding D_Holding_holds D_Book_thing D_is_name D_is_int
  have cl := K_Holding.cl
  have n1 := K_Holding.na "book" (by simp)
  refine D.fn.ok sc_reasons (fun vs H Q E h => ?_) (fun cdv A outer s H vs Q E hr h => ?_)
  · obtain ⟨v, dv, p, dx, lc, ld, lg, rw', hd, sa, u, cs, ds, hs, is, us, rfl, _⟩ := h
    rfl
  · obtain ⟨v, dv, p, dx, lc, ld, lg, rw', hd, sa, u, cs, ds, hs, is, us, rfl, W, tr, hsa, hil, hU, hus, q, qe⟩ := h
    have hu := hu_of hr
    have ob := W.ob
    have few := W.bk.few
    refine ⟨_,
      (pss_cons
        (ps_expr (pe_call G_look (hr.mono (by omega)) (by rfl) D_look.g D_look.fn.kp D_look.b .nil (passes_call (takes_of rfl rfl rfl rfl) (fun _ _ _ _ h => h)) (pa_cons (pe_fldK (K := K) rfl (pv 0) rfl) (pa_cons (pv 1) pa_nil))))
      (pss_cons
        (ps_set (i := 3) sc_reasons.nd rfl (.inr rfl) (pe_call G_entered (hr.mono (by omega)) (by rfl) D_entered.g D_entered.fn.kp D_entered.b .nil pass0 (pa_cons (pv 0) (pa_cons (pv 1) (pa_cons (pv 2) pa_nil)))))
      (pss_cons
        (ps_set (i := 4) sc_reasons.nd rfl (.inr rfl) (pe_lock (pe_dc (own := [("name", 7)]) (g := (gName 7)) rfl sc_reasons.nd (pi_keys (pv 3)) (blkOk_by (own := [("name", 7)]) (N := N_reasons) (sc := defScope s_reasons) (by decide +kernel)) (fun _ _ _ _ _ => (pg_name (i := 7) sc_reasons.nd rfl (.inl rfl))) (fun _ _ _ _ _ => pts_nil) (fun _ _ _ _ _ => (pv 7)) (fun _ _ _ _ _ => (pe_tup (pa_cons (pv 7) (pa_cons pe_bl (pa_cons (pe_dget hu (pv 3) (pv 7) (fun _ _ => rfl)) pa_nil))))))))
      (pss_cons
        (ps_for (passes_of rfl) rfl (pi_tup (pv 1)) (pg_name (i := 5) sc_reasons.nd rfl (.inl rfl))
          (pss_one
            (ps_dput hu (pv 4) (pv 5) (pe_tup (pa_cons (pv 5) (pa_cons pe_bl (pa_cons pe_non pa_nil)))) rfl)))
      (pss_cons
        (ps_for (passes_of rfl) rfl (pi_list (pe_call G_tops (hr.mono (by omega)) (by rfl) D_tops.g D_tops.fn.kp D_tops.b .nil pass0 (pa_cons (pv 0) (pa_cons (pv 1) pa_nil)))) (pg_tup rfl (pgs_cons (pg_name (i := 5) sc_reasons.nd rfl (.inl rfl)) (pgs_cons (pg_name (i := 6) sc_reasons.nd rfl (.inl rfl)) pgs_nil)))
          (pss_one
            (ps_expr (pe_dsetd (pv 4) (pv 6) (pe_tup (pa_cons (pv 6) (pa_cons pe_bl (pa_cons (pv 5) pa_nil)))) ⟨rfl, rfl, rfl, rfl⟩))))
      (pss_one
        (ps_ret (pe_callTy (r := rTupOf K) c_tupOf (by rfl) T.n_tuple (by decide +kernel) (pa_cons (pe_lc (own := [("name", 7)]) (g := (gName 7)) rfl sc_reasons.nd (pi_list (pe_callB (c_sortA rfl) (by rfl) T.n_sorted (by decide +kernel) (pa_cons (pv 4) pa_nil))) (blkOk_by (own := [("name", 7)]) (N := N_reasons) (sc := defScope s_reasons) (by decide +kernel)) (fun _ _ _ _ _ => (pg_name (i := 7) sc_reasons.nd rfl (.inl rfl))) (fun _ _ _ _ _ => pts_nil) (fun _ _ _ _ _ => (pe_dget hu (pv 4) (pv 7) (fun _ _ => rfl)))) pa_nil)))))))))
      , ?_⟩
    rw [show L2.start N_reasons [V.ref v, V.ref sa, V.ref u] = [some (.ref v), some (.ref sa), some (.ref u), none, none, none, none, none] from rfl]
    walk_at "x"
    refine ⟨p, dx, lc, ld, lg, sa, cs, ds, is, rfl, W.bk, hsa, fun hok => ?_, fun pre post y e h1 h2 => qe pre post y e h1 h2⟩
    obtain ⟨st, est, hst⟩ := okI_nats hok
    have hsa2 : H sa = some (.tup (st.map nV)) := by rw [hsa, est, ← nV_map]
    have hsl : st.length ≤ 400 := by rw [est, List.length_map] at hil; exact hil
    walk_at "g"
    refine ⟨v, dv, p, dx, lc, ld, lg, rw', hd, sa, u, cs, ds, hs, st, us, rfl, W, tr, hsa2, hsl, hst, hU, hus, fun H1 b by' k1 hb0 eb1 hit => ?_⟩
    obtain ⟨k, hk⟩ := hit
    have inv := EInv.it (cs := cs) (hs := hs) (us := us) (st := st) k
    rw [hk] at inv
    have keyLt : ∀ n ∈ by'.map (·.1), n < cs.length ∧ ¬ isV cs n := fun n hn => by
      obtain ⟨z, hz, rfl⟩ := List.mem_map.mp hn
      obtain ⟨_, ⟨e, he, e2⟩, _⟩ := inv.of z (.inl hz)
      rw [← e2]
      exact ⟨(tr.low _ e he).2.1, (tr.low _ e he).2.2⟩
    have blen : by'.length ≤ cs.length := by
      have := nats_nodup_len inv.nd fun n hn => (keyLt n hn).1
      rwa [List.length_map] at this
    have wl : (wkn by').length = by'.length := by unfold wkn; rw [List.length_map]
    walk_at "g"
    refine w_lockE eb1 fun od H2 e2 o2 => ?_
    walk_at "g"
    try refine w_keys' e2 ?_
    refine dcp_accH (walk_keys (d := b) (o := od) (kvs := wkn by')) [] (fun i acc H' => ∃ ks : List Int, acc.map (·.1) = ks.map (Sum.inl : Int → Key) ∧ ks.Nodup ∧ (∀ z ∈ ks, 0 ≤ z ∧ z < 1000) ∧ (∀ n : Nat, (n : Int) ∈ ks ↔ n ∈ (by'.take i).map (·.1)) ∧ ∀ q ∈ by'.take i, ∃ a, valV acc (Sum.inl (q.1 : Int)) = some (.ref a) ∧ H' a = some (.tup (r3V (q.1, true, some q.2)))) (by rw [wl]; omega) ?_ (fun i H' k => k _ _ (by simp) e2) ⟨[], rfl, .nil, by simp, by simp, by simp⟩ ?_ ?_ (by simp) ?_
    · rintro i acc Ha Hb kt ⟨ks, g1, g2, g3, g4, g5⟩
      exact ⟨ks, g1, g2, g3, g4, fun q' hq' => by
        obtain ⟨a, r1, r2⟩ := g5 q' hq'
        exact ⟨a, r1, kt _ _ r2⟩⟩
    · rintro i acc Ha ⟨ks, g1, g2, g3, g4, g5⟩
      have hl : acc.length = ks.length := by
        have := congrArg List.length g1
        rwa [List.length_map, List.length_map] at this
      have := nodup_le ks (((by'.take i).map (·.1)).map fun n : Nat => (n : Int)) g2 fun z hz => by
        obtain ⟨r1, r2⟩ := g3 z hz
        have ez : z = ((z.toNat : Nat) : Int) := by omega
        rw [ez] at hz ⊢
        exact List.mem_map.mpr ⟨_, (g4 _).mp hz, rfl⟩
      rw [List.length_map, List.length_map, List.length_take] at this
      omega
    · rintro i x Ha Hb acc R R0 hi ka ta ⟨ks, g1, g2, g3, g4, g5⟩ ⟨rfl, ky, vy, hkv, rfl⟩ hR hR0
      obtain ⟨qi, hqi, eqi⟩ : ∃ q, by'[i]? = some q ∧ ((Sum.inl (q.1 : Int) : Key), nV q.2) = (ky, vy) := by
        unfold wkn at hkv
        rw [List.getElem?_map] at hkv
        exact Option.map_eq_some_iff.mp hkv
      cases eqi
      have eba := ka.same _ _ e2
      have hqm := List.mem_of_getElem? hqi
      have gq := wkn_get inv.nd hqm
      have etk : by'.take (i + 1) = by'.take i ++ [qi] := by rw [List.take_add_one, hqi]; rfl
      have hlt := (keyLt qi.1 (List.mem_map_of_mem hqm)).1
      refine w_name ⟨rfl, ?_⟩
      walk_at "g"
      try refine w_dgetF eba gq ?_
      walk_at "g"
      refine w_new fun a Hc ha ea kc => ?_
      refine hR (Sum.inl (qi.1 : Int)) _ _ ⟨addK ks (qi.1 : Int), putK_keys g1, nd_addK g2, fun z hz => ?_, fun n => ?_, fun q' hq' => ?_⟩ (Kp.of kc) (KT.of kc)
      · rcases mem_addK.mp hz with h | h
        · exact g3 z h
        · omega
      · rw [mem_addK, g4, etk, List.map_append, List.mem_append]
        constructor
        · rintro (h | h)
          · exact .inl h
          · exact .inr (by
              have : n = qi.1 := by omega
              rw [this]
              simp)
        · rintro (h | h)
          · exact .inl h
          · exact .inr (by
              have : n = qi.1 := by simpa using h
              omega)
      · rw [valV_put]
        by_cases hqq : q'.1 = qi.1
        · have hqm' : q' ∈ by' := List.mem_of_mem_take hq'
          have e1 := find_key inv.nd hqm'
          rw [hqq, find_key inv.nd hqm] at e1
          have e3 : q' = qi := (Option.some.inj e1).symm
          subst e3
          rw [if_pos rfl]
          exact ⟨a, rfl, ea⟩
        · rw [if_neg (fun z => hqq (by have e := Sum.inl.inj z; omega))]
          rw [etk] at hq'
          rcases List.mem_append.mp hq' with h | h
          · obtain ⟨x, r1, r2⟩ := g5 q' h
            exact ⟨x, r1, kc _ _ r2⟩
          · exact absurd (by rw [List.mem_singleton.mp h]) hqq
    rintro d H3 acc ⟨ks, g1, g2, g3, g4, g5⟩ hd0 k3 t3 e3
    rw [wl, List.take_length] at g4 g5
    walk_at "g"
    refine ⟨k3.same _ _ e2, ?_⟩
    have ndb : d ≠ b := (ne_of_none e2 hd0).symm
    have e4 : (upd H3 b (.dK (wkn by'))) b = some (.dK (wkn by')) := upd_same
    have o4 : Off b H3 (upd H3 b (.dK (wkn by'))) := fun x hx => upd_ne hx
    revert e4 o4
    generalize upd H3 b (.dK (wkn by')) = H4
    intro e4 o4
    have s4 : Same H H4 := fun c o e => o4.get (ne_of_none e hb0) (k3.same _ _ (o2.get (ne_of_none e hb0) (k1 _ _ e)))
    have hdH : H d = none := by
      cases e : H d with
      | none => rfl
      | some o =>
        rw [o2.get (ne_of_none e hb0) (k1 _ _ e)] at hd0
        cases hd0
    have R4 : RsAt H4 d (fun n => n ∈ by'.map (·.1)) (val0 by') := ⟨acc, ks, o4.get ndb e3, g1, g2, g3, g4, fun n hn => by
      obtain ⟨z, hz, rfl⟩ := List.mem_map.mp hn
      obtain ⟨a, r1, r2⟩ := g5 z hz
      refine ⟨a, r1, ?_⟩
      unfold val0
      rw [find_key inv.nd hz]
      exact o4.get (ne_of r2 (k3.same _ _ e2) (fun z => nomatch z)) r2⟩
    have hsa4 := s4 _ _ hsa2
    walk_at "g"
    refine lp_tup (xs := st.map nV) (fun i σ H' => (∃ y5 : Option V, σ = [some (.ref v), some (.ref sa), some (.ref u), some (.ref b), some (.ref d), y5, none, none]) ∧ Kp [d] H4 H' ∧ KT H4 H' ∧ RsAt H' d (fun n => n ∈ by'.map (·.1) ∨ n ∈ st.take i) (fun n => if n ∈ st.take i then (n, false, none) else val0 by' n)) ⟨⟨_, rfl⟩, Kp.refl, KT.refl, R4.iff (fun n => by simp) (fun n _ => by simp)⟩ (fun i σ H' _ h => .of (h.2.2.1 _ _ hsa4)) ?_ ?_
    · rintro i x σ H5 hx ⟨⟨y5, rfl⟩, k5, t5, R5⟩
      obtain ⟨n, hn, rfl⟩ := map_at hx
      have hlt := (hst n (List.mem_of_getElem? hn)).lt
      have etk : st.take (i + 1) = st.take i ++ [n] := by rw [List.take_add_one, hn]; rfl
      walk_at "g"
      refine w_new fun a H6 ha e6 k6 => ?_
      walk_at "g"
      refine w_rput (r := (n, false, none)) (R5.same k6) (by omega) e6 fun H7 R7 o7 => ?_
      obtain ⟨kvs5, ed5⟩ := (R5.same k6).fat.obj
      walk_at "g"
      refine ⟨⟨_, rfl⟩, fun c o hc e => o7.get (by simpa using hc) (k6 _ _ (k5 _ _ hc e)), ⟨fun c xs e => o7.get (ne_of (k6 _ _ (t5 _ _ e)) ed5 (fun z => nomatch z)) (k6 _ _ (t5 _ _ e)), fun c o' xs e => o7.get (ne_of (k6 _ _ (t5.f _ _ _ e)) ed5 (fun z => nomatch z)) (k6 _ _ (t5.f _ _ _ e))⟩, R7.iff (fun m => ?_) fun m hm => ?_⟩
      · rw [etk, List.mem_append, List.mem_singleton, or_assoc]
      · rw [etk]
        by_cases hmn : m = n
        · subst hmn
          rw [if_pos rfl, if_pos (by simp)]
        · rw [if_neg hmn]
          by_cases hmt : m ∈ st.take i
          · rw [if_pos hmt, if_pos (List.mem_append.mpr (.inl hmt))]
          · rw [if_neg hmt, if_neg (fun z => (List.mem_append.mp z).elim hmt fun z => hmn (by simpa using z))]
    rintro σ H5 ⟨⟨y5, rfl⟩, k5, t5, R5⟩
    rw [List.length_map, List.take_length] at R5
    have s5 : Same H H5 := fun c o e => k5 _ _ (by simpa using ne_of_none e hdH) (s4 _ _ e)
    walk_at "g"
    refine ⟨v, dv, p, dx, lc, ld, lg, rw', hd, sa, cs, ds, hs, st, rfl, W.same s5, s5 _ _ hsa2, hsl, hst, fun H6 tl k6 htl P6 => ?_⟩
    obtain ⟨qt, et6, eqt, ht6⟩ := P6
    have R6 := R5.same k6
    obtain ⟨kvs5, ed5⟩ := R5.fat.obj
    have ntd : tl ≠ d := (ne_of_none ed5 htl).symm
    walk_at "g"
    try refine w_itL' (.of et6) ?_
    refine lp_list (xs := qt.map fun q => V.ref q.1) (fun i σ H' => (∃ y5 y6 : Option V, σ = [some (.ref v), some (.ref sa), some (.ref u), some (.ref b), some (.ref d), y5, y6, none]) ∧ Kp [d] H6 H' ∧ KT H6 H' ∧ RsAt H' d (fun n => n ∈ by'.map (·.1) ∨ n ∈ st ∨ ∃ z ∈ (qt.map (·.2)).take i, z.2 = n) (valC by' st ((qt.map (·.2)).take i))) ⟨⟨_, _, rfl⟩, Kp.refl, KT.refl, R6.iff (fun n => by simp) (fun n _ => by rw [List.take_zero, valC_nil])⟩ (fun i σ H' _ h => .of (h.2.1 _ _ (by simpa using ntd) et6)) ?_ ?_
    · rintro i x σ H7 hx ⟨⟨y5, y6, rfl⟩, k7, t7, R7⟩
      obtain ⟨z, hz, rfl⟩ := map_at hx
      have hzm := List.mem_of_getElem? hz
      have ez := t7 _ _ (ht6 z hzm)
      have hzt : z.2 ∈ topsOf cs hs st := by rw [← eqt]; exact List.mem_map_of_mem hzm
      obtain ⟨z1, z2, z3⟩ := mem_topsOf.mp hzt
      obtain ⟨rT, rlt⟩ := tr.root z.2.1 (hst _ z1)
      have hlt : z.2.2 < 1000 := by
        have := (hst _ z1).lt
        omega
      have etk : (qt.map (·.2)).take (i + 1) = (qt.map (·.2)).take i ++ [z.2] := by
        rw [List.take_add_one, List.getElem?_map, hz]
        rfl
      obtain ⟨kvs7, ed7⟩ := R7.fat.obj
      walk_at "g"
      try refine w_isD ed7 ?_
      walk_at "g"
      refine w_new fun a H8 ha e8 k8 => ?_
      have R8 := R7.same k8
      have ed8 := k8 _ _ ed7
      walk_at "g"
      refine w_rsetd (r := (z.2.2, false, some z.2.1)) R8 hlt e8 (fun hF x => ?_) fun hF H9 R9 o9 => ?_
      · walk_at "g"
        refine ⟨⟨_, _, rfl⟩, k7.trans (Kp.of k8), t7.trans (KT.of k8), R8.iff (fun n => ?_) fun n hn => ?_⟩
        · rw [etk]
          constructor
          · rintro (h | h | ⟨y, hy, e⟩)
            · exact .inl h
            · exact .inr (.inl h)
            · exact .inr (.inr ⟨y, List.mem_append.mpr (.inl hy), e⟩)
          · rintro (h | h | ⟨y, hy, e⟩)
            · exact .inl h
            · exact .inr (.inl h)
            · rcases List.mem_append.mp hy with g | g
              · exact .inr (.inr ⟨y, g, e⟩)
              · have ey : y = z.2 := by simpa using g
                rw [← e, ey]
                exact hF
        · rw [etk]
          refine (valC_add fun e => ?_).symm
          rw [e]
          rcases hF with h | h | h
          · exact .inr (.inl h)
          · exact .inl h
          · exact .inr (.inr h)
      · walk_at "g"
        refine ⟨⟨_, _, rfl⟩, fun c o hc e => o9.get (by simpa using hc) (k8 _ _ (k7 _ _ hc e)), ⟨fun c xs e => o9.get (ne_of (k8 _ _ (t7 _ _ e)) ed8 (fun z => nomatch z)) (k8 _ _ (t7 _ _ e)), fun c o' xs e => o9.get (ne_of (k8 _ _ (t7.f _ _ _ e)) ed8 (fun z => nomatch z)) (k8 _ _ (t7.f _ _ _ e))⟩, R9.iff (fun n => ?_) fun n hn => ?_⟩
        · rw [etk]
          constructor
          · rintro ((h | h | ⟨y, hy, e⟩) | h)
            · exact .inl h
            · exact .inr (.inl h)
            · exact .inr (.inr ⟨y, List.mem_append.mpr (.inl hy), e⟩)
            · exact .inr (.inr ⟨z.2, List.mem_append.mpr (.inr (by simp)), h.symm⟩)
          · rintro (h | h | ⟨y, hy, e⟩)
            · exact .inl (.inl h)
            · exact .inl (.inr (.inl h))
            · rcases List.mem_append.mp hy with g | g
              · exact .inl (.inr (.inr ⟨y, g, e⟩))
              · have ey : y = z.2 := by simpa using g
                exact .inr (by rw [← e, ey])
        · rw [etk]
          by_cases hnn : n = z.2.2
          · rw [hnn, if_pos rfl]
            exact (valC_new (fun g => hF (.inr (.inl g))) (fun g => hF (.inl g)) fun g => hF (.inr (.inr g))).symm
          · rw [if_neg hnn]
            exact (valC_add fun e => absurd e hnn).symm
    rintro σ H7 ⟨⟨y5, y6, rfl⟩, k7, t7, R7⟩
    rw [List.length_map, show (qt.map (·.2)).take qt.length = qt.map (·.2) by rw [List.take_of_length_le (by rw [List.length_map]; exact Nat.le_refl _)], eqt] at R7
    have s7 : Same H H7 := fun c o e => k7 _ _ (by simpa using ne_of_none e hdH) (k6 _ _ (s5 _ _ e))
    walk_at "g"
    refine w_fsort R7.fat fun ns so H8 nup nmem nlen hso e8 k8 => ?_
    have R8 := R7.same k8
    walk_at "g"
    try refine w_itL' (.of e8) ?_
    refine lcp_accH (walk_list (K := K) (a := so) (xs := ns.map nV)) [] (fun i acc H' => ∃ qs : List (Addr × R3), acc = qs.map (fun q => V.ref q.1) ∧ qs.length ≤ i ∧ (∀ q ∈ qs, H' q.1 = some (.tup (r3V q.2))) ∧ qs.map (·.2) = (ns.take i).map (valC by' st (topsOf cs hs st))) (by rw [List.length_map]; omega) ?_ (fun i H' k => .of (k _ _ (by simp) e8)) ⟨[], rfl, Nat.le_refl 0, by simp, by simp⟩ ?_ ?_ (by simp) ?_
    · rintro i acc Ha Hb kt ⟨qs, e, hl, h1, h2⟩
      exact ⟨qs, e, hl, fun q hq => kt _ _ (h1 q hq), h2⟩
    · rintro i acc Ha ⟨qs, rfl, hl, _⟩
      rw [List.length_map]
      exact hl
    · rintro i x Ha Hb acc R R0 hi ka ta ⟨qs, rfl, hl, h1, h2⟩ ⟨rfl, hx⟩ hR hR0
      obtain ⟨n, hn, rfl⟩ := map_at hx
      have Ra := R8.same ka.same
      refine w_name ⟨rfl, ?_⟩
      walk_at "g"
      refine RsAt.get (n := n) Ra ((nmem n).mp (List.mem_of_getElem? hn)) fun a ea => ?_
      refine hR _ _ ⟨qs ++ [(a, valC by' st (topsOf cs hs st) n)], by rw [List.map_append]; rfl, by rw [List.length_append]; simp only [List.length_cons, List.length_nil]; omega, fun q' hq' => ?_, by rw [List.map_append, h2, List.take_add_one, hn, Option.toList, List.map_append]; rfl⟩ Kp.refl KT.refl
      rcases List.mem_append.mp hq' with g | g
      · exact h1 q' g
      · have : q' = (a, valC by' st (topsOf cs hs st) n) := by simpa using g
        rw [this]
        exact ea
    · rintro L H9 acc ⟨qs, rfl, _, h1, h2⟩ hL k9 t9 eL
      rw [List.length_map, List.take_length] at h2
      walk_at "g"
      refine w_tupL (.of eL) fun t H10 ht e10 k10 => ?_
      exact q st est hst H10 t (Same.trans s7 (Same.trans k8 (Same.trans k9.same k10))) ⟨by', ns, qs, ⟨k, hk⟩, nup, nmem, e10, fun q' hq' => k10 _ _ (h1 q' hq'), h2⟩
end
/-! ### wanted -/
theorem valC_fst {by' : List W2} {st : List Nat} {ts : List (Nat × Nat)} {n : Nat} : (valC by' st ts n).1 = n := by
  unfold valC
  split
  · rfl
  · split
    · rfl
    · split <;> rfl
def WantT (H : Hp) (t : Addr) (cs : List (Addr × Ct)) (hs : List Nat) (us : List Str) (st : List Nat) : Prop := ∃ (by' : List W2) (ns : List Nat) (a b : Addr), (∃ k, itE cs hs ([], rows0 cs hs us (topsOf cs hs st)) k = (by', [])) ∧ ns.Pairwise (· < ·) ∧ (∀ n, n ∈ ns ↔ n ∈ by'.map (·.1) ∨ n ∈ st ∨ ∃ p ∈ topsOf cs hs st, p.2 = n) ∧ H t = some (.tup [.ref a, .ref b]) ∧ H a = some (.tup ((ns.filter fun n => decide (n ∈ hs)).map nV)) ∧ H b = some (.tup ((ns.filter fun n => !decide (n ∈ hs)).map nV))
def spWanted (P : Program) (w : World) (K : PySem.W.Frag) (C CH CN : Addr) : Sp := fun vs H Q E => ∃ (v dv p dx lc ld lg rw' hd sa u : Addr) (cs : List (Addr × Ct)) (ds hs : List Nat) (is : List Int) (us : List Str), vs = [.ref v, .ref sa, .ref u] ∧ ViewAt P w C CH H v dv p dx lc ld lg rw' hd cs ds hs ∧ TrOk cs ∧ H sa = some (.tup (is.map V.int)) ∧ is.length ≤ 400 ∧ UsAt K H u us ∧ (∀ l ∈ us, PyData.strOk l = true) ∧
  (∀ st : List Nat, is = st.map (fun n : Nat => (n : Int)) → (∀ n ∈ st, isV cs n) → ∀ (H' : Hp) (t : Addr), Same H H' → WantT H' t cs hs us st → Q (.ref t) H') ∧ ∀ (pre post : List Int) (y : Int), is = pre ++ y :: post → (∀ i ∈ pre, okI cs i) → ¬ okI cs y → NoNm CN H E (.int y)
section
variable {P : Program} {w : World} {K : PySem.W.Frag} {mg : Str → Option Value} {base : Heap} {C CH : Addr}
theorem ok_wanted {ku ku2 f fR fL fEn fT fC fP fH fK fG fN fI fE C_NoName : Addr} {fd fdR fdL fdEn fdT fdC fdP fdH fdK fdG fdN fdI fdE : FuncData} (T : Txt K mg) (D : DfK K mg "wanted" s_wanted ["view", "versions", "under"] [("under", .ref ku2)] [.ref ku2] f fd) (D_reasons : DfK K mg "reasons" s_reasons ["view", "versions", "under"] [("under", .ref ku)] [.ref ku] fR fdR) (D_look : Df K mg "look" s_look ["book", "names"] fL fdL) (D_entered : Df K mg "entered" s_entered ["view", "versions", "under"] fEn fdEn) (D_tops : Df K mg "tops" s_tops ["view", "versions"] fT fdT) (D_chosen : Df K mg "chosen" s_chosen ["book", "root", "under"] fC fdC) (K_Book : Kl K mg "Book" C ["contents", "depths", "given"]) (K_Holding : Kl K mg "Holding" CH ["book", "row", "here"]) (D_Holding_holds : DfM K CH "holds" "Holding.holds" s_Holding_holds ["self", "name"] fH fdH) (D_Book_parts : DfM K C "parts" "Book.parts" s_Book_parts ["self", "name"] fP fdP) (D_Book_kind : DfM K C "kind" "Book.kind" s_Book_kind ["self", "name"] fK fdK) (D_Book_thing : DfM K C "thing" "Book.thing" s_Book_thing ["self", "name"] fG fdG) (D_is_name : Df K mg "is_name" s_is_name ["book", "thing"] fN fdN) (D_is_int : DfD K mg "is_int" s_is_int ["thing", "least"] [.int 0] fI fdI)
    (FE : Fun K "__init__" "NoName.__init__" s_NoName___init__ fE fdE) (X_NoName : ExnI K mg "NoName" C_NoName fE fdE ["self", "name"] ["name"]) : FnOk P w K mg base (L2.CX P w) 7 f fd ["view", "versions", "under"] (spWanted P w K C CH C_NoName) := by
  have G_reasons : FnOk P w K mg base (L2.CX P w) 6 fR fdR ["view", "versions", "under"] (spReasons P w K C CH C_NoName) := ok_reasons T D_reasons D_look D_entered D_tops D_chosen K_Book K_Holding D_Holding_holds D_Book_parts D_Book_kind D_Book_thing D_is_name D_is_int FE X_NoName
  have G_Holding_holds : FnOk P w K mg base CX0 3 fH fdH ["self", "name"] (spHolds P w C CH) := ok_holds T D_Holding_holds.fn K_Book K_Holding D_is_name D_is_int
  have cl := K_Holding.cl
  have n1 := K_Holding.na "book" (by simp)
  obtain ⟨kg_reasons, KB_reasons⟩ := D_reasons.kb
  refine D.fn.ok sc_wanted (fun vs H Q E h => ?_) (fun cdv A outer s H vs Q E hr h => ?_)
  · obtain ⟨v, dv, p, dx, lc, ld, lg, rw', hd, sa, u, cs, ds, hs, is, us, rfl, _⟩ := h
    rfl
  · obtain ⟨v, dv, p, dx, lc, ld, lg, rw', hd, sa, u, cs, ds, hs, is, us, rfl, W, tr, hsa, hil, hU, hus, q, qe⟩ := h
    have few := W.bk.few
    refine ⟨_,
      (pss_cons
        (ps_setLc (i := 3) (own := [("name", 5), ("whole", 6), ("by", 7)]) (g := (gTup K 3 (gCons (gName 5) (gCons (gName 6) (gCons (gName 7) gNil))))) rfl sc_wanted.nd rfl rfl (sw_true rfl rfl rfl (by decide +kernel)) (pi_tup (pe_callN G_reasons (hr.mono (by omega)) (by rfl) D_reasons.g D_reasons.kp KB_reasons (passes_call (takes_of rfl rfl rfl rfl) (fun _ _ _ _ h => h)) (pa_cons (pv 0) (pa_cons (pv 1) pa_nil)) (pk_cons (pv 2) pk_nil))) (blkOk_by (own := [("name", 5), ("whole", 6), ("by", 7)]) (N := N_wanted) (sc := defScope s_wanted) (by decide +kernel)) (fun _ _ _ _ _ => (pg_tup rfl (pgs_cons (pg_name (i := 5) sc_wanted.nd rfl (.inl rfl)) (pgs_cons (pg_name (i := 6) sc_wanted.nd rfl (.inl rfl)) (pgs_cons (pg_name (i := 7) sc_wanted.nd rfl (.inl rfl)) pgs_nil))))) (fun _ _ _ _ _ => pts_nil) (fun _ _ _ _ _ => (pv 5)))
      (pss_cons
        (ps_set (i := 4) sc_wanted.nd rfl (.inl rfl) (pe_callTy (r := rTupOf K) c_tupOf (by rfl) T.n_tuple (by decide +kernel) (pa_cons (pe_lc (own := [("name", 5)]) (g := (gName 5)) rfl sc_wanted.nd (pi_list (pv 3)) (blkOk_by (own := [("name", 5)]) (N := N_wanted) (sc := defScope s_wanted) (by decide +kernel)) (fun _ _ _ _ _ => (pg_name (i := 5) sc_wanted.nd rfl (.inl rfl))) (fun _ _ _ _ _ => (pts_one (pt_val (pe_meth (pv 0) K_Holding.cl D_Holding_holds.m G_Holding_holds (hr.mono (by omega)) D_Holding_holds.b .nil pass0 (pa_cons (pv 5) pa_nil))))) (fun _ _ _ _ _ => (pv 5))) pa_nil)))
      (pss_one
        (ps_ret (pe_tup (pa_cons (pv 4) (pa_cons (pe_callTy (r := rTupOf K) c_tupOf (by rfl) T.n_tuple (by decide +kernel) (pa_cons (pe_lc (own := [("name", 5)]) (g := (gName 5)) rfl sc_wanted.nd (pi_list (pv 3)) (blkOk_by (own := [("name", 5)]) (N := N_wanted) (sc := defScope s_wanted) (by decide +kernel)) (fun _ _ _ _ _ => (pg_name (i := 5) sc_wanted.nd rfl (.inl rfl))) (fun _ _ _ _ _ => (pts_one (pt_not (pt_val (pe_meth (pv 0) K_Holding.cl D_Holding_holds.m G_Holding_holds (hr.mono (by omega)) D_Holding_holds.b .nil pass0 (pa_cons (pv 5) pa_nil)))))) (fun _ _ _ _ _ => (pv 5))) pa_nil)) pa_nil)))))))
      , ?_⟩
    rw [show L2.start N_wanted [V.ref v, V.ref sa, V.ref u] = [some (.ref v), some (.ref sa), some (.ref u), none, none, none, none, none] from rfl]
    walk_at "x"
    refine ⟨rfl, rfl, v, dv, p, dx, lc, ld, lg, rw', hd, sa, u, cs, ds, hs, is, us, rfl, W, tr, hsa, hil, hU, hus, fun st est hst H1 t k1 RT => ?_, fun pre post y e h1 h2 => qe pre post y e h1 h2⟩
    obtain ⟨by', ns, qs, hit, nup, nmem, et, hq, eqs⟩ := RT
    have ens : qs.map (fun q => q.2.1) = ns := by
      have := congrArg (List.map fun r : R3 => r.1) eqs
      rw [List.map_map, List.map_map] at this
      have e2 : ns.map ((fun r : R3 => r.1) ∘ valC by' st (topsOf cs hs st)) = ns := by
        have : ∀ l : List Nat, l.map ((fun r : R3 => r.1) ∘ valC by' st (topsOf cs hs st)) = l := fun l => by
          induction l with
          | nil => rfl
          | cons a r ih => rw [List.map_cons, ih]; show (valC by' st (topsOf cs hs st) a).1 :: r = a :: r; rw [valC_fst]
        exact this ns
      rw [e2] at this
      exact this
    have nlen : ns.length ≤ 1000 := by
      obtain ⟨k, hk⟩ := hit
      have inv := EInv.it (cs := cs) (hs := hs) (us := us) (st := st) k
      rw [hk] at inv
      have := rise_len ns 0 cs.length nup (fun _ _ => Nat.zero_le _) (fun n hn => ?_) (Nat.zero_le _)
      · omega
      · rcases (nmem n).mp hn with h | h | ⟨p', hp', h⟩
        · obtain ⟨z, hz, rfl⟩ := List.mem_map.mp h
          obtain ⟨_, ⟨e, he, e2⟩, _⟩ := inv.of z (.inl hz)
          rw [← e2]
          exact (tr.low _ e he).2.1
        · exact (hst n h).lt
        · obtain ⟨z1, z2, z3⟩ := mem_topsOf.mp hp'
          have := (tr.root p'.1 (hst _ z1)).2
          have := (hst _ z1).lt
          omega
    have qlen : qs.length = ns.length := by rw [← ens, List.length_map]
    walk_at "g"
    refine lcp_map (walk_tup (K := K) (a := t) (xs := qs.map fun q => V.ref q.1)) [] (qs.map fun q => nV q.2.1) (by simp) (by rw [List.length_map]; omega) (fun H' k => .of (k _ _ (by simp) et)) ?_ (by simp) ?_
    · rintro i x Ha Hb R hi ka ⟨rfl, hx⟩ hR
      obtain ⟨z, hz, rfl⟩ := map_at hx
      have ez := ka.same _ _ (hq z (List.mem_of_getElem? hz))
      unfold r3V at ez
      refine w_gtup (K := K) (.of ez) rfl (w_gcons (w_name (w_gcons (w_name (w_gcons (w_name (w_gnil ⟨rfl, ?_⟩)))))))
      walk_at "g"
      exact hR _ _ (by rw [List.getElem?_map, hz]; rfl) Kp.refl
    intro nl H2 hnl k2 enl
    have enl' : H2 nl = some (.lst (ns.map nV)) := by rw [enl, ← ens, List.map_map]; rfl
    have s2 := Same.trans k1 k2.same
    have W2' := W.same s2
    walk_at "g"
    try refine w_itL' (.of enl') ?_
    refine lcp_sel (walk_list (K := K) (a := nl) (xs := ns.map nV)) [] (natSel (fun n => decide (n ∈ hs)) ns) (by rw [List.length_map]; omega) (fun H' k => .of (k _ _ (by simp) enl')) ?_ (by simp) ?_
    · rintro i x Ha Hb R R0 hi ka ⟨rfl, hx⟩ h1 h2
      obtain ⟨n, hn, rfl⟩ := map_at hx
      have Wa := W2'.same ka.same
      have oba := Wa.ob
      refine w_name ⟨rfl, ?_⟩
      walk_at "g"
      refine ⟨v, dv, p, dx, lc, ld, lg, rw', hd, cs, ds, hs, nV n, "int", rfl, Wa, .int _, fun m e hm => ?_, fun hm => ?_⟩
      · have em : m = n := by have := V.int.inj e; omega
        rw [em] at hm
        walk_at "g"
        exact h1 _ _ (by unfold natSel; rw [hn]; show (if decide _ = true then _ else _) = _; rw [if_pos (decide_eq_true hm)]) Kp.refl
      · walk_at "g"
        exact h2 _ (by unfold natSel; rw [hn]; show (if decide _ = true then _ else _) = _; rw [if_neg (by simpa using hm n rfl)]) Kp.refl
    intro hl H3 hhl k3 ehl
    rw [List.length_map, natSel_all] at ehl
    walk_at "g"
    refine w_tupL (.of ehl) fun a H4 ha e4 k4 => ?_
    have s24 := Same.trans k3.same k4
    have enl4 := s24 _ _ enl'
    have W4 := W2'.same s24
    walk_at "g"
    try refine w_itL' (.of enl4) ?_
    refine lcp_sel (walk_list (K := K) (a := nl) (xs := ns.map nV)) [] (natSel (fun n => !decide (n ∈ hs)) ns) (by rw [List.length_map]; omega) (fun H' k => .of (k _ _ (by simp) enl4)) ?_ (by simp) ?_
    · rintro i x Ha Hb R R0 hi ka ⟨rfl, hx⟩ h1 h2
      obtain ⟨n, hn, rfl⟩ := map_at hx
      have Wa := W4.same ka.same
      have oba := Wa.ob
      refine w_name ⟨rfl, ?_⟩
      walk_at "g"
      refine ⟨v, dv, p, dx, lc, ld, lg, rw', hd, cs, ds, hs, nV n, "int", rfl, Wa, .int _, fun m e hm => ?_, fun hm => ?_⟩
      · have em : m = n := by have := V.int.inj e; omega
        rw [em] at hm
        walk_at "g"
        exact h2 _ (by unfold natSel; rw [hn]; show (if (!decide (n ∈ hs)) = true then _ else _) = _; rw [decide_eq_true hm]; rfl) Kp.refl
      · walk_at "g"
        exact h1 _ _ (by unfold natSel; rw [hn]; show (if (!decide (n ∈ hs)) = true then _ else _) = _; rw [decide_eq_false (hm n rfl)]; rfl) Kp.refl
    intro ll H5 hll k5 ell
    rw [List.length_map, natSel_all] at ell
    walk_at "g"
    refine w_tupL (.of ell) fun b H6 hb e6 k6 => ?_
    walk_at "g"
    refine w_new fun r H7 hr7 e7 k7 => ?_
    have s47 := Same.trans k5.same (Same.trans k6 k7)
    exact q st est hst H7 r (Same.trans s2 (Same.trans s24 s47)) ⟨by', ns, a, b, hit, nup, nmem, e7, s47 _ _ e4, k7 _ _ e6⟩
end
/-! ### the entries of a drawn scene -/
theorem ct_tree {c : Ct} (h : c.word = "tree") : ∃ es, c = .tree es := by
  cases c with
  | leaf rows => exact absurd (show Str.ofString "leaf" = Str.ofString "tree" from h) (by decide +kernel)
  | tree es => exact ⟨es, rfl⟩
  | ver ps r s => exact absurd (show Str.ofString "version" = Str.ofString "tree" from h) (by decide +kernel)
theorem take_get {cs : List (Addr × Ct)} {n i : Nat} {c : Ct} (h : ((cs.map (·.2)).take n)[i]? = some c) : i < n ∧ ∃ q, cs[i]? = some q ∧ q.2 = c := by
  have hi : i < n := by
    have := (List.getElem?_eq_some_iff.mp h).1
    rw [List.length_take] at this
    omega
  rw [List.getElem?_take, if_pos hi, List.getElem?_map] at h
  obtain ⟨q, hq, e⟩ := Option.map_eq_some_iff.mp h
  exact ⟨hi, q, hq, e⟩
theorem Fam.entT {cs : List (Addr × Ct)} {t : Nat} (h : Fam cs t) (n : Nat) : (ents cs n).length ≤ 20 ∧ ∀ e ∈ ents cs n, LabOk e.1 ∧ e.2 < n ∧ e.2 < cs.length ∧ ¬ isV cs e.2 := by
  by_cases it : isTr cs n
  · obtain ⟨a, e⟩ := it.at
    obtain ⟨h1, h2, _, _⟩ := (show CtOk _ _ (.tree (ents cs n)) from h.ok n _ (by rw [List.getElem?_map, e]; rfl))
    refine ⟨h1, fun z hz => ?_⟩
    obtain ⟨g1, c, hc, hw⟩ := h2 z hz
    obtain ⟨hl, q, hq, e2⟩ := take_get hc
    exact ⟨g1, hl, (List.getElem?_eq_some_iff.mp hq).1, fun iv => hw (by rw [← e2]; exact (word_isV hq).mpr iv)⟩
  · have e : ents cs n = [] := by
      unfold ents
      split
      · rename_i a es e
        exact absurd ⟨a, es, e⟩ it
      · rfl
    rw [e]
    exact ⟨Nat.zero_le _, fun z hz => by cases hz⟩
theorem Fam.tr {cs : List (Addr × Ct)} {t : Nat} (h : Fam cs t) : TrOk cs where
  few := fun n => (h.entT n).1
  low := fun n e he => ((h.entT n).2 e he).2
  root := fun n iv => by
    obtain ⟨a, s, e⟩ := iv.root
    obtain ⟨_, _, _, ⟨c, hc, hw⟩, _⟩ := (show CtOk _ _ (.ver (pars cs n) (rootV cs n) s) from h.ok n _ (by rw [List.getElem?_map, e]; rfl))
    obtain ⟨hl, q, hq, e2⟩ := take_get hc
    obtain ⟨es, e3⟩ := ct_tree hw
    exact ⟨⟨q.1, es, by rw [hq, ← e3, ← e2]⟩, hl⟩
/-! ### _law_picks -/
def spLPicks : Sp := fun vs H Q _ => ∃ (d c th : Addr) (n : Nat) (cs : List (Addr × Ct)), vs = [.ref d, .ref th] ∧ Deck H d c n ∧ n + 20 ≤ MOSTD ∧ ThAt H th cs ∧ th ≠ d ∧ cs.length ≤ 400 ∧ (∀ n, (ents cs n).length ≤ 20 ∧ ∀ e ∈ ents cs n, LabOk e.1) ∧
  ∀ (H' : Hp) (u : Addr) (us : List Str), Deck H' d c (n + 20) → KX d H H' → H' u = some (.tup (us.map V.str)) → (∀ l ∈ us, PyData.strOk l = true) → Q (.ref u) H'
section
variable {P : Program} {w : World} {K : PySem.W.Frag} {mg : Str → Option Value} {base : Heap}
theorem ok_lpicks {f fM fD fL : Addr} {fd fdM fdD fdL : FuncData} (T : Txt K mg) (F : Fun K "_law_picks" "_law_picks" s_law_picks f fd) (D_law_mixed : Df K mg "_law_mixed" s_law_mixed ["_law_cell", "_law_turn"] fM fdM) (D_law_draw : Df K mg "_law_draw" s_law_draw ["_law_deck_here", "_law_many"] fD fdD) (D_law_label : Df K mg "_law_label" s_law_label ["_law_deck_here"] fL fdL) : FnOk P w K mg base CX0 4 f fd ["_law_deck_here", "_law_things"] spLPicks := by
  have G_law_draw : FnOk P w K mg base CX0 2 fD fdD ["_law_deck_here", "_law_many"] spDraw := ok_draw T D_law_draw.fn D_law_mixed
  have G_law_label : FnOk P w K mg base CX0 3 fL fdL ["_law_deck_here"] spLabel := ok_label T D_law_label.fn D_law_mixed D_law_draw
  refine F.ok sc_law_picks (fun vs H Q E h => ?_) (fun cdv A outer s H vs Q E hr h => ?_)
  · obtain ⟨d, c, th, n, cs, rfl, _⟩ := h
    rfl
  · obtain ⟨d, c, th, n, cs, rfl, D0, hn, T0, nthd, hcl, hen, q⟩ := h
    refine ⟨_,
      (pss_cons
        (ps_if (pt_cmpR op_eq (pe_call G_law_draw (hr.mono (by omega)) (by rfl) D_law_draw.g D_law_draw.fn.kp D_law_draw.b .nil pass0 (pa_cons (pv 0) (pa_cons pe_int pa_nil))) pe_int (nomark _))
          (pss_one
            (ps_ret (pe_tup pa_nil)))
          pss_nil)
      (pss_cons
        (ps_set (i := 2) sc_law_picks.nd rfl (.inr rfl) (pe_lst pa_nil))
      (pss_cons
        (ps_for PassesOwn.never rfl (pi_list (pv 1)) (pg_name (i := 3) sc_law_picks.nd rfl (.inl rfl))
          (pss_one
            (ps_if (pt_cmpR op_eq (pe_ix (r := rIxT K) ix_tup (pv 3) pe_int (fun _ _ => rfl)) pe_str (nomark _))
              (pss_one
                (ps_expr (pe_bm PySem.F.plainAttrs_list PySem.F.slot_list_extend PySem.F.type_list_extend mt_extend (pv 2) (pa_cons (pe_lc (own := [("_law_label_here", 4), ("_law_name", 5)]) (g := (gTup K 2 (gCons (gName 4) (gCons (gName 5) gNil)))) rfl sc_law_picks.nd (pi_tup (pe_ix (r := rIxT K) ix_tup (pv 3) pe_int (fun _ _ => rfl))) (blkOk_by (own := [("_law_label_here", 4), ("_law_name", 5)]) (N := N_law_picks) (sc := defScope s_law_picks) (by decide +kernel)) (fun _ _ _ _ _ => (pg_tup rfl (pgs_cons (pg_name (i := 4) sc_law_picks.nd rfl (.inl rfl)) (pgs_cons (pg_name (i := 5) sc_law_picks.nd rfl (.inl rfl)) pgs_nil)))) (fun _ _ _ _ _ => pts_nil) (fun _ _ _ _ _ => (pv 4))) pa_nil))))
              pss_nil)))
      (pss_cons
        (ps_expr (pe_bm PySem.F.plainAttrs_list PySem.F.slot_list_append PySem.F.type_list_append mt_append (pv 2) (pa_cons (pe_call G_law_label (hr.mono (by omega)) (by rfl) D_law_label.g D_law_label.fn.kp D_law_label.b .nil pass0 (pa_cons (pv 0) pa_nil)) pa_nil)))
      (pss_one
        (ps_ret (pe_callTy (r := rTupOf K) c_tupOf (by rfl) T.n_tuple (by decide +kernel) (pa_cons (pe_lc (own := [("_law_k", 6)]) (g := (gName 6)) rfl sc_law_picks.nd (pi_range1 (by rfl) T.n_range (pa_cons (pe_op op_add pe_int (pe_call G_law_draw (hr.mono (by omega)) (by rfl) D_law_draw.g D_law_draw.fn.kp D_law_draw.b .nil pass0 (pa_cons (pv 0) (pa_cons pe_int pa_nil)))) pa_nil)) (blkOk_by (own := [("_law_k", 6)]) (N := N_law_picks) (sc := defScope s_law_picks) (by decide +kernel)) (fun _ _ _ _ _ => (pg_name (i := 6) sc_law_picks.nd rfl (.inl rfl))) (fun _ _ _ _ _ => pts_nil) (fun _ _ _ _ _ => (pe_ix (r := rIxL K) ix_list (pv 2) (pe_call G_law_draw (hr.mono (by omega)) (by rfl) D_law_draw.g D_law_draw.fn.kp D_law_draw.b .nil pass0 (pa_cons (pv 0) (pa_cons (pe_callB (r := rLen K) c_len (by rfl) T.n_len (by decide +kernel) (pa_cons (pv 2) pa_nil)) pa_nil))) (fun _ _ => rfl)))) pa_nil))))))))
      , ?_⟩
    rw [show L2.start N_law_picks [V.ref d, V.ref th] = [some (.ref d), some (.ref th), none, none, none, none, none] from rfl]
    refine w_seq ?_
    walk_at "x"
    refine w_draw D0 (by omega) (by decide) (by decide) fun r H1 hr1 D1 o1 => ?_
    have x1 := D0.kx D1 o1
    walk_at "g"
    refine w_ite (fun h0 => ?_) (fun h0 => ?_)
    · walk_at "g"
      refine w_new fun p0 H2 hp0 e2 k2 => ?_
      exact q H2 p0 [] ((D1.kp (M := []) (Kp.of k2) (by simp) (by simp)).mono (by omega)) (x1.trans (KX.of k2)) e2 (by simp)
    have T1 := T0.kp x1.p x1.t (by simpa using nthd)
    walk_at "g"
    refine w_new fun l H2 hl e2 k2 => ?_
    have D2 : Deck H2 d c (n + 1) := D1.kp (M := []) (Kp.of k2) (by simp) (by simp)
    have nld := (D1.ne1 hl).1
    have T2 := T1.same k2
    have hth2 := T2.at'
    have nthl : th ≠ l := ne_of_none T1.at' hl
    walk_at "g"
    refine lp_list (xs := cs.map fun q => V.ref q.1) (fun i σ H' => ∃ (y3 : Option V) (us : List Str), σ = [some (.ref d), some (.ref th), some (.ref l), y3, none, none, none] ∧ Kp [l] H2 H' ∧ KT H2 H' ∧ H' l = some (.lst (us.map V.str)) ∧ (∀ z ∈ us, PyData.strOk z = true) ∧ us.length ≤ 20 * i) ⟨_, [], rfl, Kp.refl, KT.refl, e2, by simp, Nat.zero_le _⟩ (fun i σ H' _ h => by obtain ⟨_, _, _, k, _⟩ := h; exact .of (k _ _ (by simpa using nthl) hth2)) ?_ ?_
    · rintro i x σ H3 hx ⟨y3, us, rfl, k3, t3, e3, hus, hul⟩
      obtain ⟨z, hz, rfl⟩ := map_at hx
      have hil := (List.getElem?_eq_some_iff.mp hz).1
      have hct := (T2.ct _ (List.mem_of_getElem? hz)).kt t3
      obtain ⟨xs, hh⟩ := hct.head
      have at0 : atI (V.str z.2.word :: xs) 0 = some (.str z.2.word) := atI_nat (j := 0) rfl
      walk_at "g"
      by_cases hw : z.2.word = "tree"
      rotate_left
      · first | refine w_no hw ?_ | rw [decide_eq_false hw]
        walk_at "g"
        exact ⟨_, us, rfl, k3, t3, e3, hus, by omega⟩
      first | refine w_yes hw ?_ | rw [decide_eq_true hw]
      obtain ⟨es, hes⟩ := ct_tree hw
      have ee : ents cs i = es := by
        unfold ents
        rw [show cs[i]? = some (z.1, Ct.tree es) by rw [hz, ← hes]]
      obtain ⟨hl20, hlab⟩ := hen i
      rw [ee] at hl20 hlab
      rw [hes] at hct
      obtain ⟨r', qs, g1, g2, g3, g4⟩ := hct
      have hql : qs.length ≤ 20 := by
        have := congrArg List.length g3
        rw [List.length_map] at this
        omega
      walk_at "g"
      refine lcp_map (walk_tup (K := K) (a := r') (xs := qs.map fun q => V.ref q.1)) [] ((qs.map fun q => q.2.1).map V.str) (by simp) (by rw [List.length_map]; omega) (fun H' k => .of (k _ _ (by simp) g2)) ?_ (by simp) ?_
      · rintro j x Ha Hb R hj ka ⟨rfl, hx'⟩ hR
        obtain ⟨z', hz', rfl⟩ := map_at hx'
        have ez := ka.same _ _ (g4 z' (List.mem_of_getElem? hz'))
        refine w_gtup (K := K) (.of ez) rfl (w_gcons (w_name (w_gcons (w_name (w_gnil ⟨rfl, ?_⟩)))))
        walk_at "g"
        exact hR _ _ (by rw [List.getElem?_map, List.getElem?_map, hz']; rfl) Kp.refl
      intro L H4 hL k4 eL
      have e4 := k4.same _ _ e3
      walk_at "g"
      refine w_extLF e4 eL (by rw [List.length_map, List.length_map, List.length_map]; exact Nat.le_trans (show us.length + qs.length ≤ 20000 by omega) (by decide)) fun H5 e5 o5 => ?_
      walk_at "g"
      refine ⟨_, us ++ qs.map (fun q => q.2.1), rfl, k3.trans ((Kp.of k4.same).trans (o5.kp (by simp))), (t3.trans (KT.of k4.same)).trans (KT.off o5 e4), by rw [e5, List.map_append], fun y hy => ?_, by rw [List.length_append, List.length_map]; omega⟩
      rcases List.mem_append.mp hy with g | g
      · exact hus y g
      · obtain ⟨q', hq', rfl⟩ := List.mem_map.mp g
        exact lab_str (hlab q'.2 (by rw [← g3]; exact List.mem_map_of_mem hq'))
    rintro σ H3 ⟨y3, us, rfl, k3, t3, e3, hus, hul⟩
    rw [List.length_map] at hul
    have D3 : Deck H3 d c (n + 1) := D2.kp k3 (by simpa using nld.symm) (by simpa using (D1.ne1 hl).2.symm)
    have k13 : Same H1 H3 := fun b o e => k3 _ _ (by simpa using ne_of_none e hl) (k2 _ _ e)
    have x3 : KX d H H3 := x1.trans (KX.of k13)
    walk_at "g"
    refine ⟨d, c, n + 1, rfl, D3, by omega, fun H4 z D4 k4 t4 hz => ?_⟩
    have e4 := k4 _ _ (by simpa using nld) e3
    walk_at "g"
    refine w_app e4 (by rw [List.length_map]; exact Nat.lt_of_le_of_lt (show us.length ≤ 20000 by omega) (by decide)) fun H5 e5 o5 => ?_
    have e5' : H5 l = some (.lst ((us ++ [z]).map V.str)) := by rw [e5, List.map_append]; rfl
    have hus5 : ∀ y ∈ us ++ [z], PyData.strOk y = true := fun y hy => by
      rcases List.mem_append.mp hy with g | g
      · exact hus y g
      · rw [List.mem_singleton.mp g]
        exact lab_str hz
    have hl5 : (us ++ [z]).length ≤ 8001 := by rw [List.length_append]; simp only [List.length_cons, List.length_nil]; omega
    have hp5 : 0 < (us ++ [z]).length := by rw [List.length_append]; simp only [List.length_cons, List.length_nil]; omega
    revert e5' hus5 hl5 hp5
    generalize us ++ [z] = vs5
    intro e5' hus5 hl5 hp5
    have D5 : Deck H5 d c (n + 13) := (D4.kp (M := [l]) (o5.kp (by simp)) (by simpa using nld.symm) (by simpa using (D1.ne1 hl).2.symm)).mono (by omega)
    have p5 : Kp [d] H H5 := fun b o hb e => by
      have e1 := o1.get (by simpa using hb) e
      exact o5.get (ne_of_none e1 hl) (k4 _ _ hb (k13 _ _ e1))
    walk_at "g"
    refine w_draw D5 (by omega) (by decide) (by decide) fun u H6 hu6 D6 o6 => ?_
    have e6 := o6.get nld e5'
    walk_at "g"
    try refine w_rng1' (by omega) (by omega) ?_
    obtain ⟨⟨dx6, ed6⟩, _⟩ := D6.at
    refine lcp_gen (walk_range (lo := 0) (n := (1 + (u : Int)).toNat)) [d] (fun i y _ => ∃ z : Str, y = .str z ∧ PyData.strOk z = true) (fun i H' => Deck H' d c (n + 14 + i)) (by omega) (fun _ _ _ _ _ h => h) (fun D hD i H1' o z => z.mut (D6.ne1 hD).1 (D6.ne1 hD).2) (fun _ _ _ _ => trivial) D6 ?_ (fun b hb => ⟨HO.lst dx6, by rw [List.mem_singleton.mp hb]; exact ed6⟩) ?_
    · rintro i x Ha Hb R hi ka ta Da ⟨rfl, rfl⟩ hR
      have ela := ka _ _ (by simpa using nld) e6
      refine w_name ⟨rfl, ?_⟩
      walk_at "g"
      refine w_draw Da (by omega) (by rw [List.length_map]; omega) (by rw [List.length_map]; omega) fun r H7 hr7 D7 o7 => ?_
      rw [List.length_map] at hr7
      have hrl : r < vs5.length := by omega
      have el7 := o7.get nld ela
      have at1 : atI (vs5.map V.str) (r : Int) = some (.str vs5[r]) := atI_nat (by rw [List.getElem?_map, List.getElem?_eq_getElem hrl]; rfl)
      walk_at "g"
      obtain ⟨⟨dxa, eda⟩, _⟩ := Da.at
      exact hR _ _ ⟨vs5[r], rfl, hus5 _ (List.getElem_mem hrl)⟩ (o7.kp (by simp)) (KT.off o7 eda) D7
    · intro L H7 ys hyl hyp hL k7 t7 D7 eL
      obtain ⟨zs, hsl, hzs⟩ := list_choose ys (fun _ y (z : Str) => y = .str z ∧ PyData.strOk z = true) hyp
      have eys : ys = zs.map V.str := by
        refine List.ext_getElem? fun j => ?_
        rw [List.getElem?_map]
        cases hy : ys[j]? with
        | none =>
          rw [List.getElem?_eq_none_iff] at hy
          rw [List.getElem?_eq_none (by omega)]
          rfl
        | some y =>
          have hj := (List.getElem?_eq_some_iff.mp hy).1
          have hj' : j < zs.length := by omega
          rw [List.getElem?_eq_getElem hj']
          rw [(hzs j y zs[j] hy (List.getElem?_eq_getElem hj')).1]
          rfl
      rw [eys] at eL
      walk_at "g"
      refine w_tupL (.of eL) fun t H8 ht e8 k8 => ?_
      have D8 : Deck H8 d c (n + 20) := (D7.kp (M := []) (Kp.of k8) (by simp) (by simp)).mono (by omega)
      refine q H8 t zs D8 (D0.kxK D8 fun b o hb e => k8 _ _ (k7 _ _ hb (o6.kp (M := [d]) (by simp) _ _ hb (p5 _ _ hb e)))) e8 fun m hm => ?_
      obtain ⟨j, hj, rfl⟩ := List.getElem_of_mem hm
      exact (hzs j ys[j] zs[j] (List.getElem?_eq_getElem (by omega)) (List.getElem?_eq_getElem hj)).2
end
/-! ### what stands at a path -/
inductive RdR where
  | ok (n : Nat)
  | lack (n : Nat)
  | nop (k : Nat)
/-- the name in an entry -/
def entL (cs : List (Addr × Ct)) (n : Nat) (z : Str) : Option Nat := ((ents cs n).find? fun e => decide (e.1 = z)).map (·.2)
def walkP (cs : List (Addr × Ct)) (ab : Nat → Bool) : Nat → List Str → Nat → RdR
  | n, [], _ => .ok n
  | n, z :: r, k => match entL cs n z with
    | none => .nop (k + 1)
    | some m => if ab m = true then .lack m else walkP cs ab m r (k + 1)
def comeP (cs : List (Addr × Ct)) (ab : Nat → Bool) (v : Nat) (path : List Str) : RdR := if ab v = true then .lack v else if ab (rootV cs v) = true then .lack (rootV cs v) else walkP cs ab (rootV cs v) path 0
theorem entL_mem {cs : List (Addr × Ct)} {n m : Nat} {z : Str} (h : entL cs n z = some m) : (z, m) ∈ ents cs n := by
  unfold entL at h
  obtain ⟨e, he, rfl⟩ := Option.map_eq_some_iff.mp h
  have h1 := List.mem_of_find?_eq_some he
  have h2 := List.find?_some he
  have h3 : e.1 = z := of_decide_eq_true h2
  rw [← h3]
  exact h1
/-- what is told of a name: its word and its rows or labels -/
def TelAt (H : Hp) (a : Addr) (cs : List (Addr × Ct)) (n : Nat) : Prop := (∃ b rows r, cs[n]? = some (b, Ct.leaf rows) ∧ H a = some (.tup [.str "leaf", .ref r]) ∧ RwAt H r rows) ∨ ∃ b es r, cs[n]? = some (b, Ct.tree es) ∧ H a = some (.tup [.str "tree", .ref r]) ∧ RwAt H r (es.map (·.1))
theorem TelAt.kt {H H' : Hp} {a : Addr} {cs : List (Addr × Ct)} {n : Nat} (h : TelAt H a cs n) (k : KT H H') : TelAt H' a cs n := by
  rcases h with ⟨b, rows, r, h1, h2, h3⟩ | ⟨b, es, r, h1, h2, h3⟩
  · exact .inl ⟨b, rows, r, h1, k _ _ h2, k _ _ h3⟩
  · exact .inr ⟨b, es, r, h1, k _ _ h2, k _ _ h3⟩
/-- NoPath of these labels is raised -/
def NoPt (CP : Addr) (H : Hp) (E : XK) (ls : List Str) : Prop := ∀ (d t : Addr) (H' : Hp), Same H H' → H' d = some (.xd [("path", .ref t)]) → RwAt H' t ls → E (.ref CP) (some d) H'
def RdOut (CL CP : Addr) (cs : List (Addr × Ct)) (path : List Str) (H : Hp) (Q : VK) (E : XK) : RdR → Prop
  | .ok n => ∀ (H' : Hp) (a : Addr), Same H H' → TelAt H' a cs n → Q (.ref a) H'
  | .lack n => NoNm CL H E (nV n)
  | .nop k => NoPt CP H E (path.take k)
def TCome (P : Program) (w : World) (C CN CL CP : Addr) (tl : V → Hp → VK → Prop) (vs : List V) (E : XK) (H : Hp) (Q : VK) : Prop := ∃ (p dx lc ld lg t : Addr) (cs : List (Addr × Ct)) (ds : List Nat) (i : Int) (path : List Str) (ab : Nat → Bool), vs = [.ref p, .int i, .ref t] ∧ BookAt P w C H p dx lc ld lg cs ds ∧ RwAt H t path ∧ path.length ≤ 1000 ∧ TrOk cs ∧
  (∀ (n : Nat) (H' : Hp) (Q' : VK), Same H H' → n < cs.length → Q' (.bl (ab n)) H' → tl (nV n) H' Q') ∧ (¬ okI cs i → NoNm CN H E (.int i)) ∧ ∀ v : Nat, i = v → isV cs v → RdOut CL CP cs path H Q E (comeP cs ab v path)
def spEntry : Sp := fun vs H Q _ => ∃ (a b : Addr) (c : Ct) (cs : List (Addr × Ct)) (n : Nat) (z : Str), vs = [.ref a, .str z] ∧ CtAt H a c ∧ cs[n]? = some (b, c) ∧ (∀ m, entL cs n z = some m → Q (nV m) H) ∧ (entL cs n z = none → Q .non H)
def tAct (i : Nat) (f c' : Addr) (q : Str) (t : TA) (tl : V → Hp → VK → Prop) : TE := fun σZ HZ Q => σZ[i]? = some (some (.ref f)) ∧ t σZ HZ fun vs H1 => ∃ v, vs = [v] ∧ H1 c' = some (LamX.CodeO c' q) ∧ tl v H1 Q
theorem w_act {i : Nat} {f c' : Addr} {q : Str} {t : TA} {tl : V → Hp → VK → Prop} {σ : L2.St} {H : Hp} {Q : VK} (h1 : σ[i]? = some (some (.ref f))) (h : t σ H fun vs H1 => ∃ v, vs = [v] ∧ H1 c' = some (LamX.CodeO c' q) ∧ tl v H1 Q) : tAct i f c' q t tl σ H Q := ⟨h1, h⟩
def rNoR : R2 := rIsNon
section
variable {P : Program} {w : World} {K : PySem.W.Frag} {mg : Str → Option Value} {base : Heap} {C CH : Addr}
theorem ok_entry {f : Addr} {fd : FuncData} (T : Txt K mg) (F : Fun K "entry" "entry" s_entry f fd) : FnOk P w K mg base CX0 1 f fd ["content", "label"] spEntry := by
  refine F.ok sc_entry (fun vs H Q E h => ?_) (fun cdv A outer s H vs Q E hr h => ?_)
  · obtain ⟨a, b, c, cs, n, z, rfl, _⟩ := h
    rfl
  · obtain ⟨a, b, c, cs, n, z, rfl, hc, hn, q1, q2⟩ := h
    refine ⟨_,
      (pss_cons
        (ps_if (pt_cmpR op_eq (pe_ix (r := rIxT K) ix_tup (pv 0) pe_int (fun _ _ => rfl)) pe_str (nomark _))
          (pss_one
            (ps_for PassesOwn.never rfl (pi_tup (pe_ix (r := rIxT K) ix_tup (pv 0) pe_int (fun _ _ => rfl))) (pg_tup rfl (pgs_cons (pg_name (i := 2) sc_entry.nd rfl (.inl rfl)) (pgs_cons (pg_name (i := 3) sc_entry.nd rfl (.inl rfl)) pgs_nil)))
              (pss_one
                (ps_if (pt_cmpR op_eq (pv 2) (pv 1) (nomark _))
                  (pss_one
                    (ps_ret (pv 3)))
                  pss_nil))))
          pss_nil)
      (pss_one
        (ps_ret pe_non)))
      , ?_⟩
    rw [show L2.start N_entry [V.ref a, V.str z] = [some (.ref a), some (.str z), none, none] from rfl]
    obtain ⟨xs, hh⟩ := hc.head
    have at0 : atI (V.str c.word :: xs) 0 = some (.str c.word) := atI_nat (j := 0) rfl
    refine w_seq ?_
    walk_at "x"
    cases c with
    | leaf rows =>
      refine w_no (show Str.ofString "leaf" ≠ Str.ofString "tree" by decide +kernel) ?_
      walk_at "g"
      exact q2 (by unfold entL ents; rw [hn]; rfl)
    | ver ps r s =>
      refine w_no (show Str.ofString "version" ≠ Str.ofString "tree" by decide +kernel) ?_
      walk_at "g"
      exact q2 (by unfold entL ents; rw [hn]; rfl)
    | tree es =>
      obtain ⟨r, qs, h1, h2, h3, h4⟩ := hc
      have at1 : atI [V.str "tree", .ref r] 1 = some (.ref r) := rfl
      refine w_yes rfl ?_
      walk_at "g"
      have eent : ents cs n = qs.map (·.2) := by unfold ents; rw [hn]; exact h3.symm
      refine lp_tup (xs := qs.map fun q => V.ref q.1) (fun i σ H' => (∃ y1 y2 : Option V, σ = [some (.ref a), some (.str z), y1, y2]) ∧ H' = H ∧ ∀ e ∈ (qs.map (·.2)).take i, e.1 ≠ z) ⟨⟨_, _, rfl⟩, rfl, by simp⟩ (fun i σ H' _ h => by rw [h.2.1]; first | exact h2.sq | exact .of h2) ?_ ?_
      · rintro i x σ H1 hx ⟨⟨y1, y2, rfl⟩, rfl, hz⟩
        obtain ⟨qe, hq, rfl⟩ := map_at hx
        have e4 := h4 qe (List.mem_of_getElem? hq)
        have hi := (List.getElem?_eq_some_iff.mp hq).1
        walk_at "g"
        by_cases hl : qe.2.1 = z
        · refine w_yes hl ?_
          walk_at "g"
          refine q1 qe.2.2 ?_
          unfold entL
          rw [eent]
          have sp : qs.map (·.2) = (qs.map (·.2)).take i ++ qe.2 :: (qs.map (·.2)).drop (i + 1) := by
            have hi' : i < (qs.map (·.2)).length := by rw [List.length_map]; exact hi
            have e5 : (qs.map (·.2))[i] = qe.2 := by
              rw [List.getElem_map]
              rw [(List.getElem?_eq_some_iff.mp hq).2]
            rw [← e5, ← List.drop_eq_getElem_cons hi', List.take_append_drop]
          rw [sp, List.find?_append, List.find?_eq_none.mpr (fun e he => by simpa using hz e he)]
          rw [List.find?_cons_of_pos (by exact decide_eq_true hl)]
          rfl
        · refine w_no hl ?_
          walk_at "g"
          refine ⟨⟨_, _, rfl⟩, rfl, fun e he => ?_⟩
          rw [List.take_add_one, List.getElem?_map, hq] at he
          rcases List.mem_append.mp he with h | h
          · exact hz e h
          · have : e = qe.2 := by simpa using h
            rw [this]
            exact hl
      · rintro σ H1 ⟨⟨y1, y2, rfl⟩, rfl, hz⟩
        rw [List.length_map, List.take_of_length_le (by rw [List.length_map]; exact Nat.le_refl _)] at hz
        walk_at "g"
        refine q2 ?_
        unfold entL
        rw [eent, List.find?_eq_none.mpr (fun e he => by simpa using hz e he)]
        rfl
theorem ok_lkinit {f C : Addr} {fd : FuncData} (F : Fun K "__init__" "Lack.__init__" s_Lack___init__ f fd) (XT : OexC K C) (n1 : PySem.W.findIn K (.ref C) "name" = some none) : FnOk P w K mg base CX0 1 f fd ["self", "name"] (spInit1 K C "name") := by
  refine F.ok sc_Lack___init__ (fun vs H Q E h => ?_) (fun cdv A outer s H vs Q E hr h => ?_)
  · obtain ⟨a, x, rfl, _⟩ := h
    rfl
  · obtain ⟨a, x, rfl, e, q⟩ := h
    refine ⟨_,
      (pss_one
        (ps_ost (pv 0) (pv 1)))
      , ?_⟩
    rw [show L2.start N_Lack___init__ [V.ref a, x] = [some (.ref a), some x] from rfl]
    refine w_ost ?_
    walk_at "x"
    exact ⟨a, C, rfl, XT, n1, .inl ⟨e, fun dx hd hne => q dx hd hne⟩⟩
theorem ok_ptinit {f C : Addr} {fd : FuncData} (F : Fun K "__init__" "NoPath.__init__" s_NoPath___init__ f fd) (XT : OexC K C) (n1 : PySem.W.findIn K (.ref C) "path" = some none) : FnOk P w K mg base CX0 1 f fd ["self", "path"] (spInit1 K C "path") := by
  refine F.ok sc_NoPath___init__ (fun vs H Q E h => ?_) (fun cdv A outer s H vs Q E hr h => ?_)
  · obtain ⟨a, x, rfl, _⟩ := h
    rfl
  · obtain ⟨a, x, rfl, e, q⟩ := h
    refine ⟨_,
      (pss_one
        (ps_ost (pv 0) (pv 1)))
      , ?_⟩
    rw [show L2.start N_NoPath___init__ [V.ref a, x] = [some (.ref a), some x] from rfl]
    refine w_ost ?_
    walk_at "x"
    exact ⟨a, C, rfl, XT, n1, .inl ⟨e, fun dx hd hne => q dx hd hne⟩⟩
theorem come_run {A : Around} {outer : List Env} {s : Shared} {H : Hp} {Q : VK} {E : XK} {g f c' : Addr} {cdg : Value} {q : Str} {vs : List V} {tl : V → Hp → VK → Prop} {fE fK fG fN fI fNn fLk fPt C_NoName C_Lack C_NoPath : Addr} {fdE fdK fdG fdN fdI fdNn fdLk fdPt : FuncData} (T : Txt K mg) (D_entry : Df K mg "entry" s_entry ["content", "label"] fE fdE) (K_Book : Kl K mg "Book" C ["contents", "depths", "given"]) (D_Book_kind : DfM K C "kind" "Book.kind" s_Book_kind ["self", "name"] fK fdK) (D_Book_thing : DfM K C "thing" "Book.thing" s_Book_thing ["self", "name"] fG fdG) (D_is_name : Df K mg "is_name" s_is_name ["book", "thing"] fN fdN) (D_is_int : DfD K mg "is_int" s_is_int ["thing", "least"] [.int 0] fI fdI)
    (FE : Fun K "__init__" "NoName.__init__" s_NoName___init__ fNn fdNn) (X_NoName : ExnI K mg "NoName" C_NoName fNn fdNn ["self", "name"] ["name"]) (FL : Fun K "__init__" "Lack.__init__" s_Lack___init__ fLk fdLk) (X_Lack : ExnI K mg "Lack" C_Lack fLk fdLk ["self", "name"] ["name"]) (FP : Fun K "__init__" "NoPath.__init__" s_NoPath___init__ fPt fdPt) (X_NoPath : ExnI K mg "NoPath" C_NoPath fPt fdPt ["self", "path"] ["path"])
    (hr : Room 5 (A.deeper (PyProof.Rows.envOfC "come_to" (defScope s_come_to) s.heap.objs.size g cdg)))
    (HA : ∀ (i : Nat) (a : Str) (p1 p2 : Pos) (e : Expr) (t : TA), N_come_to[i]? = some a → Vis (defScope s_come_to) a → PA (cxOf (L2.CX P w) P w K mg base N_come_to "come_to" (defScope s_come_to) g cdg A outer s H E) [e] t → (a == ("__debug__" : Str)) = false → (a == ("__classdict__" : Str)) = false →
      starEach [e] (cxOf (L2.CX P w) P w K mg base N_come_to "come_to" (defScope s_come_to) g cdg A outer s H E).env = (false, eval e (cxOf (L2.CX P w) P w K mg base N_come_to "come_to" (defScope s_come_to) g cdg A outer s H E).env) :: starEach [] (cxOf (L2.CX P w) P w K mg base N_come_to "come_to" (defScope s_come_to) g cdg A outer s H E).env →
      PE (cxOf (L2.CX P w) P w K mg base N_come_to "come_to" (defScope s_come_to) g cdg A outer s H E) (.Call (.Name a p1) [e] [] p2) (tAct i f c' q t tl))
    (hco : H c' = some (LamX.CodeO c' q)) (h : TCome P w C C_NoName C_Lack C_NoPath tl vs E H Q) :
    ∃ t, PSs (cxOf (L2.CX P w) P w K mg base N_come_to "come_to" (defScope s_come_to) g cdg A outer s H E) (defBody s_come_to) t ∧ t { nx := fun _ H' => Q .non H', rt := Q } (L2.start N_come_to (vs ++ [.ref f])) H := by
  have G_entry : FnOk P w K mg base CX0 1 fE fdE ["content", "label"] spEntry := ok_entry T D_entry.fn
  have G_Book_kind : FnOk P w K mg base (L2.CX P w) 4 fK fdK ["self", "name"] (spKindE P w C C_NoName) := ok_kindE T D_Book_kind.fn K_Book D_Book_thing D_is_name D_is_int FE X_NoName
  have G_Book_thing : FnOk P w K mg base CX0 3 fG fdG ["self", "name"] (spThing P w C) := ok_thing T D_Book_thing.fn K_Book D_is_name D_is_int
  have G_NoName___init__ : FnOk P w K mg base CX0 1 fNn fdNn ["self", "name"] (spInit1 K C_NoName "name") := ok_nninit FE X_NoName.T (X_NoName.nf "name" (by simp))
  have G_Lack___init__ : FnOk P w K mg base CX0 1 fLk fdLk ["self", "name"] (spInit1 K C_Lack "name") := ok_lkinit FL X_Lack.T (X_Lack.nf "name" (by simp))
  have G_NoPath___init__ : FnOk P w K mg base CX0 1 fPt fdPt ["self", "path"] (spInit1 K C_NoPath "path") := ok_ptinit FP X_NoPath.T (X_NoPath.nf "path" (by simp))
  have cl := K_Book.cl
  obtain ⟨p, dx, lc, ld, lg, t, cs, ds, i, path, ab, rfl, B, ht, hpl, tr, htl, qn, qv⟩ := h
  have ob := B.ob
  have few := B.few
  refine ⟨_,
      (pss_cons
        (ps_if (pt_cmpR op_ne (pe_meth (pv 0) K_Book.cl D_Book_kind.m G_Book_kind (hr.mono (by omega)) D_Book_kind.b .nil (passes_call (takes_of rfl rfl rfl rfl) (fun _ _ _ _ h => h)) (pa_cons (pv 1) pa_nil)) pe_str (nomark _))
          (pss_one
            (ps_raise rfl (takes_of rfl rfl rfl rfl) (pmk_oex X_NoName.T X_NoName.i X_NoName.t G_NoName___init__ (hr.mono (by omega)) X_NoName.b .nil pass0 (by rfl) X_NoName.g (pa_cons (pv 1) pa_nil))))
          pss_nil)
      (pss_cons
        (ps_set (i := 4) sc_come_to.nd rfl (.inl rfl) (pe_ix (r := rIxT K) ix_tup (pe_meth (pv 0) K_Book.cl D_Book_thing.m G_Book_thing (hr.mono (by omega)) D_Book_thing.b .nil pass0 (pa_cons (pv 1) pa_nil)) pe_int (fun _ _ => rfl)))
      (pss_cons
        (ps_for (passes_of rfl) rfl (pi_tup (pe_tup (pa_cons (pv 1) (pa_cons (pv 4) pa_nil)))) (pg_name (i := 5) sc_come_to.nd rfl (.inl rfl))
          (pss_one
            (ps_if (pt_val (HA 3 _ _ _ _ _ (by rfl) (.inl rfl) (pa_cons (pv 5) pa_nil) (by decide) (by decide) (by rfl)))
              (pss_one
                (ps_raise rfl (takes_of rfl rfl rfl rfl) (pmk_oex X_Lack.T X_Lack.i X_Lack.t G_Lack___init__ (hr.mono (by omega)) X_Lack.b .nil pass0 (by rfl) X_Lack.g (pa_cons (pv 5) pa_nil))))
              pss_nil)))
      (pss_cons
        (ps_for (passes_of rfl) rfl (pi_enumT (by rfl) T.n_enumerate (pa_cons (pv 2) pa_nil)) (pg_tup rfl (pgs_cons (pg_name (i := 6) sc_come_to.nd rfl (.inl rfl)) (pgs_cons (pg_name (i := 7) sc_come_to.nd rfl (.inl rfl)) pgs_nil)))
          (pss_cons
            (ps_set (i := 4) sc_come_to.nd rfl (.inl rfl) (pe_call G_entry (hr.mono (by omega)) (by rfl) D_entry.g D_entry.fn.kp D_entry.b .nil pass0 (pa_cons (pe_meth (pv 0) K_Book.cl D_Book_thing.m G_Book_thing (hr.mono (by omega)) D_Book_thing.b .nil pass0 (pa_cons (pv 4) pa_nil)) (pa_cons (pv 7) pa_nil))))
          (pss_cons
            (ps_if (pt_cmpR o_isN (pv 4) pe_non (nomark _))
              (pss_one
                (ps_raise rfl (takes_of rfl rfl rfl rfl) (pmk_oex X_NoPath.T X_NoPath.i X_NoPath.t G_NoPath___init__ (hr.mono (by omega)) X_NoPath.b .nil pass0 (by rfl) X_NoPath.g (pa_cons (pe_slice sl_tupA (pv 2) po_none (po_some (pe_op op_add (pv 6) pe_int))) pa_nil))))
              pss_nil)
          (pss_one
            (ps_if (pt_val (HA 3 _ _ _ _ _ (by rfl) (.inl rfl) (pa_cons (pv 4) pa_nil) (by decide) (by decide) (by rfl)))
              (pss_one
                (ps_raise rfl (takes_of rfl rfl rfl rfl) (pmk_oex X_Lack.T X_Lack.i X_Lack.t G_Lack___init__ (hr.mono (by omega)) X_Lack.b .nil pass0 (by rfl) X_Lack.g (pa_cons (pv 4) pa_nil))))
              pss_nil)))))
      (pss_cons
        (ps_asg (pe_meth (pv 0) K_Book.cl D_Book_thing.m G_Book_thing (hr.mono (by omega)) D_Book_thing.b .nil pass0 (pa_cons (pv 4) pa_nil)) (pg_tup rfl (pgs_cons (pg_name (i := 8) sc_come_to.nd rfl (.inl rfl)) (pgs_cons (pg_name (i := 9) sc_come_to.nd rfl (.inl rfl)) pgs_nil))))
      (pss_cons
        (ps_if (pt_cmpR op_eq (pv 8) pe_str (nomark _))
          (pss_one
            (ps_set (i := 9) sc_come_to.nd rfl (.inl rfl) (pe_callTy (r := rTupOf K) c_tupOf (by rfl) T.n_tuple (by decide +kernel) (pa_cons (pe_lc (own := [("label", 7), ("part", 10)]) (g := (gTup K 2 (gCons (gName 7) (gCons (gName 10) gNil)))) rfl sc_come_to.nd (pi_tup (pv 9)) (blkOk_by (own := [("label", 7), ("part", 10)]) (N := N_come_to) (sc := defScope s_come_to) (by decide +kernel)) (fun _ _ _ _ _ => (pg_tup rfl (pgs_cons (pg_name (i := 7) sc_come_to.nd rfl (.inl rfl)) (pgs_cons (pg_name (i := 10) sc_come_to.nd rfl (.inl rfl)) pgs_nil)))) (fun _ _ _ _ _ => pts_nil) (fun _ _ _ _ _ => (pv 7))) pa_nil))))
          pss_nil)
      (pss_one
        (ps_ret (pe_tup (pa_cons (pv 8) (pa_cons (pv 9) pa_nil)))))))))))
    , ?_⟩
  rw [show L2.start N_come_to ([V.ref p, V.int i, V.ref t] ++ [V.ref f]) = [some (.ref p), some (.int i), some (.ref t), some (.ref f), none, none, none, none, none, none, none] from rfl]
  refine w_seq ?_
  walk_at "x"
  refine ⟨p, dx, lc, ld, lg, cs, ds, .int i, "int", rfl, B, .int _, fun n qc e hn => ?_, fun hno => qn fun ⟨n, e, iv⟩ => hno n (by rw [e]) iv.lt⟩
  have ei : i = (n : Int) := V.int.inj e
  subst ei
  walk_at "g"
  by_cases hw : qc.2.word = "version"
  rotate_left
  · refine w_nno hw ?_
    walk_at "g"
    refine w_mkO ?_
    walk_at "g"
    exact ⟨by simp, fun a ha => mk1_sameR ha fun d H4 k4 hd e4 => qn (fun ⟨m, em, iv⟩ => hw ((word_isV hn).mpr (by rw [show n = m by omega]; exact iv))) d H4 k4 hd e4⟩
  refine w_nyes hw ?_
  have iv : isV cs n := (word_isV hn).mp hw
  have out := qv n rfl iv
  obtain ⟨av, st, en⟩ := iv.root
  have hr0 := tr.root n iv
  obtain ⟨ar, er⟩ := hr0.1.at
  have hrl := (List.getElem?_eq_some_iff.mp er).1
  obtain ⟨rp, ev, hrp⟩ := (show CtAt H av (.ver (pars cs n) (rootV cs n) st) from B.ct _ (List.mem_of_getElem? en))
  have at2 : atI [V.str "version", .ref rp, nV (rootV cs n), nV st] 2 = some (nV (rootV cs n)) := rfl
  walk_at "g"
  refine ⟨p, dx, lc, ld, lg, cs, ds, n, _, rfl, B, en, ?_⟩
  walk_at "g"
  refine w_new fun tp H1 htp etp k1 => ?_
  walk_at "g"
  refine lp_tup (xs := [V.int (n : Int), nV (rootV cs n)]) (fun k σ H' => (∃ y5 : Option V, σ = [some (.ref p), some (.int (n : Int)), some (.ref t), some (.ref f), some (nV (rootV cs n)), y5, none, none, none, none, none]) ∧ Same H H' ∧ Same H1 H' ∧ (1 ≤ k → ab n = false) ∧ (2 ≤ k → ab (rootV cs n) = false)) ⟨⟨_, rfl⟩, k1, fun _ _ e => e, fun h => by omega, fun h => by omega⟩ (fun k σ H' _ h => .of (h.2.2.1 _ _ etp)) ?_ ?_
  · rintro k x σ H2 hx ⟨⟨y5, rfl⟩, k2, k12, a1, a2⟩
    obtain ⟨m, rfl, hm, hk⟩ : ∃ m : Nat, x = nV m ∧ m < cs.length ∧ (k = 0 ∧ m = n ∨ k = 1 ∧ m = rootV cs n) := by
      match k, hx with
      | 0, hx => exact ⟨n, (Option.some.inj hx).symm, iv.lt, .inl ⟨rfl, rfl⟩⟩
      | 1, hx => exact ⟨rootV cs n, (Option.some.inj hx).symm, hrl, .inr ⟨rfl, rfl⟩⟩
      | k + 2, hx => simp at hx
    walk_at "g"
    refine w_act rfl ?_
    walk_at "g"
    refine ⟨_, rfl, k2 _ _ hco, htl m _ _ k2 hm ?_⟩
    walk_at "g"
    cases hab : ab m with
    | true =>
      walk_at "g"
      refine w_mkO ?_
      walk_at "g"
      refine ⟨by simp, fun a ha => mk1_sameR ha fun d H4 k4 hd e4 => ?_⟩
      have : comeP cs ab n path = .lack m := by
        unfold comeP
        rcases hk with ⟨rfl, rfl⟩ | ⟨rfl, rfl⟩
        · rw [if_pos hab]
        · rw [if_neg (by rw [a1 (Nat.le_refl _)]; decide), if_pos hab]
      rw [this] at out
      have hd0 : H d = none := k2.free hd
      exact out d H4 (Same.trans k2 k4) hd0 e4
    | false =>
      walk_at "g"
      refine ⟨⟨_, rfl⟩, k2, k12, fun _ => ?_, fun h => ?_⟩
      · rcases hk with ⟨rfl, rfl⟩ | ⟨rfl, rfl⟩
        · exact hab
        · exact a1 (Nat.le_refl _)
      · rcases hk with ⟨rfl, rfl⟩ | ⟨rfl, rfl⟩
        · omega
        · exact hab
  rintro σ H2 ⟨⟨y5, rfl⟩, k2, _, a1, a2⟩
  have b1 := a1 (by simp)
  have b2 := a2 (by simp)
  have hw0 : comeP cs ab n path = walkP cs ab (rootV cs n) path 0 := by
    unfold comeP
    rw [if_neg (by rw [b1]; decide), if_neg (by rw [b2]; decide)]
  have nvR : ¬ isV cs (rootV cs n) := fun ⟨a, ps, r, s, e⟩ => by
    rw [er] at e
    cases e
  have ht2 : H2 t = some (.tup (path.map V.str)) := k2 _ _ ht
  walk_at "g"
  refine lp_it (walk_enumT (K := K) (a := t) (xs := path.map V.str)) (fun k σ H' => ∃ (m : Nat) (y6 y7 : Option V), σ = [some (.ref p), some (.int (n : Int)), some (.ref t), some (.ref f), some (nV m), y5, y6, y7, none, none, none] ∧ Same H H' ∧ m < cs.length ∧ ¬ isV cs m ∧ comeP cs ab n path = walkP cs ab m (path.drop k) k) ⟨rootV cs n, _, _, rfl, k2, hrl, nvR, hw0⟩ (fun k σ H' _ ⟨_, _, _, _, kk, _⟩ => .of (kk _ _ ht)) ?_ ?_
  · rintro k x σ H3 H4 hk ⟨m, y6, y7, rfl, k3, hm, hnv, hwk⟩ ⟨Tt, z0, rfl, hT, rfl, hx⟩
    obtain ⟨z, hz, rfl⟩ := map_at hx
    have hkl := (List.getElem?_eq_some_iff.mp hz).1
    have k34 : Same H3 (upd H3 Tt (.tup [.int (k : Nat), .str z])) := Same.new hT
    have eT : (upd H3 Tt (.tup [.int (k : Nat), .str z])) Tt = some (.tup [.int (k : Nat), .str z]) := upd_same
    revert k34 eT
    generalize (upd H3 Tt (.tup [.int (k : Nat), .str z])) = H4
    intro k34 eT
    have k4 := Same.trans k3 k34
    have B4 := B.same k4
    have ob4 := B4.ob
    have hdr : path.drop k = z :: path.drop (k + 1) := by
      rw [List.drop_eq_getElem_cons hkl, (List.getElem?_eq_some_iff.mp hz).2]
    rw [hdr] at hwk
    refine w_gtup (K := K) (.of eT) rfl (w_gcons (w_name (w_gcons (w_name (w_gnil ?_)))))
    have hget : cs[m]? = some ((cs[m]).1, (cs[m]).2) := List.getElem?_eq_getElem hm
    walk_at "g"
    refine ⟨p, dx, lc, ld, lg, cs, ds, m, _, rfl, B4, hget, ?_⟩
    walk_at "g"
    refine ⟨(cs[m]).1, (cs[m]).1, (cs[m]).2, cs, m, z, rfl, B4.ct _ (List.mem_of_getElem? hget), hget, fun m2 he => ?_, fun he => ?_⟩
    · have hlow := tr.low m _ (entL_mem he)
      refine w_seq ?_
      walk_at "g"
      rw [decide_eq_false (fun z : nV m2 = V.non => nomatch z)]
      walk_at "g"
      refine w_act rfl ?_
      walk_at "g"
      refine ⟨_, rfl, k4 _ _ hco, htl m2 _ _ k4 hlow.2.1 ?_⟩
      walk_at "g"
      cases hab : ab m2 with
      | true =>
        walk_at "g"
        refine w_mkO ?_
        walk_at "g"
        refine ⟨by simp, fun a ha => mk1_sameR ha fun d H5 k5 hd e5 => ?_⟩
        have : comeP cs ab n path = .lack m2 := by
          rw [hwk, walkP, he]
          show (if ab m2 = true then _ else _) = _
          rw [if_pos hab]
        rw [this] at out
        exact out d H5 (Same.trans k4 k5) (k4.free hd) e5
      | false =>
        walk_at "g"
        refine ⟨m2, _, _, rfl, k4, hlow.2.1, hlow.2.2, ?_⟩
        rw [hwk, walkP, he]
        show (if ab m2 = true then _ else _) = _
        rw [if_neg (by rw [hab]; decide)]
    · have ht4 : H4 t = some (.tup (path.map V.str)) := k4 _ _ ht
      refine w_seq ?_
      walk_at "g"
      refine w_yes rfl ?_
      walk_at "g"
      refine w_mkO ?_
      walk_at "g"
      refine w_slAt ht4 fun tp2 H5 e5 k5 => ?_
      have ec : cutV (path.map V.str) none (some ((k : Int) + 1)) = (path.take (k + 1)).map V.str := by
        rw [show ((k : Int) + 1) = ((k + 1 : Nat) : Int) by omega]
        unfold cutV
        show ((path.map V.str).drop 0).take ((if ((k + 1 : Nat) : Int) < 0 then (((k + 1 : Nat) : Int) + ((path.map V.str).length : Int)).toNat else min ((k + 1 : Nat) : Int).toNat (path.map V.str).length) - 0) = _
        rw [if_neg (by omega), List.drop_zero, List.map_take, List.length_map, Int.toNat_natCast, Nat.sub_zero, Nat.min_eq_left (by omega)]
      rw [ec] at e5
      walk_at "g"
      refine ⟨by simp, fun a ha => mk1_sameR ha fun d H6 k6 hd e6 => ?_⟩
      have : comeP cs ab n path = .nop (k + 1) := by
        rw [hwk, walkP, he]
      rw [this] at out
      exact out d tp2 H6 (Same.trans k4 (Same.trans k5 k6)) e6 (k6 _ _ e5)
  rintro σ H3 ⟨m, y6, y7, rfl, k3, hm, hnv, hwk⟩
  rw [List.length_map, List.drop_length] at hwk
  rw [show comeP cs ab n path = .ok m from hwk] at out
  have B3 := B.same k3
  have ob3 := B3.ob
  have hget : cs[m]? = some ((cs[m]).1, (cs[m]).2) := List.getElem?_eq_getElem hm
  walk_at "g"
  refine ⟨p, dx, lc, ld, lg, cs, ds, m, _, rfl, B3, hget, ?_⟩
  have hct := B3.ct _ (List.mem_of_getElem? hget)
  cases hc : (cs[m]).2 with
  | ver ps r s => exact absurd ⟨_, ps, r, s, by rw [hget, hc]⟩ hnv
  | leaf rows =>
    rw [hc] at hct
    obtain ⟨r, h1, h2⟩ := hct
    refine w_gtup (K := K) (.of h1) rfl (w_gcons (w_name (w_gcons (w_name (w_gnil ?_)))))
    walk_at "g"
    refine w_seq ?_
    walk_at "g"
    refine w_no (show Str.ofString "leaf" ≠ Str.ofString "tree" by decide +kernel) ?_
    walk_at "g"
    refine w_new fun o H4 ho e4 k4 => ?_
    exact out H4 o (Same.trans k3 k4) (.inl ⟨_, rows, r, by rw [hget, hc], e4, k4 _ _ h2⟩)
  | tree es =>
    rw [hc] at hct
    obtain ⟨r, qs, h1, h2, h3, h4⟩ := hct
    have hql : qs.length ≤ 20 := by
      have h5 := tr.few m
      have h6 : ents cs m = es := by unfold ents; rw [hget, hc]
      rw [h6, ← h3, List.length_map] at h5
      exact h5
    refine w_gtup (K := K) (.of h1) rfl (w_gcons (w_name (w_gcons (w_name (w_gnil ?_)))))
    walk_at "g"
    refine w_seq ?_
    walk_at "g"
    refine w_yes rfl ?_
    walk_at "g"
    refine lcp_map (walk_tup (K := K) (a := r) (xs := qs.map fun q => V.ref q.1)) [] ((qs.map fun q => q.2.1).map V.str) (by simp) (by rw [List.length_map]; omega) (fun H' k => by first | exact (h2.kt (KT.of k.same)).sq | exact .of (k _ _ (by simp) h2)) ?_ (by simp) ?_
    · rintro i x Ha Hb R hi ka ⟨rfl, hx⟩ hR
      obtain ⟨q, hq, rfl⟩ := map_at hx
      have eq := ka.same _ _ (h4 q (List.mem_of_getElem? hq))
      refine w_gtup (K := K) (.of eq) rfl (w_gcons (w_name (w_gcons (w_name (w_gnil ⟨rfl, ?_⟩)))))
      walk_at "g"
      exact hR _ _ (by rw [List.getElem?_map, List.getElem?_map, hq]; rfl) Kp.refl
    · intro L H4 hL k4 eL
      walk_at "g"
      refine w_tupL (.of eL) fun o1 H5 ho1 e5 k5 => ?_
      walk_at "g"
      refine w_new fun o H6 ho e6 k6 => ?_
      refine out H6 o (Same.trans k3 (Same.trans k4.same (Same.trans k5 k6))) (.inr ⟨_, es, o1, by rw [hget, hc], e6, ?_⟩)
      show H6 o1 = some (.tup ((es.map (·.1)).map V.str))
      rw [k6 _ _ e5, ← h3]
      simp [List.map_map, Function.comp_def]
end
/-! ### read and plain: come_to with a lambda -/
def QRead : Str := (PyProof.Rows.envOfC "read" (defScope s_read) 0 0 .none).qual ++ "<lambda>"
theorem KT.ofN {H H' : Hp} (k : LamX.ExtN H H') : KT H H' := ⟨fun b xs e => k b _ e (fun ps z => nomatch z), fun b o xs e => k b _ e (fun ps z => nomatch z)⟩
theorem KD.ofN {H H' : Hp} (k : LamX.ExtN H H') : KD H H' := ⟨KT.ofN k, fun b xs e => ⟨xs, k _ _ e (fun ps z => nomatch z)⟩, fun b kvs e => ⟨kvs, k _ _ e (fun ps z => nomatch z)⟩⟩
theorem BookAt.ofN {P : Program} {w : World} {C : Addr} {H H' : Hp} {p dx lc ld lg : Addr} {cs : List (Addr × Ct)} {ds : List Nat} (B : BookAt P w C H p dx lc ld lg cs ds) (k : LamX.ExtN H H') : BookAt P w C H' p dx lc ld lg cs ds := by
  have t := KT.ofN k
  exact ⟨k _ _ B.ob (fun ps z => nomatch z), k _ _ B.co (fun ps z => nomatch z), k _ _ B.de (fun ps z => nomatch z), ⟨k _ _ B.gi.at' (fun ps z => nomatch z), fun q hq => ⟨NAt.kt t _ _ (B.gi.keys q hq).1, (B.gi.keys q hq).2⟩⟩, fun q hq => (B.ct q hq).kt t, B.nd, B.dl, B.ne, B.few⟩
theorem ViewAt.ofN {P : Program} {w : World} {C CH : Addr} {H H' : Hp} {v dv p dx lc ld lg rw' hd : Addr} {cs : List (Addr × Ct)} {ds hs : List Nat} (h : ViewAt P w C CH H v dv p dx lc ld lg rw' hd cs ds hs) (k : LamX.ExtN H H') : ViewAt P w C CH H' v dv p dx lc ld lg rw' hd cs ds hs := by
  obtain ⟨kvs, g1, g2⟩ := h.here
  exact ⟨k _ _ h.ob (fun ps z => nomatch z), k _ _ h.row (fun ps z => nomatch z), ⟨kvs, k _ _ g1 (fun ps z => nomatch z), g2⟩, h.bk.ofN k, h.in', h.up⟩
theorem ThAt.ofN {H H' : Hp} {th : Addr} {cs : List (Addr × Ct)} (h : ThAt H th cs) (k : LamX.ExtN H H') : ThAt H' th cs := ⟨k _ _ h.at' (fun ps z => nomatch z), fun q hq => (h.ct q hq).kt (KT.ofN k)⟩
def spRead (P : Program) (w : World) (C CH CN CL CP : Addr) (TL : List (Addr × Str)) : Sp := fun vs H Q E => ∃ (v dv p dx lc ld lg rw' hd t : Addr) (cs : List (Addr × Ct)) (ds hs : List Nat) (i : Int) (path : List Str), vs = [.ref v, .int i, .ref t] ∧ ViewAt P w C CH H v dv p dx lc ld lg rw' hd cs ds hs ∧ RwAt H t path ∧ path.length ≤ 1000 ∧ TrOk cs ∧ LamX.Tabs TL H ∧
  ∀ H1, LamX.ExtN H H1 → LamX.Tabs TL H1 → (¬ okI cs i → NoNm CN H1 E (.int i)) ∧ ∀ u : Nat, i = u → isV cs u → RdOut CL CP cs path H1 Q E (comeP cs (fun n => !decide (n ∈ hs)) u path)
local macro_rules | `(tactic| walk_at "s") => `(tactic| first
  | with_reducible refine w_lam1 ?_
  )
section
variable {P : Program} {w : World} {K : PySem.W.Frag} {mg : Str → Option Value} {base : Heap} {C CH : Addr}
theorem come_gives {Nx : List Str} {qx : Str} {scx : Scope} {fx : Addr} {cdx : Value} {Ax : Around} {ox : List Env} {sx : Shared} {Hx : Hp} {Ex : XK} {q : Str} {g : Addr} {cdg : Value} {fE fK fG fN fI fNn fLk fPt C_NoName C_Lack C_NoPath : Addr} {fdE fdK fdG fdN fdI fdNn fdLk fdPt : FuncData} (T : Txt K mg) (D_entry : Df K mg "entry" s_entry ["content", "label"] fE fdE) (K_Book : Kl K mg "Book" C ["contents", "depths", "given"]) (D_Book_kind : DfM K C "kind" "Book.kind" s_Book_kind ["self", "name"] fK fdK) (D_Book_thing : DfM K C "thing" "Book.thing" s_Book_thing ["self", "name"] fG fdG) (D_is_name : Df K mg "is_name" s_is_name ["book", "thing"] fN fdN) (D_is_int : DfD K mg "is_int" s_is_int ["thing", "least"] [.int 0] fI fdI)
    (FE : Fun K "__init__" "NoName.__init__" s_NoName___init__ fNn fdNn) (X_NoName : ExnI K mg "NoName" C_NoName fNn fdNn ["self", "name"] ["name"]) (FL : Fun K "__init__" "Lack.__init__" s_Lack___init__ fLk fdLk) (X_Lack : ExnI K mg "Lack" C_Lack fLk fdLk ["self", "name"] ["name"]) (FP : Fun K "__init__" "NoPath.__init__" s_NoPath___init__ fPt fdPt) (X_NoPath : ExnI K mg "NoPath" C_NoPath fPt fdPt ["self", "path"] ["path"]) :
    Gives1 (cxOf (L2.CX P w) P w K mg base Nx qx scx fx cdx Ax ox sx Hx Ex) (5 + 1) N_come_to "come_to" (defScope s_come_to) g cdg (defBody s_come_to) q (TCome P w C C_NoName C_Lack C_NoPath) := by
  intro f c' s H Q E vs tl hr HA hco h
  exact come_run T D_entry K_Book D_Book_kind D_Book_thing D_is_name D_is_int FE X_NoName FL X_Lack FP X_NoPath (hr.mono (by omega)) HA hco h
theorem ok_read {f fC fE fH fK fG fN fI fNn fLk fPt C_NoName C_Lack C_NoPath cL PL : Addr} {fd fdC fdE fdH fdK fdG fdN fdI fdNn fdLk fdPt : FuncData} {TL : List (Addr × Str)} (T : Txt K mg) (F : Fun K "read" "read" s_read f fd) (D_come_to : Df K mg "come_to" s_come_to ["book", "version", "path", "absent"] fC fdC) (D_entry : Df K mg "entry" s_entry ["content", "label"] fE fdE) (K_Book : Kl K mg "Book" C ["contents", "depths", "given"]) (K_Holding : Kl K mg "Holding" CH ["book", "row", "here"]) (D_Holding_holds : DfM K CH "holds" "Holding.holds" s_Holding_holds ["self", "name"] fH fdH) (D_Book_kind : DfM K C "kind" "Book.kind" s_Book_kind ["self", "name"] fK fdK) (D_Book_thing : DfM K C "thing" "Book.thing" s_Book_thing ["self", "name"] fG fdG) (D_is_name : Df K mg "is_name" s_is_name ["book", "thing"] fN fdN) (D_is_int : DfD K mg "is_int" s_is_int ["thing", "least"] [.int 0] fI fdI)
    (FE : Fun K "__init__" "NoName.__init__" s_NoName___init__ fNn fdNn) (X_NoName : ExnI K mg "NoName" C_NoName fNn fdNn ["self", "name"] ["name"]) (FL : Fun K "__init__" "Lack.__init__" s_Lack___init__ fLk fdLk) (X_Lack : ExnI K mg "Lack" C_Lack fLk fdLk ["self", "name"] ["name"]) (FP : Fun K "__init__" "NoPath.__init__" s_NoPath___init__ fPt fdPt) (X_NoPath : ExnI K mg "NoPath" C_NoPath fPt fdPt ["self", "path"] ["path"])
    (TB : LamX.TabB base mg cL PL) (hcode : fd.code = .ref cL) (hmT : (PL, QRead) ∈ TL) (huT : ∀ p ∈ TL, p.1 = PL → p.2 = QRead) : FnOk P w K mg base (L2.CX P w) 8 f fd ["view", "version", "path"] (spRead P w C CH C_NoName C_Lack C_NoPath TL) := by
  have G_Holding_holds : FnOk P w K mg base CX0 3 fH fdH ["self", "name"] (spHolds P w C CH) := ok_holds T D_Holding_holds.fn K_Book K_Holding D_is_name D_is_int
  have cl := K_Holding.cl
  have n1 := K_Holding.na "book" (by simp)
  refine F.okXT sc_read (fun vs H Q E h => ?_) (fun cdv A outer s H vs Q E hcd hr h => ?_)
  · obtain ⟨v, dv, p, dx, lc, ld, lg, rw', hd, t, cs, ds, hs, i, path, rfl, _⟩ := h
    rfl
  · obtain ⟨v, dv, p, dx, lc, ld, lg, rw', hd, t, cs, ds, hs, i, path, rfl, W, ht, hpl, tr, Tb, q⟩ := h
    obtain rfl : cdv = .ref cL := hcd.symm.trans hcode
    have ob := W.ob
    refine ⟨_,
      (pss_one
        (ps_ret (pe_lam3 TL (k := 5) (Ng := N_come_to) D_come_to.fn D_come_to.b D_come_to.g (by rfl) (by rfl) sc_come_to (pe_fldK (K := K) rfl (pv 0) rfl) (pv 1) (pv 2) (fun cdg => (come_gives T D_entry K_Book D_Book_kind D_Book_thing D_is_name D_is_int FE X_NoName FL X_Lack FP X_NoPath)) TB rfl hmT huT (hr.mono (by omega)) (lamS1_by (by rfl)) (show (_ : Str) ∉ N_read by decide +kernel) rfl (fun _ _ _ _ _ _ => rfl) (fun A2 outer2 s2 H2 f2 c2 hr => (pe_not (pe_meth (pv 0) K_Holding.cl D_Holding_holds.m G_Holding_holds (hr.mono (by omega)) D_Holding_holds.b .nil pass0 (pa_cons (pv 3) pa_nil)))) (passes_call (takes_of rfl rfl rfl rfl) (fun _ _ _ _ h => h)))))
      , ?_⟩
    rw [show L2.start N_read [V.ref v, V.int i, V.ref t] = [some (.ref v), some (.int i), some (.ref t)] from rfl]
    walk_at "x"
    refine ⟨Tb, fun H1 eN T1 => ?_⟩
    obtain ⟨q1, q2⟩ := q H1 eN T1
    have W1 := W.ofN eN
    refine ⟨p, dx, lc, ld, lg, t, cs, ds, i, path, fun n => !decide (n ∈ hs), rfl, W1.bk, KT.ofN eN _ _ ht, hpl, tr, fun n H2 Q2 k2 hn h2 => ?_, q1, q2⟩
    have W2 := W1.same k2
    have ob2 := W2.ob
    show _
    walk_at "x"
    refine ⟨v, dv, p, dx, lc, ld, lg, rw', hd, cs, ds, hs, nV n, "int", rfl, W2, .int _, fun m e hm => ?_, fun hno => ?_⟩
    · have em : n = m := by have := V.int.inj e; omega
      subst em
      walk_at "g"
      have h3 : Q2 (V.bl (!decide (n ∈ hs))) H2 := h2
      rw [decide_eq_true hm] at h3
      exact h3
    · have hm := hno n rfl
      walk_at "g"
      have h3 : Q2 (V.bl (!decide (n ∈ hs))) H2 := h2
      rw [decide_eq_false hm] at h3
      exact h3
end
def spNames (P : Program) (w : World) (C CH : Addr) : Sp := fun vs H Q _ => ∃ (v dv p dx lc ld lg rw' hd : Addr) (cs : List (Addr × Ct)) (ds hs : List Nat), vs = [.ref v] ∧ ViewAt P w C CH H v dv p dx lc ld lg rw' hd cs ds hs ∧ ∀ (l : Addr) (H' : Hp), H l = none → H' l = some (.lst (hs.map nV)) → Same H H' → Q (.ref l) H'
section
variable {P : Program} {w : World} {K : PySem.W.Frag} {mg : Str → Option Value} {base : Heap} {C CH : Addr}
theorem ok_names {f : Addr} {fd : FuncData} (T : Txt K mg) (F : Fun K "names" "Holding.names" s_Holding_names f fd) (K_Holding : Kl K mg "Holding" CH ["book", "row", "here"]) : FnOk P w K mg base CX0 1 f fd ["self"] (spNames P w C CH) := by
  have cl := K_Holding.cl
  have n2 := K_Holding.na "row" (by simp)
  refine F.ok sc_Holding_names (fun vs H Q E h => ?_) (fun cdv A outer s H vs Q E hr h => ?_)
  · obtain ⟨v, dv, p, dx, lc, ld, lg, rw', hd, cs, ds, hs, rfl, _⟩ := h
    rfl
  · obtain ⟨v, dv, p, dx, lc, ld, lg, rw', hd, cs, ds, hs, rfl, W, q⟩ := h
    have ob := W.ob
    refine ⟨_,
      (pss_one
        (ps_ret (pe_callTy (r := rListOf K) c_listOf (by rfl) T.n_list (by decide +kernel) (pa_cons (pe_fldK (K := K) rfl (pv 0) rfl) pa_nil))))
      , ?_⟩
    rw [show L2.start N_Holding_names [V.ref v] = [some (.ref v)] from rfl]
    walk_at "x"
    refine w_listL (.of W.row) fun l H1 hl e1 k1 => ?_
    exact q l H1 hl e1 k1
end
/-! ### the way down over what is held: what it finds -/
abbrev nmF (f : List (Nat × List Str)) : List Nat := f.map (·.1)
def goD (cs : List (Addr × Ct)) (hs : List Nat) : Nat → Nat → List Str → List (Nat × List Str) → List (Nat × List Str)
  | 0, _, _, f => f
  | k + 1, n, p, f => if n ∈ nmF f then f else if n ∈ hs then (ents cs n).foldl (fun g e => goD cs hs k e.2 (p ++ [e.1]) g) (f ++ [(n, p)]) else f ++ [(n, p)]
inductive RchH (cs : List (Addr × Ct)) (hs : List Nat) : Nat → Nat → Prop
  | refl (n : Nat) : RchH cs hs n n
  | step {n m : Nat} {e : Str × Nat} : n ∈ hs → e ∈ ents cs n → RchH cs hs e.2 m → RchH cs hs n m
structure GoS (cs : List (Addr × Ct)) (hs : List Nat) (S : Nat → Prop) (f g : List (Nat × List Str)) : Prop where
  sub : ∀ x ∈ nmF f, x ∈ nmF g
  has : ∀ n, S n → n ∈ nmF g
  rch : ∀ x ∈ nmF g, x ∉ nmF f → ∃ n, S n ∧ RchH cs hs n x
  cl : ∀ x ∈ nmF g, x ∉ nmF f → x ∈ hs → ∀ e ∈ ents cs x, e.2 ∈ nmF g
  nd : (nmF f).Nodup → (nmF g).Nodup
theorem goD_fold {cs : List (Addr × Ct)} {hs : List Nat} {k : Nat} {q : Str × Nat → List Str} : ∀ (es : List (Str × Nat)) (f : List (Nat × List Str)), (∀ e ∈ es, ∀ p g, GoS cs hs (fun n => n = e.2) g (goD cs hs k e.2 p g)) →
    GoS cs hs (fun n => ∃ e ∈ es, n = e.2) f (es.foldl (fun g e => goD cs hs k e.2 (q e) g) f)
  | [], f, _ => ⟨fun _ h => h, fun n ⟨e, he, _⟩ => (by cases he), fun x h1 h2 => absurd h1 h2, fun x h1 h2 => absurd h1 h2, fun h => h⟩
  | e :: r, f, h => by
    have h1 := h e (by simp) (q e) f
    have h2 := goD_fold r (goD cs hs k e.2 (q e) f) (q := q) fun e' he' => h e' (by simp [he'])
    rw [List.foldl_cons]
    refine ⟨fun x hx => h2.sub x (h1.sub x hx), fun n ⟨e', he', en⟩ => ?_, fun x hx hf => ?_, fun x hx hf hh e' he' => ?_, fun nd => h2.nd (h1.nd nd)⟩
    · rcases List.mem_cons.mp he' with rfl | h3
      · exact h2.sub n (h1.has n en)
      · exact h2.has n ⟨e', h3, en⟩
    · by_cases hx1 : x ∈ nmF (goD cs hs k e.2 (q e) f)
      · obtain ⟨n, en, hr⟩ := h1.rch x hx1 hf
        exact ⟨n, ⟨e, by simp, en⟩, hr⟩
      · obtain ⟨n, ⟨e', he', en⟩, hr⟩ := h2.rch x hx hx1
        exact ⟨n, ⟨e', by simp [he'], en⟩, hr⟩
    · by_cases hx1 : x ∈ nmF (goD cs hs k e.2 (q e) f)
      · exact h2.sub _ (h1.cl x hx1 hf hh e' he')
      · exact h2.cl x hx hx1 hh e' he'
theorem goD_spec {cs : List (Addr × Ct)} {hs : List Nat} (tr : TrOk cs) : ∀ (k n : Nat) (p : List Str) (f : List (Nat × List Str)), n < k → GoS cs hs (fun m => m = n) f (goD cs hs k n p f)
  | 0, n, p, f, h => by omega
  | k + 1, n, p, f, h => by
    rw [goD]
    by_cases hf : n ∈ nmF f
    · rw [if_pos hf]
      exact ⟨fun _ h => h, fun m e => by rw [e]; exact hf, fun x h1 h2 => absurd h1 h2, fun x h1 h2 => absurd h1 h2, fun h => h⟩
    rw [if_neg hf]
    have hn : ∀ x, x ∈ nmF (f ++ [(n, p)]) ↔ x ∈ nmF f ∨ x = n := fun x => by
      unfold nmF
      rw [List.map_append, List.mem_append]
      simp
    have hd : (nmF f).Nodup → (nmF (f ++ [(n, p)])).Nodup := fun nd => by
      unfold nmF
      rw [List.map_append, List.nodup_append]
      refine ⟨nd, by simp, fun a ha b hb => ?_⟩
      have : b = n := by simpa using hb
      rw [this]
      intro e
      exact hf (by rw [← e]; exact ha)
    by_cases hh : n ∈ hs
    · rw [if_pos hh]
      have h2 := goD_fold (cs := cs) (hs := hs) (k := k) (q := fun e => p ++ [e.1]) (ents cs n) (f ++ [(n, p)]) fun e he p' g => by
        have hl := (tr.low n e he).1
        exact goD_spec tr k e.2 p' g (by omega)
      refine ⟨fun x hx => h2.sub x ((hn x).mpr (.inl hx)), fun m e => by rw [e]; exact h2.sub n ((hn n).mpr (.inr rfl)), fun x hx hxf => ?_, fun x hx hxf hxh e he => ?_, fun nd => h2.nd (hd nd)⟩
      · by_cases e1 : x = n
        · exact ⟨n, rfl, by rw [e1]; exact .refl n⟩
        · obtain ⟨m, ⟨e, he, em⟩, hr⟩ := h2.rch x hx fun z => ((hn x).mp z).elim hxf e1
          exact ⟨n, rfl, .step hh he (by rw [← em]; exact hr)⟩
      · by_cases e1 : x = n
        · rw [e1] at he
          exact h2.has e.2 ⟨e, he, rfl⟩
        · exact h2.cl x hx (fun z => ((hn x).mp z).elim hxf e1) hxh e he
    · rw [if_neg hh]
      refine ⟨fun x hx => (hn x).mpr (.inl hx), fun m e => by rw [e]; exact (hn n).mpr (.inr rfl), fun x hx hxf => ?_, fun x hx hxf hxh => ?_, hd⟩
      · have e1 : x = n := ((hn x).mp hx).resolve_left hxf
        exact ⟨n, rfl, by rw [e1]; exact .refl n⟩
      · have e1 : x = n := ((hn x).mp hx).resolve_left hxf
        rw [e1] at hxh
        exact absurd hxh hh
/-- more fuel tells nothing new -/
theorem goD_fuel {cs : List (Addr × Ct)} {hs : List Nat} (tr : TrOk cs) : ∀ (k j n : Nat) (p : List Str) (f : List (Nat × List Str)), n < k → n < j → goD cs hs k n p f = goD cs hs j n p f
  | 0, _, _, _, _, h, _ => by omega
  | _ + 1, 0, _, _, _, _, h => by omega
  | k + 1, j + 1, n, p, f, h1, h2 => by
    rw [goD, goD]
    by_cases hf : n ∈ nmF f
    · rw [if_pos hf, if_pos hf]
    rw [if_neg hf, if_neg hf]
    by_cases hh : n ∈ hs
    · rw [if_pos hh, if_pos hh]
      have key : ∀ (es : List (Str × Nat)) (g : List (Nat × List Str)), (∀ e ∈ es, e.2 < n) → es.foldl (fun g e => goD cs hs k e.2 (p ++ [e.1]) g) g = es.foldl (fun g e => goD cs hs j e.2 (p ++ [e.1]) g) g := by
        intro es
        induction es with
        | nil => exact fun g _ => rfl
        | cons e r ih =>
          intro g hl
          have he := hl e (by simp)
          rw [List.foldl_cons, List.foldl_cons, goD_fuel tr k j e.2 _ g (by omega) (by omega)]
          exact ih _ fun e' he' => hl e' (by simp [he'])
      exact key _ _ fun e he => (tr.low n e he).1
    · rw [if_neg hh, if_neg hh]
/-! ### go_down -/
def HtLe (cs : List (Addr × Ct)) : Nat → Nat → Prop
  | 0, n => ents cs n = []
  | j + 1, n => ∀ e ∈ ents cs n, HtLe cs j e.2
/-- what is found, name by name, with its path -/
structure FdP (H : Hp) (fo : Addr) (fs : List (Nat × Addr × List Str)) : Prop where
  at' : H fo = some (.dK (fs.map fun q => ((Sum.inl (q.1 : Int) : Key), V.ref q.2.1)))
  pt : ∀ q ∈ fs, RwAt H q.2.1 q.2.2
def fdF (fs : List (Nat × Addr × List Str)) : List (Nat × List Str) := fs.map fun q => (q.1, q.2.2)
theorem fdF_nm (fs : List (Nat × Addr × List Str)) : nmF (fdF fs) = fs.map (·.1) := by
  unfold nmF fdF
  rw [List.map_map]
  rfl
theorem FdP.val (fs : List (Nat × Addr × List Str)) (n : Nat) : (valV (fs.map fun q => ((Sum.inl (q.1 : Int) : Key), V.ref q.2.1)) (Sum.inl (n : Int))).isSome = decide (n ∈ fs.map (·.1)) := by
  induction fs with
  | nil => rfl
  | cons q r ih =>
    by_cases h : q.1 = n
    · rw [List.map_cons, valV_pos (by rw [h])]
      rw [List.map_cons, decide_eq_true (by rw [h]; exact List.mem_cons_self ..)]
      rfl
    · rw [List.map_cons, valV_neg (fun z => h (by have := Sum.inl.inj z; omega)), ih, List.map_cons]
      refine decide_eq_decide.mpr ?_
      rw [List.mem_cons]
      exact ⟨.inr, fun z => z.resolve_left fun e => h e.symm⟩
theorem KT.kpd {fo : Addr} {H H' : Hp} {kvs : List (Key × V)} (k : Kp [fo] H H') (e : H fo = some (.dK kvs)) : KT H H' := ⟨fun b xs eb => k b _ (fun z => by rw [List.mem_singleton.mp z, e] at eb; cases eb) eb, fun b o xs eb => k b _ (fun z => by rw [List.mem_singleton.mp z, e] at eb; cases eb) eb⟩
theorem nodup_leG {xs : List Nat} {N : Nat} (nd : xs.Nodup) (h : ∀ x ∈ xs, x < N) : xs.length ≤ N := by
  have h1 := nodup_le (xs.map fun n : Nat => (n : Int)) ((List.range N).map fun n : Nat => (n : Int)) (by
    rw [List.Nodup, List.pairwise_map]
    exact nd.imp fun {a b} g z => g (by omega)) (fun x hx => by
    obtain ⟨y, hy, rfl⟩ := List.mem_map.mp hx
    exact List.mem_map.mpr ⟨y, List.mem_range.mpr (h y hy), rfl⟩)
  rw [List.length_map, List.length_map, List.length_range] at h1
  exact h1
theorem RchH.lt {cs : List (Addr × Ct)} {hs : List Nat} (tr : TrOk cs) {n m : Nat} (h : RchH cs hs n m) (hn : n < cs.length) : m < cs.length := by
  induction h with
  | refl n => exact hn
  | step _ h2 _ ih => exact ih (tr.low _ _ h2).2.1
def spGo (P : Program) (w : World) (C CH : Addr) (j : Nat) : Sp := fun vs H Q _ => ∃ (v dv p dx lc ld lg rw' hd fo t : Addr) (cs : List (Addr × Ct)) (ds hs : List Nat) (n : Nat) (path : List Str) (fs : List (Nat × Addr × List Str)), vs = [.ref v, nV n, .ref t, .ref fo] ∧ ViewAt P w C CH H v dv p dx lc ld lg rw' hd cs ds hs ∧ FdP H fo fs ∧ (fs.map (·.1)).Nodup ∧ (∀ q ∈ fs, q.1 < cs.length) ∧ fo ∉ [v, rw', hd, p, lc, ld, lg] ∧ TrOk cs ∧ n < cs.length ∧ HtLe cs j n ∧ RwAt H t path ∧ path.length + j ≤ 900 ∧
  ∀ (H' : Hp) (fs' : List (Nat × Addr × List Str)), FdP H' fo fs' → fdF fs' = goD cs hs (n + 1) n path (fdF fs) → Kp [fo] H H' → KT H H' → Q .non H'
theorem fnok_never {P : Program} {w : World} {K : PySem.W.Frag} {mg : Str → Option Value} {base : Heap} {CX : CXT} {k : Nat} {f : Addr} {fd : FuncData} {ps : List Str} : FnOk P w K mg base CX k f fd ps (fun _ _ _ _ => False) := ⟨fun _ _ _ _ h => h.elim, fun _ _ _ _ _ _ _ _ _ _ _ _ _ h => h.elim⟩
section
variable {P : Program} {w : World} {K : PySem.W.Frag} {mg : Str → Option Value} {base : Heap} {C CH : Addr}
theorem go_step {f fH fK fG fN fI : Addr} {fd fdH fdK fdG fdN fdI : FuncData} {sp : Sp} {j k : Nat} (T : Txt K mg) (D_go_down : Df K mg "go_down" s_go_down ["view", "name", "path", "found"] f fd) (K_Book : Kl K mg "Book" C ["contents", "depths", "given"]) (K_Holding : Kl K mg "Holding" CH ["book", "row", "here"]) (D_Holding_holds : DfM K CH "holds" "Holding.holds" s_Holding_holds ["self", "name"] fH fdH) (D_Book_kind : DfM K C "kind" "Book.kind" s_Book_kind ["self", "name"] fK fdK) (D_Book_thing : DfM K C "thing" "Book.thing" s_Book_thing ["self", "name"] fG fdG) (D_is_name : Df K mg "is_name" s_is_name ["book", "thing"] fN fdN) (D_is_int : DfD K mg "is_int" s_is_int ["thing", "least"] [.int 0] fI fdI) (h4 : 4 ≤ k) (G_go_down : FnOk P w K mg base CX0 k f fd ["view", "name", "path", "found"] sp) (hsp : ∀ (H : Hp) (Q : VK) (E : XK) (vs : List V), (∃ i, j = i + 1 ∧ spGo P w C CH i vs H Q E) → sp vs H Q E) : FnOk P w K mg base CX0 (k + 1) f fd ["view", "name", "path", "found"] (spGo P w C CH j) := by
  have G_Holding_holds : FnOk P w K mg base CX0 3 fH fdH ["self", "name"] (spHolds P w C CH) := ok_holds T D_Holding_holds.fn K_Book K_Holding D_is_name D_is_int
  have G_Book_kind : FnOk P w K mg base CX0 4 fK fdK ["self", "name"] (spKind P w C) := ok_kind T D_Book_kind.fn K_Book D_Book_thing D_is_name D_is_int
  have G_Book_thing : FnOk P w K mg base CX0 3 fG fdG ["self", "name"] (spThing P w C) := ok_thing T D_Book_thing.fn K_Book D_is_name D_is_int
  have cl := K_Holding.cl
  have clB := K_Book.cl
  have n1 := K_Holding.na "book" (by simp)
  refine D_go_down.fn.ok sc_go_down (fun vs H Q E h => ?_) (fun cdv A outer s H vs Q E hr h => ?_)
  · obtain ⟨v, dv, p, dx, lc, ld, lg, rw', hd, fo, t, cs, ds, hs, n, path, fs, rfl, _⟩ := h
    rfl
  · obtain ⟨v, dv, p, dx, lc, ld, lg, rw', hd, fo, t, cs, ds, hs, n, path, fs, rfl, W, F0, nd, hlt, nfo, tr, hn, ht, hpt, hpl, q⟩ := h
    have hu := hu_of hr
    have ob := W.ob
    have eF := F0.at'
    refine ⟨_,
      (pss_cons
        (ps_if (pt_cmp (pc_din hu (pv 1) (pv 3)))
          (pss_one
            ps_retN)
          pss_nil)
      (pss_cons
        (ps_dput hu (pv 3) (pv 1) (pv 2) rfl)
      (pss_one
        (ps_if (PW.pt (pw_and (pt_val (pe_meth (pv 0) K_Holding.cl D_Holding_holds.m G_Holding_holds (hr.mono (by omega)) D_Holding_holds.b .nil pass0 (pa_cons (pv 1) pa_nil))) (pw_and1 (pt_cmpR op_eq (pe_meth (pe_fldK (K := K) rfl (pv 0) rfl) K_Book.cl D_Book_kind.m G_Book_kind (hr.mono (by omega)) D_Book_kind.b .nil pass0 (pa_cons (pv 1) pa_nil)) pe_str (nomark _)))))
          (pss_one
            (ps_for PassesOwn.never rfl (pi_tup (pe_ix (r := rIxT K) ix_tup (pe_meth (pe_fldK (K := K) rfl (pv 0) rfl) K_Book.cl D_Book_thing.m G_Book_thing (hr.mono (by omega)) D_Book_thing.b .nil pass0 (pa_cons (pv 1) pa_nil)) pe_int (fun _ _ => rfl))) (pg_tup rfl (pgs_cons (pg_name (i := 4) sc_go_down.nd rfl (.inl rfl)) (pgs_cons (pg_name (i := 5) sc_go_down.nd rfl (.inl rfl)) pgs_nil)))
              (pss_one
                (ps_expr (pe_call G_go_down (hr.mono (by omega)) (by rfl) D_go_down.g D_go_down.fn.kp D_go_down.b .nil pass0 (pa_cons (pv 0) (pa_cons (pv 5) (pa_cons (pe_op op_catA (pv 2) (pe_tup (pa_cons (pv 4) pa_nil))) (pa_cons (pv 3) pa_nil)))))))))
          pss_nil))))
      , ?_⟩
    rw [show L2.start N_go_down [V.ref v, nV n, V.ref t, V.ref fo] = [some (.ref v), some (.int (n : Int)), some (.ref t), some (.ref fo), none, none] from rfl]
    walk_at "x"
    refine w_seq ?_
    walk_at "g"
    rw [FdP.val]
    by_cases hin : n ∈ fs.map (·.1)
    · rw [decide_eq_true hin]
      walk_at "g"
      refine q H fs F0 ?_ Kp.refl KT.refl
      rw [goD, if_pos (by rw [fdF_nm]; exact hin)]
    rw [decide_eq_false hin]
    walk_at "g"
    have hfl : fs.length ≤ 400 := by
      have h1 := nodup_leG nd fun x hx => by
        obtain ⟨z, hz, rfl⟩ := List.mem_map.mp hx
        exact hlt z hz
      have h2 := W.bk.few
      rw [List.length_map] at h1
      omega
    refine w_dputI eF (small2000 (by rw [List.length_map]; omega)) fun H1 e1 o1 => ?_
    have k1 : Kp [fo] H H1 := o1.kp (by simp)
    have t1 : KT H H1 := KT.kpd k1 eF
    have F1 : FdP H1 fo (fs ++ [(n, t, path)]) := by
      refine ⟨?_, fun z hz => ?_⟩
      · rw [e1]
        unfold putK
        rw [if_neg (fun z => hin ?_)]
        · rw [List.map_append]
          rfl
        · rw [List.any_eq_true] at z
          obtain ⟨kv, hkv, e⟩ := z
          obtain ⟨y, hy, rfl⟩ := List.mem_map.mp hkv
          have e2 := Sum.inl.inj (of_decide_eq_true e)
          exact List.mem_map.mpr ⟨y, hy, by omega⟩
      · rcases List.mem_append.mp hz with h | h
        · exact t1 _ _ (F0.pt z h)
        · rw [List.mem_singleton.mp h]
          exact t1 _ _ hpt
    have fd1 : fdF (fs ++ [(n, t, path)]) = fdF fs ++ [(n, path)] := by unfold fdF; rw [List.map_append]; rfl
    have nd1 : ((fs ++ [(n, t, path)]).map (·.1)).Nodup := by
      rw [List.map_append, List.nodup_append]
      refine ⟨nd, by simp, fun a ha b hb => ?_⟩
      have : b = n := by simpa using hb
      rw [this]
      intro e
      exact hin (by rw [← e]; exact ha)
    have hlt1 : ∀ z ∈ fs ++ [(n, t, path)], z.1 < cs.length := fun z hz => by
      rcases List.mem_append.mp hz with h | h
      · exact hlt z h
      · rw [List.mem_singleton.mp h]
        exact hn
    have vw : ∀ {H'}, Kp [fo] H H' → KT H H' → ViewAt P w C CH H' v dv p dx lc ld lg rw' hd cs ds hs := fun {H'} k t => by
      simp only [List.mem_cons, List.not_mem_nil, or_false, not_or] at nfo
      obtain ⟨a1, a2, a3, a4, a5, a6, a7⟩ := nfo
      exact W.kp k t (by simpa using fun z => a1 z.symm) (by simpa using fun z => a2 z.symm) (by simpa using fun z => a3 z.symm) (by simpa using fun z => a4 z.symm) (by simpa using fun z => a5 z.symm) (by simpa using fun z => a6 z.symm) (by simpa using fun z => a7 z.symm)
    have W1 := vw k1 t1
    have ob1 := W1.ob
    have obB1 := W1.bk.ob
    have stop : (ents cs n = [] ∨ n ∉ hs) → Q .non H1 := fun h => by
      refine q H1 _ F1 ?_ k1 t1
      rw [goD, if_neg (by rw [fdF_nm]; exact hin), fd1]
      rcases h with h | h
      · rw [h]
        split <;> rfl
      · rw [if_neg h]
    walk_at "g"
    refine ⟨v, dv, p, dx, lc, ld, lg, rw', hd, cs, ds, hs, nV n, "int", rfl, W1, .int _, fun m e hm => ?_, fun hno => ?_⟩
    rotate_left
    · walk_at "g"
      exact stop (.inr (hno n rfl))
    have em : m = n := by have := V.int.inj e; omega
    subst em
    have hget : cs[m]? = some ((cs[m]).1, (cs[m]).2) := List.getElem?_eq_getElem hn
    walk_at "g"
    refine ⟨p, dx, lc, ld, lg, cs, ds, m, _, rfl, W1.bk, hget, ?_⟩
    walk_at "g"
    have hct := W1.bk.ct _ (List.mem_of_getElem? hget)
    cases hc : (cs[m]).2 with
    | ver ps r s =>
      refine w_no (show Str.ofString "version" ≠ Str.ofString "tree" by decide +kernel) ?_
      walk_at "g"
      exact stop (.inl (by unfold ents; rw [hget, hc]))
    | leaf rows =>
      refine w_no (show Str.ofString "leaf" ≠ Str.ofString "tree" by decide +kernel) ?_
      walk_at "g"
      exact stop (.inl (by unfold ents; rw [hget, hc]))
    | tree es =>
      rw [hc] at hct
      obtain ⟨r', qs, h1, h2, h3, h4'⟩ := hct
      have at1 : atI [V.str "tree", .ref r'] 1 = some (.ref r') := rfl
      have eent : ents cs m = qs.map (·.2) := by unfold ents; rw [hget, hc]; exact h3.symm
      refine w_yes rfl ?_
      walk_at "g"
      refine ⟨p, dx, lc, ld, lg, cs, ds, m, _, rfl, W1.bk, hget, ?_⟩
      walk_at "g"
      refine lp_tup (xs := qs.map fun q => V.ref q.1) (fun i σ H' => (∃ y4 y5 : Option V, σ = [some (.ref v), some (.int (m : Int)), some (.ref t), some (.ref fo), y4, y5]) ∧ Kp [fo] H H' ∧ KT H1 H' ∧ ∃ fs', FdP H' fo fs' ∧ fdF fs' = ((ents cs m).take i).foldl (fun g e => goD cs hs m e.2 (path ++ [e.1]) g) (fdF fs ++ [(m, path)]) ∧ (fs'.map (·.1)).Nodup ∧ ∀ z ∈ fs', z.1 < cs.length) ⟨⟨_, _, rfl⟩, k1, KT.refl, _, F1, fd1, nd1, hlt1⟩ (fun i σ H' _ h => by first | exact (h2.kt h.2.2.1).sq | exact .of (h.2.2.1 _ _ h2)) ?_ ?_
      rotate_left
      · rintro σ H9 ⟨⟨y4, y5, rfl⟩, k9, t9, fs9, F9, e9, nd9, hlt9⟩
        rw [List.length_map, List.take_of_length_le (by rw [eent, List.length_map]; exact Nat.le_refl _)] at e9
        walk_at "g"
        refine q H9 fs9 F9 ?_ k9 (t1.trans t9)
        rw [e9, goD, if_neg (by rw [fdF_nm]; exact hin), if_pos hm]
      rintro i x σ H9 hx ⟨⟨y4, y5, rfl⟩, k9, t9, fs9, F9, e9, nd9, hlt9⟩
      obtain ⟨qe, hqe, rfl⟩ := map_at hx
      have hi := (List.getElem?_eq_some_iff.mp hqe).1
      have hmem : qe.2 ∈ ents cs m := by rw [eent]; exact List.mem_map_of_mem (List.mem_of_getElem? hqe)
      obtain ⟨lo1, lo2, lo3⟩ := tr.low m qe.2 hmem
      have eq9 := t9 _ _ (h4' qe (List.mem_of_getElem? hqe))
      have et9 := t9 _ _ (t1 _ _ hpt)
      have eF9 := F9.at'
      refine w_gtup (K := K) (.of eq9) rfl (w_gcons (w_name (w_gcons (w_name (w_gnil ?_)))))
      walk_at "g"
      refine w_new fun s1 A1 hs1 es1 ks1 => ?_
      refine w_catAt (ks1 _ _ et9) es1 (small2000 (by rw [List.length_map]; simp only [List.length_cons, List.length_nil]; omega)) fun c1 A2 ec1 ks2 => ?_
      rw [show path.map V.str ++ [V.str qe.2.1] = (path ++ [qe.2.1]).map V.str by rw [List.map_append]; rfl] at ec1
      have k12 := Same.trans ks1 ks2
      have F2 : FdP A2 fo fs9 := ⟨k12 _ _ eF9, fun z hz => k12 _ _ (F9.pt z hz)⟩
      have kA : Kp [fo] H A2 := k9.trans (Kp.of k12)
      have tA : KT H A2 := (t1.trans t9).trans (KT.of k12)
      cases j with
      | zero =>
        have h0 : ents cs m = [] := ht
        rw [h0] at hmem
        cases hmem
      | succ j =>
        walk_at "g"
        refine hsp _ _ _ _ ⟨j, rfl, v, dv, p, dx, lc, ld, lg, rw', hd, fo, c1, cs, ds, hs, qe.2.2, path ++ [qe.2.1], fs9, rfl, vw kA tA, F2, nd9, hlt9, nfo, tr, lo2, ht qe.2 hmem, ec1, by rw [List.length_append]; simp only [List.length_cons, List.length_nil]; omega, fun H5 fs5 F5 e5 k5 t5 => ?_⟩
        have G := goD_spec (hs := hs) tr (qe.2.2 + 1) qe.2.2 (path ++ [qe.2.1]) (fdF fs9) (Nat.lt_succ_self _)
        rw [← e5] at G
        refine ⟨⟨_, _, rfl⟩, kA.trans k5, (t9.trans (KT.of k12)).trans t5, fs5, F5, ?_, ?_, fun z hz => ?_⟩
        · rw [e5, goD_fuel tr (qe.2.2 + 1) m qe.2.2 _ _ (Nat.lt_succ_self _) lo1, e9, List.take_add_one, eent, List.getElem?_map, hqe]
          simp only [Option.map_some, Option.toList_some, List.foldl_append, List.foldl_cons, List.foldl_nil]
        · have := G.nd (by rw [fdF_nm]; exact nd9)
          rw [fdF_nm] at this
          exact this
        · have hx : z.1 ∈ nmF (fdF fs5) := by rw [fdF_nm]; exact List.mem_map_of_mem hz
          by_cases hx9 : z.1 ∈ nmF (fdF fs9)
          · rw [fdF_nm] at hx9
            obtain ⟨y, hy, e⟩ := List.mem_map.mp hx9
            rw [← e]
            exact hlt9 y hy
          · obtain ⟨n', en', hr'⟩ := G.rch z.1 hx hx9
            rw [en'] at hr'
            exact hr'.lt tr lo2
/-- go_down, level by level -/
theorem ok_godown {f fH fK fG fN fI : Addr} {fd fdH fdK fdG fdN fdI : FuncData} (T : Txt K mg) (D_go_down : Df K mg "go_down" s_go_down ["view", "name", "path", "found"] f fd) (K_Book : Kl K mg "Book" C ["contents", "depths", "given"]) (K_Holding : Kl K mg "Holding" CH ["book", "row", "here"]) (D_Holding_holds : DfM K CH "holds" "Holding.holds" s_Holding_holds ["self", "name"] fH fdH) (D_Book_kind : DfM K C "kind" "Book.kind" s_Book_kind ["self", "name"] fK fdK) (D_Book_thing : DfM K C "thing" "Book.thing" s_Book_thing ["self", "name"] fG fdG) (D_is_name : Df K mg "is_name" s_is_name ["book", "thing"] fN fdN) (D_is_int : DfD K mg "is_int" s_is_int ["thing", "least"] [.int 0] fI fdI) : ∀ j, FnOk P w K mg base CX0 (5 + j) f fd ["view", "name", "path", "found"] (spGo P w C CH j)
  | 0 => go_step (k := 4) T D_go_down K_Book K_Holding D_Holding_holds D_Book_kind D_Book_thing D_is_name D_is_int (Nat.le_refl _) (fnok_never (P := P) (w := w)) fun H Q E vs ⟨i, e, _⟩ => absurd e (by omega)
  | j + 1 => go_step (k := 5 + j) T D_go_down K_Book K_Holding D_Holding_holds D_Book_kind D_Book_thing D_is_name D_is_int (by omega) (ok_godown T D_go_down K_Book K_Holding D_Holding_holds D_Book_kind D_Book_thing D_is_name D_is_int j) fun H Q E vs ⟨i, e, h⟩ => by
    have : i = j := by omega
    rw [this] at h
    exact h
end
/-! ### lacks -/
def lackF (cs : List (Addr × Ct)) (hs : List Nat) (us : List Str) (es : List (Str × Nat)) : List (Nat × List Str) := es.foldl (fun g e => if pick us e.1 = true then goD cs hs (e.2 + 1) e.2 [e.1] g else g) []
def lackG (cs : List (Addr × Ct)) (hs : List Nat) (us : List Str) (u : Nat) : List (Nat × List Str) :=
  if u ∈ hs then if rootV cs u ∈ hs then (lackF cs hs us (ents cs (rootV cs u))).filter fun q => decide (q.1 ∉ hs) else [(rootV cs u, [])] else [(u, [])]
def LksAt (H : Hp) (L : Addr) (ls : List (Nat × List Str)) : Prop := ∃ qs : List (Addr × Addr × Nat × List Str), H L = some (.lst (qs.map fun q => V.ref q.1)) ∧ qs.map (·.2.2) = ls ∧ ∀ q ∈ qs, H q.1 = some (.tup [nV q.2.2.1, .ref q.2.1]) ∧ RwAt H q.2.1 q.2.2.2
theorem FdP.fat {H : Hp} {fo : Addr} {fs : List (Nat × Addr × List Str)} {N : Nat} (h : FdP H fo fs) (nd : (fs.map (·.1)).Nodup) (hlt : ∀ q ∈ fs, q.1 < N) (hN : N ≤ 1000) : FAt H fo (fun n => n ∈ fs.map (·.1)) := by
  refine ⟨_, (fs.map (·.1)).map fun n : Nat => (n : Int), h.at', by rw [List.map_map, List.map_map, List.map_map]; rfl, ?_, fun k hk => ?_, fun n => ?_⟩
  · rw [List.Nodup, List.pairwise_map]
    exact nd.imp fun {a b} g z => g (by omega)
  · obtain ⟨y, hy, rfl⟩ := List.mem_map.mp hk
    obtain ⟨z, hz, rfl⟩ := List.mem_map.mp hy
    have := hlt z hz
    omega
  · constructor
    · intro hn
      obtain ⟨y, hy, e⟩ := List.mem_map.mp hn
      have : y = n := by omega
      rw [← this]
      exact hy
    · exact fun hn => List.mem_map.mpr ⟨n, hn, rfl⟩
theorem fd_get : ∀ (fs : List (Nat × Addr × List Str)), (fs.map (·.1)).Nodup → ∀ y ∈ fs, valV (fs.map fun q => ((Sum.inl (q.1 : Int) : Key), V.ref q.2.1)) (Sum.inl (y.1 : Int)) = some (V.ref y.2.1)
  | [], _, y, hy => by cases hy
  | q :: r, nd, y, hy => by
    rw [List.map_cons, List.nodup_cons] at nd
    rcases List.mem_cons.mp hy with rfl | h
    · rw [List.map_cons, valV_pos rfl]
    · rw [List.map_cons, valV_neg (fun z => nd.1 ?_)]
      · exact fd_get r nd.2 y h
      · have e := Sum.inl.inj z
        exact List.mem_map.mpr ⟨y, h, by omega⟩
theorem nd_pair {α : Type} : ∀ (f : List (Nat × α)), (f.map (·.1)).Nodup → ∀ a ∈ f, ∀ b ∈ f, a.1 = b.1 → a = b
  | [], _, a, ha, _, _, _ => by cases ha
  | q :: r, nd, a, ha, b, hb, e => by
    rw [List.map_cons, List.nodup_cons] at nd
    rcases List.mem_cons.mp ha with rfl | h1
    · rcases List.mem_cons.mp hb with rfl | h2
      · rfl
      · exact absurd (List.mem_map.mpr ⟨b, h2, e.symm⟩) nd.1
    · rcases List.mem_cons.mp hb with rfl | h2
      · exact absurd (List.mem_map.mpr ⟨a, h1, e⟩) nd.1
      · exact nd_pair r nd.2 a h1 b h2 e
def spLacks (P : Program) (w : World) (K : PySem.W.Frag) (C CH : Addr) : Sp := fun vs H Q _ => ∃ (v dv p dx lc ld lg rw' hd pk : Addr) (cs : List (Addr × Ct)) (ds hs : List Nat) (u : Nat) (us : List Str), vs = [.ref v, nV u, .ref pk] ∧ ViewAt P w C CH H v dv p dx lc ld lg rw' hd cs ds hs ∧ TrOk cs ∧ (∀ n, HtLe cs 8 n) ∧ isV cs u ∧ UsAt K H pk us ∧ (∀ l ∈ us, PyData.strOk l = true) ∧
  ∀ (H' : Hp) (L : Addr) (ls : List (Nat × List Str)), Same H H' → H L = none → LksAt H' L ls → (ls.map (·.1)).Pairwise (· < ·) → (∀ x, x ∈ ls ↔ x ∈ lackG cs hs us u) → Q (.ref L) H'
section
variable {P : Program} {w : World} {K : PySem.W.Frag} {mg : Str → Option Value} {base : Heap} {C CH : Addr}
theorem ok_lacks {ku f fGo fC fH fK fG fN fI fE C_NoName : Addr} {fd fdGo fdC fdH fdK fdG fdN fdI fdE : FuncData} (T : Txt K mg) (D : DfK K mg "lacks" s_lacks ["view", "version", "under"] [("under", .ref ku)] [.ref ku] f fd) (D_go_down : Df K mg "go_down" s_go_down ["view", "name", "path", "found"] fGo fdGo) (D_chosen : Df K mg "chosen" s_chosen ["book", "root", "under"] fC fdC) (K_Book : Kl K mg "Book" C ["contents", "depths", "given"]) (K_Holding : Kl K mg "Holding" CH ["book", "row", "here"]) (D_Holding_holds : DfM K CH "holds" "Holding.holds" s_Holding_holds ["self", "name"] fH fdH) (D_Book_kind : DfM K C "kind" "Book.kind" s_Book_kind ["self", "name"] fK fdK) (D_Book_thing : DfM K C "thing" "Book.thing" s_Book_thing ["self", "name"] fG fdG) (D_is_name : Df K mg "is_name" s_is_name ["book", "thing"] fN fdN) (D_is_int : DfD K mg "is_int" s_is_int ["thing", "least"] [.int 0] fI fdI)
    (FE : Fun K "__init__" "NoName.__init__" s_NoName___init__ fE fdE) (X_NoName : ExnI K mg "NoName" C_NoName fE fdE ["self", "name"] ["name"]) : FnOk P w K mg base (L2.CX P w) 14 f fd ["view", "version", "under"] (spLacks P w K C CH) := by
  have G_Book_kind : FnOk P w K mg base CX0 4 fK fdK ["self", "name"] (spKind P w C) := ok_kind T D_Book_kind.fn K_Book D_Book_thing D_is_name D_is_int
  have G_Book_thing : FnOk P w K mg base CX0 3 fG fdG ["self", "name"] (spThing P w C) := ok_thing T D_Book_thing.fn K_Book D_is_name D_is_int
  have G_Holding_holds : FnOk P w K mg base CX0 3 fH fdH ["self", "name"] (spHolds P w C CH) := ok_holds T D_Holding_holds.fn K_Book K_Holding D_is_name D_is_int
  have G_NoName___init__ : FnOk P w K mg base CX0 1 fE fdE ["self", "name"] (spInit1 K C_NoName "name") := ok_nninit FE X_NoName.T (X_NoName.nf "name" (by simp))
  have G_chosen : FnOk P w K mg base CX0 4 fC fdC ["book", "root", "under"] (spChosen P w K C) := ok_chosen T D_chosen.fn K_Book D_Book_thing D_is_name D_is_int
  have G_go_down : FnOk P w K mg base CX0 13 fGo fdGo ["view", "name", "path", "found"] (spGo P w C CH 8) := ok_godown T D_go_down K_Book K_Holding D_Holding_holds D_Book_kind D_Book_thing D_is_name D_is_int 8
  have cl := K_Holding.cl
  have clB := K_Book.cl
  have n1 := K_Holding.na "book" (by simp)
  refine D.fn.ok sc_lacks (fun vs H Q E h => ?_) (fun cdv A outer s H vs Q E hr h => ?_)
  · obtain ⟨v, dv, p, dx, lc, ld, lg, rw', hd, pk, cs, ds, hs, u, us, rfl, _⟩ := h
    rfl
  · obtain ⟨v, dv, p, dx, lc, ld, lg, rw', hd, pk, cs, ds, hs, u, us, rfl, W, tr, ht, iv, hpk, hus, q⟩ := h
    have hu := hu_of hr
    have ob := W.ob
    have obB := W.bk.ob
    obtain ⟨av, st, env⟩ := iv.root
    have hr0 := tr.root u iv
    obtain ⟨ar, er⟩ := hr0.1.at
    have hrl := (List.getElem?_eq_some_iff.mp er).1
    obtain ⟨rp, ev, hrp⟩ := (show CtAt H av (.ver (pars cs u) (rootV cs u) st) from W.bk.ct _ (List.mem_of_getElem? env))
    have at2 : atI [V.str "version", .ref rp, nV (rootV cs u), nV st] 2 = some (nV (rootV cs u)) := rfl
    refine ⟨_,
      (pss_cons
        (ps_set (i := 3) sc_lacks.nd rfl (.inl rfl) (pe_fldK (K := K) rfl (pv 0) rfl))
      (pss_cons
        (ps_if (pt_cmpR op_ne (pe_meth (pv 3) K_Book.cl D_Book_kind.m G_Book_kind (hr.mono (by omega)) D_Book_kind.b .nil pass0 (pa_cons (pv 1) pa_nil)) pe_str (nomark _))
          (pss_one
            (ps_raise rfl (takes_of rfl rfl rfl rfl) (pmk_oex X_NoName.T X_NoName.i X_NoName.t G_NoName___init__ (hr.mono (by omega)) X_NoName.b .nil pass0 (by rfl) X_NoName.g (pa_cons (pv 1) pa_nil))))
          pss_nil)
      (pss_cons
        (ps_set (i := 4) sc_lacks.nd rfl (.inl rfl) (pe_ix (r := rIxT K) ix_tup (pe_meth (pv 3) K_Book.cl D_Book_thing.m G_Book_thing (hr.mono (by omega)) D_Book_thing.b .nil pass0 (pa_cons (pv 1) pa_nil)) pe_int (fun _ _ => rfl)))
      (pss_cons
        (ps_if (pt_not (pt_val (pe_meth (pv 0) K_Holding.cl D_Holding_holds.m G_Holding_holds (hr.mono (by omega)) D_Holding_holds.b .nil pass0 (pa_cons (pv 1) pa_nil))))
          (pss_one
            (ps_ret (pe_lst (pa_cons (pe_tup (pa_cons (pv 1) (pa_cons (pe_tup pa_nil) pa_nil))) pa_nil))))
          pss_nil)
      (pss_cons
        (ps_if (pt_not (pt_val (pe_meth (pv 0) K_Holding.cl D_Holding_holds.m G_Holding_holds (hr.mono (by omega)) D_Holding_holds.b .nil pass0 (pa_cons (pv 4) pa_nil))))
          (pss_one
            (ps_ret (pe_lst (pa_cons (pe_tup (pa_cons (pv 4) (pa_cons (pe_tup pa_nil) pa_nil))) pa_nil))))
          pss_nil)
      (pss_cons
        (ps_set (i := 5) sc_lacks.nd rfl (.inr rfl) pe_dnewK)
      (pss_cons
        (ps_set (i := 6) sc_lacks.nd rfl (.inl rfl) (pe_call G_chosen (hr.mono (by omega)) (by rfl) D_chosen.g D_chosen.fn.kp D_chosen.b .nil pass0 (pa_cons (pv 3) (pa_cons (pv 4) (pa_cons (pv 2) pa_nil)))))
      (pss_cons
        (ps_for (passes_of rfl) rfl (pi_tup (pe_ix (r := rIxT K) ix_tup (pe_meth (pv 3) K_Book.cl D_Book_thing.m G_Book_thing (hr.mono (by omega)) D_Book_thing.b .nil pass0 (pa_cons (pv 4) pa_nil)) pe_int (fun _ _ => rfl))) (pg_tup rfl (pgs_cons (pg_name (i := 7) sc_lacks.nd rfl (.inl rfl)) (pgs_cons (pg_name (i := 8) sc_lacks.nd rfl (.inl rfl)) pgs_nil)))
          (pss_one
            (ps_if (PW.pt (pw_and (pt_cmpR (r := rIn K false) op_in_seq (pv 8) (pv 6) rfl) (pw_and1 (PW.pt (pw_or (pt_cmpR (r := rEqD K) (op_eqD hr.units) (pv 2) (pe_tup pa_nil) (nomark _)) (pw_or1 (pt_cmpR (r := rIn K false) op_in_seq (pv 7) (pv 2) rfl)))))))
              (pss_one
                (ps_expr (pe_call G_go_down (hr.mono (by omega)) (by rfl) D_go_down.g D_go_down.fn.kp D_go_down.b .nil pass0 (pa_cons (pv 0) (pa_cons (pv 8) (pa_cons (pe_tup (pa_cons (pv 7) pa_nil)) (pa_cons (pv 5) pa_nil)))))))
              pss_nil)))
      (pss_one
        (ps_ret (pe_lc (own := [("name", 9)]) (g := (gName 9)) rfl sc_lacks.nd (pi_list (pe_callB (c_sortA rfl) (by rfl) T.n_sorted (by decide +kernel) (pa_cons (pv 5) pa_nil))) (blkOk_by (own := [("name", 9)]) (N := N_lacks) (sc := defScope s_lacks) (by decide +kernel)) (fun _ _ _ _ _ => (pg_name (i := 9) sc_lacks.nd rfl (.inl rfl))) (fun _ _ _ _ _ => (pts_one (pt_not (pt_val (pe_meth (pv 0) K_Holding.cl D_Holding_holds.m G_Holding_holds (hr.mono (by omega)) D_Holding_holds.b .nil pass0 (pa_cons (pv 9) pa_nil)))))) (fun _ _ _ _ _ => (pe_tup (pa_cons (pv 9) (pa_cons (pe_dget hu (pv 5) (pv 9) (fun _ _ => rfl)) pa_nil)))))))))))))))
      , ?_⟩
    rw [show L2.start N_lacks [V.ref v, nV u, V.ref pk] = [some (.ref v), some (.int (u : Int)), some (.ref pk), none, none, none, none, none, none, none] from rfl]
    walk_at "x"
    refine w_seq ?_
    walk_at "g"
    refine ⟨p, dx, lc, ld, lg, cs, ds, u, _, rfl, W.bk, env, ?_⟩
    walk_at "g"
    refine w_nyes rfl ?_
    walk_at "g"
    refine ⟨p, dx, lc, ld, lg, cs, ds, u, _, rfl, W.bk, env, ?_⟩
    walk_at "g"
    refine w_seq ?_
    walk_at "g"
    refine ⟨v, dv, p, dx, lc, ld, lg, rw', hd, cs, ds, hs, nV u, "int", rfl, W, .int _, fun m e hm => ?_, fun hno => ?_⟩
    rotate_left
    · have hno' := hno u rfl
      walk_at "g"
      refine w_new fun t1 H1 ht1 e1 k1 => ?_
      walk_at "g"
      refine w_new fun t2 H2 ht2 e2 k2 => ?_
      walk_at "g"
      refine w_new fun L H3 hL e3 k3 => ?_
      refine q H3 L [(u, [])] (Same.trans k1 (Same.trans k2 k3)) ((Same.trans k1 k2).free hL) ⟨[(t2, t1, u, [])], e3, rfl, fun z hz => ?_⟩ (by simp) fun x => ?_
      · rw [List.mem_singleton.mp hz]
        exact ⟨k3 _ _ e2, k3 _ _ (k2 _ _ e1)⟩
      · unfold lackG
        rw [if_neg hno']
    have em : m = u := by have := V.int.inj e; omega
    subst em
    have hmh : m ∈ hs := hm
    walk_at "g"
    refine w_seq ?_
    walk_at "g"
    refine ⟨v, dv, p, dx, lc, ld, lg, rw', hd, cs, ds, hs, nV (rootV cs m), "int", rfl, W, .int _, fun m2 e2 hm2 => ?_, fun hno => ?_⟩
    rotate_left
    · have hno' := hno _ rfl
      walk_at "g"
      refine w_new fun t1 H1 ht1 e1 k1 => ?_
      walk_at "g"
      refine w_new fun t2 H2 ht2 e2 k2 => ?_
      walk_at "g"
      refine w_new fun L H3 hL e3 k3 => ?_
      refine q H3 L [(rootV cs m, [])] (Same.trans k1 (Same.trans k2 k3)) ((Same.trans k1 k2).free hL) ⟨[(t2, t1, rootV cs m, [])], e3, rfl, fun z hz => ?_⟩ (by simp) fun x => ?_
      · rw [List.mem_singleton.mp hz]
        exact ⟨k3 _ _ e2, k3 _ _ (k2 _ _ e1)⟩
      · unfold lackG
        rw [if_pos hmh, if_neg hno']
    have em2 : m2 = rootV cs m := by have := V.int.inj e2; omega
    have hrh : rootV cs m ∈ hs := by rw [← em2]; exact hm2
    walk_at "g"
    refine w_new fun fo H1 hfo e1 k1 => ?_
    have W1 := W.same k1
    have ob1 := W1.ob
    have obB1 := W1.bk.ob
    walk_at "g"
    refine ⟨p, dx, lc, ld, lg, pk, cs, ds, rootV cs m, us, rfl, W1.bk, hr0.1, tr.few _, hpk.kt (KT.of k1), hus, fun H2 nl k2 hnl e2' => ?_⟩
    have k12 := Same.trans k1 k2
    have W2 := W.same k12
    have ob2 := W2.ob
    have obB2 := W2.bk.ob
    obtain ⟨r', qs, h1, h2, h3, h4⟩ := (show CtAt H2 ar (.tree (ents cs (rootV cs m))) from W2.bk.ct _ (List.mem_of_getElem? er))
    have at1 : atI [V.str "tree", .ref r'] 1 = some (.ref r') := rfl
    walk_at "g"
    refine ⟨p, dx, lc, ld, lg, cs, ds, rootV cs m, _, rfl, W2.bk, er, ?_⟩
    walk_at "g"
    have nfo : fo ∉ [v, rw', hd, p, lc, ld, lg] := by
      obtain ⟨kvs, gh, _⟩ := W.here
      obtain ⟨kv2, gg⟩ : ∃ o, H lg = some o := ⟨_, W.bk.gi.at'⟩
      simp only [List.mem_cons, List.not_mem_nil, or_false, not_or]
      exact ⟨(ne_of_none W.ob hfo).symm, (ne_of_none W.row hfo).symm, (ne_of_none gh hfo).symm, (ne_of_none W.bk.ob hfo).symm, (ne_of_none W.bk.co hfo).symm, (ne_of_none W.bk.de hfo).symm, (ne_of_none gg hfo).symm⟩
    have vw : ∀ {H'}, Kp [fo] H2 H' → KT H2 H' → ViewAt P w C CH H' v dv p dx lc ld lg rw' hd cs ds hs := fun {H'} k t => by
      have nf := nfo
      simp only [List.mem_cons, List.not_mem_nil, or_false, not_or] at nf
      obtain ⟨a1, a2, a3, a4, a5, a6, a7⟩ := nf
      exact W2.kp k t (by simpa using fun z => a1 z.symm) (by simpa using fun z => a2 z.symm) (by simpa using fun z => a3 z.symm) (by simpa using fun z => a4 z.symm) (by simpa using fun z => a5 z.symm) (by simpa using fun z => a6 z.symm) (by simpa using fun z => a7 z.symm)
    have nnl : nl ≠ fo := (ne_of_none e1 hnl).symm
    have hel : (ents cs (rootV cs m)) = qs.map (·.2) := h3.symm
    refine lp_tup (xs := qs.map fun q => V.ref q.1) (fun i σ H' => (∃ y7 y8 : Option V, σ = [some (.ref v), some (.int (m : Int)), some (.ref pk), some (.ref p), some (nV (rootV cs m)), some (.ref fo), some (.ref nl), y7, y8, none]) ∧ Kp [fo] H2 H' ∧ KT H2 H' ∧ ∃ fs', FdP H' fo fs' ∧ fdF fs' = lackF cs hs us ((ents cs (rootV cs m)).take i) ∧ (fs'.map (·.1)).Nodup ∧ ∀ z ∈ fs', z.1 < cs.length) ⟨⟨_, _, rfl⟩, Kp.refl, KT.refl, [], ⟨k2 _ _ e1, by simp⟩, rfl, by simp, by simp⟩ (fun i σ H' _ h => by first | exact (h2.kt h.2.2.1).sq | exact .of (h.2.2.1 _ _ h2)) ?_ ?_
    · rintro i x σ H9 hx ⟨⟨y7, y8, rfl⟩, k9, t9, fs9, F9, e9, nd9, hlt9⟩
      obtain ⟨qe, hqe, rfl⟩ := map_at hx
      have hi := (List.getElem?_eq_some_iff.mp hqe).1
      have hmem : qe.2 ∈ ents cs (rootV cs m) := by rw [hel]; exact List.mem_map_of_mem (List.mem_of_getElem? hqe)
      obtain ⟨lo1, lo2, lo3⟩ := tr.low _ qe.2 hmem
      have etk : (ents cs (rootV cs m)).take (i + 1) = (ents cs (rootV cs m)).take i ++ [qe.2] := by rw [List.take_add_one, hel, List.getElem?_map, hqe]; rfl
      have eq9 := t9 _ _ (h4 qe (List.mem_of_getElem? hqe))
      have enl9 : H9 nl = some (.lst ((chs cs us (rootV cs m)).map nV)) := k9 _ _ (by simpa using nnl) e2'
      have hpk9 : UsAt K H9 pk us := (hpk.kt (KT.of k12)).kt t9
      have skip : pick us qe.2.1 ≠ true → ∀ (HX : Hp) (y7 y8 : Option V), Same H9 HX → ((∃ y7' y8' : Option V, [some (V.ref v), some (.int (m : Int)), some (.ref pk), some (.ref p), some (nV (rootV cs m)), some (.ref fo), some (.ref nl), y7, y8, none] = [some (.ref v), some (.int (m : Int)), some (.ref pk), some (.ref p), some (nV (rootV cs m)), some (.ref fo), some (.ref nl), y7', y8', none]) ∧ Kp [fo] H2 HX ∧ KT H2 HX ∧ ∃ fs', FdP HX fo fs' ∧ fdF fs' = lackF cs hs us ((ents cs (rootV cs m)).take (i + 1)) ∧ (fs'.map (·.1)).Nodup ∧ ∀ z ∈ fs', z.1 < cs.length) := fun hno HX y7 y8 kx =>
        ⟨⟨_, _, rfl⟩, k9.trans (Kp.of kx), t9.trans (KT.of kx), fs9, ⟨kx _ _ F9.at', fun z hz => kx _ _ (F9.pt z hz)⟩, by rw [etk, lackF, List.foldl_append, List.foldl_cons, List.foldl_nil, if_neg hno, e9, lackF], nd9, hlt9⟩
      refine w_gtup (K := K) (.of eq9) rfl (w_gcons (w_name (w_gcons (w_name (w_gnil ?_)))))
      walk_at "g"
      refine w_inNL enl9 ?_
      by_cases hch : qe.2.2 ∈ chs cs us (rootV cs m)
      rotate_left
      · rw [decide_eq_false hch]
        walk_at "g"
        refine skip (fun hp => hch ?_) _ _ _ (fun _ _ z => z)
        exact List.mem_map.mpr ⟨qe.2, List.mem_filter.mpr ⟨hmem, hp⟩, rfl⟩
      rw [decide_eq_true hch]
      walk_at "g"
      refine w_new fun z0 HZ hz0 ez0 kz => ?_
      refine w_eqNoUs (hpk9.kt (KT.of kz)).sq hus ez0 ?_
      by_cases hue : us = []
      · have hpick : pick us qe.2.1 = true := by unfold pick; rw [decide_eq_true hue]; rfl
        rw [decide_eq_true hue]
        walk_at "g"
        refine w_new fun c1 A1 hc1 ec1 ka1 => ?_
        have kx := Same.trans kz ka1
        have FA : FdP A1 fo fs9 := ⟨kx _ _ F9.at', fun z hz => kx _ _ (F9.pt z hz)⟩
        have kA : Kp [fo] H2 A1 := k9.trans (Kp.of kx)
        have tA : KT H2 A1 := t9.trans (KT.of kx)
        walk_at "g"
        refine ⟨v, dv, p, dx, lc, ld, lg, rw', hd, fo, c1, cs, ds, hs, qe.2.2, [qe.2.1], fs9, rfl, vw kA tA, FA, nd9, hlt9, nfo, tr, lo2, ht _, ec1, by simp only [List.length_cons, List.length_nil]; omega, fun H5 fs5 F5 e5 k5 t5 => ?_⟩
        have G := goD_spec (hs := hs) tr (qe.2.2 + 1) qe.2.2 [qe.2.1] (fdF fs9) (Nat.lt_succ_self _)
        rw [← e5] at G
        refine ⟨⟨_, _, rfl⟩, kA.trans k5, tA.trans t5, fs5, F5, ?_, ?_, fun z hz => ?_⟩
        · rw [etk, lackF, List.foldl_append, List.foldl_cons, List.foldl_nil, if_pos hpick, e5, e9, lackF]
        · have := G.nd (by rw [fdF_nm]; exact nd9)
          rw [fdF_nm] at this
          exact this
        · have hx : z.1 ∈ nmF (fdF fs5) := by rw [fdF_nm]; exact List.mem_map_of_mem hz
          by_cases hx9 : z.1 ∈ nmF (fdF fs9)
          · rw [fdF_nm] at hx9
            obtain ⟨y, hy, e⟩ := List.mem_map.mp hx9
            rw [← e]
            exact hlt9 y hy
          · obtain ⟨n', en', hr'⟩ := G.rch z.1 hx hx9
            rw [en'] at hr'
            exact hr'.lt tr lo2
      rw [decide_eq_false hue]
      walk_at "g"
      refine w_inUs (hpk9.kt (KT.of kz)).sq ?_
      by_cases hlu : qe.2.1 ∈ us
      · have hpick : pick us qe.2.1 = true := by unfold pick; rw [decide_eq_true hlu, Bool.or_true]
        rw [decide_eq_true hlu]
        walk_at "g"
        refine w_new fun c1 A1 hc1 ec1 ka1 => ?_
        have kx := Same.trans kz ka1
        have FA : FdP A1 fo fs9 := ⟨kx _ _ F9.at', fun z hz => kx _ _ (F9.pt z hz)⟩
        have kA : Kp [fo] H2 A1 := k9.trans (Kp.of kx)
        have tA : KT H2 A1 := t9.trans (KT.of kx)
        walk_at "g"
        refine ⟨v, dv, p, dx, lc, ld, lg, rw', hd, fo, c1, cs, ds, hs, qe.2.2, [qe.2.1], fs9, rfl, vw kA tA, FA, nd9, hlt9, nfo, tr, lo2, ht _, ec1, by simp only [List.length_cons, List.length_nil]; omega, fun H5 fs5 F5 e5 k5 t5 => ?_⟩
        have G := goD_spec (hs := hs) tr (qe.2.2 + 1) qe.2.2 [qe.2.1] (fdF fs9) (Nat.lt_succ_self _)
        rw [← e5] at G
        refine ⟨⟨_, _, rfl⟩, kA.trans k5, tA.trans t5, fs5, F5, ?_, ?_, fun z hz => ?_⟩
        · rw [etk, lackF, List.foldl_append, List.foldl_cons, List.foldl_nil, if_pos hpick, e5, e9, lackF]
        · have := G.nd (by rw [fdF_nm]; exact nd9)
          rw [fdF_nm] at this
          exact this
        · have hx : z.1 ∈ nmF (fdF fs5) := by rw [fdF_nm]; exact List.mem_map_of_mem hz
          by_cases hx9 : z.1 ∈ nmF (fdF fs9)
          · rw [fdF_nm] at hx9
            obtain ⟨y, hy, e⟩ := List.mem_map.mp hx9
            rw [← e]
            exact hlt9 y hy
          · obtain ⟨n', en', hr'⟩ := G.rch z.1 hx hx9
            rw [en'] at hr'
            exact hr'.lt tr lo2
      rw [decide_eq_false hlu]
      walk_at "g"
      refine skip (fun hp => ?_) _ _ _ kz
      unfold pick at hp
      rw [decide_eq_false hue, decide_eq_false hlu] at hp
      cases hp
    rintro σ H9 ⟨⟨y7, y8, rfl⟩, k9, t9, fs9, F9, e9, nd9, hlt9⟩
    rw [List.length_map, List.take_of_length_le (by rw [hel, List.length_map]; exact Nat.le_refl _)] at e9
    walk_at "g"
    refine w_fsort (F9.fat nd9 hlt9 (by have := W.bk.few; omega)) fun ns so H10 hup hmn hnl2 hso e10 k10 => ?_
    walk_at "g"
    try refine w_itL' (.of e10) ?_
    have W9 := vw k9 t9
    refine lcp_accH (walk_list (K := K) (a := so) (xs := ns.map nV)) [] (fun i acc H' => ∃ qs' : List (Addr × Addr × Nat × List Str), acc = qs'.map (fun q => V.ref q.1) ∧ qs'.length ≤ i ∧ (∀ q ∈ qs', H' q.1 = some (.tup [nV q.2.2.1, .ref q.2.1]) ∧ RwAt H' q.2.1 q.2.2.2 ∧ q.2.2 ∈ fdF fs9) ∧ qs'.map (·.2.2.1) = (ns.take i).filter fun n => decide (n ∉ hs)) (by rw [List.length_map]; omega) ?_ (fun i H' k => .of (k _ _ (by simp) e10)) ⟨[], rfl, Nat.le_refl 0, by simp, by simp⟩ ?_ ?_ (by simp) ?_
    · rintro i acc Ha Hb kt ⟨qs', e, hl, g1, g2⟩
      exact ⟨qs', e, hl, fun z hz => ⟨kt _ _ (g1 z hz).1, kt _ _ (g1 z hz).2.1, (g1 z hz).2.2⟩, g2⟩
    · rintro i acc Ha ⟨qs', rfl, hl, _⟩
      rw [List.length_map]
      exact hl
    · rintro i x Ha Hb acc R R0 hi ka ta ⟨qs', rfl, hl, g1, g2⟩ ⟨rfl, hx⟩ hR hR0
      obtain ⟨n, hn, rfl⟩ := map_at hx
      have etk : ns.take (i + 1) = ns.take i ++ [n] := by rw [List.take_add_one, hn]; rfl
      have k9a := Same.trans k10 ka.same
      have Wa := W9.same k9a
      have oba := Wa.ob
      obtain ⟨y, hy, ey⟩ := List.mem_map.mp ((hmn n).mp (List.mem_of_getElem? hn))
      have eFa := k9a _ _ F9.at'
      refine w_name ⟨rfl, ?_⟩
      walk_at "g"
      refine ⟨v, dv, p, dx, lc, ld, lg, rw', hd, cs, ds, hs, nV n, "int", rfl, Wa, .int _, fun m' e' hm' => ?_, fun hno => ?_⟩
      · have em' : m' = n := by have := V.int.inj e'; omega
        subst em'
        walk_at "g"
        refine hR0 _ ⟨qs', rfl, by omega, g1, ?_⟩ Kp.refl KT.refl
        rw [g2, etk, List.filter_append, List.filter_cons_of_neg (by simpa using hm'), List.filter_nil, List.append_nil]
      · have hno' := hno n rfl
        walk_at "g"
        subst ey
        refine w_dgetI eFa (fd_get _ nd9 y hy) ?_
        walk_at "g"
        refine w_new fun a Hc ha ea kc => ?_
        refine hR _ _ ⟨qs' ++ [(a, y.2.1, y.1, y.2.2)], by rw [List.map_append]; rfl, by rw [List.length_append]; simp only [List.length_cons, List.length_nil]; omega, fun z hz => ?_, ?_⟩ (Kp.of kc) (KT.of kc)
        · rcases List.mem_append.mp hz with g | g
          · exact ⟨kc _ _ (g1 z g).1, kc _ _ (g1 z g).2.1, (g1 z g).2.2⟩
          · rw [List.mem_singleton.mp g]
            exact ⟨ea, kc _ _ (k9a _ _ (F9.pt y hy)), List.mem_map.mpr ⟨y, hy, rfl⟩⟩
        · rw [List.map_append, g2, etk, List.filter_append, List.filter_cons_of_pos (by simpa using hno')]
          rfl
    · rintro l H11 acc ⟨qs', rfl, _, g1, g2⟩ hl k11 t11 el
      rw [List.length_map, List.take_length] at g2
      have s9 : Same H H9 := fun b o e => k9 _ _ (by simpa using ne_of_none e hfo) (k12 _ _ e)
      have s11 : Same H H11 := Same.trans s9 (Same.trans k10 k11.same)
      have ndF : ((fdF fs9).map (·.1)).Nodup := by
        have := fdF_nm fs9
        unfold nmF at this
        rw [this]
        exact nd9
      refine q H11 l (qs'.map (·.2.2)) s11 ((Same.trans s9 k10).free hl) ⟨qs', el, rfl, fun z hz => ⟨(g1 z hz).1, (g1 z hz).2.1⟩⟩ ?_ fun x => ?_
      · rw [List.map_map]
        show (qs'.map (·.2.2.1)).Pairwise _
        rw [g2]
        exact hup.filter _
      · unfold lackG
        rw [if_pos hmh, if_pos hrh, ← e9, List.mem_filter]
        constructor
        · intro hx
          obtain ⟨z, hz, rfl⟩ := List.mem_map.mp hx
          refine ⟨(g1 z hz).2.2, ?_⟩
          have : z.2.2.1 ∈ qs'.map (·.2.2.1) := List.mem_map_of_mem hz
          rw [g2] at this
          exact (List.mem_filter.mp this).2
        · rintro ⟨hx, hx2⟩
          have hn : x.1 ∈ ns := (hmn x.1).mpr (by
            obtain ⟨y, hy, e⟩ := List.mem_map.mp hx
            rw [← e]
            exact List.mem_map_of_mem hy)
          have : x.1 ∈ qs'.map (·.2.2.1) := by
            rw [g2]
            exact List.mem_filter.mpr ⟨hn, hx2⟩
          obtain ⟨z, hz, e⟩ := List.mem_map.mp this
          have := nd_pair _ ndF _ (g1 z hz).2.2 _ hx e
          rw [← this]
          exact List.mem_map_of_mem hz
end
/-! ### how deep the trees of a drawn scene go -/
theorem dsF_pre : ∀ (xs : List Ct) (acc : List Nat), ∃ t, xs.foldl (fun ds c => ds ++ [depOf ds c]) acc = acc ++ t
  | [], acc => ⟨[], by rw [List.append_nil]; rfl⟩
  | c :: r, acc => by
    obtain ⟨t, e⟩ := dsF_pre r (acc ++ [depOf acc c])
    exact ⟨[depOf acc c] ++ t, by rw [List.foldl_cons, e, List.append_assoc]⟩
theorem dsF_len : ∀ (xs : List Ct) (acc : List Nat), (xs.foldl (fun ds c => ds ++ [depOf ds c]) acc).length = acc.length + xs.length
  | [], acc => rfl
  | c :: r, acc => by
    rw [List.foldl_cons, dsF_len r, List.length_append, List.length_cons, List.length_cons, List.length_nil]
    omega
theorem dsOf_at {cs : List Ct} {i : Nat} {c : Ct} (h : cs[i]? = some c) : ∃ t, dsOf cs = dsOf (cs.take i) ++ depOf (dsOf (cs.take i)) c :: t ∧ (dsOf (cs.take i)).length = i := by
  obtain ⟨hi, e⟩ := List.getElem?_eq_some_iff.mp h
  have sp : cs = cs.take i ++ c :: cs.drop (i + 1) := by rw [← e, ← List.drop_eq_getElem_cons hi, List.take_append_drop]
  obtain ⟨t, et⟩ := dsF_pre (cs.drop (i + 1)) (dsOf (cs.take i) ++ [depOf (dsOf (cs.take i)) c])
  refine ⟨t, ?_, ?_⟩
  · have : dsOf cs = dsOf (cs.take i ++ c :: cs.drop (i + 1)) := by rw [← sp]
    rw [this]
    unfold dsOf at et ⊢
    rw [List.foldl_append, List.foldl_cons, et, List.append_assoc]
    rfl
  · unfold dsOf
    rw [dsF_len, List.length_nil, List.length_take]
    omega
theorem le_foldmax : ∀ (l : List Nat) (a : Nat), a ≤ l.foldl max a ∧ ∀ x ∈ l, x ≤ l.foldl max a
  | [], a => ⟨Nat.le_refl _, by simp⟩
  | y :: r, a => by
    obtain ⟨h1, h2⟩ := le_foldmax r (max a y)
    rw [List.foldl_cons]
    refine ⟨by omega, fun x hx => ?_⟩
    rcases List.mem_cons.mp hx with rfl | h
    · omega
    · exact h2 x h
theorem Fam.htAt {cs : List (Addr × Ct)} {t : Nat} (h : Fam cs t) : ∀ (k n : Nat), (dsOf (cs.map (·.2))).getD n 0 ≤ k → HtLe cs k n := by
  have tree : ∀ n es a, cs[n]? = some (a, Ct.tree es) → ∃ D t, dsOf (cs.map (·.2)) = D ++ depOf D (.tree es) :: t ∧ D.length = n := fun n es a e => by
    obtain ⟨t, e1, e2⟩ := dsOf_at (cs := cs.map (·.2)) (i := n) (c := .tree es) (by rw [List.getElem?_map, e]; rfl)
    exact ⟨_, t, e1, e2⟩
  intro k
  induction k with
  | zero =>
    intro n hn
    show ents cs n = []
    unfold ents
    split
    · rename_i a es e
      obtain ⟨D, t, e1, e2⟩ := tree n es a e
      rw [e1, List.getD_eq_getElem?_getD, List.getElem?_append_right (by omega), show n - D.length = 0 by omega] at hn
      have : 1 + (es.map fun e => D.getD e.2 0).foldl max 0 ≤ 0 := hn
      omega
    · rfl
  | succ k ih =>
    intro n hn e he
    have low := (h.tr.low n e he).1
    refine ih e.2 ?_
    unfold ents at he
    split at he
    · rename_i a es e'
      obtain ⟨D, t, e1, e2⟩ := tree n es a e'
      have h1 := hn
      rw [e1, List.getD_eq_getElem?_getD, List.getElem?_append_right (by omega), show n - D.length = 0 by omega] at h1
      have h2 : 1 + (es.map fun e => D.getD e.2 0).foldl max 0 ≤ k + 1 := h1
      have h3 := (le_foldmax (es.map fun e => D.getD e.2 0) 0).2 (D.getD e.2 0) (List.mem_map.mpr ⟨e, he, rfl⟩)
      rw [e1, List.getD_eq_getElem?_getD, List.getElem?_append_left (by omega), ← List.getD_eq_getElem?_getD]
      omega
    · cases he
theorem Fam.ht {cs : List (Addr × Ct)} {t : Nat} (h : Fam cs t) : ∀ n, HtLe cs t n := fun n => by
  refine h.htAt t n ?_
  rw [List.getD_eq_getElem?_getD]
  cases e : (dsOf (cs.map (·.2)))[n]? with
  | none => exact Nat.zero_le _
  | some d => exact h.dp d (List.mem_of_getElem? e)
/-! ### ways by entries, and what lacks on them -/
inductive WyE (cs : List (Addr × Ct)) (us : List Str) (r : Nat) : List Str → Nat → Prop
  | nil : WyE cs us r [] r
  | snoc {p : List Str} {n : Nat} {e : Str × Nat} : WyE cs us r p n → e ∈ ents cs n → (p = [] → pick us e.1 = true) → WyE cs us r (p ++ [e.1]) e.2
def EntNd (cs : List (Addr × Ct)) : Prop := ∀ n, ((ents cs n).map (·.1)).Nodup ∧ ∀ e ∈ ents cs n, LabOk e.1
theorem nd_keyS {α : Type} : ∀ (f : List (Str × α)), (f.map (·.1)).Nodup → ∀ a ∈ f, ∀ b ∈ f, a.1 = b.1 → a = b
  | [], _, a, ha, _, _, _ => by cases ha
  | q :: r, nd, a, ha, b, hb, e => by
    rw [List.map_cons, List.nodup_cons] at nd
    rcases List.mem_cons.mp ha with rfl | h1
    · rcases List.mem_cons.mp hb with rfl | h2
      · rfl
      · exact absurd (List.mem_map.mpr ⟨b, h2, e.symm⟩) nd.1
    · rcases List.mem_cons.mp hb with rfl | h2
      · exact absurd (List.mem_map.mpr ⟨a, h1, e⟩) nd.1
      · exact nd_keyS r nd.2 a h1 b h2 e
theorem entL_of {cs : List (Addr × Ct)} (nd : EntNd cs) {n : Nat} {e : Str × Nat} (h : e ∈ ents cs n) : entL cs n e.1 = some e.2 := by
  unfold entL
  cases hf : (ents cs n).find? fun x => decide (x.1 = e.1) with
  | none =>
    have := List.find?_eq_none.mp hf e h
    simp at this
  | some x =>
    have h1 := List.mem_of_find?_eq_some hf
    have h2 : x.1 = e.1 := of_decide_eq_true (List.find?_some (p := fun x : Str × Nat => decide (x.1 = e.1)) hf)
    rw [nd_keyS _ (nd n).1 x h1 e h h2]
    rfl
theorem walkP_snoc {cs : List (Addr × Ct)} {ab : Nat → Bool} {n : Nat} {z : Str} : ∀ (p : List Str) (r k : Nat), walkP cs ab r p k = .ok n → walkP cs ab r (p ++ [z]) k = walkP cs ab n [z] (k + p.length)
  | [], r, k, h => by
    rw [walkP] at h
    cases h
    rfl
  | y :: p, r, k, h => by
    rw [walkP] at h
    rw [List.cons_append, walkP]
    cases he : entL cs r y with
    | none => rw [he] at h; cases h
    | some m =>
      rw [he] at h
      dsimp only at h ⊢
      by_cases hb : ab m = true
      · rw [if_pos hb] at h
        cases h
      · rw [if_neg hb] at h ⊢
        rw [walkP_snoc p m _ h, List.length_cons, show k + 1 + p.length = k + (p.length + 1) by omega]
theorem walkP_lackS {cs : List (Addr × Ct)} {ab : Nat → Bool} {m : Nat} {z : Str} : ∀ (p : List Str) (r k : Nat), walkP cs ab r p k = .lack m → walkP cs ab r (p ++ [z]) k = .lack m
  | [], r, k, h => by
    rw [walkP] at h
    cases h
  | y :: p, r, k, h => by
    rw [walkP] at h
    rw [List.cons_append, walkP]
    cases he : entL cs r y with
    | none => rw [he] at h; cases h
    | some m' =>
      rw [he] at h
      dsimp only at h ⊢
      by_cases hb : ab m' = true
      · rw [if_pos hb] at h ⊢
        exact h
      · rw [if_neg hb] at h ⊢
        exact walkP_lackS p m' _ h
theorem walkP_one {cs : List (Addr × Ct)} (nd : EntNd cs) {ab : Nat → Bool} {n k : Nat} {e : Str × Nat} (h : e ∈ ents cs n) : walkP cs ab n [e.1] k = if ab e.2 = true then .lack e.2 else .ok e.2 := by
  rw [walkP, entL_of nd h]
  dsimp only
  by_cases hb : ab e.2 = true
  · rw [if_pos hb, if_pos hb]
  · rw [if_neg hb, if_neg hb, walkP]
theorem lackF_eq {cs : List (Addr × Ct)} {hs : List Nat} {us : List Str} (tr : TrOk cs) {N : Nat} : ∀ (es : List (Str × Nat)) (g0 : List (Nat × List Str)), (∀ e ∈ es, e.2 < N) → es.foldl (fun g e => if pick us e.1 = true then goD cs hs (e.2 + 1) e.2 [e.1] g else g) g0 = (es.filter fun e => pick us e.1).foldl (fun g e => goD cs hs N e.2 [e.1] g) g0
  | [], _, _ => rfl
  | e :: r, g0, h => by
    have he := h e (by simp)
    rw [List.foldl_cons]
    by_cases hp : pick us e.1 = true
    · rw [if_pos hp, List.filter_cons_of_pos (p := fun e : Str × Nat => pick us e.1) hp, List.foldl_cons, goD_fuel tr (e.2 + 1) N e.2 _ g0 (Nat.lt_succ_self _) he]
      exact lackF_eq tr r _ fun e' he' => h e' (by simp [he'])
    · rw [if_neg hp, List.filter_cons_of_neg (p := fun e : Str × Nat => pick us e.1) hp]
      exact lackF_eq tr r _ fun e' he' => h e' (by simp [he'])
theorem lackF_spec {cs : List (Addr × Ct)} {hs : List Nat} {us : List Str} (tr : TrOk cs) (r : Nat) : GoS cs hs (fun n => ∃ e ∈ ents cs r, pick us e.1 = true ∧ n = e.2) [] (lackF cs hs us (ents cs r)) := by
  have h1 : ∀ e ∈ ents cs r, e.2 < cs.length := fun e he => (tr.low r e he).2.1
  have h2 := goD_fold (cs := cs) (hs := hs) (k := cs.length) (q := fun e => [e.1]) ((ents cs r).filter fun e => pick us e.1) [] fun e he p g => goD_spec tr cs.length e.2 p g (h1 e (List.mem_filter.mp he).1)
  unfold lackF
  rw [lackF_eq tr _ _ h1]
  exact ⟨h2.sub, fun n ⟨e, he, hp, en⟩ => h2.has n ⟨e, List.mem_filter.mpr ⟨he, hp⟩, en⟩, fun x hx hf => by
    obtain ⟨n, ⟨e, he, en⟩, hr⟩ := h2.rch x hx hf
    exact ⟨n, ⟨e, (List.mem_filter.mp he).1, (List.mem_filter.mp he).2, en⟩, hr⟩, h2.cl, h2.nd⟩
theorem WyE.ok {cs : List (Addr × Ct)} {us : List Str} {r : Nat} (nd : EntNd cs) {p : List Str} {n : Nat} (w : WyE cs us r p n) : walkP cs (fun _ => false) r p 0 = .ok n := by
  induction w with
  | nil => rw [walkP]
  | snoc _ he _ ih => rw [walkP_snoc _ _ _ ih, walkP_one nd he, if_neg (by decide)]
theorem WyE.free {cs : List (Addr × Ct)} {us : List Str} {u : Nat} (nd : EntNd cs) {p : List Str} {n : Nat} (w : WyE cs us (rootV cs u) p n) : comeP cs (fun _ => false) u p = .ok n := by
  unfold comeP
  rw [if_neg (by intro z; cases z), if_neg (by intro z; cases z)]
  exact w.ok nd
/-- a way goes over what is held, or what lacks first is told as lacking -/
theorem WyE.walk {cs : List (Addr × Ct)} {hs : List Nat} {us : List Str} {r : Nat} (tr : TrOk cs) (nd : EntNd cs) (hr : r ∈ hs) {p : List Str} {n : Nat} (w : WyE cs us r p n) :
    (walkP cs (fun n => !decide (n ∈ hs)) r p 0 = .ok n ∧ n ∈ hs ∧ (p ≠ [] → n ∈ nmF (lackF cs hs us (ents cs r)))) ∨ ∃ m, walkP cs (fun n => !decide (n ∈ hs)) r p 0 = .lack m ∧ m ∉ hs ∧ m ∈ nmF (lackF cs hs us (ents cs r)) := by
  have G := lackF_spec (hs := hs) (us := us) tr r
  induction w with
  | nil => exact .inl ⟨by rw [walkP], hr, fun z => absurd rfl z⟩
  | snoc w' he hp ih =>
    rename_i p n e
    rcases ih with ⟨h1, h2, h3⟩ | ⟨m, h1, h2, h3⟩
    · have hin : e.2 ∈ nmF (lackF cs hs us (ents cs r)) := by
        by_cases hn : p = []
        · have hnr : n = r := by
            rw [hn, walkP] at h1
            cases h1
            rfl
          rw [hnr] at he
          exact G.has e.2 ⟨e, he, hp hn, rfl⟩
        · exact G.cl n (h3 hn) (by simp) h2 e he
      rw [walkP_snoc _ _ _ h1, walkP_one nd he]
      by_cases hh : e.2 ∈ hs
      · rw [if_neg (by simpa using hh)]
        exact .inl ⟨rfl, hh, fun _ => hin⟩
      · rw [if_pos (by simpa using hh)]
        exact .inr ⟨e.2, rfl, hh, hin⟩
    · exact .inr ⟨m, walkP_lackS _ _ _ h1, h2, h3⟩
theorem mem_lackG {cs : List (Addr × Ct)} {hs : List Nat} {us : List Str} {u x : Nat} : x ∈ nmF (lackG cs hs us u) ↔ x ∉ hs ∧ (x = u ∨ u ∈ hs ∧ (x = rootV cs u ∨ rootV cs u ∈ hs ∧ x ∈ nmF (lackF cs hs us (ents cs (rootV cs u))))) := by
  unfold lackG
  by_cases h1 : u ∈ hs
  · rw [if_pos h1]
    by_cases h2 : rootV cs u ∈ hs
    · rw [if_pos h2]
      constructor
      · intro h
        obtain ⟨q, hq, rfl⟩ := List.mem_map.mp h
        obtain ⟨g1, g2⟩ := List.mem_filter.mp hq
        exact ⟨of_decide_eq_true g2, .inr ⟨h1, .inr ⟨h2, List.mem_map_of_mem g1⟩⟩⟩
      · rintro ⟨g1, g2 | ⟨_, g2 | ⟨_, g2⟩⟩⟩
        · exact absurd (g2 ▸ h1) g1
        · exact absurd (g2 ▸ h2) g1
        · obtain ⟨q, hq, rfl⟩ := List.mem_map.mp g2
          exact List.mem_map.mpr ⟨q, List.mem_filter.mpr ⟨hq, decide_eq_true g1⟩, rfl⟩
    · rw [if_neg h2]
      constructor
      · intro h
        have e : x = rootV cs u := by simpa [nmF] using h
        exact ⟨by rw [e]; exact h2, .inr ⟨h1, .inl e⟩⟩
      · rintro ⟨g1, g2 | ⟨_, g2 | ⟨g2, _⟩⟩⟩
        · exact absurd (g2 ▸ h1) g1
        · rw [g2]
          simp [nmF]
        · exact absurd g2 h2
  · rw [if_neg h1]
    constructor
    · intro h
      have e : x = u := by simpa [nmF] using h
      exact ⟨by rw [e]; exact h1, .inl e⟩
    · rintro ⟨g1, g2 | ⟨g2, _⟩⟩
      · rw [g2]
        simp [nmF]
      · exact absurd g2 h1
/-! ### rounds: level by level -/
def LevE (cs : List (Addr × Ct)) (us : List Str) (u j x : Nat) : Prop := (j = 0 ∧ x = u) ∨ ∃ p, j = p.length + 1 ∧ WyE cs us (rootV cs u) p x
theorem WyE.ht {cs : List (Addr × Ct)} {us : List Str} {r : Nat} (h8 : HtLe cs 8 r) {p : List Str} {n : Nat} (w : WyE cs us r p n) : p.length ≤ 8 ∧ HtLe cs (8 - p.length) n := by
  induction w with
  | nil => exact ⟨Nat.zero_le _, h8⟩
  | snoc _ he _ ih =>
    rename_i p n e _ _
    obtain ⟨h1, h2⟩ := ih
    rw [List.length_append, List.length_cons, List.length_nil]
    by_cases h : p.length = 8
    · rw [h] at h2
      have : ents cs n = [] := h2
      rw [this] at he
      cases he
    · obtain ⟨j, ej⟩ : ∃ j, 8 - p.length = j + 1 := ⟨7 - p.length, by omega⟩
      rw [ej] at h2
      refine ⟨by omega, ?_⟩
      rw [show 8 - (p.length + (0 + 1)) = j by omega]
      exact h2 e he
theorem WyE.has {cs : List (Addr × Ct)} {hs : List Nat} {us : List Str} {r : Nat} (tr : TrOk cs) {p : List Str} {n : Nat} (w : WyE cs us r p n) (hh : ∀ q m, WyE cs us r q m → q.length < p.length → m ∈ hs) : p = [] ∧ n = r ∨ n ∈ nmF (lackF cs hs us (ents cs r)) := by
  have G := lackF_spec (hs := hs) (us := us) tr r
  induction w with
  | nil => exact .inl ⟨rfl, rfl⟩
  | snoc w' he hp ih =>
    rename_i p n e
    right
    rcases ih (fun q m g l => hh q m g (by rw [List.length_append, List.length_cons, List.length_nil]; omega)) with ⟨h1, h2⟩ | h
    · rw [h2] at he
      exact G.has e.2 ⟨e, he, hp h1, rfl⟩
    · exact G.cl n h (by simp) (hh p n w' (by rw [List.length_append, List.length_cons, List.length_nil]; omega)) e he
theorem RchH.way {cs : List (Addr × Ct)} {hs : List Nat} {us : List Str} {r n x : Nat} (h : RchH cs hs n x) : ∀ {p : List Str}, p ≠ [] → WyE cs us r p n → ∃ q, q ≠ [] ∧ WyE cs us r q x := by
  induction h with
  | refl n => exact fun hp w => ⟨_, hp, w⟩
  | step h1 h2 _ ih => exact fun hp w => ih (List.append_ne_nil_of_right_ne_nil _ (by simp)) (.snoc w h2 fun z => absurd z hp)
/-- all on a way is wanted, all names being held -/
theorem WyE.want {cs : List (Addr × Ct)} {us : List Str} {u : Nat} {by' : List W2} {k : Nat} (tr : TrOk cs) (iv : isV cs u) (hk : itE cs (List.range cs.length) ([], rows0 cs (List.range cs.length) us (topsOf cs (List.range cs.length) [u])) k = (by', [])) {p : List Str} {n : Nat} (w : WyE cs us (rootV cs u) p n) : p = [] ∧ n = rootV cs u ∨ n ∈ by'.map (·.1) ∧ n < cs.length := by
  have I := EInv.it (cs := cs) (hs := List.range cs.length) (us := us) (st := [u]) k
  rw [hk] at I
  have hr := tr.root u iv
  obtain ⟨ar, er⟩ := hr.1.at
  have hrl := (List.getElem?_eq_some_iff.mp er).1
  induction w with
  | nil => exact .inl ⟨rfl, rfl⟩
  | snoc w' he hp ih =>
    rename_i p n e
    right
    refine ⟨?_, (tr.low _ e he).2.1⟩
    rcases ih with ⟨h1, h2⟩ | ⟨h1, h2⟩
    · rw [h2] at he
      refine (I.top (e.2, rootV cs u) (mem_rows0.mpr ⟨(u, rootV cs u), mem_topsOf.mpr ⟨by simp, List.mem_range.mpr iv.lt, rfl⟩, rfl, List.mem_range.mpr hrl, ?_⟩)).resolve_right (by simp)
      exact List.mem_map.mpr ⟨e, List.mem_filter.mpr ⟨he, hp h1⟩, rfl⟩
    · exact (I.cl n h1 (List.mem_range.mpr h2) e he).resolve_right (by simp)
/-! ### the law's own way down, with a stack -/
def runD (cs : List (Addr × Ct)) (hs : List Nat) (N : Nat) (st : List (List Str × Nat)) (f : List (Nat × List Str)) : List (Nat × List Str) := st.reverse.foldl (fun g q => goD cs hs N q.2 q.1 g) f
def kidsD (cs : List (Addr × Ct)) (hs : List Nat) (q : List Str × Nat) : List (List Str × Nat) := if q.2 ∈ hs then (ents cs q.2).map fun e => (q.1 ++ [e.1], e.2) else []
theorem runD_in {cs : List (Addr × Ct)} {hs : List Nat} {N : Nat} {st : List (List Str × Nat)} {f : List (Nat × List Str)} {q : List Str × Nat} (hN : q.2 < N) (h : q.2 ∈ nmF f) : runD cs hs N (st ++ [q]) f = runD cs hs N st f := by
  obtain ⟨k, rfl⟩ : ∃ k, N = k + 1 := ⟨N - 1, by omega⟩
  unfold runD
  rw [List.reverse_append, List.reverse_cons, List.reverse_nil, List.nil_append, List.cons_append, List.nil_append, List.foldl_cons, goD, if_pos h]
theorem runD_out {cs : List (Addr × Ct)} {hs : List Nat} (tr : TrOk cs) {N : Nat} {st : List (List Str × Nat)} {f : List (Nat × List Str)} {q : List Str × Nat} (hN : q.2 < N) (h : q.2 ∉ nmF f) : runD cs hs N (st ++ [q]) f = runD cs hs N (st ++ (kidsD cs hs q).reverse) (f ++ [(q.2, q.1)]) := by
  obtain ⟨k, rfl⟩ : ∃ k, N = k + 1 := ⟨N - 1, by omega⟩
  unfold runD
  rw [List.reverse_append, List.reverse_append, List.reverse_reverse, List.reverse_cons, List.reverse_nil, List.nil_append, List.cons_append, List.nil_append, List.foldl_cons, goD, if_neg h, List.foldl_append]
  congr 1
  unfold kidsD
  by_cases hh : q.2 ∈ hs
  · rw [if_pos hh, if_pos hh]
    have key : ∀ (es : List (Str × Nat)) (g : List (Nat × List Str)), (∀ e ∈ es, e.2 < q.2) → es.foldl (fun g e => goD cs hs k e.2 (q.1 ++ [e.1]) g) g = (es.map fun e => (q.1 ++ [e.1], e.2)).foldl (fun g q => goD cs hs (k + 1) q.2 q.1 g) g := by
      intro es
      induction es with
      | nil => exact fun g _ => rfl
      | cons e r ih =>
        intro g hl
        have he := hl e (by simp)
        rw [List.foldl_cons, List.map_cons, List.foldl_cons, goD_fuel tr k (k + 1) e.2 _ g (by omega) (by omega)]
        exact ih _ fun e' he' => hl e' (by simp [he'])
    exact key _ _ fun e he => (tr.low q.2 e he).1
  · rw [if_neg hh, if_neg hh]
    rfl
/-- the first stack -/
def st0D (cs : List (Addr × Ct)) (us : List Str) (r : Nat) : List (List Str × Nat) := ((ents cs r).filter fun e => pick us e.1).map fun e => ([e.1], e.2)
theorem runD_start {cs : List (Addr × Ct)} {hs : List Nat} {us : List Str} (tr : TrOk cs) (r : Nat) : runD cs hs cs.length (st0D cs us r).reverse [] = lackF cs hs us (ents cs r) := by
  unfold runD lackF st0D
  rw [List.reverse_reverse, lackF_eq tr (N := cs.length) _ _ fun e he => (tr.low r e he).2.1, List.foldl_map]
/-! ### paths of what is found -/
inductive WyH (cs : List (Addr × Ct)) (hs : List Nat) (r : Nat) : List Str → Nat → Prop
  | nil : WyH cs hs r [] r
  | snoc {p : List Str} {n : Nat} {e : Str × Nat} : WyH cs hs r p n → n ∈ hs → e ∈ ents cs n → WyH cs hs r (p ++ [e.1]) e.2
theorem goD_path {cs : List (Addr × Ct)} {hs : List Nat} {r : Nat} : ∀ (k n : Nat) (p : List Str) (f : List (Nat × List Str)), WyH cs hs r p n → (∀ q ∈ f, WyH cs hs r q.2 q.1) → ∀ q ∈ goD cs hs k n p f, WyH cs hs r q.2 q.1
  | 0, n, p, f, _, hf => hf
  | k + 1, n, p, f, w, hf => by
    rw [goD]
    by_cases h1 : n ∈ nmF f
    · rw [if_pos h1]
      exact hf
    rw [if_neg h1]
    have hf' : ∀ q ∈ f ++ [(n, p)], WyH cs hs r q.2 q.1 := fun q hq => by
      rcases List.mem_append.mp hq with h | h
      · exact hf q h
      · rw [List.mem_singleton.mp h]
        exact w
    by_cases h2 : n ∈ hs
    · rw [if_pos h2]
      have key : ∀ (es : List (Str × Nat)) (g : List (Nat × List Str)), (∀ e ∈ es, e ∈ ents cs n) → (∀ q ∈ g, WyH cs hs r q.2 q.1) → ∀ q ∈ es.foldl (fun g e => goD cs hs k e.2 (p ++ [e.1]) g) g, WyH cs hs r q.2 q.1 := by
        intro es
        induction es with
        | nil => exact fun g _ hg => hg
        | cons e t ih =>
          intro g he hg
          rw [List.foldl_cons]
          exact ih _ (fun e' he' => he e' (by simp [he'])) (goD_path k e.2 _ g (.snoc w h2 (he e (by simp))) hg)
      exact key _ _ (fun e he => he) hf'
    · rw [if_neg h2]
      exact hf'
theorem lackF_path {cs : List (Addr × Ct)} {hs : List Nat} {us : List Str} {r : Nat} (hr : r ∈ hs) : ∀ q ∈ lackF cs hs us (ents cs r), WyH cs hs r q.2 q.1 := by
  have key : ∀ (es : List (Str × Nat)) (g : List (Nat × List Str)), (∀ e ∈ es, e ∈ ents cs r) → (∀ q ∈ g, WyH cs hs r q.2 q.1) → ∀ q ∈ es.foldl (fun g e => if pick us e.1 = true then goD cs hs (e.2 + 1) e.2 [e.1] g else g) g, WyH cs hs r q.2 q.1 := by
    intro es
    induction es with
    | nil => exact fun g _ hg => hg
    | cons e t ih =>
      intro g he hg
      rw [List.foldl_cons]
      refine ih _ (fun e' he' => he e' (by simp [he'])) ?_
      by_cases hp : pick us e.1 = true
      · rw [if_pos hp]
        exact goD_path _ e.2 [e.1] g (.snoc (p := []) .nil hr (he e (by simp))) hg
      · rw [if_neg hp]
        exact hg
  exact key _ _ (fun e he => he) (by simp)
theorem WyH.walk {cs : List (Addr × Ct)} {hs : List Nat} {r : Nat} (nd : EntNd cs) {p : List Str} {n : Nat} (w : WyH cs hs r p n) (hp : p ≠ [] ∨ r ∈ hs) : walkP cs (fun n => !decide (n ∈ hs)) r p 0 = if n ∈ hs then .ok n else .lack n := by
  induction w with
  | nil => rw [walkP, if_pos (hp.resolve_left fun z => z rfl)]
  | snoc w' hn he ih =>
    rename_i p n e
    have hp' : p ≠ [] ∨ r ∈ hs := by
      by_cases h : p = []
      · right
        subst h
        generalize hq : ([] : List Str) = q at w'
        cases w' with
        | nil => exact hn
        | snoc _ _ _ => exact absurd hq.symm (by simp)
      · exact .inl h
    have h1 := ih hp'
    rw [if_pos hn] at h1
    rw [walkP_snoc _ _ _ h1, walkP_one nd he]
    by_cases hh : e.2 ∈ hs
    · rw [if_neg (by simpa using hh), if_pos hh]
    · rw [if_pos (by simpa using hh), if_neg hh]
theorem WyH.len {cs : List (Addr × Ct)} {hs : List Nat} {r : Nat} (tr : TrOk cs) {p : List Str} {n : Nat} (w : WyH cs hs r p n) : p.length + n ≤ r := by
  induction w with
  | nil => exact Nat.le_of_eq (Nat.zero_add _)
  | snoc _ _ he ih =>
    have := (tr.low _ _ he).1
    rw [List.length_append, List.length_cons, List.length_nil]
    omega
theorem WyH.lab {cs : List (Addr × Ct)} {hs : List Nat} {r : Nat} (nd : EntNd cs) {p : List Str} {n : Nat} (w : WyH cs hs r p n) : ∀ z ∈ p, LabOk z := by
  induction w with
  | nil => simp
  | snoc _ _ he ih =>
    intro z hz
    rcases List.mem_append.mp hz with h | h
    · exact ih z h
    · rw [List.mem_singleton.mp h]
      exact (nd _).2 _ he
theorem lackG_path {cs : List (Addr × Ct)} {hs : List Nat} {us : List Str} {u : Nat} (tr : TrOk cs) (nd : EntNd cs) (iv : isV cs u) {q : Nat × List Str} (h : q ∈ lackG cs hs us u) : comeP cs (fun n => !decide (n ∈ hs)) u q.2 = .lack q.1 ∧ q.2.length ≤ cs.length ∧ (∀ z ∈ q.2, LabOk z) ∧ q.1 < cs.length := by
  obtain ⟨ar, er⟩ := (tr.root u iv).1.at
  have hrl := (List.getElem?_eq_some_iff.mp er).1
  unfold lackG at h
  unfold comeP
  by_cases h1 : u ∈ hs
  · rw [if_pos h1] at h
    rw [if_neg (by simpa using h1)]
    by_cases h2 : rootV cs u ∈ hs
    · rw [if_pos h2] at h
      rw [if_neg (by simpa using h2)]
      obtain ⟨g1, g2⟩ := List.mem_filter.mp h
      have w := lackF_path h2 q g1
      have hq : q.1 ∉ hs := of_decide_eq_true g2
      have hl := w.len tr
      refine ⟨?_, by omega, w.lab nd, by omega⟩
      rw [w.walk nd (.inr h2), if_neg hq]
    · rw [if_neg h2] at h
      rw [if_pos (by simpa using h2)]
      rw [List.mem_singleton.mp h]
      exact ⟨rfl, Nat.zero_le _, by simp, hrl⟩
  · rw [if_neg h1] at h
    rw [if_pos (by simpa using h1)]
    rw [List.mem_singleton.mp h]
    exact ⟨rfl, Nat.zero_le _, by simp, iv.lt⟩
/-- what lacks is what is wanted and not held -/
theorem lackG_wanted {cs : List (Addr × Ct)} {hs : List Nat} {us : List Str} {u x : Nat} {by' : List W2} {k : Nat} (tr : TrOk cs) (hk : itE cs hs ([], rows0 cs hs us (topsOf cs hs [u])) k = (by', [])) : x ∈ nmF (lackG cs hs us u) ↔ x ∉ hs ∧ (x ∈ by'.map (·.1) ∨ x ∈ [u] ∨ ∃ q ∈ topsOf cs hs [u], q.2 = x) := by
  have I := EInv.it (cs := cs) (hs := hs) (us := us) (st := [u]) k
  rw [hk] at I
  have G := lackF_spec (hs := hs) (us := us) tr (rootV cs u)
  rw [mem_lackG]
  constructor
  · rintro ⟨hx, h | ⟨hu, h | ⟨hr, h⟩⟩⟩
    · exact ⟨hx, .inr (.inl (by simp [h]))⟩
    · exact ⟨hx, .inr (.inr ⟨(u, rootV cs u), mem_topsOf.mpr ⟨by simp, hu, rfl⟩, h.symm⟩)⟩
    · refine ⟨hx, .inl ?_⟩
      obtain ⟨n, ⟨e, he, hp, en⟩, hrc⟩ := G.rch x h (by simp)
      have h0 : n ∈ by'.map (·.1) := by
        rw [en]
        exact (I.top (e.2, rootV cs u) (mem_rows0.mpr ⟨(u, rootV cs u), mem_topsOf.mpr ⟨by simp, hu, rfl⟩, rfl, hr, List.mem_map.mpr ⟨e, List.mem_filter.mpr ⟨he, hp⟩, rfl⟩⟩)).resolve_right (by simp)
      clear h hx he hp en
      induction hrc with
      | refl n => exact h0
      | step h1 h2 _ ih => exact ih ((I.cl _ h0 h1 _ h2).resolve_right (by simp))
  · rintro ⟨hx, h | h | ⟨q, hq, h⟩⟩
    · have key : ∀ (m : Nat) (q : W2), q ∈ by' → cs.length - q.1 ≤ m → u ∈ hs ∧ rootV cs u ∈ hs ∧ q.1 ∈ nmF (lackF cs hs us (ents cs (rootV cs u))) := by
        intro m
        induction m with
        | zero =>
          intro q hq hm
          obtain ⟨_, ⟨e, he, e2⟩, _⟩ := I.of q (.inl hq)
          have := (tr.low _ e he).2.1
          omega
        | succ m ih =>
          intro q hq hm
          obtain ⟨h1, ⟨e, he, e2⟩, h3⟩ := I.of q (.inl hq)
          have hl := tr.low _ e he
          rcases h3 with h3 | ⟨⟨v, hv, hvh, hvr⟩, hc⟩
          · obtain ⟨q', hq', e'⟩ := List.mem_map.mp h3
            obtain ⟨g1, g2, g3⟩ := ih q' hq' (by omega)
            rw [e'] at g3
            exact ⟨g1, g2, by rw [← e2]; exact G.cl _ g3 (by simp) h1 e he⟩
          · have : v = u := by simpa using hv
            subst this
            obtain ⟨e', he', e3⟩ := List.mem_map.mp hc
            obtain ⟨f1, f2⟩ := List.mem_filter.mp he'
            rw [← hvr] at f1 h1
            exact ⟨hvh, h1, G.has q.1 ⟨e', f1, f2, e3.symm⟩⟩
      obtain ⟨q, hq, rfl⟩ := List.mem_map.mp h
      obtain ⟨g1, g2, g3⟩ := key _ q hq (Nat.le_refl _)
      exact ⟨hx, .inr ⟨g1, .inr ⟨g2, g3⟩⟩⟩
    · exact ⟨hx, .inl (by simpa using h)⟩
    · obtain ⟨h1, h2, h3⟩ := mem_topsOf.mp hq
      have : q.1 = u := by simpa using h1
      rw [this] at h2 h3
      exact ⟨hx, .inr ⟨h2, .inl (by rw [← h, h3])⟩⟩
theorem rise_extP {α : Type} : ∀ {xs ys : List (Nat × α)}, (xs.map (·.1)).Pairwise (· < ·) → (ys.map (·.1)).Pairwise (· < ·) → (∀ n, n ∈ xs ↔ n ∈ ys) → xs = ys
  | [], [], _, _, _ => rfl
  | [], y :: ys, _, _, h => absurd ((h y).mpr (by simp)) (by simp)
  | x :: xs, [], _, _, h => absurd ((h x).mp (by simp)) (by simp)
  | x :: xs, y :: ys, hx, hy, h => by
    rw [List.map_cons, List.pairwise_cons] at hx hy
    have bx : ∀ z ∈ xs, x.1 < z.1 := fun z hz => hx.1 _ (List.mem_map_of_mem hz)
    have by' : ∀ z ∈ ys, y.1 < z.1 := fun z hz => hy.1 _ (List.mem_map_of_mem hz)
    have e : x = y := by
      rcases List.mem_cons.mp ((h x).mp (by simp)) with e | h1
      · exact e
      · rcases List.mem_cons.mp ((h y).mpr (by simp)) with e | h2
        · exact e.symm
        · have := bx y h2
          have := by' x h1
          omega
    subst e
    rw [rise_extP hx.2 hy.2 fun n => ?_]
    constructor
    · intro hn
      rcases List.mem_cons.mp ((h n).mp (by simp [hn])) with e | h1
      · have := bx n hn
        rw [e] at this
        omega
      · exact h1
    · intro hn
      rcases List.mem_cons.mp ((h n).mpr (by simp [hn])) with e | h1
      · have := by' n hn
        rw [e] at this
        omega
      · exact h1
/-! ### what lacks, as data -/
def lksD (ls : List (Nat × List Str)) : List PyData := ls.map fun q => .tuple [.int (q.1 : Int), .tuple (q.2.map .str)]
theorem lks_all {K : PySem.W.Frag} {H : Hp} : ∀ {qs : List (Addr × Addr × Nat × List Str)}, (∀ q ∈ qs, H q.1 = some (.tup [nV q.2.2.1, .ref q.2.1]) ∧ RwAt H q.2.1 q.2.2.2) → DpAll K H (qs.map fun q => V.ref q.1) (lksD (qs.map (·.2.2)))
  | [], _ => .nil
  | q :: r, h => by
    obtain ⟨h1, h2⟩ := h q (by simp)
    exact .cons (.tup (.of h1) (.cons (.int _) (.cons (.tup (.of h2) (dp_txts _)) .nil))) (lks_all fun z hz => h z (by simp [hz]))
theorem LksAt.dp {K : PySem.W.Frag} {H : Hp} {L : Addr} {ls : List (Nat × List Str)} (h : LksAt H L ls) : Dp K H (.ref L) (.list (lksD ls)) := by
  obtain ⟨qs, e, rfl, hq⟩ := h
  exact .lst (.of e) (lks_all hq)
theorem LksAt.kpn {H H' : Hp} {L : Addr} {ls : List (Nat × List Str)} (h : LksAt H L ls) (t : KT H H') (k : ∀ o, H L = some o → (∀ ps, o ≠ .tbl ps) → H' L = some o) : LksAt H' L ls := by
  obtain ⟨qs, e, rfl, hq⟩ := h
  exact ⟨qs, k _ e (fun ps z => nomatch z), rfl, fun q hq' => ⟨t _ _ (hq q hq').1, t _ _ (hq q hq').2⟩⟩
theorem lksD_ok : ∀ {ls : List (Nat × List Str)}, (∀ q ∈ ls, ∀ z ∈ q.2, LabOk z) → (PyData.canLayAll0 (lksD ls) = true ∧ PyData.depthAll (lksD ls) ≤ 2) ∧ PyData.eqvAll (lksD ls) (lksD ls) = true
  | [], _ => ⟨⟨rfl, show PyData.depthAll [] ≤ 2 by decide⟩, rfl⟩
  | q :: r, h => by
    obtain ⟨⟨h1, h2⟩, h3⟩ := lksD_ok (ls := r) fun z hz => h z (by simp [hz])
    obtain ⟨g1, g2⟩ := lay_txts (ls := q.2) fun z hz => lab_str (h q (by simp) z hz)
    have g3 : PyData.eqvAll (q.2.map .str) (q.2.map .str) = true := (txts_eqv _ _).mpr rfl
    unfold lksD at h1 h2 h3 ⊢
    rw [List.map_cons]
    refine ⟨⟨?_, ?_⟩, ?_⟩
    · simp only [PyData.canLayAll0, PyData.canLay0, g1, h1]
      rfl
    · simp only [PyData.depthAll, PyData.depth, g2]
      omega
    · simp [PyData.eqvAll, PyData.eqv, g3, h3]
theorem lksD_sh {ls : List (Nat × List Str)} (h : ∀ q ∈ ls, ∀ z ∈ q.2, LabOk z) : SeqAt.shaped (.list (lksD ls)) = true ∧ PyData.eqv (.list (lksD ls)) (.list (lksD ls)) = true := by
  obtain ⟨⟨h1, h2⟩, h3⟩ := lksD_ok h
  refine ⟨?_, by rw [PyData.eqv]; exact h3⟩
  unfold SeqAt.shaped
  rw [Bool.and_eq_true_iff]
  refine ⟨by rw [PyData.canLay0]; exact h1, decide_eq_true ?_⟩
  rw [PyData.depth]
  omega
/-! ### the law's own first paths -/
/-- a pair of a path and a name -/
def PrAt (H : Hp) (q : Addr × List Str × Nat) : Prop := ∃ t : Addr, H q.1 = some (.tup [.ref t, nV q.2.2]) ∧ RwAt H t q.2.1
theorem PrAt.kt {H H' : Hp} {q : Addr × List Str × Nat} (h : PrAt H q) (k : KT H H') : PrAt H' q := by
  obtain ⟨t, h1, h2⟩ := h
  exact ⟨t, k _ _ h1, k _ _ h2⟩
def spLFirst (K : PySem.W.Frag) : Sp := fun vs H Q _ => ∃ (th hl pk : Addr) (cs : List (Addr × Ct)) (hs : List Nat) (us : List Str) (u : Nat), vs = [.ref th, .ref hl, nV u, .ref pk] ∧ ThAt H th cs ∧ cs.length ≤ 400 ∧ H hl = some (.lst (hs.map nV)) ∧ UsAt K H pk us ∧ (∀ l ∈ us, PyData.strOk l = true) ∧ isV cs u ∧ TrOk cs ∧
  ∀ (H' : Hp) (L : Addr) (ls : List (Nat × List Str)), Same H H' → H L = none → LksAt H' L ls → (ls.map (·.1)).Pairwise (· < ·) → (∀ x, x ∈ ls ↔ x ∈ lackG cs hs us u) → Q (.ref L) H'
theorem FdP.put {H H1 : Hp} {fo t : Addr} {fs : List (Nat × Addr × List Str)} {n : Nat} {path : List Str} {N : Nat} (F : FdP H fo fs) (hin : n ∉ fs.map (·.1)) (hpt : RwAt H t path) (e1 : H1 fo = some (.dK (putK (fs.map fun q => ((Sum.inl (q.1 : Int) : Key), V.ref q.2.1)) (Sum.inl (n : Int)) (.ref t)))) (t1 : KT H H1) (nd : (fs.map (·.1)).Nodup) (hlt : ∀ z ∈ fs, z.1 < N) (hn : n < N) :
    FdP H1 fo (fs ++ [(n, t, path)]) ∧ fdF (fs ++ [(n, t, path)]) = fdF fs ++ [(n, path)] ∧ ((fs ++ [(n, t, path)]).map (·.1)).Nodup ∧ ∀ z ∈ fs ++ [(n, t, path)], z.1 < N := by
  refine ⟨⟨?_, fun z hz => ?_⟩, by unfold fdF; rw [List.map_append]; rfl, ?_, fun z hz => ?_⟩
  · rw [e1]
    unfold putK
    rw [if_neg (fun z => hin ?_)]
    · rw [List.map_append]
      rfl
    · rw [List.any_eq_true] at z
      obtain ⟨kv, hkv, e⟩ := z
      obtain ⟨y, hy, rfl⟩ := List.mem_map.mp hkv
      have e2 := Sum.inl.inj (of_decide_eq_true e)
      exact List.mem_map.mpr ⟨y, hy, by omega⟩
  · rcases List.mem_append.mp hz with h | h
    · exact t1 _ _ (F.pt z h)
    · rw [List.mem_singleton.mp h]
      exact t1 _ _ hpt
  · rw [List.map_append, List.nodup_append]
    refine ⟨nd, by simp, fun a ha b hb => ?_⟩
    have : b = n := by simpa using hb
    rw [this]
    intro e
    exact hin (by rw [← e]; exact ha)
  · rcases List.mem_append.mp hz with h | h
    · exact hlt z h
    · rw [List.mem_singleton.mp h]
      exact hn
section
variable {P : Program} {w : World} {K : PySem.W.Frag} {mg : Str → Option Value} {base : Heap}
theorem ok_lfirst {f : Addr} {fd : FuncData} (T : Txt K mg) (F : Fun K "_law_first_paths" "_law_first_paths" s_law_first_paths f fd) : FnOk P w K mg base CX0 2 f fd ["_law_things", "_law_held_here", "_law_version", "_law_picks_here"] (spLFirst K) := by
  refine F.ok sc_law_first_paths (fun vs H Q E h => ?_) (fun cdv A outer s H vs Q E hr h => ?_)
  · obtain ⟨th, hl, pk, cs, hs, us, u, rfl, _⟩ := h
    rfl
  · obtain ⟨th, hl, pk, cs, hs, us, u, rfl, T0, hcl, ehl, hpk, hus, iv, tr, q⟩ := h
    have hu := hu_of hr
    have hth := T0.at'
    obtain ⟨av, st, env⟩ := iv.root
    have hr0 := tr.root u iv
    obtain ⟨ar, er⟩ := hr0.1.at
    have hrl := (List.getElem?_eq_some_iff.mp er).1
    obtain ⟨rp, ev, hrp⟩ := (show CtAt H av (.ver (pars cs u) (rootV cs u) st) from T0.ct _ (List.mem_of_getElem? env))
    have atv : atI (cs.map fun q => V.ref q.1) (u : Int) = some (.ref av) := atI_nat (by rw [List.getElem?_map, env]; rfl)
    have at2 : atI [V.str "version", .ref rp, nV (rootV cs u), nV st] 2 = some (nV (rootV cs u)) := rfl
    refine ⟨_,
      (pss_cons
        (ps_set (i := 4) sc_law_first_paths.nd rfl (.inl rfl) (pe_ix (r := rIxT K) ix_tup (pe_ix (r := rIxL K) ix_list (pv 0) (pv 2) (fun _ _ => rfl)) pe_int (fun _ _ => rfl)))
      (pss_cons
        (ps_if (pt_cmpR (r := rIn K true) op_notIn_seq (pv 2) (pv 1) rfl)
          (pss_one
            (ps_ret (pe_lst (pa_cons (pe_tup (pa_cons (pv 2) (pa_cons (pe_tup pa_nil) pa_nil))) pa_nil))))
          pss_nil)
      (pss_cons
        (ps_if (pt_cmpR (r := rIn K true) op_notIn_seq (pv 4) (pv 1) rfl)
          (pss_one
            (ps_ret (pe_lst (pa_cons (pe_tup (pa_cons (pv 4) (pa_cons (pe_tup pa_nil) pa_nil))) pa_nil))))
          pss_nil)
      (pss_cons
        (ps_set (i := 5) sc_law_first_paths.nd rfl (.inr rfl) pe_dnewK)
      (pss_cons
        (ps_set (i := 6) sc_law_first_paths.nd rfl (.inl rfl) (pe_revL (pe_lc (own := [("_law_label_here", 9), ("_law_name", 8)]) (g := (gTup K 2 (gCons (gName 9) (gCons (gName 8) gNil)))) rfl sc_law_first_paths.nd (pi_tup (pe_ix (r := rIxT K) ix_tup (pe_ix (r := rIxL K) ix_list (pv 0) (pv 4) (fun _ _ => rfl)) pe_int (fun _ _ => rfl))) (blkOk_by (own := [("_law_label_here", 9), ("_law_name", 8)]) (N := N_law_first_paths) (sc := defScope s_law_first_paths) (by decide +kernel)) (fun _ _ _ _ _ => (pg_tup rfl (pgs_cons (pg_name (i := 9) sc_law_first_paths.nd rfl (.inl rfl)) (pgs_cons (pg_name (i := 8) sc_law_first_paths.nd rfl (.inl rfl)) pgs_nil)))) (fun _ _ _ _ _ => (pts_one (PW.pt (pw_or (pt_cmpR (r := rEqD K) (op_eqD hr.units) (pv 3) (pe_tup pa_nil) (nomark _)) (pw_or1 (pt_cmpR (r := rIn K false) op_in_seq (pv 9) (pv 3) rfl)))))) (fun _ _ _ _ _ => (pe_tup (pa_cons (pe_tup (pa_cons (pv 9) pa_nil)) (pa_cons (pv 8) pa_nil))))) (pe_un un_neg pe_int)))
      (pss_cons
        (ps_while PassesOwn.never (pt_cmpR op_gt (pe_callB (r := rLen K) c_len (by rfl) T.n_len (by decide +kernel) (pa_cons (pv 6) pa_nil)) pe_int (nomark _))
          (pss_cons
            (ps_asg (pe_bm0 PySem.F.plainAttrs_list PySem.F.slot_list_pop PySem.F.type_list_pop mt_pop (pv 6)) (pg_tup rfl (pgs_cons (pg_name (i := 7) sc_law_first_paths.nd rfl (.inr rfl)) (pgs_cons (pg_name (i := 8) sc_law_first_paths.nd rfl (.inl rfl)) pgs_nil))))
          (pss_one
            (ps_if (pt_cmp (pc_dnotin hu (pv 8) (pv 5)))
              (pss_cons
                (ps_dput hu (pv 5) (pv 8) (pv 7) rfl)
              (pss_one
                (ps_if (PW.pt (pw_and (pt_cmpR (r := rIn K false) op_in_seq (pv 8) (pv 1) rfl) (pw_and1 (pt_cmpR op_eq (pe_ix (r := rIxT K) ix_tup (pe_ix (r := rIxL K) ix_list (pv 0) (pv 8) (fun _ _ => rfl)) pe_int (fun _ _ => rfl)) pe_str (nomark _)))))
                  (pss_one
                    (ps_expr (pe_bm PySem.F.plainAttrs_list PySem.F.slot_list_extend PySem.F.type_list_extend mt_extend (pv 6) (pa_cons (pe_revL (pe_lc (own := [("_law_label_here", 9), ("_law_part", 10)]) (g := (gTup K 2 (gCons (gName 9) (gCons (gName 10) gNil)))) rfl sc_law_first_paths.nd (pi_tup (pe_ix (r := rIxT K) ix_tup (pe_ix (r := rIxL K) ix_list (pv 0) (pv 8) (fun _ _ => rfl)) pe_int (fun _ _ => rfl))) (blkOk_by (own := [("_law_label_here", 9), ("_law_part", 10)]) (N := N_law_first_paths) (sc := defScope s_law_first_paths) (by decide +kernel)) (fun _ _ _ _ _ => (pg_tup rfl (pgs_cons (pg_name (i := 9) sc_law_first_paths.nd rfl (.inl rfl)) (pgs_cons (pg_name (i := 10) sc_law_first_paths.nd rfl (.inl rfl)) pgs_nil)))) (fun _ _ _ _ _ => pts_nil) (fun _ _ _ _ _ => (pe_tup (pa_cons (pe_op (r := rCatA K) op_catA (pv 7) (pe_tup (pa_cons (pv 9) pa_nil))) (pa_cons (pv 10) pa_nil))))) (pe_un un_neg pe_int)) pa_nil))))
                  pss_nil)))
              pss_nil))))
      (pss_one
        (ps_ret (pe_lc (own := [("_law_name", 8)]) (g := (gName 8)) rfl sc_law_first_paths.nd (pi_list (pe_callB (c_sortA rfl) (by rfl) T.n_sorted (by decide +kernel) (pa_cons (pv 5) pa_nil))) (blkOk_by (own := [("_law_name", 8)]) (N := N_law_first_paths) (sc := defScope s_law_first_paths) (by decide +kernel)) (fun _ _ _ _ _ => (pg_name (i := 8) sc_law_first_paths.nd rfl (.inl rfl))) (fun _ _ _ _ _ => (pts_one (pt_cmpR (r := rIn K true) op_notIn_seq (pv 8) (pv 1) rfl))) (fun _ _ _ _ _ => (pe_tup (pa_cons (pv 8) (pa_cons (pe_dget hu (pv 5) (pv 8) (fun _ _ => rfl)) pa_nil)))))))))))))
      , ?_⟩
    rw [show L2.start N_law_first_paths [V.ref th, V.ref hl, nV u, V.ref pk] = [some (.ref th), some (.ref hl), some (.int (u : Int)), some (.ref pk), none, none, none, none, none, none, none] from rfl]
    walk_at "x"
    refine w_seq ?_
    walk_at "g"
    refine w_ninNL ehl ?_
    by_cases h1 : u ∈ hs
    rotate_left
    · rw [decide_eq_false h1]
      walk_at "g"
      refine w_new fun t1 H1 ht1 e1 k1 => ?_
      walk_at "g"
      refine w_new fun t2 H2 ht2 e2 k2 => ?_
      walk_at "g"
      refine w_new fun L H3 hL e3 k3 => ?_
      refine q H3 L [(u, [])] (Same.trans k1 (Same.trans k2 k3)) ((Same.trans k1 k2).free hL) ⟨[(t2, t1, u, [])], e3, rfl, fun z hz => ?_⟩ (by simp) fun x => ?_
      · rw [List.mem_singleton.mp hz]
        exact ⟨k3 _ _ e2, k3 _ _ (k2 _ _ e1)⟩
      · unfold lackG
        rw [if_neg h1]
    rw [decide_eq_true h1]
    walk_at "g"
    refine w_seq ?_
    walk_at "g"
    refine w_ninNL ehl ?_
    by_cases h2 : rootV cs u ∈ hs
    rotate_left
    · rw [decide_eq_false h2]
      walk_at "g"
      refine w_new fun t1 H1 ht1 e1 k1 => ?_
      walk_at "g"
      refine w_new fun t2 H2 ht2 e2 k2 => ?_
      walk_at "g"
      refine w_new fun L H3 hL e3 k3 => ?_
      refine q H3 L [(rootV cs u, [])] (Same.trans k1 (Same.trans k2 k3)) ((Same.trans k1 k2).free hL) ⟨[(t2, t1, rootV cs u, [])], e3, rfl, fun z hz => ?_⟩ (by simp) fun x => ?_
      · rw [List.mem_singleton.mp hz]
        exact ⟨k3 _ _ e2, k3 _ _ (k2 _ _ e1)⟩
      · unfold lackG
        rw [if_pos h1, if_neg h2]
    rw [decide_eq_true h2]
    walk_at "g"
    refine w_new fun fo H1 hfo e1 k1 => ?_
    have T1 := T0.same k1
    have hth1 := T1.at'
    obtain ⟨r', qs, g1, g2, g3, g4⟩ := (show CtAt H1 ar (.tree (ents cs (rootV cs u))) from T1.ct _ (List.mem_of_getElem? er))
    have atr : atI (cs.map fun q => V.ref q.1) ((rootV cs u : Nat) : Int) = some (.ref ar) := atI_nat (by rw [List.getElem?_map, er]; rfl)
    have at1 : atI [V.str "tree", .ref r'] 1 = some (.ref r') := rfl
    have hql : qs.length ≤ 20 := by
      have := tr.few (rootV cs u)
      rw [← g3, List.length_map] at this
      exact this
    walk_at "g"
    refine lcp_accH (walk_tup (K := K) (a := r') (xs := qs.map fun q => V.ref q.1)) [] (fun i acc H' => ∃ zs : List (Addr × List Str × Nat), acc = zs.map (fun q => V.ref q.1) ∧ zs.length ≤ i ∧ (∀ z ∈ zs, PrAt H' z) ∧ zs.map (·.2) = (((ents cs (rootV cs u)).take i).filter fun e => pick us e.1).map fun e => ([e.1], e.2)) (by rw [List.length_map]; omega) ?_ (fun i H' k => by first | exact (g2.kt (KT.of k.same)).sq | exact .of (k _ _ (by simp) g2)) ⟨[], rfl, Nat.le_refl 0, by simp, by simp⟩ ?_ ?_ (by simp) ?_
    · rintro i acc Ha Hb kt ⟨zs, e, hl, h3, h4⟩
      exact ⟨zs, e, hl, fun z hz => (h3 z hz).kt kt, h4⟩
    · rintro i acc Ha ⟨zs, rfl, hl, _⟩
      rw [List.length_map]
      exact hl
    · rintro i x Ha Hb acc R R0 hi ka ta ⟨zs, rfl, hl, h3, h4⟩ ⟨rfl, hx⟩ hR hR0
      obtain ⟨z, hz, rfl⟩ := map_at hx
      have ez := ka.same _ _ (g4 z (List.mem_of_getElem? hz))
      have ua := (hpk.kt (KT.of k1)).kt (KT.of ka.same)
      have etk : (ents cs (rootV cs u)).take (i + 1) = (ents cs (rootV cs u)).take i ++ [z.2] := by rw [List.take_add_one, ← g3, List.getElem?_map, hz]; rfl
      have add : ∀ Hc, Same Hb Hc → pick us z.2.1 = true → ∀ c1 Hd a He, Hd c1 = some (.tup [V.str z.2.1]) → Same Hc Hd → He a = some (.tup [.ref c1, nV z.2.2]) → Same Hd He → R (.ref a) He := fun Hc kc hp c1 Hd a He ec kd ea ke => by
        have kk := Same.trans kc (Same.trans kd ke)
        refine hR _ _ ⟨zs ++ [(a, [z.2.1], z.2.2)], by rw [List.map_append]; rfl, by rw [List.length_append]; simp only [List.length_cons, List.length_nil]; omega, fun y hy => ?_, ?_⟩ (Kp.of kk) (KT.of kk)
        · rcases List.mem_append.mp hy with h | h
          · exact (h3 y h).kt (KT.of kk)
          · rw [List.mem_singleton.mp h]
            exact ⟨c1, ea, ke _ _ ec⟩
        · rw [List.map_append, h4, etk, List.filter_append, List.filter_cons_of_pos (by exact hp), List.filter_nil, List.map_append]
          rfl
      refine w_gtup (K := K) (.of ez) rfl (w_gcons (w_name (w_gcons (w_name (w_gnil ⟨rfl, ?_⟩)))))
      walk_at "g"
      refine w_new fun e0 Hc he0 ec kc => ?_
      refine w_eqNoUs (ua.kt (KT.of kc)).sq hus ec ?_
      walk_at "g"
      by_cases hn : us = []
      · rw [decide_eq_true hn]
        walk_at "g"
        refine w_new fun c1 Hd hc1 ec1 kd => ?_
        walk_at "g"
        refine w_new fun a He ha ea ke => ?_
        exact add Hc kc (by unfold pick; rw [decide_eq_true hn]; rfl) c1 Hd a He ec1 kd ea ke
      rw [decide_eq_false hn]
      walk_at "g"
      refine w_inUs (ua.kt (KT.of kc)).sq ?_
      by_cases hlu : z.2.1 ∈ us
      · rw [decide_eq_true hlu]
        walk_at "g"
        refine w_new fun c1 Hd hc1 ec1 kd => ?_
        walk_at "g"
        refine w_new fun a He ha ea ke => ?_
        exact add Hc kc (by unfold pick; rw [decide_eq_true hlu, Bool.or_true]) c1 Hd a He ec1 kd ea ke
      · rw [decide_eq_false hlu]
        walk_at "g"
        refine hR0 _ ⟨zs, rfl, by omega, fun y hy => (h3 y hy).kt (KT.of kc), ?_⟩ (Kp.of kc) (KT.of kc)
        rw [h4, etk, List.filter_append, List.filter_cons_of_neg (by unfold pick; rw [decide_eq_false hlu, decide_eq_false hn]; simp), List.filter_nil, List.append_nil]
    rintro L1 H2 acc ⟨zs, rfl, hzl, h3, h4⟩ hL1 k2 t2 eL1
    rw [List.length_map] at hzl
    rw [List.length_map, show (ents cs (rootV cs u)).take qs.length = ents cs (rootV cs u) by rw [List.take_of_length_le (by rw [← g3, List.length_map]; exact Nat.le_refl _)]] at h4
    walk_at "g"
    refine w_revL' eL1 fun rl H3 hrl erl k3 => ?_
    rw [← List.map_reverse] at erl
    have k12 : Same H1 H3 := Same.trans k2.same k3
    have k03 : Same H H3 := Same.trans k1 k12
    have efo3 := k12 _ _ e1
    have hrl0 : H rl = none := (Same.trans k1 k2.same).free hrl
    have nfr : fo ≠ rl := ne_of_none (k2.same _ _ e1) hrl
    have hzm : zs.reverse.map (·.2) = (st0D cs us (rootV cs u)).reverse := by rw [List.map_reverse, h4]; rfl
    walk_at "g"
    refine w_whileN (fun m σ H' => ∃ (y7 y8 : Option V) (fs : List (Nat × Addr × List Str)) (rs : List (Addr × List Str × Nat)), σ = [some (.ref th), some (.ref hl), some (.int (u : Int)), some (.ref pk), some (nV (rootV cs u)), some (.ref fo), some (.ref rl), y7, y8, none, none] ∧ m = (cs.length - fs.length) * 25 + rs.length ∧ Kp [fo, rl] H3 H' ∧ KT H3 H' ∧ FdP H' fo fs ∧ (fs.map (·.1)).Nodup ∧ (∀ z ∈ fs, z.1 < cs.length) ∧ H' rl = some (.lst (rs.map fun q => V.ref q.1)) ∧ (∀ z ∈ rs, PrAt H' z ∧ z.2.1.length + z.2.2 < cs.length) ∧ runD cs hs cs.length (rs.map (·.2)) (fdF fs) = lackF cs hs us (ents cs (rootV cs u)) ∧ rs.length ≤ 20 + 20 * fs.length) _ ⟨_, _, [], zs.reverse, rfl, rfl, Kp.refl, KT.refl, ⟨efo3, by simp⟩, by simp, by simp, erl, fun z hz => ?_, by rw [hzm]; exact runD_start tr _, by rw [List.length_reverse]; simp only [List.length_nil]; omega⟩ ?_
    · have hz' := List.mem_reverse.mp hz
      refine ⟨(h3 z hz').kt (KT.of k3), ?_⟩
      have : z.2 ∈ zs.map (·.2) := List.mem_map_of_mem hz'
      rw [h4] at this
      obtain ⟨e, he, e2⟩ := List.mem_map.mp this
      have hl := tr.low _ e (List.mem_filter.mp he).1
      rw [← e2]
      show [e.1].length + e.2 < _
      simp only [List.length_cons, List.length_nil]
      omega
    rintro m σ H5 ⟨y7, y8, fs, rs, rfl, rfl, k5, t5, F5, nd5, lt5, er5, pr5, run5, big5⟩
    have hfl : fs.length ≤ cs.length := by
      have h1 := nodup_leG nd5 fun x hx => by
        obtain ⟨z, hz, rfl⟩ := List.mem_map.mp hx
        exact lt5 z hz
      rw [List.length_map] at h1
      exact h1
    have s5 : Same H H5 := fun b o e => k5 _ _ (by simpa using ⟨ne_of_none e hfo, ne_of_none e hrl0⟩) (k03 _ _ e)
    have eF5 := F5.at'
    walk_at "g"
    rcases List.eq_nil_or_concat rs with rfl | ⟨qi, zq, e⟩
    · refine w_no (by simp) ?_
      have e9 : fdF fs = lackF cs hs us (ents cs (rootV cs u)) := run5
      walk_at "g"
      refine w_fsort (F5.fat nd5 lt5 (by omega)) fun ns so H10 hup hmn hnl2 hso e10 k10 => ?_
      walk_at "g"
      try refine w_itL' (.of e10) ?_
      refine lcp_accH (walk_list (K := K) (a := so) (xs := ns.map nV)) [] (fun i acc H' => ∃ qs' : List (Addr × Addr × Nat × List Str), acc = qs'.map (fun q => V.ref q.1) ∧ qs'.length ≤ i ∧ (∀ q ∈ qs', H' q.1 = some (.tup [nV q.2.2.1, .ref q.2.1]) ∧ RwAt H' q.2.1 q.2.2.2 ∧ q.2.2 ∈ fdF fs) ∧ qs'.map (·.2.2.1) = (ns.take i).filter fun n => decide (n ∉ hs)) (by rw [List.length_map]; omega) ?_ (fun i H' k => .of (k _ _ (by simp) e10)) ⟨[], rfl, Nat.le_refl 0, by simp, by simp⟩ ?_ ?_ (by simp) ?_
      · rintro i acc Ha Hb kt ⟨qs', e, hl, g1, g2⟩
        exact ⟨qs', e, hl, fun z hz => ⟨kt _ _ (g1 z hz).1, kt _ _ (g1 z hz).2.1, (g1 z hz).2.2⟩, g2⟩
      · rintro i acc Ha ⟨qs', rfl, hl, _⟩
        rw [List.length_map]
        exact hl
      · rintro i x Ha Hb acc R R0 hi ka ta ⟨qs', rfl, hl, g1, g2⟩ ⟨rfl, hx⟩ hR hR0
        obtain ⟨n, hn, rfl⟩ := map_at hx
        have etk : ns.take (i + 1) = ns.take i ++ [n] := by rw [List.take_add_one, hn]; rfl
        have k9a := Same.trans k10 ka.same
        obtain ⟨y, hy, ey⟩ := List.mem_map.mp ((hmn n).mp (List.mem_of_getElem? hn))
        have eFa := k9a _ _ F5.at'
        have ehla := k9a _ _ (s5 _ _ ehl)
        refine w_name ⟨rfl, ?_⟩
        walk_at "g"
        refine w_ninNL ehla ?_
        by_cases hh : n ∈ hs
        · rw [decide_eq_true hh]
          walk_at "g"
          refine hR0 _ ⟨qs', rfl, by omega, g1, ?_⟩ Kp.refl KT.refl
          rw [g2, etk, List.filter_append, List.filter_cons_of_neg (by simpa using hh), List.filter_nil, List.append_nil]
        · rw [decide_eq_false hh]
          walk_at "g"
          subst ey
          refine w_dgetI eFa (fd_get _ nd5 y hy) ?_
          walk_at "g"
          refine w_new fun a Hc ha ea kc => ?_
          refine hR _ _ ⟨qs' ++ [(a, y.2.1, y.1, y.2.2)], by rw [List.map_append]; rfl, by rw [List.length_append]; simp only [List.length_cons, List.length_nil]; omega, fun z hz => ?_, ?_⟩ (Kp.of kc) (KT.of kc)
          · rcases List.mem_append.mp hz with g | g
            · exact ⟨kc _ _ (g1 z g).1, kc _ _ (g1 z g).2.1, (g1 z g).2.2⟩
            · rw [List.mem_singleton.mp g]
              exact ⟨ea, kc _ _ (k9a _ _ (F5.pt y hy)), List.mem_map.mpr ⟨y, hy, rfl⟩⟩
          · rw [List.map_append, g2, etk, List.filter_append, List.filter_cons_of_pos (by simpa using hh)]
            rfl
      · rintro l H11 acc ⟨qs', rfl, _, g1, g2⟩ hl k11 t11 el
        rw [List.length_map, List.take_length] at g2
        have s11 : Same H H11 := Same.trans s5 (Same.trans k10 k11.same)
        have ndF : ((fdF fs).map (·.1)).Nodup := by
          have := fdF_nm fs
          unfold nmF at this
          rw [this]
          exact nd5
        refine q H11 l (qs'.map (·.2.2)) s11 ((Same.trans s5 k10).free hl) ⟨qs', el, rfl, fun z hz => ⟨(g1 z hz).1, (g1 z hz).2.1⟩⟩ ?_ fun x => ?_
        · rw [List.map_map]
          show (qs'.map (·.2.2.1)).Pairwise _
          rw [g2]
          exact hup.filter _
        · unfold lackG
          rw [if_pos h1, if_pos h2, ← e9, List.mem_filter]
          constructor
          · intro hx
            obtain ⟨z, hz, rfl⟩ := List.mem_map.mp hx
            refine ⟨(g1 z hz).2.2, ?_⟩
            have : z.2.2.1 ∈ qs'.map (·.2.2.1) := List.mem_map_of_mem hz
            rw [g2] at this
            exact (List.mem_filter.mp this).2
          · rintro ⟨hx, hx2⟩
            have hn : x.1 ∈ ns := (hmn x.1).mpr (by
              obtain ⟨y, hy, e⟩ := List.mem_map.mp hx
              rw [← e]
              exact List.mem_map_of_mem hy)
            have : x.1 ∈ qs'.map (·.2.2.1) := by
              rw [g2]
              exact List.mem_filter.mpr ⟨hn, hx2⟩
            obtain ⟨z, hz, e⟩ := List.mem_map.mp this
            have := nd_pair _ ndF _ (g1 z hz).2.2 _ hx e
            rw [← this]
            exact List.mem_map_of_mem hz
    rw [List.concat_eq_append] at e
    subst e
    have hrl : (qi ++ [zq]).length = qi.length + 1 := by rw [List.length_append]; rfl
    rw [hrl] at big5
    have er5' : H5 rl = some (.lst ((qi.map fun q => V.ref q.1) ++ [V.ref zq.1])) := by rw [er5, List.map_append]; rfl
    obtain ⟨⟨tz, ez, etz⟩, zlen⟩ := pr5 zq (by simp)
    rw [List.map_append] at run5
    have run5 : runD cs hs cs.length (qi.map (·.2) ++ [zq.2]) (fdF fs) = lackF cs hs us (ents cs (rootV cs u)) := run5
    refine w_yes (by first | (simp; omega) | simp) ?_
    first | refine w_turn ?_ | skip
    walk_at "g"
    refine w_pop er5' fun H7 e7 o7 => ?_
    have t57 := KT.off o7 er5'
    have eF7 := o7.get nfr eF5
    have k57 : Kp [fo, rl] H5 H7 := o7.kp (by simp)
    have s7 : Same H H7 := fun c o e => o7.get (ne_of_none e hrl0) (s5 _ _ e)
    have F7 : FdP H7 fo fs := ⟨eF7, fun z hz => t57 _ _ (F5.pt z hz)⟩
    refine w_gtup (K := K) (.of (t57 _ _ ez)) rfl (w_gcons (w_name (w_gcons (w_name (w_gnil ?_)))))
    walk_at "g"
    try refine w_dnotinI eF7 ?_
    rw [FdP.val]
    by_cases hin : zq.2.2 ∈ fs.map (·.1)
    · rw [decide_eq_true hin]
      walk_at "g"
      refine ⟨_, ?_, _, _, fs, qi, rfl, rfl, k5.trans k57, t5.trans t57, F7, nd5, lt5, e7, fun z hz => ⟨(pr5 z (List.mem_append.mpr (.inl hz))).1.kt t57, (pr5 z (List.mem_append.mpr (.inl hz))).2⟩, ?_, by omega⟩
      · rw [hrl]
        omega
      · rw [← run5, runD_in (by omega) (by rw [fdF_nm]; exact hin)]
    rw [decide_eq_false hin]
    walk_at "g"
    refine w_dputI eF7 (small2000 (by rw [List.length_map]; omega)) fun H8 e8 o8 => ?_
    have t78 : KT H7 H8 := ⟨fun c xs e => o8.get (ne_of e eF7 (fun z => nomatch z)) e, fun c _ xs e => o8.get (ne_of e eF7 (fun z => nomatch z)) e⟩
    obtain ⟨F8, fd8, nd8, lt8⟩ := F7.put hin (t57 _ _ etz) e8 t78 nd5 lt5 (show zq.2.2 < cs.length by omega)
    have hfl' : fs.length + 1 ≤ cs.length := by
      have h1 := nodup_leG nd8 fun x hx => by
        obtain ⟨z, hz, rfl⟩ := List.mem_map.mp hx
        exact lt8 z hz
      rw [List.length_map, List.length_append] at h1
      exact h1
    have er8 := o8.get nfr.symm e7
    have t58 := t57.trans t78
    have k58 : Kp [fo, rl] H5 H8 := k57.trans (o8.kp (by simp))
    have s8 : Same H H8 := fun c o e => o8.get (ne_of_none e hfo) (s7 _ _ e)
    have T8 := T0.same s8
    have hth8 := T8.at'
    have zlt : zq.2.2 < cs.length := by omega
    have hget : cs[zq.2.2]? = some ((cs[zq.2.2]).1, (cs[zq.2.2]).2) := List.getElem?_eq_getElem zlt
    have atz : atI (cs.map fun q => V.ref q.1) (zq.2.2 : Int) = some (.ref (cs[zq.2.2]).1) := atI_nat (by rw [List.getElem?_map, hget]; rfl)
    have hct := T8.ct _ (List.mem_of_getElem? hget)
    have runN : runD cs hs cs.length (qi.map (·.2) ++ (kidsD cs hs zq.2).reverse) (fdF (fs ++ [(zq.2.2, tz, zq.2.1)])) = lackF cs hs us (ents cs (rootV cs u)) := by
      rw [fd8, ← run5, runD_out tr zlt (by rw [fdF_nm]; exact hin)]
    have fsl : (fs ++ [(zq.2.2, tz, zq.2.1)]).length = fs.length + 1 := by rw [List.length_append]; rfl
    have stop : kidsD cs hs zq.2 = [] → ∃ m', m' < (cs.length - fs.length) * 25 + (qi ++ [zq]).length ∧ ∃ (y7 y8 : Option V) (fs' : List (Nat × Addr × List Str)) (rs : List (Addr × List Str × Nat)), [some (V.ref th), some (.ref hl), some (.int (u : Int)), some (.ref pk), some (nV (rootV cs u)), some (.ref fo), some (.ref rl), some (.ref tz), some (nV zq.2.2), none, none] = [some (.ref th), some (.ref hl), some (.int (u : Int)), some (.ref pk), some (nV (rootV cs u)), some (.ref fo), some (.ref rl), y7, y8, none, none] ∧ m' = (cs.length - fs'.length) * 25 + rs.length ∧ Kp [fo, rl] H3 H8 ∧ KT H3 H8 ∧ FdP H8 fo fs' ∧ (fs'.map (·.1)).Nodup ∧ (∀ z ∈ fs', z.1 < cs.length) ∧ H8 rl = some (.lst (rs.map fun q => V.ref q.1)) ∧ (∀ z ∈ rs, PrAt H8 z ∧ z.2.1.length + z.2.2 < cs.length) ∧ runD cs hs cs.length (rs.map (·.2)) (fdF fs') = lackF cs hs us (ents cs (rootV cs u)) ∧ rs.length ≤ 20 + 20 * fs'.length := fun hk => by
      rw [hk, List.reverse_nil, List.append_nil] at runN
      refine ⟨_, ?_, _, _, _, qi, rfl, rfl, k5.trans k58, t5.trans t58, F8, nd8, lt8, er8, fun z hz => ⟨(pr5 z (List.mem_append.mpr (.inl hz))).1.kt t58, (pr5 z (List.mem_append.mpr (.inl hz))).2⟩, runN, by rw [fsl]; omega⟩
      rw [hrl, fsl]
      omega
    walk_at "g"
    refine w_inNL (s8 _ _ ehl) ?_
    by_cases hh : zq.2.2 ∈ hs
    rotate_left
    · rw [decide_eq_false hh]
      walk_at "g"
      exact stop (by unfold kidsD; rw [if_neg hh])
    rw [decide_eq_true hh]
    walk_at "g"
    cases hc : (cs[zq.2.2]).2 with
    | ver ps r s =>
      rw [hc] at hct
      obtain ⟨r2, f1, f2⟩ := hct
      have at0 : atI [V.str "version", .ref r2, nV r, nV s] 0 = some (.str "version") := rfl
      walk_at "g"
      refine w_no (show Str.ofString "version" ≠ Str.ofString "tree" by decide +kernel) ?_
      walk_at "g"
      exact stop (by unfold kidsD ents; rw [if_pos hh, hget, hc]; rfl)
    | leaf rows =>
      rw [hc] at hct
      obtain ⟨r2, f1, f2⟩ := hct
      have at0 : atI [V.str "leaf", .ref r2] 0 = some (.str "leaf") := rfl
      walk_at "g"
      refine w_no (show Str.ofString "leaf" ≠ Str.ofString "tree" by decide +kernel) ?_
      walk_at "g"
      exact stop (by unfold kidsD ents; rw [if_pos hh, hget, hc]; rfl)
    | tree es =>
      rw [hc] at hct
      obtain ⟨r2, qe, f1, f2, f3, f4⟩ := hct
      have at0 : atI [V.str "tree", .ref r2] 0 = some (.str "tree") := rfl
      have at1 : atI [V.str "tree", .ref r2] 1 = some (.ref r2) := rfl
      have eent : ents cs zq.2.2 = qe.map (·.2) := by unfold ents; rw [hget, hc]; exact f3.symm
      have hqe : qe.length ≤ 20 := by
        have := tr.few zq.2.2
        rw [eent, List.length_map] at this
        exact this
      walk_at "g"
      refine w_yes rfl ?_
      walk_at "g"
      refine lcp_accH (walk_tup (K := K) (a := r2) (xs := qe.map fun q => V.ref q.1)) [] (fun i acc H' => ∃ zs : List (Addr × List Str × Nat), acc = zs.map (fun q => V.ref q.1) ∧ zs.length ≤ i ∧ (∀ z ∈ zs, PrAt H' z) ∧ zs.map (·.2) = ((ents cs zq.2.2).take i).map fun e => (zq.2.1 ++ [e.1], e.2)) (by rw [List.length_map]; omega) ?_ (fun i H' k => by first | exact (f2.kt (KT.of k.same)).sq | exact .of (k _ _ (by simp) f2)) ⟨[], rfl, Nat.le_refl 0, by simp, by simp⟩ ?_ ?_ (by simp) ?_
      · rintro i acc Ha Hb kt ⟨zs, e, hl, h3, h4⟩
        exact ⟨zs, e, hl, fun z hz => (h3 z hz).kt kt, h4⟩
      · rintro i acc Ha ⟨zs, rfl, hl, _⟩
        rw [List.length_map]
        exact hl
      · rintro i x Ha Hb acc R R0 hi ka ta ⟨zs, rfl, hl, h3, h4⟩ ⟨rfl, hx⟩ hR hR0
        obtain ⟨z, hz, rfl⟩ := map_at hx
        have ez2 := ka.same _ _ (f4 z (List.mem_of_getElem? hz))
        have etz2 : Hb tz = some (.tup (zq.2.1.map V.str)) := ka.same _ _ (t58 _ _ etz)
        have etk : (ents cs zq.2.2).take (i + 1) = (ents cs zq.2.2).take i ++ [z.2] := by rw [List.take_add_one, eent, List.getElem?_map, hz]; rfl
        refine w_gtup (K := K) (.of ez2) rfl (w_gcons (w_name (w_gcons (w_name (w_gnil ⟨rfl, ?_⟩)))))
        walk_at "g"
        refine w_new fun s1 A1 hs1 es1 ks1 => ?_
        walk_at "g"
        refine w_catAt (ks1 _ _ etz2) es1 (small2000 (by rw [List.length_map]; simp only [List.length_cons, List.length_nil]; omega)) fun c1 A2 ec1 ks2 => ?_
        walk_at "g"
        refine w_new fun a A3 ha ea ks3 => ?_
        rw [show zq.2.1.map V.str ++ [V.str z.2.1] = (zq.2.1 ++ [z.2.1]).map V.str by rw [List.map_append]; rfl] at ec1
        have kk := Same.trans ks1 (Same.trans ks2 ks3)
        refine hR _ _ ⟨zs ++ [(a, zq.2.1 ++ [z.2.1], z.2.2)], by rw [List.map_append]; rfl, by rw [List.length_append]; simp only [List.length_cons, List.length_nil]; omega, fun y hy => ?_, ?_⟩ (Kp.of kk) (KT.of kk)
        · rcases List.mem_append.mp hy with h | h
          · exact (h3 y h).kt (KT.of kk)
          · rw [List.mem_singleton.mp h]
            exact ⟨c1, ea, ks3 _ _ ec1⟩
        · rw [List.map_append, h4, etk, List.map_append]
          rfl
      rintro L9 H9 acc ⟨zs, rfl, hzl, h3, h4⟩ hL9 k9 t9 eL9
      rw [List.length_map] at hzl
      rw [List.length_map, show (ents cs zq.2.2).take qe.length = ents cs zq.2.2 by rw [List.take_of_length_le (by rw [eent, List.length_map]; exact Nat.le_refl _)]] at h4
      have hk : zs.map (·.2) = kidsD cs hs zq.2 := by rw [h4]; unfold kidsD; rw [if_pos hh]
      walk_at "g"
      refine w_revL' eL9 fun R9 H10 hR9 eR9 k10 => ?_
      rw [← List.map_reverse] at eR9
      have k810 : Same H8 H10 := Same.trans k9.same k10
      have er10 := k810 _ _ er8
      walk_at "g"
      refine w_extLF er10 eR9 (by rw [List.length_map, List.length_map, List.length_reverse]; exact Nat.le_trans (show qi.length + zs.length ≤ 20000 by omega) (by decide)) fun H11 e11 o11 => ?_
      have t811 : KT H8 H11 := (KT.of k810).trans (KT.off o11 er10)
      have F11 : FdP H11 fo (fs ++ [(zq.2.2, tz, zq.2.1)]) := ⟨o11.get nfr (k810 _ _ F8.at'), fun z hz => t811 _ _ (F8.pt z hz)⟩
      walk_at "g"
      refine ⟨_, ?_, _, _, _, qi ++ zs.reverse, rfl, rfl, (k5.trans k58).trans ((Kp.of k810).trans (o11.kp (by simp))), t5.trans (t58.trans t811), F11, nd8, lt8, by rw [e11, List.map_append], fun z hz => ?_, ?_, ?_⟩
      · rw [hrl, fsl, List.length_append, List.length_reverse]
        omega
      · rcases List.mem_append.mp hz with g | g
        · exact ⟨(pr5 z (List.mem_append.mpr (.inl g))).1.kt (t58.trans t811), (pr5 z (List.mem_append.mpr (.inl g))).2⟩
        · have g' := List.mem_reverse.mp g
          refine ⟨(h3 z g').kt ((KT.of k10).trans (KT.off o11 er10)), ?_⟩
          have : z.2 ∈ zs.map (·.2) := List.mem_map_of_mem g'
          rw [h4] at this
          obtain ⟨e, he, e2⟩ := List.mem_map.mp this
          have hl := tr.low _ e he
          rw [← e2]
          show (zq.2.1 ++ [e.1]).length + e.2 < _
          rw [List.length_append]
          simp only [List.length_cons, List.length_nil]
          omega
      · rw [List.map_append, List.map_reverse, hk]
        exact runN
      · rw [fsl, List.length_append, List.length_reverse]
        omega
end
/-! ### _law_lack, _law_good -/
def spLWhole : Sp := fun vs H Q _ => ∃ i : Int, vs = [.int i] ∧ Q (.bl true) H
def spLLack (P : Program) (w : World) (C CH : Addr) (TL : List (Addr × Str)) : Sp := fun vs H Q _ => ∃ (v dv p dx lc ld lg rw' hd t : Addr) (cs : List (Addr × Ct)) (ds hs : List Nat) (u m : Nat) (path : List Str), vs = [.ref v, nV u, .ref t] ∧ ViewAt P w C CH H v dv p dx lc ld lg rw' hd cs ds hs ∧ RwAt H t path ∧ path.length ≤ 1000 ∧ TrOk cs ∧ isV cs u ∧ LamX.Tabs TL H ∧ comeP cs (fun n => !decide (n ∈ hs)) u path = .lack m ∧
  ∀ H' : Hp, LamX.ExtN H H' → LamX.Tabs TL H' → Q (nV m) H'
def spLGood : Sp := fun vs H Q _ => ∃ (L : Addr) (ls : List (Nat × List Str)), vs = [.ref L] ∧ LksAt H L ls ∧ (∀ q ∈ ls, q.2.length ≤ 1000) ∧ ls.length ≤ 1000 ∧ ∀ H' : Hp, Same H H' → Q (.bl true) H'
section
variable {P : Program} {w : World} {K : PySem.W.Frag} {mg : Str → Option Value} {base : Heap} {C CH : Addr}
theorem ok_lwhole {f : Addr} {fd : FuncData} (T : Txt K mg) (F : Fun K "_law_whole" "_law_whole" s_law_whole f fd) : FnOk P w K mg base CX0 1 f fd ["_law_found"] spLWhole := by
  refine F.ok sc_law_whole (fun vs H Q E h => ?_) (fun cdv A outer s H vs Q E hr h => ?_)
  · obtain ⟨i, rfl, _⟩ := h
    rfl
  · obtain ⟨i, rfl, q⟩ := h
    refine ⟨_,
      (pss_one
        (ps_ret (pe_and (pe_callB (r := rIsi K) call_isi (by rfl) T.n_isinstance (by decide +kernel) (pa_cons (pv 0) (pa_cons (pe_bltn (v := .ty "int") (u := .type "int") (by rfl) T.n_int (by decide +kernel) rfl) pa_nil))) (pe_one (pe_not (pe_callB (r := rIsi K) call_isi (by rfl) T.n_isinstance (by decide +kernel) (pa_cons (pv 0) (pa_cons (pe_bltn (v := .ty "bool") (u := .type "bool") (by rfl) T.n_bool (by decide +kernel) rfl) pa_nil))))))))
      , ?_⟩
    rw [show L2.start N_law_whole [V.int i] = [some (.int i)] from rfl]
    walk_at "x"
    exact q
theorem ok_llack {f fP fLk C_NoName C_Lack C_NoPath : Addr} {fd fdP fdLk : FuncData} {TL : List (Addr × Str)} (T : Txt K mg) (F : Fun K "_law_lack" "_law_lack" s_law_lack f fd) (D_read : Df K mg "read" s_read ["view", "version", "path"] fP fdP) (G_read : FnOk P w K mg base (L2.CX P w) 8 fP fdP ["view", "version", "path"] (spRead P w C CH C_NoName C_Lack C_NoPath TL)) (X_Lack : ExnI K mg "Lack" C_Lack fLk fdLk ["self", "name"] ["name"]) (xm_Lack_Lack : PySem.W.exmOne K (.ref C_Lack) (.ref C_Lack) = some true) : FnOk P w K mg base CX0 9 f fd ["_law_view", "_law_version", "_law_path"] (spLLack P w C CH TL) := by
  have g_Lack := X_Lack.g
  refine F.ok sc_law_lack (fun vs H Q E h => ?_) (fun cdv A outer s H vs Q E hr h => ?_)
  · obtain ⟨v, dv, p, dx, lc, ld, lg, rw', hd, t, cs, ds, hs, u, m, path, rfl, _⟩ := h
    rfl
  · obtain ⟨v, dv, p, dx, lc, ld, lg, rw', hd, t, cs, ds, hs, u, m, path, rfl, W, ht, hpl, tr, iv, Tb, hc, q⟩ := h
    refine ⟨_,
      (pss_cons
        (ps_set (i := 3) sc_law_lack.nd rfl (.inl rfl) pe_non)
      (pss_cons
        (p_tryAs (i := 4) rfl rfl sc_law_lack.nd rfl rfl ⟨rfl, by decide, .inl g_Lack⟩ (fun W pn xe tk po =>
          (pss_one
            (ps_expr (pe_callS G_read (hr.mono (by omega)) (by rfl) D_read.g D_read.fn.kp D_read.b (fun σ => passAt tk σ) (pa_cons (pv 0) (pa_cons (pv 1) (pa_cons (pv 2) pa_nil)))))))
        (fun a oe cls d pn hz hf => pss_guard (P := cls = .ref C_Lack) (fun hg =>
          (pss_one
            (ps_set (i := 3) sc_law_lack.nd rfl (.inl rfl) (pe_xf X_Lack.f (X_Lack.nf "name" (by simp)) hz hf (pv 4)))))))
      (pss_one
        (ps_ret (pv 3)))))
      , ?_⟩
    rw [show L2.start N_law_lack [V.ref v, nV u, V.ref t] = [some (.ref v), some (.int (u : Int)), some (.ref t), none, none] from rfl]
    walk_at "x"
    refine w_seq ?_
    refine w_tryA ?_
    walk_at "g"
    refine ⟨v, dv, p, dx, lc, ld, lg, rw', hd, t, cs, ds, hs, (u : Int), path, rfl, W, ht, hpl, tr, Tb, fun H1 eN T1 => ⟨fun hno => absurd ⟨u, rfl, iv⟩ hno, fun u' eu _ => ?_⟩⟩
    obtain rfl : u = u' := by omega
    rw [hc]
    intro d H2 k2 hd2 e2
    refine ⟨true, xm_Lack_Lack, fun _ ea hea => ?_, fun z => nomatch z⟩
    refine w_guard rfl ?_
    walk_at "g"
    refine w_xf ?_
    walk_at "g"
    refine ⟨rfl, rfl, d, _, nV m, rfl, e2, rfl, ?_⟩
    walk_at "g"
    exact q H2 (eN.trans (LamX.ExtN.of k2)) (T1.ext k2)
theorem ok_lgood {f fW : Addr} {fd fdW : FuncData} (T : Txt K mg) (F : Fun K "_law_good" "_law_good" s_law_good f fd) (D_law_whole : Df K mg "_law_whole" s_law_whole ["_law_found"] fW fdW) : FnOk P w K mg base CX0 2 f fd ["_law_found"] spLGood := by
  have G_law_whole : FnOk P w K mg base CX0 1 fW fdW ["_law_found"] spLWhole := ok_lwhole T D_law_whole.fn
  refine F.ok sc_law_good (fun vs H Q E h => ?_) (fun cdv A outer s H vs Q E hr h => ?_)
  · obtain ⟨L, ls, rfl, _⟩ := h
    rfl
  · obtain ⟨L, ls, rfl, ⟨qs, eL, rfl, hqs⟩, hpl, hll, q⟩ := h
    rw [List.length_map] at hll
    refine ⟨_,
      (pss_cons
        (ps_if (pt_not (pt_val (pe_callB (r := rIsi K) call_isi (by rfl) T.n_isinstance (by decide +kernel) (pa_cons (pv 0) (pa_cons (pe_bltn (v := .ty "list") (u := .type "list") (by rfl) T.n_list (by decide +kernel) rfl) pa_nil)))))
          (pss_one
            (ps_ret pe_bl))
          pss_nil)
      (pss_cons
        (ps_for PassesOwn.never rfl (pi_list (pv 0)) (pg_name (i := 1) sc_law_good.nd rfl (.inl rfl))
          (pss_cons
            (ps_if (PW.pt (pw_or (pt_not (pt_val (pe_callB (r := rIsi K) call_isi (by rfl) T.n_isinstance (by decide +kernel) (pa_cons (pv 1) (pa_cons (pe_bltn (v := .ty "tuple") (u := .type "tuple") (by rfl) T.n_tuple (by decide +kernel) rfl) pa_nil))))) (pw_or (pt_cmpR op_ne (pe_callB (r := rLen K) c_len (by rfl) T.n_len (by decide +kernel) (pa_cons (pv 1) pa_nil)) pe_int (nomark _)) (pw_or (pt_not (pt_val (pe_call G_law_whole (hr.mono (by omega)) (by rfl) D_law_whole.g D_law_whole.fn.kp D_law_whole.b .nil pass0 (pa_cons (pe_ix (r := rIxT K) ix_tup (pv 1) pe_int (fun _ _ => rfl)) pa_nil)))) (pw_or1 (pt_not (pt_val (pe_callB (r := rIsi K) call_isi (by rfl) T.n_isinstance (by decide +kernel) (pa_cons (pe_ix (r := rIxT K) ix_tup (pv 1) pe_int (fun _ _ => rfl)) (pa_cons (pe_bltn (v := .ty "tuple") (u := .type "tuple") (by rfl) T.n_tuple (by decide +kernel) rfl) pa_nil))))))))))
              (pss_one
                (ps_ret pe_bl))
              pss_nil)
          (pss_one
            (ps_if (pt_cmpR op_gt (pe_callB (r := rLen K) c_len (by rfl) T.n_len (by decide +kernel) (pa_cons (pe_lc (own := [("_law_label_here", 2)]) (g := (gName 2)) rfl sc_law_good.nd (pi_tup (pe_ix (r := rIxT K) ix_tup (pv 1) pe_int (fun _ _ => rfl))) (blkOk_by (own := [("_law_label_here", 2)]) (N := N_law_good) (sc := defScope s_law_good) (by decide +kernel)) (fun _ _ _ _ _ => (pg_name (i := 2) sc_law_good.nd rfl (.inl rfl))) (fun _ _ _ _ _ => (pts_one (pt_not (pt_val (pe_callB (r := rIsi K) call_isi (by rfl) T.n_isinstance (by decide +kernel) (pa_cons (pv 2) (pa_cons (pe_bltn (v := .ty "str") (u := .type "str") (by rfl) T.n_str (by decide +kernel) rfl) pa_nil))))))) (fun _ _ _ _ _ => (pv 2))) pa_nil)) pe_int (nomark _))
              (pss_one
                (ps_ret pe_bl))
              pss_nil))))
      (pss_one
        (ps_ret pe_bl))))
      , ?_⟩
    rw [show L2.start N_law_good [V.ref L] = [some (.ref L), none, none] from rfl]
    refine w_seq ?_
    walk_at "x"
    try refine w_itL' (.of eL) ?_
    refine lp_list (xs := qs.map fun q => V.ref q.1) (fun i σ H' => ∃ y1 : Option V, σ = [some (.ref L), y1, none] ∧ Same H H') ⟨_, rfl, fun _ _ e => e⟩ (fun i σ H' _ h => by obtain ⟨_, _, k⟩ := h; exact .of (k _ _ eL)) ?_ ?_
    · rintro i x σ H2 hx ⟨y1, rfl, k2⟩
      obtain ⟨z, hz, rfl⟩ := map_at hx
      have hzm := List.mem_of_getElem? hz
      obtain ⟨ez, et⟩ := hqs z hzm
      have ez2 := k2 _ _ ez
      have et2 : H2 z.2.1 = some (.tup (z.2.2.2.map V.str)) := k2 _ _ et
      have hlp := hpl z.2.2 (List.mem_map_of_mem hzm)
      have at0 : atI [nV z.2.2.1, V.ref z.2.1] 0 = some (nV z.2.2.1) := rfl
      have at1 : atI [nV z.2.2.1, V.ref z.2.1] 1 = some (.ref z.2.1) := rfl
      have e3 : decide ((([nV z.2.2.1, V.ref z.2.1].length : Nat) : Int) = (2 : Int)) = true := rfl
      refine w_seq ?_
      walk_at "g"
      try rw [e3]
      walk_at "g"
      refine ⟨_, rfl, ?_⟩
      walk_at "g"
      refine lcp_sel (walk_tup (K := K) (a := z.2.1) (xs := z.2.2.2.map V.str)) [] (fun _ => none) (by rw [List.length_map]; omega) (fun H' k => .of (k _ _ (by simp) et2)) ?_ (by simp) ?_
      · rintro j x Ha Hb R R0 hj ka ⟨rfl, hx⟩ hR hR0
        obtain ⟨l, hl, rfl⟩ := map_at hx
        refine w_name ⟨rfl, ?_⟩
        walk_at "g"
        exact hR0 _ rfl Kp.refl
      intro L3 H3 hL3 k3 eL3
      walk_at "g"
      refine w_no (by simp) ?_
      walk_at "g"
      exact ⟨_, rfl, Same.trans k2 k3.same⟩
    · rintro σ H2 ⟨y1, rfl, k2⟩
      walk_at "g"
      exact q H2 k2
end
/-! ### _law_wide -/
def spWide : Sp := fun vs H Q _ => ∃ (d c : Addr) (n : Nat), vs = [.ref d] ∧ Deck H d c n ∧ n + 400 ≤ MOSTD ∧ ScnQ H d c (n + 400) Q
theorem w_dictL {K : PySem.W.Frag} {H : Hp} {Q : VK} {a : Addr} {ps : List Addr} {kvs : List (Key × V)} (h1 : SqL K H a (ps.map V.ref)) (h2 : Paired (fun p kv => SqT K H p [kV kv.1, kv.2]) ps kvs) (h : ∀ p H1, H p = none → H1 p = some (.dK (mergeK [] kvs)) → Same H H1 → Q (.ref p) H1) : rDictL K [V.ref a] H Q := ⟨a, ps, kvs, rfl, h1, h2, fun p hp => h p _ hp upd_same (Same.new hp)⟩
def mTI (qs ps : List (Str × Int)) : List (Str × Int) := ps.foldl (fun acc p => putTI acc p.1 p.2) qs
theorem mTI_kv : ∀ (ps qs : List (Str × Int)), mergeK (kvTI qs) (kvTI ps) = kvTI (mTI qs ps)
  | [], _ => rfl
  | p :: r, qs => by
    show mergeK (putK (kvTI qs) (Sum.inr p.1) (V.int p.2)) (kvTI r) = _
    rw [putTI_kv, mTI_kv r]
    rfl
theorem mTI_nd : ∀ (ps : List (Str × Int)) {qs : List (Str × Int)}, (qs.map (·.1)).Nodup → ((mTI qs ps).map (·.1)).Nodup
  | [], _, h => h
  | _ :: r, _, h => mTI_nd r (putTI_nd h)
theorem mTI_mem : ∀ (ps : List (Str × Int)) {qs : List (Str × Int)} {q : Str × Int}, q ∈ mTI qs ps → q ∈ qs ∨ q ∈ ps
  | [], _, _, h => .inl h
  | p :: r, _, q, h => by
    rcases mTI_mem r h with h | h
    · rcases putTI_mem h with h | h
      · exact .inl h
      · exact .inr (by rw [h]; simp)
    · exact .inr (by simp [h])
theorem mTI_len : ∀ (ps : List (Str × Int)) {qs : List (Str × Int)}, (mTI qs ps).length ≤ qs.length + ps.length
  | [], _ => Nat.le_refl _
  | p :: r, qs => by
    have h1 := mTI_len r (qs := putTI qs p.1 p.2)
    have h2 := putTI_len (qs := qs) (z := p.1) (v := p.2)
    rw [List.length_cons]
    show (mTI (putTI qs p.1 p.2) r).length ≤ _
    omega
theorem mTI_snoc (ps qs : List (Str × Int)) (p : Str × Int) : mTI qs (ps ++ [p]) = putTI (mTI qs ps) p.1 p.2 := by
  unfold mTI
  rw [List.foldl_append]
  rfl
theorem paired_TI {K : PySem.W.Frag} {H : Hp} : ∀ {es : List (Addr × Str × Int)}, (∀ e ∈ es, H e.1 = some (.tup [.str e.2.1, .int e.2.2])) → Paired (fun p kv => SqT K H p [kV kv.1, kv.2]) (es.map (·.1)) (kvTI (es.map (·.2)))
  | [], _ => .nil
  | e :: r, h => .cons (.of (h e (by simp))) (paired_TI fun z hz => h z (by simp [hz]))
theorem ixN_natV {n j : Nat} (h : j < n) : ixN n (j : Int) = some j := by
  unfold ixN
  rw [if_pos (by omega), if_pos (by omega)]
  simp
abbrev WL : List Str := [Str.ofString "a", Str.ofString "ab", Str.ofString "b", Str.ofString "c"]
theorem WL_ok : ∀ z ∈ WL, LabOk z := by
  intro z hz
  simp only [WL, List.mem_cons, List.not_mem_nil, or_false] at hz
  rcases hz with rfl | rfl | rfl | rfl <;> (unfold LabOk; decide +kernel)
/-- entries drawn: pairs of a label and i or nought -/
def EsAt (H : Hp) (L : Addr) (i : Nat) (es : List (Addr × Str × Int)) : Prop := H L = some (.lst (es.map fun e => V.ref e.1)) ∧ es.length = 4 ∧ ∀ e ∈ es, H e.1 = some (.tup [.str e.2.1, .int e.2.2]) ∧ LabOk e.2.1 ∧ (e.2.2 = (i : Int) ∨ e.2.2 = 0)
section
variable {P : Program} {w : World} {K : PySem.W.Frag} {mg : Str → Option Value} {base : Heap}
theorem ok_wide {f fM fD fT fR : Addr} {fd fdM fdD fdT fdR : FuncData} (T : Txt K mg) (F : Fun K "_law_wide" "_law_wide" s_law_wide f fd) (D_law_mixed : Df K mg "_law_mixed" s_law_mixed ["_law_cell", "_law_turn"] fM fdM) (D_law_draw : Df K mg "_law_draw" s_law_draw ["_law_deck_here", "_law_many"] fD fdD)
    (D_law_text : Df K mg "_law_text" s_law_text ["_law_deck_here", "_law_size"] fT fdT) (D_law_rows : Df K mg "_law_rows" s_law_rows ["_law_deck_here", "_law_elder"] fR fdR) : FnOk P w K mg base CX0 5 f fd ["_law_deck_here"] spWide := by
  have G_law_draw : FnOk P w K mg base CX0 2 fD fdD ["_law_deck_here", "_law_many"] spDraw := ok_draw T D_law_draw.fn D_law_mixed
  have G_law_rows : FnOk P w K mg base CX0 4 fR fdR ["_law_deck_here", "_law_elder"] spRows := ok_rows T D_law_rows.fn D_law_mixed D_law_draw D_law_text
  refine F.ok sc_law_wide (fun vs H Q E h => ?_) (fun cdv A outer s H vs Q E hr h => ?_)
  · obtain ⟨d, c, n, rfl, _⟩ := h
    rfl
  · obtain ⟨d, c, n, rfl, D0, hn, q⟩ := h
    have hu := hu_of hr
    refine ⟨_,
      (pss_cons
        (ps_set (i := 1) sc_law_wide.nd rfl (.inl rfl) (pe_lst (pa_cons (pe_tup (pa_cons pe_str (pa_cons (pe_call G_law_rows (hr.mono (by omega)) (by rfl) D_law_rows.g D_law_rows.fn.kp D_law_rows.b .nil pass0 (pa_cons (pv 0) (pa_cons (pe_tup pa_nil) pa_nil))) pa_nil))) pa_nil)))
      (pss_cons
        (ps_for PassesOwn.never rfl (pi_range1 (by rfl) T.n_range (pa_cons pe_int pa_nil)) (pg_name (i := 2) sc_law_wide.nd rfl (.inr rfl))
          (pss_cons
            (ps_setLc (i := 3) (own := [("_law_label_here", 4)]) (g := (gName 4)) rfl sc_law_wide.nd rfl rfl (sw_true rfl rfl rfl (by decide +kernel)) (pi_list (pe_lst (pa_cons pe_str (pa_cons pe_str (pa_cons pe_str (pa_cons pe_str pa_nil)))))) (blkOk_by (own := [("_law_label_here", 4)]) (N := N_law_wide) (sc := defScope s_law_wide) (by decide +kernel)) (fun _ _ _ _ _ => (pg_name (i := 4) sc_law_wide.nd rfl (.inl rfl))) (fun _ _ _ _ _ => pts_nil) (fun _ _ _ _ _ => (pe_tup (pa_cons (pv 4) (pa_cons (pv 2) pa_nil)))))
          (pss_cons
            (ps_if (pt_cmpR op_eq (pe_call G_law_draw (hr.mono (by omega)) (by rfl) D_law_draw.g D_law_draw.fn.kp D_law_draw.b .nil pass0 (pa_cons (pv 0) (pa_cons pe_int pa_nil))) pe_int (nomark _))
              (pss_one
                (ps_asg (pe_tup (pa_cons (pe_ix (r := rIxT K) ix_tup (pe_ix (r := rIxL K) ix_list (pv 3) pe_int (fun _ _ => rfl)) pe_int (fun _ _ => rfl)) (pa_cons pe_int pa_nil))) (pg_sub (pv 3) (pe_call G_law_draw (hr.mono (by omega)) (by rfl) D_law_draw.g D_law_draw.fn.kp D_law_draw.b .nil pass0 (pa_cons (pv 0) (pa_cons pe_int pa_nil))) set_list)))
              pss_nil)
          (pss_cons
            (ps_set (i := 3) sc_law_wide.nd rfl (.inl rfl) (pe_callTy (r := rDictL K) (c_dictL rfl) (by rfl) T.n_dict (by decide +kernel) (pa_cons (pe_op op_cat (pv 3) (pe_lst (pa_cons (pe_tup (pa_cons pe_str (pa_cons (pv 2) pa_nil))) pa_nil))) pa_nil)))
          (pss_one
            (ps_expr (pe_bm PySem.F.plainAttrs_list PySem.F.slot_list_append PySem.F.type_list_append mt_append (pv 1) (pa_cons (pe_tup (pa_cons pe_str (pa_cons (pe_callTy (r := rTupOf K) c_tupOf (by rfl) T.n_tuple (by decide +kernel) (pa_cons (pe_callB (r := rSortI) (c_sortI rfl hr.units) (by rfl) T.n_sorted (by decide +kernel) (pa_cons (pe_bm0 PySem.F.plainAttrs_dict PySem.F.slot_dict_items PySem.F.type_dict_items mt_itemsK (pv 3)) pa_nil)) pa_nil)) pa_nil))) pa_nil))))))))
      (pss_cons
        (ps_expr (pe_bm PySem.F.plainAttrs_list PySem.F.slot_list_append PySem.F.type_list_append mt_append (pv 1) (pa_cons (pe_tup (pa_cons pe_str (pa_cons (pe_tup pa_nil) (pa_cons pe_int (pa_cons (pe_call G_law_draw (hr.mono (by omega)) (by rfl) D_law_draw.g D_law_draw.fn.kp D_law_draw.b .nil pass0 (pa_cons (pv 0) (pa_cons pe_int pa_nil))) pa_nil))))) pa_nil)))
      (pss_one
        (ps_ret (pv 1))))))
      , ?_⟩
    rw [show L2.start N_law_wide [V.ref d] = [some (.ref d), none, none, none, none] from rfl]
    walk_at "x"
    refine w_new fun r0 H1 hr0 e1 k1 => ?_
    have D1 : Deck H1 d c n := D0.kp (M := []) (Kp.of k1) (by simp) (by simp)
    walk_at "g"
    refine ⟨d, c, r0, n, [], rfl, D1, by omega, e1, by simp, by simp, fun H2 r1 ls D2 x2 er1 hll hlo => ?_⟩
    walk_at "g"
    refine w_new fun a0 H3 ha0 e3 k3 => ?_
    walk_at "g"
    refine w_new fun th H4 hth4 e4 k4 => ?_
    have x04 : KX d H H4 := ((KX.of k1).trans x2).trans (KX.of (Same.trans k3 k4))
    have hth : H th = none := by
      cases e : H th with
      | none => rfl
      | some o =>
        have h3 := k3.free hth4
        by_cases hd : th = d
        · obtain ⟨⟨xs, e'⟩, _⟩ := D2.at
          rw [hd, e'] at h3
          cases h3
        · rw [x2.p _ _ (by simpa using hd) (k1 _ _ e)] at h3
          cases h3
    obtain ⟨nthd, nthc⟩ := D0.ne1 hth
    have D4 : Deck H4 d c (n + 300) := D2.kp (M := []) (Kp.of (Same.trans k3 k4)) (by simp) (by simp)
    have T4 : ThAt H4 th [(a0, .leaf ls)] := ⟨e4, fun q hq => by
      have : q = (a0, Ct.leaf ls) := by simpa using hq
      rw [this]
      exact ⟨r1, k4 _ _ e3, k4 _ _ (k3 _ _ er1)⟩⟩
    walk_at "g"
    try refine w_rng1' (by omega) (by omega) ?_
    refine lp_range (n := 5) (fun i σ H' => (∃ y3 y4 : Option V, σ = [some (.ref d), some (.ref th), y3, y4, none]) ∧ Deck H' d c (n + 300 + 2 * i) ∧ KX d H H' ∧ ∃ cs, ThAt H' th cs ∧ TrI cs i) ⟨⟨_, _, rfl⟩, D4, x04, _, T4, .start hll hlo⟩ ?_ ?_
    · rintro i σ H5 hi ⟨⟨y3, y4, rfl⟩, D5, x5, cs, T5, I5⟩
      have hi8 : i < 8 := by omega
      have hl5 := I5.n
      walk_at "g"
      refine w_new fun wl H6 hwl ewl k6 => ?_
      walk_at "g"
      try refine w_itL' (.of ewl) ?_
      refine lcp_accH (walk_list (K := K) (a := wl) (xs := WL.map V.str)) [] (fun j acc H' => ∃ es : List (Addr × Str × Int), acc = es.map (fun e => V.ref e.1) ∧ es.length = j ∧ ∀ e ∈ es, H' e.1 = some (.tup [.str e.2.1, .int e.2.2]) ∧ LabOk e.2.1 ∧ (e.2.2 = (i : Int) ∨ e.2.2 = 0)) (by decide) ?_ (fun j H' k => .of (k _ _ (by simp) ewl)) ⟨[], rfl, rfl, by simp⟩ ?_ ?_ (by simp) ?_
      · rintro j acc Ha Hb kt ⟨es, e, hl, h3⟩
        exact ⟨es, e, hl, fun z hz => ⟨kt _ _ (h3 z hz).1, (h3 z hz).2⟩⟩
      · rintro j acc Ha ⟨es, rfl, hl, _⟩
        rw [List.length_map]
        exact Nat.le_of_eq hl
      · rintro j x Ha Hb acc R R0 hj ka ta ⟨es, rfl, hl, h3⟩ ⟨rfl, hx⟩ hR hR0
        obtain ⟨z, hz, rfl⟩ := map_at hx
        have hzo := WL_ok z (List.mem_of_getElem? hz)
        refine w_name ⟨rfl, ?_⟩
        walk_at "g"
        refine w_new fun a Hc ha ea kc => ?_
        refine hR _ _ ⟨es ++ [(a, z, 0 + (i : Int))], by rw [List.map_append]; rfl, by rw [List.length_append, hl]; rfl, fun y hy => ?_⟩ (Kp.of kc) (KT.of kc)
        rcases List.mem_append.mp hy with h | h
        · exact ⟨kc _ _ (h3 y h).1, (h3 y h).2⟩
        · rw [List.mem_singleton.mp h]
          exact ⟨ea, hzo, .inl (by show 0 + (i : Int) = i; omega)⟩
      rintro L7 H7 acc ⟨es7, rfl, hel7, h7⟩ hL7 k7 t7 eL7
      have hel4 : es7.length = 4 := hel7
      have k57 := Same.trans k6 k7.same
      have D7 : Deck H7 d c _ := D5.kp (M := []) (Kp.of k57) (by simp) (by simp)
      have hL5 : H5 L7 = none := k6.free hL7
      have nLd : L7 ≠ d := (D5.ne1 hL5).1
      have nLc : L7 ≠ c := (D5.ne1 hL5).2
      walk_at "g"
      refine w_seqJ (fun σ' H' => σ' = [some (.ref d), some (.ref th), some (.int (0 + (i : Int))), some (.ref L7), none] ∧ Deck H' d c (n + 300 + 2 * i + 2) ∧ KX d H5 H' ∧ ∃ es, EsAt H' L7 i es) ?_ ?_
      rotate_left
      · intro U hU
        walk_at "g"
        refine w_draw D7 (by omega) (by decide) (by decide) fun u8 H8 hu8 D8 o8 => ?_
        have x8 : KX d H5 H8 := (KX.of k57).trans (D7.kx D8 o8)
        have E8 : EsAt H8 L7 i es7 := ⟨o8.get nLd eL7, hel4, fun e he => ⟨(D7.kx D8 o8).t _ _ (h7 e he).1, (h7 e he).2⟩⟩
        walk_at "g"
        refine w_ite (fun h1 => ?_) (fun h1 => ?_)
        rotate_left
        · walk_at "g"
          exact hU _ _ ⟨rfl, D8.mono (by omega), x8, es7, E8⟩
        obtain ⟨eL8, _, h8⟩ := E8
        obtain ⟨e0, he0⟩ : ∃ e0, es7[0]? = some e0 := ⟨_, List.getElem?_eq_getElem (by omega)⟩
        have at0 : atI (es7.map fun e => V.ref e.1) 0 = some (.ref e0.1) := atI_nat (j := 0) (by rw [List.getElem?_map, he0]; rfl)
        obtain ⟨e00, e01, _⟩ := h8 e0 (List.mem_of_getElem? he0)
        have at00 : atI [V.str e0.2.1, V.int e0.2.2] 0 = some (.str e0.2.1) := rfl
        walk_at "g"
        refine w_new fun a9 H9 ha9 e9 k9 => ?_
        have D9 : Deck H9 d c _ := D8.kp (M := []) (Kp.of k9) (by simp) (by simp)
        walk_at "g"
        refine w_draw D9 (by omega) (by decide) (by decide) fun u10 H10 hu10 D10 o10 => ?_
        have x10 : KX d H8 H10 := (KX.of k9).trans (D9.kx D10 o10)
        have eL10 := o10.get nLd (k9 _ _ eL8)
        have na9 : a9 ≠ d := (D8.ne1 ha9).1
        have e910 := o10.get na9 e9
        walk_at "g"
        refine w_setL (j := u10) eL10 (by rw [List.length_map, hel4]; exact ixN_natV (by omega)) rfl fun H11 e11 o11 => ?_
        have t11 : KT H10 H11 := KT.off o11 eL10
        have nLa : a9 ≠ L7 := (ne_of_none eL8 ha9).symm
        walk_at "g"
        refine hU _ _ ⟨rfl, (D10.kp (M := [L7]) (o11.kp (by simp)) (by simpa using nLd.symm) (by simpa using nLc.symm)).mono (by omega), (x8.trans x10).offN o11 hL5, es7.set u10 (a9, e0.2.1, 0), by rw [e11, List.map_set], by rw [List.length_set, hel4], fun y hy => ?_⟩
        rcases List.mem_or_eq_of_mem_set hy with h | h
        · exact ⟨t11 _ _ (x10.t _ _ (h8 y h).1), (h8 y h).2⟩
        · rw [h]
          exact ⟨t11 _ _ e910, e01, .inr rfl⟩
      rintro σ' H12 ⟨rfl, D12, x12, es, eL12, hel, h12⟩
      have eL12' := eL12
      walk_at "g"
      refine w_new fun a13 H13 ha13 e13 k13 => ?_
      walk_at "g"
      refine w_new fun l14 H14 hl14 e14 k14 => ?_
      have k1214 := Same.trans k13 k14
      walk_at "g"
      refine w_cat (k1214 _ _ eL12) e14 (small2000 (by rw [List.length_map, hel]; simp only [List.length_cons, List.length_nil]; omega)) fun l15 H15 hl15 e15 k15 => ?_
      have k1215 := Same.trans k1214 k15
      have e15' : H15 l15 = some (.lst (((es ++ [(a13, Str.ofString "d", 0 + (i : Int))]).map (·.1)).map V.ref)) := by rw [e15, List.map_map, List.map_append]; rfl
      walk_at "g"
      refine w_dictL (.of e15') (paired_TI fun e he => ?_) fun e16 H16 he16 ee16 k16 => ?_
      · rcases List.mem_append.mp he with h | h
        · exact k1215 _ _ (h12 e h).1
        · rw [List.mem_singleton.mp h]
          exact k15 _ _ (k14 _ _ e13)
      rw [show mergeK [] (kvTI ((es ++ [(a13, Str.ofString "d", 0 + (i : Int))]).map (·.2))) = kvTI (mTI [] ((es ++ [(a13, Str.ofString "d", 0 + (i : Int))]).map (·.2))) from mTI_kv _ []] at ee16
      have k12_16 := Same.trans k1215 k16
      have x16 : KX d H5 H16 := x12.trans (KX.of k12_16)
      have D16 : Deck H16 d c _ := D12.kp (M := []) (Kp.of k12_16) (by simp) (by simp)
      have T16 := T5.kp x16.p x16.t (by simpa using nthd)
      have hth16 := T16.at'
      walk_at "g"
      refine w_bm0D ?_
      walk_at "g"
      refine w_tyDK ee16 ?_
      refine w_itemsK ee16 fun v H17 hv17 e17 k17 => ?_
      walk_at "g"
      refine w_sortI e17 (k17 _ _ ee16) (mTI_nd _ (by simp)) fun H18 p ts k18 hp18 e18 hts hperm hsrt => ?_
      walk_at "g"
      refine w_tupL (.of e18) fun t H19 ht19 e19 k19 => ?_
      walk_at "g"
      refine w_new fun av H20 hav e20 k20 => ?_
      have k16_20 := Same.trans k17 (Same.trans k18 (Same.trans k19 k20))
      have T20 := T16.same k16_20
      have hth20 := T20.at'
      have D20 : Deck H20 d c _ := D16.kp (M := []) (Kp.of k16_20) (by simp) (by simp)
      have hval : ∀ b ∈ ts, LabOk b.2.1 ∧ ∃ m : Nat, b.2.2 = m ∧ m ≤ i := fun b hb => by
        rcases mTI_mem _ (hperm.mem_iff.mp (List.mem_map_of_mem hb)) with h | h
        · cases h
        · obtain ⟨y, hy, ey⟩ := List.mem_map.mp h
          rcases List.mem_append.mp hy with h | h
          · obtain ⟨_, g1, g2⟩ := h12 y h
            rw [ey] at g1 g2
            rcases g2 with g2 | g2
            · exact ⟨g1, i, g2, Nat.le_refl _⟩
            · exact ⟨g1, 0, g2, Nat.zero_le _⟩
          · rw [List.mem_singleton.mp h] at ey
            rw [← ey]
            exact ⟨(show LabOk (Str.ofString "d") by unfold LabOk; decide +kernel), i, by show 0 + (i : Int) = i; omega, Nat.le_refl _⟩
      have hlen : ts.length ≤ 5 := by
        have h1 := hperm.length_eq
        rw [List.length_map] at h1
        rw [h1]
        refine Nat.le_trans (mTI_len _) ?_
        rw [List.length_map, List.length_append, hel]
        simp
      have ct20 : CtAt H20 av (.tree ((ts.map fun b => (b.1, b.2.1, b.2.2.toNat)).map (·.2))) := by
        refine ⟨t, ts.map fun b => (b.1, b.2.1, b.2.2.toNat), e20, by rw [k20 _ _ e19, List.map_map]; rfl, rfl, fun q' hq' => ?_⟩
        obtain ⟨b, hb, rfl⟩ := List.mem_map.mp hq'
        obtain ⟨_, m, em, _⟩ := hval b hb
        have := k20 _ _ (k19 _ _ (hts b hb))
        show H20 b.1 = some (.tup [.str b.2.1, .int ((b.2.2.toNat : Nat) : Int)])
        rw [this, em]
        rfl
      walk_at "g"
      refine w_app hth20 (by rw [List.length_map]; exact small1kl (by omega)) fun H21 e21 o21 => ?_
      walk_at "g"
      refine ⟨⟨_, _, rfl⟩, (D20.kp (M := [th]) (o21.kp (by simp)) (by simpa using nthd.symm) (by simpa using nthc.symm)).mono (by omega), ((x5.trans x16).trans (KX.of k16_20)).offN o21 hth, _, grow_app T20 ct20 e21 o21, I5.snoc hi8 ?_ ?_ ?_ ?_⟩
      · rw [List.length_map, List.length_map]
        omega
      · intro e' he'
        obtain ⟨q', hq', rfl⟩ := List.mem_map.mp he'
        obtain ⟨b, hb, rfl⟩ := List.mem_map.mp hq'
        obtain ⟨g1, m, em, hm⟩ := hval b hb
        exact ⟨g1, by show b.2.2.toNat ≤ i; rw [em]; exact hm⟩
      · rw [List.pairwise_map, List.pairwise_map]
        exact hsrt
      · obtain ⟨q', hq', e2⟩ := putTI_has (qs := mTI [] (es.map (·.2))) (z := Str.ofString "d") (v := 0 + (i : Int))
        have hq2 : q' ∈ mTI [] ((es ++ [(a13, Str.ofString "d", 0 + (i : Int))]).map (·.2)) := by rw [List.map_append]; exact (mTI_snoc (es.map (·.2)) [] (Str.ofString "d", 0 + (i : Int))) ▸ hq'
        obtain ⟨b, hb, e3⟩ := List.mem_map.mp (hperm.mem_iff.mpr hq2)
        refine ⟨(b.2.1, b.2.2.toNat), List.mem_map.mpr ⟨(b.1, b.2.1, b.2.2.toNat), List.mem_map.mpr ⟨b, hb, rfl⟩, rfl⟩, ?_⟩
        show b.2.2.toNat = i
        rw [e3, e2]
        omega
    · rintro σ H5 ⟨⟨y3, y4, rfl⟩, D5, x5, cs, T5, I5⟩
      have I5' : TrI cs 5 := I5
      have hl5 := I5'.n
      have D5' : Deck H5 d c (n + 310) := D5.mono (by omega)
      have hth5 := T5.at'
      walk_at "g"
      refine w_new fun p0 H6 hp0 e6 k6 => ?_
      have D6 : Deck H6 d c _ := D5'.kp (M := []) (Kp.of k6) (by simp) (by simp)
      have np0 := (D5'.ne1 hp0).1
      walk_at "g"
      refine w_draw D6 (by omega) (by decide) (by decide) fun s7 H7 hs7 D7 o7 => ?_
      have x7 : KX d H H7 := x5.trans ((KX.of k6).trans (D6.kx D7 o7))
      have T7 := T5.kp ((KX.of (d := d) k6).trans (D6.kx D7 o7)).p ((KX.of (d := d) k6).trans (D6.kx D7 o7)).t (by simpa using nthd)
      have hth7 := T7.at'
      have e67 := o7.get np0 e6
      walk_at "g"
      refine w_new fun av H8 hav e8 k8 => ?_
      have T8 := T7.same k8
      have hth8 := T8.at'
      have ct8 : CtAt H8 av (.ver [] 5 s7) := ⟨p0, e8, k8 _ _ e67⟩
      have D8 : Deck H8 d c _ := D7.kp (M := []) (Kp.of k8) (by simp) (by simp)
      walk_at "g"
      refine w_app hth8 (by rw [List.length_map]; exact small1kl (by omega)) fun H9 e9 o9 => ?_
      walk_at "g"
      have ok : CtOk (cs.map (·.2)) (dsOf (cs.map (·.2))) (.ver [] 5 s7) := ⟨.nil, by decide, by simp, (I5'.t 5 (by decide) (by omega)).word, Nat.le_trans (show s7 ≤ 1000 by omega) (by decide)⟩
      refine q H9 th (cs ++ [(av, .ver [] 5 s7)]) ((D8.kp (M := [th]) (o9.kp (by simp)) (by simpa using nthd.symm) (by simpa using nthc.symm)).mono (by omega)) ((x7.trans (KX.of k8)).offN o9 hth) hth (grow_app T8 ct8 e9 o9) ((I5'.f.mono (by decide)).snocF ok (Nat.zero_le _) fun q hq => I5'.noV hq) (by rw [List.length_append, hl5]; show 5 + 1 + 1 ≤ 400; decide) ⟨cs.length, av, [], 5, s7, by simp⟩
end
local macro_rules | `(tactic| walk_at "s") => `(tactic| first
  | with_reducible refine w_lstRgF ?_
  | with_reducible refine w_rg1F ?_
  | with_reducible refine w_rg1F' ?_
  )
theorem natsL_shaped (ns : List Nat) : SeqAt.shaped (.list (ns.map fun n : Nat => PyData.int (n : Int))) = true := by
  obtain ⟨h1, h2⟩ := nats_lay ns
  unfold SeqAt.shaped
  rw [Bool.and_eq_true_iff]
  refine ⟨by rw [PyData.canLay0]; exact h1, decide_eq_true ?_⟩
  rw [PyData.depth]
  omega
theorem w_neNats {K : PySem.W.Frag} {H : Hp} {Q : VK} {a z : Addr} {ns : List Nat} (h1 : H a = some (.lst (ns.map nV))) (h2 : H z = some (.lst (ns.map nV))) (h : Q (.bl false) H) : rNeD K (.ref a) (.ref z) H Q := by
  refine ⟨.list (ns.map fun n : Nat => PyData.int (n : Int)), .list (ns.map fun n : Nat => PyData.int (n : Int)), .lst (.of h1) (dp_nats ns), .lst (.of h2) (dp_nats ns), natsL_shaped ns, natsL_shaped ns, ?_⟩
  rw [PyData.eqv, nats_eqv, decide_eq_true rfl]
  exact h
theorem Fam.entNd {cs : List (Addr × Ct)} {t : Nat} (h : Fam cs t) : EntNd cs := fun n => by
  refine ⟨?_, fun e he => ((h.entT n).2 e he).1⟩
  by_cases it : isTr cs n
  · obtain ⟨a, e⟩ := it.at
    obtain ⟨_, _, h3, _⟩ := (show CtOk _ _ (.tree (ents cs n)) from h.ok n _ (by rw [List.getElem?_map, e]; rfl))
    rw [List.Nodup, List.pairwise_map]
    refine h3.imp fun {x y} g z => ?_
    rw [z] at g
    exact List.lt_irrefl _ g
  · have e : ents cs n = [] := by
      unfold ents
      split
      · rename_i a es e
        exact absurd ⟨a, es, e⟩ it
      · rfl
    rw [e]
    exact List.nodup_nil
theorem tabs_dk {T : List (Addr × Str)} {H H' : Hp} {d c : Addr} {n : Nat} (t : LamX.Tabs T H) (D : Deck H d c n) (k : Kp [d] H H') : LamX.Tabs T H' := fun p hp => by
  obtain ⟨xs, ed⟩ := D.at.1
  obtain ⟨ps, h1, h2, h3⟩ := t p hp
  refine ⟨ps, k _ _ (fun z => ?_) h1, h2, fun pos cv hc => ?_⟩
  · rw [List.mem_singleton.mp z, ed] at h1
    cases h1
  · obtain ⟨c, e1, e2⟩ := h3 pos cv hc
    refine ⟨c, e1, k _ _ (fun z => ?_) e2⟩
    rw [List.mem_singleton.mp z, ed] at e2
    exact absurd (Option.some.inj e2) (by unfold LamX.CodeO; exact fun z => nomatch z)
theorem w_eqNatL {K : PySem.W.Frag} {H : Hp} {Q : VK} {a z : Addr} {ns : List Nat} (h1 : H a = some (.lst (ns.map nV))) (h2 : H z = some (.lst (ns.map nV))) (h : Q (.bl true) H) : rEqD K (.ref a) (.ref z) H Q := by
  refine ⟨.list (ns.map fun n : Nat => PyData.int (n : Int)), .list (ns.map fun n : Nat => PyData.int (n : Int)), .lst (.of h1) (dp_nats ns), .lst (.of h2) (dp_nats ns), natsL_shaped ns, natsL_shaped ns, ?_⟩
  rw [PyData.eqv, nats_eqv, decide_eq_true rfl]
  exact h
theorem w_eqSame {K : PySem.W.Frag} {H : Hp} {Q : VK} {a b : V} {d : PyData} (h1 : Dp K H a d) (h2 : Dp K H b d) (hs : SeqAt.shaped d = true) (he : PyData.eqv d d = true) (h : Q (.bl true) H) : rEqD K a b H Q := ⟨d, d, h1, h2, hs, hs, by rw [he]; exact h⟩
theorem w_neSame {K : PySem.W.Frag} {H : Hp} {Q : VK} {a b : V} {d : PyData} (h1 : Dp K H a d) (h2 : Dp K H b d) (hs : SeqAt.shaped d = true) (he : PyData.eqv d d = true) (h : Q (.bl false) H) : rNeD K a b H Q := ⟨d, d, h1, h2, hs, hs, by rw [he]; exact h⟩
theorem LksAt.ofN {H H' : Hp} {L : Addr} {ls : List (Nat × List Str)} (h : LksAt H L ls) (k : LamX.ExtN H H') : LksAt H' L ls := h.kpn (KT.ofN k) fun o e n => k _ _ e n
theorem LksAt.same {H H' : Hp} {L : Addr} {ls : List (Nat × List Str)} (h : LksAt H L ls) (k : Same H H') : LksAt H' L ls := h.kpn (KT.of k) fun o e _ => k _ _ e
def spLaw (K : PySem.W.Frag) (PA : Addr) : Sp := fun vs H Q _ => ∃ (a : Addr) (ns : List Int), vs = [.ref a] ∧ SqL K H a (ns.map V.int) ∧ ns.length ≤ 63 ∧ H PA = some (.tbl #[]) ∧ ∀ H', Q (.bl true) H'
section
variable {P : Program} {w : World} {K : PySem.W.Frag} {mg : Str → Option Value} {base : Heap}
theorem ok_law {ku_reasons_under ku_wanted_under ku_lacks_under f_NoName___init__ f_Lack___init__ f_NoPath___init__ f_is_int f_is_text f_is_label f_rise f_are_ints f_rising_ints f_is_pair f_are_rows f_look f_chosen f_tops f_entered f_reasons f_wanted f_entry f_come_to f_read f_go_down f_lacks f_Book___init__ f_Book_named f_Book_thing f_Book_kind f_Book_parts f_is_name f_is_kind f_is_entry f_is_tree f_depth_of f_is_version f_is_content f_Holding___init__ f_Holding_holds f_Holding_names f_law_deck f_law_mixed f_law_draw f_law_text f_law_label f_law_give f_law_rows f_law_entries f_law_some f_law_family f_law_parts f_law_under f_law_held f_law_book f_law_tall f_law_long f_law_thick f_law_ladder f_law_scene f_law_versions f_law_picks f_law_first_paths f_law_lack f_law_good f_law_wide f_law_whole f C_Book C_Holding C_NoName C_Lack C_NoPath C_HouseError cL_read PL_read : Addr} {fd_NoName___init__ fd_Lack___init__ fd_NoPath___init__ fd_is_int fd_is_text fd_is_label fd_rise fd_are_ints fd_rising_ints fd_is_pair fd_are_rows fd_look fd_chosen fd_tops fd_entered fd_reasons fd_wanted fd_entry fd_come_to fd_read fd_go_down fd_lacks fd_Book___init__ fd_Book_named fd_Book_thing fd_Book_kind fd_Book_parts fd_is_name fd_is_kind fd_is_entry fd_is_tree fd_depth_of fd_is_version fd_is_content fd_Holding___init__ fd_Holding_holds fd_Holding_names fd_law_deck fd_law_mixed fd_law_draw fd_law_text fd_law_label fd_law_give fd_law_rows fd_law_entries fd_law_some fd_law_family fd_law_parts fd_law_under fd_law_held fd_law_book fd_law_tall fd_law_long fd_law_thick fd_law_ladder fd_law_scene fd_law_versions fd_law_picks fd_law_first_paths fd_law_lack fd_law_good fd_law_wide fd_law_whole fd : FuncData} (T : Txt K mg)
    (F_NoName___init__ : Fun K "__init__" "NoName.__init__" s_NoName___init__ f_NoName___init__ fd_NoName___init__)
    (F_Lack___init__ : Fun K "__init__" "Lack.__init__" s_Lack___init__ f_Lack___init__ fd_Lack___init__)
    (F_NoPath___init__ : Fun K "__init__" "NoPath.__init__" s_NoPath___init__ f_NoPath___init__ fd_NoPath___init__)
    (D_is_int : DfD K mg "is_int" s_is_int ["thing", "least"] [.int 0] f_is_int fd_is_int)
    (D_is_text : DfD K mg "is_text" s_is_text ["thing", "most"] [.int 40] f_is_text fd_is_text)
    (D_is_label : Df K mg "is_label" s_is_label ["thing"] f_is_label fd_is_label)
    (D_rise : Df K mg "rise" s_rise ["row"] f_rise fd_rise)
    (D_are_ints : Df K mg "are_ints" s_are_ints ["thing"] f_are_ints fd_are_ints)
    (D_rising_ints : Df K mg "rising_ints" s_rising_ints ["thing"] f_rising_ints fd_rising_ints)
    (D_is_pair : Df K mg "is_pair" s_is_pair ["thing"] f_is_pair fd_is_pair)
    (D_are_rows : Df K mg "are_rows" s_are_rows ["thing"] f_are_rows fd_are_rows)
    (D_look : Df K mg "look" s_look ["book", "names"] f_look fd_look)
    (D_chosen : Df K mg "chosen" s_chosen ["book", "root", "under"] f_chosen fd_chosen)
    (D_tops : Df K mg "tops" s_tops ["view", "versions"] f_tops fd_tops)
    (D_entered : Df K mg "entered" s_entered ["view", "versions", "under"] f_entered fd_entered)
    (D_reasons : DfK K mg "reasons" s_reasons ["view", "versions", "under"] [("under", V.ref ku_reasons_under)] [V.ref ku_reasons_under] f_reasons fd_reasons)
    (U_reasons_under : ∀ H, SqT K H ku_reasons_under [])
    (D_wanted : DfK K mg "wanted" s_wanted ["view", "versions", "under"] [("under", V.ref ku_wanted_under)] [V.ref ku_wanted_under] f_wanted fd_wanted)
    (U_wanted_under : ∀ H, SqT K H ku_wanted_under [])
    (D_entry : Df K mg "entry" s_entry ["content", "label"] f_entry fd_entry)
    (D_come_to : Df K mg "come_to" s_come_to ["book", "version", "path", "absent"] f_come_to fd_come_to)
    (D_read : Df K mg "read" s_read ["view", "version", "path"] f_read fd_read)
    (D_go_down : Df K mg "go_down" s_go_down ["view", "name", "path", "found"] f_go_down fd_go_down)
    (D_lacks : DfK K mg "lacks" s_lacks ["view", "version", "under"] [("under", V.ref ku_lacks_under)] [V.ref ku_lacks_under] f_lacks fd_lacks)
    (U_lacks_under : ∀ H, SqT K H ku_lacks_under [])
    (D_Book___init__ : DfM K C_Book "__init__" "Book.__init__" s_Book___init__ ["self"] f_Book___init__ fd_Book___init__)
    (D_Book_named : DfM K C_Book "named" "Book.named" s_Book_named ["self", "content"] f_Book_named fd_Book_named)
    (D_Book_thing : DfM K C_Book "thing" "Book.thing" s_Book_thing ["self", "name"] f_Book_thing fd_Book_thing)
    (D_Book_kind : DfM K C_Book "kind" "Book.kind" s_Book_kind ["self", "name"] f_Book_kind fd_Book_kind)
    (D_Book_parts : DfM K C_Book "parts" "Book.parts" s_Book_parts ["self", "name"] f_Book_parts fd_Book_parts)
    (D_is_name : Df K mg "is_name" s_is_name ["book", "thing"] f_is_name fd_is_name)
    (D_is_kind : Df K mg "is_kind" s_is_kind ["book", "thing", "kind"] f_is_kind fd_is_kind)
    (D_is_entry : Df K mg "is_entry" s_is_entry ["book", "thing"] f_is_entry fd_is_entry)
    (D_is_tree : Df K mg "is_tree" s_is_tree ["book", "entries"] f_is_tree fd_is_tree)
    (D_depth_of : Df K mg "depth_of" s_depth_of ["book", "content"] f_depth_of fd_depth_of)
    (D_is_version : Df K mg "is_version" s_is_version ["book", "content"] f_is_version fd_is_version)
    (D_is_content : Df K mg "is_content" s_is_content ["book", "thing"] f_is_content fd_is_content)
    (D_Holding___init__ : DfM K C_Holding "__init__" "Holding.__init__" s_Holding___init__ ["self", "book", "names"] f_Holding___init__ fd_Holding___init__)
    (D_Holding_holds : DfM K C_Holding "holds" "Holding.holds" s_Holding_holds ["self", "name"] f_Holding_holds fd_Holding_holds)
    (D_Holding_names : DfM K C_Holding "names" "Holding.names" s_Holding_names ["self"] f_Holding_names fd_Holding_names)
    (D_law_deck : Df K mg "_law_deck" s_law_deck ["_law_script"] f_law_deck fd_law_deck)
    (D_law_mixed : Df K mg "_law_mixed" s_law_mixed ["_law_cell", "_law_turn"] f_law_mixed fd_law_mixed)
    (D_law_draw : Df K mg "_law_draw" s_law_draw ["_law_deck_here", "_law_many"] f_law_draw fd_law_draw)
    (D_law_text : Df K mg "_law_text" s_law_text ["_law_deck_here", "_law_size"] f_law_text fd_law_text)
    (D_law_label : Df K mg "_law_label" s_law_label ["_law_deck_here"] f_law_label fd_law_label)
    (D_law_give : Df K mg "_law_give" s_law_give ["_law_things", "_law_content"] f_law_give fd_law_give)
    (D_law_rows : Df K mg "_law_rows" s_law_rows ["_law_deck_here", "_law_elder"] f_law_rows fd_law_rows)
    (D_law_entries : Df K mg "_law_entries" s_law_entries ["_law_deck_here", "_law_lows"] f_law_entries fd_law_entries)
    (D_law_some : Df K mg "_law_some" s_law_some ["_law_deck_here", "_law_names", "_law_count"] f_law_some fd_law_some)
    (D_law_family : Df K mg "_law_family" s_law_family ["_law_deck_here", "_law_leaves", "_law_trees", "_law_versions_here"] f_law_family fd_law_family)
    (D_law_parts : Df K mg "_law_parts" s_law_parts ["_law_content"] f_law_parts fd_law_parts)
    (D_law_under : Df K mg "_law_under" s_law_under ["_law_things", "_law_starts"] f_law_under fd_law_under)
    (D_law_held : Df K mg "_law_held" s_law_held ["_law_deck_here", "_law_things"] f_law_held fd_law_held)
    (D_law_book : Df K mg "_law_book" s_law_book ["_law_things"] f_law_book fd_law_book)
    (D_law_tall : Df K mg "_law_tall" s_law_tall ["_law_deck_here"] f_law_tall fd_law_tall)
    (D_law_long : Df K mg "_law_long" s_law_long ["_law_deck_here"] f_law_long fd_law_long)
    (D_law_thick : Df K mg "_law_thick" s_law_thick ["_law_deck_here"] f_law_thick fd_law_thick)
    (D_law_ladder : Df K mg "_law_ladder" s_law_ladder ["_law_deck_here", "_law_many"] f_law_ladder fd_law_ladder)
    (D_law_scene : Df K mg "_law_scene" s_law_scene ["_law_deck_here", "_law_turn"] f_law_scene fd_law_scene)
    (D_law_versions : Df K mg "_law_versions" s_law_versions ["_law_things"] f_law_versions fd_law_versions)
    (D_law_picks : Df K mg "_law_picks" s_law_picks ["_law_deck_here", "_law_things"] f_law_picks fd_law_picks)
    (D_law_first_paths : Df K mg "_law_first_paths" s_law_first_paths ["_law_things", "_law_held_here", "_law_version", "_law_picks_here"] f_law_first_paths fd_law_first_paths)
    (D_law_lack : Df K mg "_law_lack" s_law_lack ["_law_view", "_law_version", "_law_path"] f_law_lack fd_law_lack)
    (D_law_good : Df K mg "_law_good" s_law_good ["_law_found"] f_law_good fd_law_good)
    (D_law_wide : Df K mg "_law_wide" s_law_wide ["_law_deck_here"] f_law_wide fd_law_wide)
    (D_law_whole : Df K mg "_law_whole" s_law_whole ["_law_found"] f_law_whole fd_law_whole)
    (D_law : Df K mg "law" s_law ["_law_script"] f fd)
    (K_Book : Kl K mg "Book" C_Book ["contents", "depths", "given"]) (M_Book : Mk K C_Book f_Book___init__)
    (K_Holding : Kl K mg "Holding" C_Holding ["book", "row", "here"]) (M_Holding : Mk K C_Holding f_Holding___init__)
    (X_NoName : ExnI K mg "NoName" C_NoName f_NoName___init__ fd_NoName___init__ ["self", "name"] ["name"])
    (X_Lack : ExnI K mg "Lack" C_Lack f_Lack___init__ fd_Lack___init__ ["self", "name"] ["name"])
    (X_NoPath : ExnI K mg "NoPath" C_NoPath f_NoPath___init__ fd_NoPath___init__ ["self", "path"] ["path"])
    (g_HouseError : mg "HouseError" = some (.ref C_HouseError))
    (xm_Lack_Lack : PySem.W.exmOne K (.ref C_Lack) (.ref C_Lack) = some true)
    (TB_read : LamX.TabB base mg cL_read PL_read) (hcode_read : fd_read.code = .ref cL_read)
    : FnOk P w K mg base CX0 16 f fd ["_law_script"] (spLaw K PL_read) := by
  obtain ⟨ds_is_int, V_is_int, B_is_int⟩ := D_is_int.b
  obtain ⟨ds_is_text, V_is_text, B_is_text⟩ := D_is_text.b
  obtain ⟨ds_reasons, V_reasons, B_reasons⟩ := D_reasons.b
  obtain ⟨ds_wanted, V_wanted, B_wanted⟩ := D_wanted.b
  obtain ⟨ds_lacks, V_lacks, B_lacks⟩ := D_lacks.b
  obtain ⟨tk_SIGNS, g_SIGNS⟩ := T.g_SIGNS
  obtain ⟨tk_LETTERS, g_LETTERS⟩ := T.g_LETTERS
  obtain ⟨tk_MOST, g_MOST⟩ := T.g_MOST
  obtain ⟨tk_DEEP, g_DEEP⟩ := T.g_DEEP
  have g_NoName := X_NoName.g
  have g_Lack := X_Lack.g
  have g_NoPath := X_NoPath.g
  have G_law_deck : FnOk P w K mg base CX0 1 f_law_deck fd_law_deck ["_law_script"] (spDeck K) := ok_deck T D_law_deck.fn
  have G_law_draw : FnOk P w K mg base CX0 2 f_law_draw fd_law_draw ["_law_deck_here", "_law_many"] spDraw := ok_draw T D_law_draw.fn D_law_mixed
  have G_law_scene : FnOk P w K mg base CX0 6 f_law_scene fd_law_scene ["_law_deck_here", "_law_turn"] spScene := ok_scene T D_law_scene.fn D_law_mixed D_law_draw D_law_text D_law_label D_law_rows D_law_entries D_law_some D_law_give D_law_tall D_law_thick D_law_family
  have G_law_held : FnOk P w K mg base CX0 3 f_law_held fd_law_held ["_law_deck_here", "_law_things"] spLHeld := ok_lheld T D_law_held.fn D_law_mixed D_law_draw D_law_parts D_law_under
  have G_is_content : FnOk P w K mg base CX0 5 f_is_content fd_is_content ["book", "thing"] (spIsContent P w C_Book) := ok_iscontent T D_is_content.fn K_Book D_is_tree D_is_version D_depth_of D_are_rows D_is_entry D_rise D_is_pair D_is_label D_rising_ints D_are_ints D_is_kind D_is_name D_is_int D_is_text
  have G_Book_named : FnOk P w K mg base CX0 6 f_Book_named fd_Book_named ["self", "content"] (spNamed P w C_Book) := ok_named T D_Book_named.fn K_Book D_is_content D_depth_of G_is_content
  have G_law_book : FnOk P w K mg base CX0 7 f_law_book fd_law_book ["_law_things"] (spLBook P w C_Book) := ok_lbook T D_law_book.fn K_Book M_Book D_Book___init__ D_Book_named G_Book_named
  have G_Holding___init__ : FnOk P w K mg base CX0 3 f_Holding___init__ fd_Holding___init__ ["self", "book", "names"] (spViewInit P w C_Book C_Holding) := ok_viewinit T D_Holding___init__.fn K_Book K_Holding D_is_name D_is_int
  have G_law_versions : FnOk P w K mg base CX0 1 f_law_versions fd_law_versions ["_law_things"] spLVers := ok_lvers T D_law_versions.fn
  have G_law_picks : FnOk P w K mg base CX0 4 f_law_picks fd_law_picks ["_law_deck_here", "_law_things"] spLPicks := ok_lpicks T D_law_picks.fn D_law_mixed D_law_draw D_law_label
  have G_Holding_names : FnOk P w K mg base CX0 1 f_Holding_names fd_Holding_names ["self"] (spNames P w C_Book C_Holding) := ok_names T D_Holding_names.fn K_Holding
  have G_law_wide : FnOk P w K mg base CX0 5 f_law_wide fd_law_wide ["_law_deck_here"] spWide := ok_wide T D_law_wide.fn D_law_mixed D_law_draw D_law_text D_law_rows
  have G_law_first_paths : FnOk P w K mg base CX0 2 f_law_first_paths fd_law_first_paths ["_law_things", "_law_held_here", "_law_version", "_law_picks_here"] (spLFirst K) := ok_lfirst T D_law_first_paths.fn
  have G_law_whole : FnOk P w K mg base CX0 1 f_law_whole fd_law_whole ["_law_found"] spLWhole := ok_lwhole T D_law_whole.fn
  have G_law_good : FnOk P w K mg base CX0 2 f_law_good fd_law_good ["_law_found"] spLGood := ok_lgood T D_law_good.fn D_law_whole
  have G_wanted : FnOk P w K mg base (L2.CX P w) 7 f_wanted fd_wanted ["view", "versions", "under"] (spWanted P w K C_Book C_Holding C_NoName) := ok_wanted T D_wanted D_reasons D_look D_entered D_tops D_chosen K_Book K_Holding D_Holding_holds D_Book_parts D_Book_kind D_Book_thing D_is_name D_is_int F_NoName___init__ X_NoName
  generalize hTL : [(PL_read, QRead)] = TL
  have G_read : FnOk P w K mg base (L2.CX P w) 8 f_read fd_read ["view", "version", "path"] (spRead P w C_Book C_Holding C_NoName C_Lack C_NoPath TL) := ok_read T D_read.fn D_come_to D_entry K_Book K_Holding D_Holding_holds D_Book_kind D_Book_thing D_is_name D_is_int F_NoName___init__ X_NoName F_Lack___init__ X_Lack F_NoPath___init__ X_NoPath TB_read hcode_read (by rw [← hTL]; simp) (by rw [← hTL]; intro p hp _; rw [List.mem_singleton.mp hp])
  have G_lacks : FnOk P w K mg base (L2.CX P w) 14 f_lacks fd_lacks ["view", "version", "under"] (spLacks P w K C_Book C_Holding) := ok_lacks T D_lacks D_go_down D_chosen K_Book K_Holding D_Holding_holds D_Book_kind D_Book_thing D_is_name D_is_int F_NoName___init__ X_NoName
  have G_law_lack := ok_llack T D_law_lack.fn D_read G_read X_Lack xm_Lack_Lack
  obtain ⟨kg_wanted, KB_wanted⟩ := D_wanted.kb
  obtain ⟨kg_lacks, KB_lacks⟩ := D_lacks.kb
  obtain ⟨ds_lacks, V_lacks, B_lacks⟩ := D_lacks.b
  refine D_law.fn.ok sc_law (fun vs H Q E h => ?_) (fun cdv A outer s H vs Q E hr h => ?_)
  · obtain ⟨a, ns, rfl, _⟩ := h
    rfl
  · obtain ⟨a0, ns0, rfl, hS0, hl0, hPA, q⟩ := h
    have hu := hu_of hr
    have Tb0 : LamX.Tabs TL H := by rw [← hTL]; exact tabs1 hPA
    refine ⟨_,
      (pss_cons
        (ps_set (i := 1) sc_law.nd rfl (.inl rfl) (pe_call G_law_deck (hr.mono (by omega)) (by rfl) D_law_deck.g D_law_deck.fn.kp D_law_deck.b .nil pass0 (pa_cons (pv 0) pa_nil)))
      (pss_cons
        (ps_set (i := 2) sc_law.nd rfl (.inl rfl) (pe_call G_law_draw (hr.mono (by omega)) (by rfl) D_law_draw.g D_law_draw.fn.kp D_law_draw.b .nil pass0 (pa_cons (pv 1) (pa_cons pe_int pa_nil))))
      (pss_cons
        (ps_if (pt_cmpR op_eq (pv 2) pe_int (nomark _))
          (pss_one
            (ps_set (i := 3) sc_law.nd rfl (.inl rfl) (pe_call G_law_wide (hr.mono (by omega)) (by rfl) D_law_wide.g D_law_wide.fn.kp D_law_wide.b .nil pass0 (pa_cons (pv 1) pa_nil))))
          (pss_one
            (ps_set (i := 3) sc_law.nd rfl (.inl rfl) (pe_call G_law_scene (hr.mono (by omega)) (by rfl) D_law_scene.g D_law_scene.fn.kp D_law_scene.b .nil pass0 (pa_cons (pv 1) (pa_cons (pe_ix (r := rIxL K) ix_list (pe_lst (pa_cons pe_int (pa_cons pe_int (pa_cons pe_int (pa_cons pe_int pa_nil))))) (pe_op op_mod (pv 2) pe_int) (fun _ _ => rfl)) pa_nil))))))
      (pss_cons
        (ps_set (i := 4) sc_law.nd rfl (.inl rfl) (pe_call G_law_held (hr.mono (by omega)) (by rfl) D_law_held.g D_law_held.fn.kp D_law_held.b .nil pass0 (pa_cons (pv 1) (pa_cons (pv 3) pa_nil))))
      (pss_cons
        (ps_set (i := 5) sc_law.nd rfl (.inl rfl) (pe_make M_Holding G_Holding___init__ (hr.mono (by omega)) (by rfl) K_Holding.g D_Holding___init__.b .nil pass0 (pa_cons (pe_call G_law_book (hr.mono (by omega)) (by rfl) D_law_book.g D_law_book.fn.kp D_law_book.b .nil pass0 (pa_cons (pv 3) pa_nil)) (pa_cons (pe_callTy (r := rListOf K) c_listOf (by rfl) T.n_list (by decide +kernel) (pa_cons (pv 4) pa_nil)) pa_nil))))
      (pss_cons
        (ps_set (i := 6) sc_law.nd rfl (.inl rfl) (pe_call G_law_versions (hr.mono (by omega)) (by rfl) D_law_versions.g D_law_versions.fn.kp D_law_versions.b .nil pass0 (pa_cons (pv 3) pa_nil)))
      (pss_cons
        (ps_set (i := 7) sc_law.nd rfl (.inl rfl) (pe_ix (r := rIxL K) ix_list (pv 6) (pe_call G_law_draw (hr.mono (by omega)) (by rfl) D_law_draw.g D_law_draw.fn.kp D_law_draw.b .nil pass0 (pa_cons (pv 1) (pa_cons (pe_callB (r := rLen K) c_len (by rfl) T.n_len (by decide +kernel) (pa_cons (pv 6) pa_nil)) pa_nil))) (fun _ _ => rfl)))
      (pss_cons
        (ps_set (i := 8) sc_law.nd rfl (.inl rfl) (pe_call G_law_picks (hr.mono (by omega)) (by rfl) D_law_picks.g D_law_picks.fn.kp D_law_picks.b .nil pass0 (pa_cons (pv 1) (pa_cons (pv 3) pa_nil))))
      (pss_cons
        (ps_set (i := 9) sc_law.nd rfl (.inl rfl) (pe_callN G_lacks (hr.mono (by omega)) (by rfl) D_lacks.g D_lacks.kp KB_lacks passL (pa_cons (pv 5) (pa_cons (pv 7) pa_nil)) (pk_cons (pv 8) pk_nil)))
      (pss_cons
        (ps_if (pt_cmpR (r := rEqD K) (op_eqD hr.units) (pv 8) (pe_tup pa_nil) (nomark _))
          (pss_one
            (ps_set (i := 9) sc_law.nd rfl (.inl rfl) (pe_call G_lacks (hr.mono (by omega)) (by rfl) D_lacks.g D_lacks.kp B_lacks V_lacks passL (pa_cons (pv 5) (pa_cons (pv 7) pa_nil)))))
          pss_nil)
      (pss_cons
        (ps_set (i := 10) sc_law.nd rfl (.inl rfl) (pe_call G_law_first_paths (hr.mono (by omega)) (by rfl) D_law_first_paths.g D_law_first_paths.fn.kp D_law_first_paths.b .nil pass0 (pa_cons (pv 3) (pa_cons (pv 4) (pa_cons (pv 7) (pa_cons (pv 8) pa_nil))))))
      (pss_cons
        (ps_if (PW.pt (pw_or (pt_not (pt_val (pe_call G_law_good (hr.mono (by omega)) (by rfl) D_law_good.g D_law_good.fn.kp D_law_good.b .nil pass0 (pa_cons (pv 9) pa_nil)))) (pw_or1 (pt_cmpR (r := rNeD K) (op_neD hr.units) (pv 9) (pv 10) (nomark _)))))
          (pss_one
            (ps_ret pe_bl))
          pss_nil)
      (pss_cons
        (ps_if (pt_cmpR (r := rNeD K) (op_neD hr.units) (pe_lc (own := [("_law_name", 11), ("_law_path", 12)]) (g := (gTup K 2 (gCons (gName 11) (gCons (gName 12) gNil)))) rfl sc_law.nd (pi_list (pv 9)) (blkOk_by (own := [("_law_name", 11), ("_law_path", 12)]) (N := N_law) (sc := defScope s_law) (by decide +kernel)) (fun _ _ _ _ _ => (pg_tup rfl (pgs_cons (pg_name (i := 11) sc_law.nd rfl (.inl rfl)) (pgs_cons (pg_name (i := 12) sc_law.nd rfl (.inl rfl)) pgs_nil)))) (fun _ _ _ _ _ => pts_nil) (fun _ _ _ _ _ => (pv 11))) (pe_callTy (r := rListOf K) c_listOf (by rfl) T.n_list (by decide +kernel) (pa_cons (pe_ix (r := rIxT K) ix_tup (pe_callN G_wanted (hr.mono (by omega)) (by rfl) D_wanted.g D_wanted.kp KB_wanted passL (pa_cons (pv 5) (pa_cons (pe_tup (pa_cons (pv 7) pa_nil)) pa_nil)) (pk_cons (pv 8) pk_nil)) pe_int (fun _ _ => rfl)) pa_nil)) (nomark _))
          (pss_one
            (ps_ret pe_bl))
          pss_nil)
      (pss_cons
        (ps_for PassesOwn.never rfl (pi_list (pv 9)) (pg_tup rfl (pgs_cons (pg_name (i := 11) sc_law.nd rfl (.inl rfl)) (pgs_cons (pg_name (i := 12) sc_law.nd rfl (.inl rfl)) pgs_nil)))
          (pss_cons
            (ps_set (i := 13) sc_law.nd rfl (.inl rfl) (pe_call G_law_lack (hr.mono (by omega)) (by rfl) D_law_lack.g D_law_lack.fn.kp D_law_lack.b .nil pass0 (pa_cons (pv 5) (pa_cons (pv 7) (pa_cons (pv 12) pa_nil)))))
          (pss_one
            (ps_if (PW.pt (pw_or (pt_not (pt_val (pe_call G_law_whole (hr.mono (by omega)) (by rfl) D_law_whole.g D_law_whole.fn.kp D_law_whole.b .nil pass0 (pa_cons (pv 13) pa_nil)))) (pw_or1 (pt_cmpR op_ne (pv 13) (pv 11) (nomark _)))))
              (pss_one
                (ps_ret pe_bl))
              pss_nil))))
      (pss_cons
        (ps_expr (pe_bm PySem.F.plainAttrs_list PySem.F.slot_list_append PySem.F.type_list_append mt_append (pv 9) (pa_cons (pe_tup (pa_cons pe_int (pa_cons (pe_tup (pa_cons pe_str pa_nil)) pa_nil))) pa_nil)))
      (pss_one
        (ps_ret (pe_and (pe_cmpR (r := rEqD K) (op_eqD hr.units) (pe_callN G_lacks (hr.mono (by omega)) (by rfl) D_lacks.g D_lacks.kp KB_lacks passL (pa_cons (pv 5) (pa_cons (pv 7) pa_nil)) (pk_cons (pv 8) pk_nil)) (pv 10) (nomark _)) (pe_one (pe_cmpR (r := rEqD K) (op_eqD hr.units) (pe_meth0 (pv 5) K_Holding.cl D_Holding_names.m G_Holding_names (hr.mono (by omega)) D_Holding_names.b .nil pass0) (pv 4) (nomark _)))))))))))))))))))))
      , ?_⟩
    rw [show L2.start N_law [V.ref a0] = [some (.ref a0), none, none, none, none, none, none, none, none, none, none, none, none, none] from rfl]
    walk_at "x"
    refine w_deck hS0 fun H1 d c k1 hd0 hc0 D1 => ?_
    have Tb1 : LamX.Tabs TL H1 := Tb0.ext k1
    walk_at "g"
    refine w_draw D1 (by decide) (by decide) (by decide) fun turn H2 hturn D2 o2 => ?_
    have Tb2 := tabs_dk Tb1 D1 (o2.kp (by simp))
    walk_at "g"
    refine w_seqJ (fun σ' H' => ∃ th : Addr, σ' = [some (.ref a0), some (.ref d), some (.int (turn : Int)), some (.ref th), none, none, none, none, none, none, none, none, none, none] ∧ th ≠ d ∧ Deck H' d c 2000 ∧ LamX.Tabs TL H' ∧ ∃ cs, ThAt H' th cs ∧ Fam cs 8 ∧ cs.length ≤ 400 ∧ ∃ i, isV cs i) ?_ ?_
    rotate_left
    · intro U hU
      walk_at "g"
      refine w_ite (fun h5 => ?_) (fun h5 => ?_)
      · walk_at "g"
        refine ⟨d, c, _, rfl, D2, by decide, fun H5 th cs D5 x5 hth T5 F5 hcl hv => ?_⟩
        walk_at "g"
        exact hU _ _ ⟨th, rfl, (D2.ne1 hth).1, D5.mono (by decide), tabs_dk Tb2 D2 x5.p, cs, T5, F5, hcl, hv⟩
      walk_at "g"
      refine w_new fun il H3 hil e3 k3 => ?_
      have D3 : Deck H3 d c 1 := D2.kp (M := []) (Kp.of k3) (by simp) (by simp)
      obtain ⟨tn, htn, htn'⟩ : ∃ t : Nat, atI [V.int 0, .int 0, .int 6, .int 1] ((turn : Int) % 4) = some (nV t) ∧ (t = 0 ∨ t = 1 ∨ t = 6) := by
        have e : ((turn : Int) % 4) = ((turn % 4 : Nat) : Int) := by omega
        rw [e]
        have : turn % 4 < 4 := Nat.mod_lt _ (by decide)
        match turn % 4, this with
        | 0, _ => exact ⟨0, rfl, by decide⟩
        | 1, _ => exact ⟨0, rfl, by decide⟩
        | 2, _ => exact ⟨6, rfl, by decide⟩
        | 3, _ => exact ⟨1, rfl, by decide⟩
      walk_at "g"
      refine ⟨d, c, _, tn, rfl, htn', D3, by decide, fun H5 th cs D5 x5 hth T5 F5 hcl hv => ?_⟩
      walk_at "g"
      exact hU _ _ ⟨th, rfl, (D3.ne1 hth).1, D5.mono (by decide), tabs_dk (Tb2.ext k3) D3 x5.p, cs, T5, F5, hcl, hv⟩
    clear Tb0 Tb1 Tb2 D1 D2
    rintro σ' H5 ⟨th, rfl, nthd, D5, Tb5, cs, T5, F5, hcl, hv⟩
    walk_at "g"
    refine ⟨d, c, th, 2000, cs, 8, rfl, D5, by decide, T5, nthd, F5, hcl, fun hl H6 hs hhl ehl hup hin D6 x6 => ?_⟩
    have Tb6 := tabs_dk Tb5 D5 x6.p
    have nhld : hl ≠ d := (D5.ne1 hhl).1
    have T6 := T5.kp x6.p x6.t (by simpa using nthd)
    have hsl : hs.length ≤ 400 := by
      have := rise_len hs 0 cs.length hup (fun _ _ => Nat.zero_le _) hin (Nat.zero_le _)
      omega
    walk_at "g"
    refine ⟨th, cs, rfl, T6, F5.ok, F5.nd, hcl, fun H7 p dx lc ld lg ds hp hlc hld hlg B7 k7 => ?_⟩
    have npd := (D6.ne1 hp).1
    have nlcd := (D6.ne1 hlc).1
    have nldd := (D6.ne1 hld).1
    have nlgd := (D6.ne1 hlg).1
    have ehl7 := k7 _ _ ehl
    walk_at "g"
    refine w_listL (.of ehl7) fun l8 H8 hl8 e8 k8 => ?_
    walk_at "g"
    refine w_make' fun v dv H9 hv9 hdv9 hne9 e9 k9 => ?_
    refine ⟨v, dv, p, dx, lc, ld, lg, l8, cs, ds, hs, rfl, e9, (B7.same k8).same k9, k9 _ _ e8, by omega, hin, fun rw1 hv1 hs1 H10 hrw1 hhv1 W10 hm10 k10 => ⟨rfl, ?_⟩⟩
    obtain rfl : hs1 = hs := rise_extR W10.up hup hm10
    have k810 : Same H8 H10 := fun b o e => k10 _ _ (by simpa using ne_of_none e hv9) (k9 _ _ e)
    have k610 : Same H6 H10 := Same.trans k7 (Same.trans k8 k810)
    have D8 : Deck H8 d c 2500 := D6.kp (M := []) (Kp.of (Same.trans k7 k8)) (by simp) (by simp)
    have D9 : Deck H9 d c 2500 := D8.kp (M := []) (Kp.of k9) (by simp) (by simp)
    have D10 : Deck H10 d c 2500 := D6.kp (M := []) (Kp.of k610) (by simp) (by simp)
    have nvd : v ≠ d := (D8.ne1 hv9).1
    have nrwd : rw1 ≠ d := (D9.ne1 hrw1).1
    have nhvd : hv1 ≠ d := (D9.ne1 hhv1).1
    have T10 := T6.same k610
    have Tb10 := Tb6.ext k610
    have ehl10 := k610 _ _ ehl
    clear D5 D8 D9 T5 B7
    walk_at "g"
    refine ⟨th, cs, rfl, T10, hcl, fun H11 pl0 k11 hpl e11 => ?_⟩
    generalize hvn : (List.range cs.length).filter (isVb cs) = vn at e11
    have hvm : ∀ m, m ∈ vn ↔ isV cs m := fun m => by
      rw [← hvn, List.mem_filter, List.mem_range]
      constructor
      · rintro ⟨h1, h2⟩
        exact (isVb_iff h1).mp h2
      · intro h
        exact ⟨h.lt, (isVb_iff h.lt).mpr h⟩
    have hvl : vn.length ≤ 400 := by rw [← hvn]; exact Nat.le_trans (List.length_filter_le _ _) (by rw [List.length_range]; exact hcl)
    obtain ⟨i0, hi0⟩ := hv
    have hvp : 0 < vn.length := List.length_pos_of_mem ((hvm i0).mpr hi0)
    have D11 : Deck H11 d c 2500 := D10.kp (M := []) (Kp.of k11) (by simp) (by simp)
    have npld : pl0 ≠ d := (D10.ne1 hpl).1
    walk_at "g"
    refine w_draw D11 (by decide) (by rw [List.length_map]; omega) (by rw [List.length_map]; omega) fun ui H12 hui D12 o12 => ?_
    rw [List.length_map] at hui
    have hul : ui < vn.length := by omega
    have e12 := o12.get npld e11
    have at1 : atI (vn.map nV) (ui : Int) = some (nV vn[ui]) := atI_nat (nV_at hul)
    have iv : isV cs (vn[ui]) := (hvm _).mp (List.getElem_mem _)
    revert at1 iv
    generalize vn[ui] = u
    intro at1 iv
    have x12 : KX d H10 H12 := (KX.of k11).trans (D11.kx D12 o12)
    have T12 := T10.kp x12.p x12.t (by simpa using nthd)
    walk_at "g"
    refine ⟨d, c, th, _, cs, rfl, D12, by decide, T12, nthd, hcl, fun n => ⟨(F5.entT n).1, fun e he => ((F5.entT n).2 e he).1⟩, fun H13 pk us D13 x13' epk hus => ?_⟩
    have x13 := x12.trans x13'
    have T13 := T10.kp x13.p x13.t (by simpa using nthd)
    have W13 : ViewAt P w C_Book C_Holding H13 v dv p dx lc ld lg rw1 hv1 cs ds hs1 := W10.kp x13.p x13.t (by simpa using nvd) (by simpa using nrwd) (by simpa using nhvd) (by simpa using npd) (by simpa using nlcd) (by simpa using nldd) (by simpa using nlgd)
    have Tb13 := tabs_dk Tb10 D10 x13.p
    have ehl13 := x13.p _ _ (by simpa using nhld) ehl10
    have tr := F5.tr
    have en := F5.entNd
    clear Tb5 Tb6 Tb10 D6 D10 D11 D12 T6 T10 T12 W10
    walk_at "g"
    refine ⟨rfl, rfl, v, dv, p, dx, lc, ld, lg, rw1, hv1, pk, cs, ds, hs1, u, us, rfl, W13, tr, F5.ht, iv, .inl epk, hus, fun H14 L14 ls14 k14 hL14 LK14 up14 mem14 => ?_⟩
    walk_at "g"
    refine w_seqJ (fun σ' H' => ∃ (L : Addr) (ls : List (Nat × List Str)), σ' = [some (.ref a0), some (.ref d), some (.int (turn : Int)), some (.ref th), some (.ref hl), some (.ref v), some (.ref pl0), some (.int (u : Int)), some (.ref pk), some (.ref L), none, none, none, none] ∧ Same H13 H' ∧ H13 L = none ∧ LksAt H' L ls ∧ (ls.map (·.1)).Pairwise (· < ·) ∧ ∀ x, x ∈ ls ↔ x ∈ lackG cs hs1 us u) ?_ ?_
    rotate_left
    · intro U hU
      walk_at "g"
      refine w_new fun z0 H15 hz0 ez0 k15 => ?_
      have k1315 := Same.trans k14 k15
      refine w_eqNoUs (UsAt.sq (.inl (k1315 _ _ epk))) hus ez0 ?_
      walk_at "g"
      by_cases hn : us = []
      · rw [decide_eq_true hn]
        walk_at "g"
        refine ⟨v, dv, p, dx, lc, ld, lg, rw1, hv1, ku_lacks_under, cs, ds, hs1, u, us, rfl, W13.same k1315, tr, F5.ht, iv, .inr fun H' => by rw [hn]; exact U_lacks_under H', hus, fun H16 L16 ls16 k16 hL16 LK16 up16 mem16 => ?_⟩
        walk_at "g"
        exact hU _ _ ⟨L16, ls16, rfl, Same.trans k1315 k16, k1315.free hL16, LK16, up16, mem16⟩
      · rw [decide_eq_false hn]
        walk_at "g"
        exact hU _ _ ⟨L14, ls14, rfl, k1315, hL14, LK14.same k15, up14, mem14⟩
    rintro σ' H17 ⟨L, ls, rfl, k17, hL, LK17, up17, mem17⟩
    walk_at "g"
    refine ⟨th, hl, pk, cs, hs1, us, u, rfl, T13.same k17, hcl, k17 _ _ ehl13, .inl (k17 _ _ epk), hus, iv, tr, fun H18 DL dls k18 hDL LKd upd memd => ?_⟩
    obtain rfl : dls = ls := rise_extP upd up17 fun x => (memd x).trans (mem17 x).symm
    have LK18 := LK17.same k18
    have pth : ∀ z ∈ dls, comeP cs (fun n => !decide (n ∈ hs1)) u z.2 = .lack z.1 ∧ z.2.length ≤ cs.length ∧ (∀ y ∈ z.2, LabOk y) ∧ z.1 < cs.length := fun z hz => lackG_path tr en iv ((mem17 z).mp hz)
    obtain ⟨sh, eqv⟩ := lksD_sh (ls := dls) fun z hz => (pth z hz).2.2.1
    have hlen : dls.length ≤ 400 := by
      have h1 := rise_len _ 0 cs.length up17 (fun _ _ => Nat.zero_le _) (fun n hn => by obtain ⟨z, hz, rfl⟩ := List.mem_map.mp hn; exact (pth z hz).2.2.2) (Nat.zero_le _)
      rw [List.length_map] at h1
      omega
    have nDL : DL ≠ L := fun z => by
      obtain ⟨qs, e, _⟩ := LK17
      rw [z, e] at hDL
      cases hDL
    walk_at "g"
    refine w_seq ?_
    walk_at "g"
    refine ⟨L, dls, rfl, LK18, fun z hz => by have := (pth z hz).2.1; omega, by omega, fun H19 k19 => ?_⟩
    have LK19 := LK18.same k19
    have LKd19 := LKd.same k19
    walk_at "g"
    refine w_neSame LK19.dp LKd19.dp sh eqv ?_
    walk_at "g"
    refine w_seq ?_
    obtain ⟨qs, eL19, eqs, hqs⟩ := LK19
    have hql : qs.length = dls.length := by rw [← eqs, List.length_map]
    walk_at "g"
    try refine w_itL' (.of eL19) ?_
    refine lcp_map (walk_list (K := K) (a := L) (xs := qs.map fun q => V.ref q.1)) [] ((dls.map (·.1)).map nV) (by simp [hql]) (by rw [List.length_map]; omega) (fun H' k => .of (k _ _ (by simp) eL19)) ?_ (by simp) ?_
    · rintro i x Ha Hb R hi ka ⟨rfl, hx⟩ hR
      obtain ⟨z, hz, rfl⟩ := map_at hx
      obtain ⟨ez, _⟩ := hqs z (List.mem_of_getElem? hz)
      refine w_gtup (K := K) (.of (ka.same _ _ ez)) rfl (w_gcons (w_name (w_gcons (w_name (w_gnil ⟨rfl, ?_⟩)))))
      walk_at "g"
      exact hR _ _ (by rw [← eqs, List.getElem?_map, List.getElem?_map, List.getElem?_map, hz]; rfl) Kp.refl
    intro nl H20 hnl k20 enl
    have k1320 : Same H13 H20 := Same.trans k17 (Same.trans k18 (Same.trans k19 k20.same))
    walk_at "g"
    refine w_new fun sa H21 hsa esa k21 => ?_
    have k1321 := Same.trans k1320 k21
    walk_at "g"
    refine ⟨rfl, rfl, v, dv, p, dx, lc, ld, lg, rw1, hv1, sa, pk, cs, ds, hs1, [(u : Int)], us, rfl, W13.same k1321, tr, esa, by simp, .inl (k1321 _ _ epk), hus, fun st' e hv' H22 t k22 wt => ?_, fun pre post y e _ hy => ?_⟩
    rotate_left
    · have hy' : y = (u : Int) := by
        have : y ∈ [(u : Int)] := by rw [e]; simp
        simpa using this
      exact absurd ⟨u, hy', iv⟩ hy
    obtain rfl : st' = [u] := cast_inj e
    obtain ⟨by', wn, da, db, ⟨ki, hki⟩, wup, wmem, ewt, eda, edb⟩ := wt
    have at1' : atI [V.ref da, .ref db] 1 = some (.ref db) := rfl
    have ewn : (wn.filter fun n => !decide (n ∈ hs1)) = dls.map (·.1) := by
      refine rise_extR (wup.filter _) up17 fun x => ?_
      rw [List.mem_filter, wmem x]
      have h1 : x ∈ dls.map (·.1) ↔ x ∈ nmF (lackG cs hs1 us u) := by
        unfold nmF
        rw [List.mem_map, List.mem_map]
        exact ⟨fun ⟨a, ha, e⟩ => ⟨a, (mem17 a).mp ha, e⟩, fun ⟨a, ha, e⟩ => ⟨a, (mem17 a).mpr ha, e⟩⟩
      rw [h1, lackG_wanted tr hki]
      constructor
      · rintro ⟨g1, g2⟩
        exact ⟨by simpa using g2, g1⟩
      · rintro ⟨g1, g2⟩
        exact ⟨g2, by simpa using g1⟩
    rw [ewn] at edb
    walk_at "g"
    refine w_listT (.of edb) fun l23 H23 hl23 e23 k23 => ?_
    have k2023 : Same H20 H23 := Same.trans k21 (Same.trans k22 k23)
    walk_at "g"
    refine w_neNats (k2023 _ _ enl) e23 ?_
    walk_at "g"
    have k1923 : Same H19 H23 := Same.trans k20.same k2023
    have k1323 : Same H13 H23 := Same.trans k1320 k2023
    have W23 := W13.same k1323
    have Tb23 := Tb13.ext k1323
    have eL23 := k1923 _ _ eL19
    have hqs23 : ∀ z ∈ qs, H23 z.1 = some (.tup [nV z.2.2.1, .ref z.2.1]) ∧ RwAt H23 z.2.1 z.2.2.2 := fun z hz => ⟨k1923 _ _ (hqs z hz).1, k1923 _ _ (hqs z hz).2⟩
    have LKd23 := LKd19.same k1923
    have ehl23 := k1323 _ _ ehl13
    have epk23 := k1323 _ _ epk
    try refine w_itL' (.of eL23) ?_
    refine lp_list (xs := qs.map fun q => V.ref q.1) (fun j σ H' => ∃ y11 y12 y13 : Option V, σ = [some (.ref a0), some (.ref d), some (.int (turn : Int)), some (.ref th), some (.ref hl), some (.ref v), some (.ref pl0), some (.int (u : Int)), some (.ref pk), some (.ref L), some (.ref DL), y11, y12, y13] ∧ LamX.ExtN H23 H' ∧ LamX.Tabs TL H') ⟨_, _, _, rfl, LamX.ExtN.refl _, Tb23⟩ (fun j σ H' _ h => by obtain ⟨_, _, _, _, k, _⟩ := h; exact .of (k _ _ eL23 (fun ps z => nomatch z))) ?_ ?_
    · rintro j x σ H24 hx ⟨y11, y12, y13, rfl, k24, Tb24⟩
      obtain ⟨z, hz, rfl⟩ := map_at hx
      obtain ⟨ez, et⟩ := hqs23 z (List.mem_of_getElem? hz)
      have hzl : z.2.2 ∈ dls := by rw [← eqs]; exact List.mem_map_of_mem (List.mem_of_getElem? hz)
      obtain ⟨hc, hpl, _, _⟩ := pth _ hzl
      refine w_gtup (K := K) (.of (KT.ofN k24 _ _ ez)) rfl (w_gcons (w_name (w_gcons (w_name (w_gnil ?_)))))
      walk_at "g"
      refine ⟨v, dv, p, dx, lc, ld, lg, rw1, hv1, z.2.1, cs, ds, hs1, u, z.2.2.1, z.2.2.2, rfl, W23.ofN k24, KT.ofN k24 _ _ et, by omega, tr, iv, Tb24, hc, fun H25 k25 Tb25 => ?_⟩
      walk_at "g"
      refine ⟨_, rfl, ?_⟩
      walk_at "g"
      refine w_nyes rfl ?_
      walk_at "g"
      exact ⟨_, _, _, rfl, k24.trans k25, Tb25⟩
    rintro σ H26 ⟨y11, y12, y13, rfl, k26, Tb26⟩
    have eL26 := k26 _ _ eL23 (fun ps z => nomatch z)
    walk_at "g"
    refine w_new fun p1 H27 hp1 ep1 k27 => ?_
    walk_at "g"
    refine w_new fun p2 H28 hp2 ep2 k28 => ?_
    have k2628 := Same.trans k27 k28
    walk_at "g"
    refine w_app (k2628 _ _ eL26) (small2000 (by rw [List.length_map]; omega)) fun H29 e29 o29 => ?_
    have t29 : KT H28 H29 := KT.off o29 (k2628 _ _ eL26)
    have nLs : ∀ {a : Addr} {o : HO}, H13 a = some o → a ∉ [L] := fun {a o} e => by simpa using ne_of_none e hL
    have W28 := (W23.ofN k26).same k2628
    have W29 : ViewAt P w C_Book C_Holding H29 v dv p dx lc ld lg rw1 hv1 cs ds hs1 := by
      obtain ⟨kvs, gh, _⟩ := W13.here
      exact W28.kp (M := [L]) (o29.kp (by simp)) t29 (nLs W13.ob) (nLs W13.row) (nLs gh) (nLs W13.bk.ob) (nLs W13.bk.co) (nLs W13.bk.de) (nLs W13.bk.gi.at')
    have epk29 := t29 _ _ (k2628 _ _ (KT.ofN k26 _ _ epk23))
    have ehl29 := o29.get (ne_of_none ehl13 hL) (k2628 _ _ (k26 _ _ ehl23 (fun ps z => nomatch z)))
    have LKd29 : LksAt H29 DL dls := ((LKd23.ofN k26).same k2628).kpn t29 fun o e _ => o29.get nDL e
    walk_at "g"
    refine ⟨rfl, rfl, v, dv, p, dx, lc, ld, lg, rw1, hv1, pk, cs, ds, hs1, u, us, rfl, W29, tr, F5.ht, iv, .inl epk29, hus, fun H30 L30 ls30 k30 hL30 LK30 up30 mem30 => ?_⟩
    obtain rfl : ls30 = dls := rise_extP up30 up17 fun x => (mem30 x).trans (mem17 x).symm
    walk_at "g"
    refine w_eqSame LK30.dp (LKd29.same k30).dp sh eqv ?_
    have ob30 := (W29.same k30).ob
    walk_at "g"
    refine ⟨v, dv, p, dx, lc, ld, lg, rw1, hv1, cs, ds, hs1, rfl, W29.same k30, fun l31 H31 hl31 e31 k31 => ?_⟩
    walk_at "g"
    refine w_eqNatL e31 ((Same.trans k30 k31) _ _ ehl29) ?_
    exact q _
end
theorem all_mk {l : PySem.W.OpenLaw} {w : World} {K : PySem.W.Frag} {h : Heap} {mg : Str → Option Value} {fa f_NoName___init__ f_Lack___init__ f_NoPath___init__ f_is_int f_is_text f_is_label f_rise f_are_ints f_rising_ints f_is_pair f_are_rows f_look f_chosen f_tops f_entered f_reasons f_wanted f_entry f_come_to f_read f_go_down f_lacks f_Book___init__ f_Book_named f_Book_thing f_Book_kind f_Book_parts f_is_name f_is_kind f_is_entry f_is_tree f_depth_of f_is_version f_is_content f_Holding___init__ f_Holding_holds f_Holding_names f_law_deck f_law_mixed f_law_draw f_law_text f_law_label f_law_give f_law_rows f_law_entries f_law_some f_law_family f_law_parts f_law_under f_law_held f_law_book f_law_tall f_law_long f_law_thick f_law_ladder f_law_scene f_law_versions f_law_picks f_law_first_paths f_law_lack f_law_good f_law_wide f_law_whole f_law C_Book C_Holding cL_read PL_read : Addr} (X : K.In h) (G : h.Ns mainGlobals mg) (hfa : mg "law" = some (.ref fa))
    {od_NoName___init__ an_NoName___init__ : Option Addr} {sl_NoName___init__ : Array (Option Value)} {oc_NoName___init__ kV_NoName___init__ dc_NoName___init__ pm_NoName___init__ cd_NoName___init__ ct_NoName___init__ : Value}
    (l_NoName___init__ : K.lookup f_NoName___init__ = some ⟨oc_NoName___init__, od_NoName___init__, .func (PySem.W.fnOf "__init__" "NoName.__init__" (defArgs s_NoName___init__) (defBody s_NoName___init__) (defScope s_NoName___init__) .none kV_NoName___init__ dc_NoName___init__ pm_NoName___init__ an_NoName___init__ cd_NoName___init__ ct_NoName___init__), sl_NoName___init__⟩) (c_NoName___init__ : PySem.W.codeIn K cd_NoName___init__ "NoName.__init__" = true) (k_NoName___init__ : PySem.W.keepIn K (.ref f_NoName___init__) = true)
    {od_Lack___init__ an_Lack___init__ : Option Addr} {sl_Lack___init__ : Array (Option Value)} {oc_Lack___init__ kV_Lack___init__ dc_Lack___init__ pm_Lack___init__ cd_Lack___init__ ct_Lack___init__ : Value}
    (l_Lack___init__ : K.lookup f_Lack___init__ = some ⟨oc_Lack___init__, od_Lack___init__, .func (PySem.W.fnOf "__init__" "Lack.__init__" (defArgs s_Lack___init__) (defBody s_Lack___init__) (defScope s_Lack___init__) .none kV_Lack___init__ dc_Lack___init__ pm_Lack___init__ an_Lack___init__ cd_Lack___init__ ct_Lack___init__), sl_Lack___init__⟩) (c_Lack___init__ : PySem.W.codeIn K cd_Lack___init__ "Lack.__init__" = true) (k_Lack___init__ : PySem.W.keepIn K (.ref f_Lack___init__) = true)
    {od_NoPath___init__ an_NoPath___init__ : Option Addr} {sl_NoPath___init__ : Array (Option Value)} {oc_NoPath___init__ kV_NoPath___init__ dc_NoPath___init__ pm_NoPath___init__ cd_NoPath___init__ ct_NoPath___init__ : Value}
    (l_NoPath___init__ : K.lookup f_NoPath___init__ = some ⟨oc_NoPath___init__, od_NoPath___init__, .func (PySem.W.fnOf "__init__" "NoPath.__init__" (defArgs s_NoPath___init__) (defBody s_NoPath___init__) (defScope s_NoPath___init__) .none kV_NoPath___init__ dc_NoPath___init__ pm_NoPath___init__ an_NoPath___init__ cd_NoPath___init__ ct_NoPath___init__), sl_NoPath___init__⟩) (c_NoPath___init__ : PySem.W.codeIn K cd_NoPath___init__ "NoPath.__init__" = true) (k_NoPath___init__ : PySem.W.keepIn K (.ref f_NoPath___init__) = true)
    {od_is_int an_is_int : Option Addr} {sl_is_int : Array (Option Value)} {oc_is_int kV_is_int dc_is_int pm_is_int cd_is_int ct_is_int : Value}
    (a_is_int : PySem.W.nsIn K mainGlobals "is_int" = some (some (.ref f_is_int)))
    {dt_is_int : Addr} {do_is_int : Value} {dd_is_int : Option Addr} {dn_is_int : Nat} {ds_is_int : Array (Option Value)} {dk_is_int_least : Tok}
    (l_is_int : K.lookup f_is_int = some ⟨oc_is_int, od_is_int, .func (PySem.W.fnOf "is_int" "is_int" (defArgs s_is_int) (defBody s_is_int) (defScope s_is_int) (.ref dt_is_int) kV_is_int dc_is_int pm_is_int an_is_int cd_is_int ct_is_int), sl_is_int⟩) (c_is_int : PySem.W.codeIn K cd_is_int "is_int" = true) (k_is_int : PySem.W.keepIn K (.ref f_is_int) = true)
    (dl_is_int : K.lookup dt_is_int = some ⟨do_is_int, dd_is_int, .seq #[.int 0 dk_is_int_least] dn_is_int, ds_is_int⟩)
    {od_is_text an_is_text : Option Addr} {sl_is_text : Array (Option Value)} {oc_is_text kV_is_text dc_is_text pm_is_text cd_is_text ct_is_text : Value}
    (a_is_text : PySem.W.nsIn K mainGlobals "is_text" = some (some (.ref f_is_text)))
    {dt_is_text : Addr} {do_is_text : Value} {dd_is_text : Option Addr} {dn_is_text : Nat} {ds_is_text : Array (Option Value)} {dk_is_text_most : Tok}
    (l_is_text : K.lookup f_is_text = some ⟨oc_is_text, od_is_text, .func (PySem.W.fnOf "is_text" "is_text" (defArgs s_is_text) (defBody s_is_text) (defScope s_is_text) (.ref dt_is_text) kV_is_text dc_is_text pm_is_text an_is_text cd_is_text ct_is_text), sl_is_text⟩) (c_is_text : PySem.W.codeIn K cd_is_text "is_text" = true) (k_is_text : PySem.W.keepIn K (.ref f_is_text) = true)
    (dl_is_text : K.lookup dt_is_text = some ⟨do_is_text, dd_is_text, .seq #[.int 40 dk_is_text_most] dn_is_text, ds_is_text⟩)
    {od_is_label an_is_label : Option Addr} {sl_is_label : Array (Option Value)} {oc_is_label kV_is_label dc_is_label pm_is_label cd_is_label ct_is_label : Value}
    (a_is_label : PySem.W.nsIn K mainGlobals "is_label" = some (some (.ref f_is_label)))
    (l_is_label : K.lookup f_is_label = some ⟨oc_is_label, od_is_label, .func (PySem.W.fnOf "is_label" "is_label" (defArgs s_is_label) (defBody s_is_label) (defScope s_is_label) .none kV_is_label dc_is_label pm_is_label an_is_label cd_is_label ct_is_label), sl_is_label⟩) (c_is_label : PySem.W.codeIn K cd_is_label "is_label" = true) (k_is_label : PySem.W.keepIn K (.ref f_is_label) = true)
    {od_rise an_rise : Option Addr} {sl_rise : Array (Option Value)} {oc_rise kV_rise dc_rise pm_rise cd_rise ct_rise : Value}
    (a_rise : PySem.W.nsIn K mainGlobals "rise" = some (some (.ref f_rise)))
    (l_rise : K.lookup f_rise = some ⟨oc_rise, od_rise, .func (PySem.W.fnOf "rise" "rise" (defArgs s_rise) (defBody s_rise) (defScope s_rise) .none kV_rise dc_rise pm_rise an_rise cd_rise ct_rise), sl_rise⟩) (c_rise : PySem.W.codeIn K cd_rise "rise" = true) (k_rise : PySem.W.keepIn K (.ref f_rise) = true)
    {od_are_ints an_are_ints : Option Addr} {sl_are_ints : Array (Option Value)} {oc_are_ints kV_are_ints dc_are_ints pm_are_ints cd_are_ints ct_are_ints : Value}
    (a_are_ints : PySem.W.nsIn K mainGlobals "are_ints" = some (some (.ref f_are_ints)))
    (l_are_ints : K.lookup f_are_ints = some ⟨oc_are_ints, od_are_ints, .func (PySem.W.fnOf "are_ints" "are_ints" (defArgs s_are_ints) (defBody s_are_ints) (defScope s_are_ints) .none kV_are_ints dc_are_ints pm_are_ints an_are_ints cd_are_ints ct_are_ints), sl_are_ints⟩) (c_are_ints : PySem.W.codeIn K cd_are_ints "are_ints" = true) (k_are_ints : PySem.W.keepIn K (.ref f_are_ints) = true)
    {od_rising_ints an_rising_ints : Option Addr} {sl_rising_ints : Array (Option Value)} {oc_rising_ints kV_rising_ints dc_rising_ints pm_rising_ints cd_rising_ints ct_rising_ints : Value}
    (a_rising_ints : PySem.W.nsIn K mainGlobals "rising_ints" = some (some (.ref f_rising_ints)))
    (l_rising_ints : K.lookup f_rising_ints = some ⟨oc_rising_ints, od_rising_ints, .func (PySem.W.fnOf "rising_ints" "rising_ints" (defArgs s_rising_ints) (defBody s_rising_ints) (defScope s_rising_ints) .none kV_rising_ints dc_rising_ints pm_rising_ints an_rising_ints cd_rising_ints ct_rising_ints), sl_rising_ints⟩) (c_rising_ints : PySem.W.codeIn K cd_rising_ints "rising_ints" = true) (k_rising_ints : PySem.W.keepIn K (.ref f_rising_ints) = true)
    {od_is_pair an_is_pair : Option Addr} {sl_is_pair : Array (Option Value)} {oc_is_pair kV_is_pair dc_is_pair pm_is_pair cd_is_pair ct_is_pair : Value}
    (a_is_pair : PySem.W.nsIn K mainGlobals "is_pair" = some (some (.ref f_is_pair)))
    (l_is_pair : K.lookup f_is_pair = some ⟨oc_is_pair, od_is_pair, .func (PySem.W.fnOf "is_pair" "is_pair" (defArgs s_is_pair) (defBody s_is_pair) (defScope s_is_pair) .none kV_is_pair dc_is_pair pm_is_pair an_is_pair cd_is_pair ct_is_pair), sl_is_pair⟩) (c_is_pair : PySem.W.codeIn K cd_is_pair "is_pair" = true) (k_is_pair : PySem.W.keepIn K (.ref f_is_pair) = true)
    {od_are_rows an_are_rows : Option Addr} {sl_are_rows : Array (Option Value)} {oc_are_rows kV_are_rows dc_are_rows pm_are_rows cd_are_rows ct_are_rows : Value}
    (a_are_rows : PySem.W.nsIn K mainGlobals "are_rows" = some (some (.ref f_are_rows)))
    (l_are_rows : K.lookup f_are_rows = some ⟨oc_are_rows, od_are_rows, .func (PySem.W.fnOf "are_rows" "are_rows" (defArgs s_are_rows) (defBody s_are_rows) (defScope s_are_rows) .none kV_are_rows dc_are_rows pm_are_rows an_are_rows cd_are_rows ct_are_rows), sl_are_rows⟩) (c_are_rows : PySem.W.codeIn K cd_are_rows "are_rows" = true) (k_are_rows : PySem.W.keepIn K (.ref f_are_rows) = true)
    {od_look an_look : Option Addr} {sl_look : Array (Option Value)} {oc_look kV_look dc_look pm_look cd_look ct_look : Value}
    (a_look : PySem.W.nsIn K mainGlobals "look" = some (some (.ref f_look)))
    (l_look : K.lookup f_look = some ⟨oc_look, od_look, .func (PySem.W.fnOf "look" "look" (defArgs s_look) (defBody s_look) (defScope s_look) .none kV_look dc_look pm_look an_look cd_look ct_look), sl_look⟩) (c_look : PySem.W.codeIn K cd_look "look" = true) (k_look : PySem.W.keepIn K (.ref f_look) = true)
    {od_chosen an_chosen : Option Addr} {sl_chosen : Array (Option Value)} {oc_chosen kV_chosen dc_chosen pm_chosen cd_chosen ct_chosen : Value}
    (a_chosen : PySem.W.nsIn K mainGlobals "chosen" = some (some (.ref f_chosen)))
    (l_chosen : K.lookup f_chosen = some ⟨oc_chosen, od_chosen, .func (PySem.W.fnOf "chosen" "chosen" (defArgs s_chosen) (defBody s_chosen) (defScope s_chosen) .none kV_chosen dc_chosen pm_chosen an_chosen cd_chosen ct_chosen), sl_chosen⟩) (c_chosen : PySem.W.codeIn K cd_chosen "chosen" = true) (k_chosen : PySem.W.keepIn K (.ref f_chosen) = true)
    {od_tops an_tops : Option Addr} {sl_tops : Array (Option Value)} {oc_tops kV_tops dc_tops pm_tops cd_tops ct_tops : Value}
    (a_tops : PySem.W.nsIn K mainGlobals "tops" = some (some (.ref f_tops)))
    (l_tops : K.lookup f_tops = some ⟨oc_tops, od_tops, .func (PySem.W.fnOf "tops" "tops" (defArgs s_tops) (defBody s_tops) (defScope s_tops) .none kV_tops dc_tops pm_tops an_tops cd_tops ct_tops), sl_tops⟩) (c_tops : PySem.W.codeIn K cd_tops "tops" = true) (k_tops : PySem.W.keepIn K (.ref f_tops) = true)
    {od_entered an_entered : Option Addr} {sl_entered : Array (Option Value)} {oc_entered kV_entered dc_entered pm_entered cd_entered ct_entered : Value}
    (a_entered : PySem.W.nsIn K mainGlobals "entered" = some (some (.ref f_entered)))
    (l_entered : K.lookup f_entered = some ⟨oc_entered, od_entered, .func (PySem.W.fnOf "entered" "entered" (defArgs s_entered) (defBody s_entered) (defScope s_entered) .none kV_entered dc_entered pm_entered an_entered cd_entered ct_entered), sl_entered⟩) (c_entered : PySem.W.codeIn K cd_entered "entered" = true) (k_entered : PySem.W.keepIn K (.ref f_entered) = true)
    {od_reasons an_reasons : Option Addr} {sl_reasons : Array (Option Value)} {oc_reasons  dc_reasons pm_reasons cd_reasons ct_reasons : Value} {kd_reasons : Addr}
    (a_reasons : PySem.W.nsIn K mainGlobals "reasons" = some (some (.ref f_reasons)))
    (l_reasons : K.lookup f_reasons = some ⟨oc_reasons, od_reasons, .func (PySem.W.fnOf "reasons" "reasons" (defArgs s_reasons) (defBody s_reasons) (defScope s_reasons) .none (.ref kd_reasons) dc_reasons pm_reasons an_reasons cd_reasons ct_reasons), sl_reasons⟩) (c_reasons : PySem.W.codeIn K cd_reasons "reasons" = true) (k_reasons : PySem.W.keepIn K (.ref f_reasons) = true)
    {ku_reasons_under : Addr} {ud_reasons_under : Option Addr} {un_reasons_under : Nat} {us_reasons_under : Array (Option Value)} (kw_reasons_under : PySem.W.nsIn K kd_reasons "under" = some (some (.ref ku_reasons_under))) (lu_reasons_under : K.lookup ku_reasons_under = some ⟨.type "tuple", ud_reasons_under, .seq #[] un_reasons_under, us_reasons_under⟩)
    {od_wanted an_wanted : Option Addr} {sl_wanted : Array (Option Value)} {oc_wanted  dc_wanted pm_wanted cd_wanted ct_wanted : Value} {kd_wanted : Addr}
    (a_wanted : PySem.W.nsIn K mainGlobals "wanted" = some (some (.ref f_wanted)))
    (l_wanted : K.lookup f_wanted = some ⟨oc_wanted, od_wanted, .func (PySem.W.fnOf "wanted" "wanted" (defArgs s_wanted) (defBody s_wanted) (defScope s_wanted) .none (.ref kd_wanted) dc_wanted pm_wanted an_wanted cd_wanted ct_wanted), sl_wanted⟩) (c_wanted : PySem.W.codeIn K cd_wanted "wanted" = true) (k_wanted : PySem.W.keepIn K (.ref f_wanted) = true)
    {ku_wanted_under : Addr} {ud_wanted_under : Option Addr} {un_wanted_under : Nat} {us_wanted_under : Array (Option Value)} (kw_wanted_under : PySem.W.nsIn K kd_wanted "under" = some (some (.ref ku_wanted_under))) (lu_wanted_under : K.lookup ku_wanted_under = some ⟨.type "tuple", ud_wanted_under, .seq #[] un_wanted_under, us_wanted_under⟩)
    {od_entry an_entry : Option Addr} {sl_entry : Array (Option Value)} {oc_entry kV_entry dc_entry pm_entry cd_entry ct_entry : Value}
    (a_entry : PySem.W.nsIn K mainGlobals "entry" = some (some (.ref f_entry)))
    (l_entry : K.lookup f_entry = some ⟨oc_entry, od_entry, .func (PySem.W.fnOf "entry" "entry" (defArgs s_entry) (defBody s_entry) (defScope s_entry) .none kV_entry dc_entry pm_entry an_entry cd_entry ct_entry), sl_entry⟩) (c_entry : PySem.W.codeIn K cd_entry "entry" = true) (k_entry : PySem.W.keepIn K (.ref f_entry) = true)
    {od_come_to an_come_to : Option Addr} {sl_come_to : Array (Option Value)} {oc_come_to kV_come_to dc_come_to pm_come_to cd_come_to ct_come_to : Value}
    (a_come_to : PySem.W.nsIn K mainGlobals "come_to" = some (some (.ref f_come_to)))
    (l_come_to : K.lookup f_come_to = some ⟨oc_come_to, od_come_to, .func (PySem.W.fnOf "come_to" "come_to" (defArgs s_come_to) (defBody s_come_to) (defScope s_come_to) .none kV_come_to dc_come_to pm_come_to an_come_to cd_come_to ct_come_to), sl_come_to⟩) (c_come_to : PySem.W.codeIn K cd_come_to "come_to" = true) (k_come_to : PySem.W.keepIn K (.ref f_come_to) = true)
    {od_read an_read : Option Addr} {sl_read : Array (Option Value)} {oc_read kV_read dc_read pm_read  ct_read : Value}
    (a_read : PySem.W.nsIn K mainGlobals "read" = some (some (.ref f_read)))
    (l_read : K.lookup f_read = some ⟨oc_read, od_read, .func (PySem.W.fnOf "read" "read" (defArgs s_read) (defBody s_read) (defScope s_read) .none kV_read dc_read pm_read an_read (.ref cL_read) ct_read), sl_read⟩) (c_read : PySem.W.codeIn K (.ref cL_read) "read" = true) (k_read : PySem.W.keepIn K (.ref f_read) = true)
    {od_go_down an_go_down : Option Addr} {sl_go_down : Array (Option Value)} {oc_go_down kV_go_down dc_go_down pm_go_down cd_go_down ct_go_down : Value}
    (a_go_down : PySem.W.nsIn K mainGlobals "go_down" = some (some (.ref f_go_down)))
    (l_go_down : K.lookup f_go_down = some ⟨oc_go_down, od_go_down, .func (PySem.W.fnOf "go_down" "go_down" (defArgs s_go_down) (defBody s_go_down) (defScope s_go_down) .none kV_go_down dc_go_down pm_go_down an_go_down cd_go_down ct_go_down), sl_go_down⟩) (c_go_down : PySem.W.codeIn K cd_go_down "go_down" = true) (k_go_down : PySem.W.keepIn K (.ref f_go_down) = true)
    {od_lacks an_lacks : Option Addr} {sl_lacks : Array (Option Value)} {oc_lacks  dc_lacks pm_lacks cd_lacks ct_lacks : Value} {kd_lacks : Addr}
    (a_lacks : PySem.W.nsIn K mainGlobals "lacks" = some (some (.ref f_lacks)))
    (l_lacks : K.lookup f_lacks = some ⟨oc_lacks, od_lacks, .func (PySem.W.fnOf "lacks" "lacks" (defArgs s_lacks) (defBody s_lacks) (defScope s_lacks) .none (.ref kd_lacks) dc_lacks pm_lacks an_lacks cd_lacks ct_lacks), sl_lacks⟩) (c_lacks : PySem.W.codeIn K cd_lacks "lacks" = true) (k_lacks : PySem.W.keepIn K (.ref f_lacks) = true)
    {ku_lacks_under : Addr} {ud_lacks_under : Option Addr} {un_lacks_under : Nat} {us_lacks_under : Array (Option Value)} (kw_lacks_under : PySem.W.nsIn K kd_lacks "under" = some (some (.ref ku_lacks_under))) (lu_lacks_under : K.lookup ku_lacks_under = some ⟨.type "tuple", ud_lacks_under, .seq #[] un_lacks_under, us_lacks_under⟩)
    {od_Book___init__ an_Book___init__ : Option Addr} {sl_Book___init__ : Array (Option Value)} {oc_Book___init__ kV_Book___init__ dc_Book___init__ pm_Book___init__ cd_Book___init__ ct_Book___init__ : Value}
    (a_Book___init__ : PySem.W.findIn K (.ref C_Book) "__init__" = some (some (.ref f_Book___init__))) (i_Book___init__ : PySem.W.isFn K (.ref f_Book___init__) = true)
    (l_Book___init__ : K.lookup f_Book___init__ = some ⟨oc_Book___init__, od_Book___init__, .func (PySem.W.fnOf "__init__" "Book.__init__" (defArgs s_Book___init__) (defBody s_Book___init__) (defScope s_Book___init__) .none kV_Book___init__ dc_Book___init__ pm_Book___init__ an_Book___init__ cd_Book___init__ ct_Book___init__), sl_Book___init__⟩) (c_Book___init__ : PySem.W.codeIn K cd_Book___init__ "Book.__init__" = true) (k_Book___init__ : PySem.W.keepIn K (.ref f_Book___init__) = true)
    {od_Book_named an_Book_named : Option Addr} {sl_Book_named : Array (Option Value)} {oc_Book_named kV_Book_named dc_Book_named pm_Book_named cd_Book_named ct_Book_named : Value}
    (a_Book_named : PySem.W.findIn K (.ref C_Book) "named" = some (some (.ref f_Book_named))) (i_Book_named : PySem.W.isFn K (.ref f_Book_named) = true)
    (l_Book_named : K.lookup f_Book_named = some ⟨oc_Book_named, od_Book_named, .func (PySem.W.fnOf "named" "Book.named" (defArgs s_Book_named) (defBody s_Book_named) (defScope s_Book_named) .none kV_Book_named dc_Book_named pm_Book_named an_Book_named cd_Book_named ct_Book_named), sl_Book_named⟩) (c_Book_named : PySem.W.codeIn K cd_Book_named "Book.named" = true) (k_Book_named : PySem.W.keepIn K (.ref f_Book_named) = true)
    {od_Book_thing an_Book_thing : Option Addr} {sl_Book_thing : Array (Option Value)} {oc_Book_thing kV_Book_thing dc_Book_thing pm_Book_thing cd_Book_thing ct_Book_thing : Value}
    (a_Book_thing : PySem.W.findIn K (.ref C_Book) "thing" = some (some (.ref f_Book_thing))) (i_Book_thing : PySem.W.isFn K (.ref f_Book_thing) = true)
    (l_Book_thing : K.lookup f_Book_thing = some ⟨oc_Book_thing, od_Book_thing, .func (PySem.W.fnOf "thing" "Book.thing" (defArgs s_Book_thing) (defBody s_Book_thing) (defScope s_Book_thing) .none kV_Book_thing dc_Book_thing pm_Book_thing an_Book_thing cd_Book_thing ct_Book_thing), sl_Book_thing⟩) (c_Book_thing : PySem.W.codeIn K cd_Book_thing "Book.thing" = true) (k_Book_thing : PySem.W.keepIn K (.ref f_Book_thing) = true)
    {od_Book_kind an_Book_kind : Option Addr} {sl_Book_kind : Array (Option Value)} {oc_Book_kind kV_Book_kind dc_Book_kind pm_Book_kind cd_Book_kind ct_Book_kind : Value}
    (a_Book_kind : PySem.W.findIn K (.ref C_Book) "kind" = some (some (.ref f_Book_kind))) (i_Book_kind : PySem.W.isFn K (.ref f_Book_kind) = true)
    (l_Book_kind : K.lookup f_Book_kind = some ⟨oc_Book_kind, od_Book_kind, .func (PySem.W.fnOf "kind" "Book.kind" (defArgs s_Book_kind) (defBody s_Book_kind) (defScope s_Book_kind) .none kV_Book_kind dc_Book_kind pm_Book_kind an_Book_kind cd_Book_kind ct_Book_kind), sl_Book_kind⟩) (c_Book_kind : PySem.W.codeIn K cd_Book_kind "Book.kind" = true) (k_Book_kind : PySem.W.keepIn K (.ref f_Book_kind) = true)
    {od_Book_parts an_Book_parts : Option Addr} {sl_Book_parts : Array (Option Value)} {oc_Book_parts kV_Book_parts dc_Book_parts pm_Book_parts cd_Book_parts ct_Book_parts : Value}
    (a_Book_parts : PySem.W.findIn K (.ref C_Book) "parts" = some (some (.ref f_Book_parts))) (i_Book_parts : PySem.W.isFn K (.ref f_Book_parts) = true)
    (l_Book_parts : K.lookup f_Book_parts = some ⟨oc_Book_parts, od_Book_parts, .func (PySem.W.fnOf "parts" "Book.parts" (defArgs s_Book_parts) (defBody s_Book_parts) (defScope s_Book_parts) .none kV_Book_parts dc_Book_parts pm_Book_parts an_Book_parts cd_Book_parts ct_Book_parts), sl_Book_parts⟩) (c_Book_parts : PySem.W.codeIn K cd_Book_parts "Book.parts" = true) (k_Book_parts : PySem.W.keepIn K (.ref f_Book_parts) = true)
    {od_is_name an_is_name : Option Addr} {sl_is_name : Array (Option Value)} {oc_is_name kV_is_name dc_is_name pm_is_name cd_is_name ct_is_name : Value}
    (a_is_name : PySem.W.nsIn K mainGlobals "is_name" = some (some (.ref f_is_name)))
    (l_is_name : K.lookup f_is_name = some ⟨oc_is_name, od_is_name, .func (PySem.W.fnOf "is_name" "is_name" (defArgs s_is_name) (defBody s_is_name) (defScope s_is_name) .none kV_is_name dc_is_name pm_is_name an_is_name cd_is_name ct_is_name), sl_is_name⟩) (c_is_name : PySem.W.codeIn K cd_is_name "is_name" = true) (k_is_name : PySem.W.keepIn K (.ref f_is_name) = true)
    {od_is_kind an_is_kind : Option Addr} {sl_is_kind : Array (Option Value)} {oc_is_kind kV_is_kind dc_is_kind pm_is_kind cd_is_kind ct_is_kind : Value}
    (a_is_kind : PySem.W.nsIn K mainGlobals "is_kind" = some (some (.ref f_is_kind)))
    (l_is_kind : K.lookup f_is_kind = some ⟨oc_is_kind, od_is_kind, .func (PySem.W.fnOf "is_kind" "is_kind" (defArgs s_is_kind) (defBody s_is_kind) (defScope s_is_kind) .none kV_is_kind dc_is_kind pm_is_kind an_is_kind cd_is_kind ct_is_kind), sl_is_kind⟩) (c_is_kind : PySem.W.codeIn K cd_is_kind "is_kind" = true) (k_is_kind : PySem.W.keepIn K (.ref f_is_kind) = true)
    {od_is_entry an_is_entry : Option Addr} {sl_is_entry : Array (Option Value)} {oc_is_entry kV_is_entry dc_is_entry pm_is_entry cd_is_entry ct_is_entry : Value}
    (a_is_entry : PySem.W.nsIn K mainGlobals "is_entry" = some (some (.ref f_is_entry)))
    (l_is_entry : K.lookup f_is_entry = some ⟨oc_is_entry, od_is_entry, .func (PySem.W.fnOf "is_entry" "is_entry" (defArgs s_is_entry) (defBody s_is_entry) (defScope s_is_entry) .none kV_is_entry dc_is_entry pm_is_entry an_is_entry cd_is_entry ct_is_entry), sl_is_entry⟩) (c_is_entry : PySem.W.codeIn K cd_is_entry "is_entry" = true) (k_is_entry : PySem.W.keepIn K (.ref f_is_entry) = true)
    {od_is_tree an_is_tree : Option Addr} {sl_is_tree : Array (Option Value)} {oc_is_tree kV_is_tree dc_is_tree pm_is_tree cd_is_tree ct_is_tree : Value}
    (a_is_tree : PySem.W.nsIn K mainGlobals "is_tree" = some (some (.ref f_is_tree)))
    (l_is_tree : K.lookup f_is_tree = some ⟨oc_is_tree, od_is_tree, .func (PySem.W.fnOf "is_tree" "is_tree" (defArgs s_is_tree) (defBody s_is_tree) (defScope s_is_tree) .none kV_is_tree dc_is_tree pm_is_tree an_is_tree cd_is_tree ct_is_tree), sl_is_tree⟩) (c_is_tree : PySem.W.codeIn K cd_is_tree "is_tree" = true) (k_is_tree : PySem.W.keepIn K (.ref f_is_tree) = true)
    {od_depth_of an_depth_of : Option Addr} {sl_depth_of : Array (Option Value)} {oc_depth_of kV_depth_of dc_depth_of pm_depth_of cd_depth_of ct_depth_of : Value}
    (a_depth_of : PySem.W.nsIn K mainGlobals "depth_of" = some (some (.ref f_depth_of)))
    (l_depth_of : K.lookup f_depth_of = some ⟨oc_depth_of, od_depth_of, .func (PySem.W.fnOf "depth_of" "depth_of" (defArgs s_depth_of) (defBody s_depth_of) (defScope s_depth_of) .none kV_depth_of dc_depth_of pm_depth_of an_depth_of cd_depth_of ct_depth_of), sl_depth_of⟩) (c_depth_of : PySem.W.codeIn K cd_depth_of "depth_of" = true) (k_depth_of : PySem.W.keepIn K (.ref f_depth_of) = true)
    {od_is_version an_is_version : Option Addr} {sl_is_version : Array (Option Value)} {oc_is_version kV_is_version dc_is_version pm_is_version cd_is_version ct_is_version : Value}
    (a_is_version : PySem.W.nsIn K mainGlobals "is_version" = some (some (.ref f_is_version)))
    (l_is_version : K.lookup f_is_version = some ⟨oc_is_version, od_is_version, .func (PySem.W.fnOf "is_version" "is_version" (defArgs s_is_version) (defBody s_is_version) (defScope s_is_version) .none kV_is_version dc_is_version pm_is_version an_is_version cd_is_version ct_is_version), sl_is_version⟩) (c_is_version : PySem.W.codeIn K cd_is_version "is_version" = true) (k_is_version : PySem.W.keepIn K (.ref f_is_version) = true)
    {od_is_content an_is_content : Option Addr} {sl_is_content : Array (Option Value)} {oc_is_content kV_is_content dc_is_content pm_is_content cd_is_content ct_is_content : Value}
    (a_is_content : PySem.W.nsIn K mainGlobals "is_content" = some (some (.ref f_is_content)))
    (l_is_content : K.lookup f_is_content = some ⟨oc_is_content, od_is_content, .func (PySem.W.fnOf "is_content" "is_content" (defArgs s_is_content) (defBody s_is_content) (defScope s_is_content) .none kV_is_content dc_is_content pm_is_content an_is_content cd_is_content ct_is_content), sl_is_content⟩) (c_is_content : PySem.W.codeIn K cd_is_content "is_content" = true) (k_is_content : PySem.W.keepIn K (.ref f_is_content) = true)
    {od_Holding___init__ an_Holding___init__ : Option Addr} {sl_Holding___init__ : Array (Option Value)} {oc_Holding___init__ kV_Holding___init__ dc_Holding___init__ pm_Holding___init__ cd_Holding___init__ ct_Holding___init__ : Value}
    (a_Holding___init__ : PySem.W.findIn K (.ref C_Holding) "__init__" = some (some (.ref f_Holding___init__))) (i_Holding___init__ : PySem.W.isFn K (.ref f_Holding___init__) = true)
    (l_Holding___init__ : K.lookup f_Holding___init__ = some ⟨oc_Holding___init__, od_Holding___init__, .func (PySem.W.fnOf "__init__" "Holding.__init__" (defArgs s_Holding___init__) (defBody s_Holding___init__) (defScope s_Holding___init__) .none kV_Holding___init__ dc_Holding___init__ pm_Holding___init__ an_Holding___init__ cd_Holding___init__ ct_Holding___init__), sl_Holding___init__⟩) (c_Holding___init__ : PySem.W.codeIn K cd_Holding___init__ "Holding.__init__" = true) (k_Holding___init__ : PySem.W.keepIn K (.ref f_Holding___init__) = true)
    {od_Holding_holds an_Holding_holds : Option Addr} {sl_Holding_holds : Array (Option Value)} {oc_Holding_holds kV_Holding_holds dc_Holding_holds pm_Holding_holds cd_Holding_holds ct_Holding_holds : Value}
    (a_Holding_holds : PySem.W.findIn K (.ref C_Holding) "holds" = some (some (.ref f_Holding_holds))) (i_Holding_holds : PySem.W.isFn K (.ref f_Holding_holds) = true)
    (l_Holding_holds : K.lookup f_Holding_holds = some ⟨oc_Holding_holds, od_Holding_holds, .func (PySem.W.fnOf "holds" "Holding.holds" (defArgs s_Holding_holds) (defBody s_Holding_holds) (defScope s_Holding_holds) .none kV_Holding_holds dc_Holding_holds pm_Holding_holds an_Holding_holds cd_Holding_holds ct_Holding_holds), sl_Holding_holds⟩) (c_Holding_holds : PySem.W.codeIn K cd_Holding_holds "Holding.holds" = true) (k_Holding_holds : PySem.W.keepIn K (.ref f_Holding_holds) = true)
    {od_Holding_names an_Holding_names : Option Addr} {sl_Holding_names : Array (Option Value)} {oc_Holding_names kV_Holding_names dc_Holding_names pm_Holding_names cd_Holding_names ct_Holding_names : Value}
    (a_Holding_names : PySem.W.findIn K (.ref C_Holding) "names" = some (some (.ref f_Holding_names))) (i_Holding_names : PySem.W.isFn K (.ref f_Holding_names) = true)
    (l_Holding_names : K.lookup f_Holding_names = some ⟨oc_Holding_names, od_Holding_names, .func (PySem.W.fnOf "names" "Holding.names" (defArgs s_Holding_names) (defBody s_Holding_names) (defScope s_Holding_names) .none kV_Holding_names dc_Holding_names pm_Holding_names an_Holding_names cd_Holding_names ct_Holding_names), sl_Holding_names⟩) (c_Holding_names : PySem.W.codeIn K cd_Holding_names "Holding.names" = true) (k_Holding_names : PySem.W.keepIn K (.ref f_Holding_names) = true)
    {od_law_deck an_law_deck : Option Addr} {sl_law_deck : Array (Option Value)} {oc_law_deck kV_law_deck dc_law_deck pm_law_deck cd_law_deck ct_law_deck : Value}
    (a_law_deck : PySem.W.nsIn K mainGlobals "_law_deck" = some (some (.ref f_law_deck)))
    (l_law_deck : K.lookup f_law_deck = some ⟨oc_law_deck, od_law_deck, .func (PySem.W.fnOf "_law_deck" "_law_deck" (defArgs s_law_deck) (defBody s_law_deck) (defScope s_law_deck) .none kV_law_deck dc_law_deck pm_law_deck an_law_deck cd_law_deck ct_law_deck), sl_law_deck⟩) (c_law_deck : PySem.W.codeIn K cd_law_deck "_law_deck" = true) (k_law_deck : PySem.W.keepIn K (.ref f_law_deck) = true)
    {od_law_mixed an_law_mixed : Option Addr} {sl_law_mixed : Array (Option Value)} {oc_law_mixed kV_law_mixed dc_law_mixed pm_law_mixed cd_law_mixed ct_law_mixed : Value}
    (a_law_mixed : PySem.W.nsIn K mainGlobals "_law_mixed" = some (some (.ref f_law_mixed)))
    (l_law_mixed : K.lookup f_law_mixed = some ⟨oc_law_mixed, od_law_mixed, .func (PySem.W.fnOf "_law_mixed" "_law_mixed" (defArgs s_law_mixed) (defBody s_law_mixed) (defScope s_law_mixed) .none kV_law_mixed dc_law_mixed pm_law_mixed an_law_mixed cd_law_mixed ct_law_mixed), sl_law_mixed⟩) (c_law_mixed : PySem.W.codeIn K cd_law_mixed "_law_mixed" = true) (k_law_mixed : PySem.W.keepIn K (.ref f_law_mixed) = true)
    {od_law_draw an_law_draw : Option Addr} {sl_law_draw : Array (Option Value)} {oc_law_draw kV_law_draw dc_law_draw pm_law_draw cd_law_draw ct_law_draw : Value}
    (a_law_draw : PySem.W.nsIn K mainGlobals "_law_draw" = some (some (.ref f_law_draw)))
    (l_law_draw : K.lookup f_law_draw = some ⟨oc_law_draw, od_law_draw, .func (PySem.W.fnOf "_law_draw" "_law_draw" (defArgs s_law_draw) (defBody s_law_draw) (defScope s_law_draw) .none kV_law_draw dc_law_draw pm_law_draw an_law_draw cd_law_draw ct_law_draw), sl_law_draw⟩) (c_law_draw : PySem.W.codeIn K cd_law_draw "_law_draw" = true) (k_law_draw : PySem.W.keepIn K (.ref f_law_draw) = true)
    {od_law_text an_law_text : Option Addr} {sl_law_text : Array (Option Value)} {oc_law_text kV_law_text dc_law_text pm_law_text cd_law_text ct_law_text : Value}
    (a_law_text : PySem.W.nsIn K mainGlobals "_law_text" = some (some (.ref f_law_text)))
    (l_law_text : K.lookup f_law_text = some ⟨oc_law_text, od_law_text, .func (PySem.W.fnOf "_law_text" "_law_text" (defArgs s_law_text) (defBody s_law_text) (defScope s_law_text) .none kV_law_text dc_law_text pm_law_text an_law_text cd_law_text ct_law_text), sl_law_text⟩) (c_law_text : PySem.W.codeIn K cd_law_text "_law_text" = true) (k_law_text : PySem.W.keepIn K (.ref f_law_text) = true)
    {od_law_label an_law_label : Option Addr} {sl_law_label : Array (Option Value)} {oc_law_label kV_law_label dc_law_label pm_law_label cd_law_label ct_law_label : Value}
    (a_law_label : PySem.W.nsIn K mainGlobals "_law_label" = some (some (.ref f_law_label)))
    (l_law_label : K.lookup f_law_label = some ⟨oc_law_label, od_law_label, .func (PySem.W.fnOf "_law_label" "_law_label" (defArgs s_law_label) (defBody s_law_label) (defScope s_law_label) .none kV_law_label dc_law_label pm_law_label an_law_label cd_law_label ct_law_label), sl_law_label⟩) (c_law_label : PySem.W.codeIn K cd_law_label "_law_label" = true) (k_law_label : PySem.W.keepIn K (.ref f_law_label) = true)
    {od_law_give an_law_give : Option Addr} {sl_law_give : Array (Option Value)} {oc_law_give kV_law_give dc_law_give pm_law_give cd_law_give ct_law_give : Value}
    (a_law_give : PySem.W.nsIn K mainGlobals "_law_give" = some (some (.ref f_law_give)))
    (l_law_give : K.lookup f_law_give = some ⟨oc_law_give, od_law_give, .func (PySem.W.fnOf "_law_give" "_law_give" (defArgs s_law_give) (defBody s_law_give) (defScope s_law_give) .none kV_law_give dc_law_give pm_law_give an_law_give cd_law_give ct_law_give), sl_law_give⟩) (c_law_give : PySem.W.codeIn K cd_law_give "_law_give" = true) (k_law_give : PySem.W.keepIn K (.ref f_law_give) = true)
    {od_law_rows an_law_rows : Option Addr} {sl_law_rows : Array (Option Value)} {oc_law_rows kV_law_rows dc_law_rows pm_law_rows cd_law_rows ct_law_rows : Value}
    (a_law_rows : PySem.W.nsIn K mainGlobals "_law_rows" = some (some (.ref f_law_rows)))
    (l_law_rows : K.lookup f_law_rows = some ⟨oc_law_rows, od_law_rows, .func (PySem.W.fnOf "_law_rows" "_law_rows" (defArgs s_law_rows) (defBody s_law_rows) (defScope s_law_rows) .none kV_law_rows dc_law_rows pm_law_rows an_law_rows cd_law_rows ct_law_rows), sl_law_rows⟩) (c_law_rows : PySem.W.codeIn K cd_law_rows "_law_rows" = true) (k_law_rows : PySem.W.keepIn K (.ref f_law_rows) = true)
    {od_law_entries an_law_entries : Option Addr} {sl_law_entries : Array (Option Value)} {oc_law_entries kV_law_entries dc_law_entries pm_law_entries cd_law_entries ct_law_entries : Value}
    (a_law_entries : PySem.W.nsIn K mainGlobals "_law_entries" = some (some (.ref f_law_entries)))
    (l_law_entries : K.lookup f_law_entries = some ⟨oc_law_entries, od_law_entries, .func (PySem.W.fnOf "_law_entries" "_law_entries" (defArgs s_law_entries) (defBody s_law_entries) (defScope s_law_entries) .none kV_law_entries dc_law_entries pm_law_entries an_law_entries cd_law_entries ct_law_entries), sl_law_entries⟩) (c_law_entries : PySem.W.codeIn K cd_law_entries "_law_entries" = true) (k_law_entries : PySem.W.keepIn K (.ref f_law_entries) = true)
    {od_law_some an_law_some : Option Addr} {sl_law_some : Array (Option Value)} {oc_law_some kV_law_some dc_law_some pm_law_some cd_law_some ct_law_some : Value}
    (a_law_some : PySem.W.nsIn K mainGlobals "_law_some" = some (some (.ref f_law_some)))
    (l_law_some : K.lookup f_law_some = some ⟨oc_law_some, od_law_some, .func (PySem.W.fnOf "_law_some" "_law_some" (defArgs s_law_some) (defBody s_law_some) (defScope s_law_some) .none kV_law_some dc_law_some pm_law_some an_law_some cd_law_some ct_law_some), sl_law_some⟩) (c_law_some : PySem.W.codeIn K cd_law_some "_law_some" = true) (k_law_some : PySem.W.keepIn K (.ref f_law_some) = true)
    {od_law_family an_law_family : Option Addr} {sl_law_family : Array (Option Value)} {oc_law_family kV_law_family dc_law_family pm_law_family cd_law_family ct_law_family : Value}
    (a_law_family : PySem.W.nsIn K mainGlobals "_law_family" = some (some (.ref f_law_family)))
    (l_law_family : K.lookup f_law_family = some ⟨oc_law_family, od_law_family, .func (PySem.W.fnOf "_law_family" "_law_family" (defArgs s_law_family) (defBody s_law_family) (defScope s_law_family) .none kV_law_family dc_law_family pm_law_family an_law_family cd_law_family ct_law_family), sl_law_family⟩) (c_law_family : PySem.W.codeIn K cd_law_family "_law_family" = true) (k_law_family : PySem.W.keepIn K (.ref f_law_family) = true)
    {od_law_parts an_law_parts : Option Addr} {sl_law_parts : Array (Option Value)} {oc_law_parts kV_law_parts dc_law_parts pm_law_parts cd_law_parts ct_law_parts : Value}
    (a_law_parts : PySem.W.nsIn K mainGlobals "_law_parts" = some (some (.ref f_law_parts)))
    (l_law_parts : K.lookup f_law_parts = some ⟨oc_law_parts, od_law_parts, .func (PySem.W.fnOf "_law_parts" "_law_parts" (defArgs s_law_parts) (defBody s_law_parts) (defScope s_law_parts) .none kV_law_parts dc_law_parts pm_law_parts an_law_parts cd_law_parts ct_law_parts), sl_law_parts⟩) (c_law_parts : PySem.W.codeIn K cd_law_parts "_law_parts" = true) (k_law_parts : PySem.W.keepIn K (.ref f_law_parts) = true)
    {od_law_under an_law_under : Option Addr} {sl_law_under : Array (Option Value)} {oc_law_under kV_law_under dc_law_under pm_law_under cd_law_under ct_law_under : Value}
    (a_law_under : PySem.W.nsIn K mainGlobals "_law_under" = some (some (.ref f_law_under)))
    (l_law_under : K.lookup f_law_under = some ⟨oc_law_under, od_law_under, .func (PySem.W.fnOf "_law_under" "_law_under" (defArgs s_law_under) (defBody s_law_under) (defScope s_law_under) .none kV_law_under dc_law_under pm_law_under an_law_under cd_law_under ct_law_under), sl_law_under⟩) (c_law_under : PySem.W.codeIn K cd_law_under "_law_under" = true) (k_law_under : PySem.W.keepIn K (.ref f_law_under) = true)
    {od_law_held an_law_held : Option Addr} {sl_law_held : Array (Option Value)} {oc_law_held kV_law_held dc_law_held pm_law_held cd_law_held ct_law_held : Value}
    (a_law_held : PySem.W.nsIn K mainGlobals "_law_held" = some (some (.ref f_law_held)))
    (l_law_held : K.lookup f_law_held = some ⟨oc_law_held, od_law_held, .func (PySem.W.fnOf "_law_held" "_law_held" (defArgs s_law_held) (defBody s_law_held) (defScope s_law_held) .none kV_law_held dc_law_held pm_law_held an_law_held cd_law_held ct_law_held), sl_law_held⟩) (c_law_held : PySem.W.codeIn K cd_law_held "_law_held" = true) (k_law_held : PySem.W.keepIn K (.ref f_law_held) = true)
    {od_law_book an_law_book : Option Addr} {sl_law_book : Array (Option Value)} {oc_law_book kV_law_book dc_law_book pm_law_book cd_law_book ct_law_book : Value}
    (a_law_book : PySem.W.nsIn K mainGlobals "_law_book" = some (some (.ref f_law_book)))
    (l_law_book : K.lookup f_law_book = some ⟨oc_law_book, od_law_book, .func (PySem.W.fnOf "_law_book" "_law_book" (defArgs s_law_book) (defBody s_law_book) (defScope s_law_book) .none kV_law_book dc_law_book pm_law_book an_law_book cd_law_book ct_law_book), sl_law_book⟩) (c_law_book : PySem.W.codeIn K cd_law_book "_law_book" = true) (k_law_book : PySem.W.keepIn K (.ref f_law_book) = true)
    {od_law_tall an_law_tall : Option Addr} {sl_law_tall : Array (Option Value)} {oc_law_tall kV_law_tall dc_law_tall pm_law_tall cd_law_tall ct_law_tall : Value}
    (a_law_tall : PySem.W.nsIn K mainGlobals "_law_tall" = some (some (.ref f_law_tall)))
    (l_law_tall : K.lookup f_law_tall = some ⟨oc_law_tall, od_law_tall, .func (PySem.W.fnOf "_law_tall" "_law_tall" (defArgs s_law_tall) (defBody s_law_tall) (defScope s_law_tall) .none kV_law_tall dc_law_tall pm_law_tall an_law_tall cd_law_tall ct_law_tall), sl_law_tall⟩) (c_law_tall : PySem.W.codeIn K cd_law_tall "_law_tall" = true) (k_law_tall : PySem.W.keepIn K (.ref f_law_tall) = true)
    {od_law_long an_law_long : Option Addr} {sl_law_long : Array (Option Value)} {oc_law_long kV_law_long dc_law_long pm_law_long cd_law_long ct_law_long : Value}
    (a_law_long : PySem.W.nsIn K mainGlobals "_law_long" = some (some (.ref f_law_long)))
    (l_law_long : K.lookup f_law_long = some ⟨oc_law_long, od_law_long, .func (PySem.W.fnOf "_law_long" "_law_long" (defArgs s_law_long) (defBody s_law_long) (defScope s_law_long) .none kV_law_long dc_law_long pm_law_long an_law_long cd_law_long ct_law_long), sl_law_long⟩) (c_law_long : PySem.W.codeIn K cd_law_long "_law_long" = true) (k_law_long : PySem.W.keepIn K (.ref f_law_long) = true)
    {od_law_thick an_law_thick : Option Addr} {sl_law_thick : Array (Option Value)} {oc_law_thick kV_law_thick dc_law_thick pm_law_thick cd_law_thick ct_law_thick : Value}
    (a_law_thick : PySem.W.nsIn K mainGlobals "_law_thick" = some (some (.ref f_law_thick)))
    (l_law_thick : K.lookup f_law_thick = some ⟨oc_law_thick, od_law_thick, .func (PySem.W.fnOf "_law_thick" "_law_thick" (defArgs s_law_thick) (defBody s_law_thick) (defScope s_law_thick) .none kV_law_thick dc_law_thick pm_law_thick an_law_thick cd_law_thick ct_law_thick), sl_law_thick⟩) (c_law_thick : PySem.W.codeIn K cd_law_thick "_law_thick" = true) (k_law_thick : PySem.W.keepIn K (.ref f_law_thick) = true)
    {od_law_ladder an_law_ladder : Option Addr} {sl_law_ladder : Array (Option Value)} {oc_law_ladder kV_law_ladder dc_law_ladder pm_law_ladder cd_law_ladder ct_law_ladder : Value}
    (a_law_ladder : PySem.W.nsIn K mainGlobals "_law_ladder" = some (some (.ref f_law_ladder)))
    (l_law_ladder : K.lookup f_law_ladder = some ⟨oc_law_ladder, od_law_ladder, .func (PySem.W.fnOf "_law_ladder" "_law_ladder" (defArgs s_law_ladder) (defBody s_law_ladder) (defScope s_law_ladder) .none kV_law_ladder dc_law_ladder pm_law_ladder an_law_ladder cd_law_ladder ct_law_ladder), sl_law_ladder⟩) (c_law_ladder : PySem.W.codeIn K cd_law_ladder "_law_ladder" = true) (k_law_ladder : PySem.W.keepIn K (.ref f_law_ladder) = true)
    {od_law_scene an_law_scene : Option Addr} {sl_law_scene : Array (Option Value)} {oc_law_scene kV_law_scene dc_law_scene pm_law_scene cd_law_scene ct_law_scene : Value}
    (a_law_scene : PySem.W.nsIn K mainGlobals "_law_scene" = some (some (.ref f_law_scene)))
    (l_law_scene : K.lookup f_law_scene = some ⟨oc_law_scene, od_law_scene, .func (PySem.W.fnOf "_law_scene" "_law_scene" (defArgs s_law_scene) (defBody s_law_scene) (defScope s_law_scene) .none kV_law_scene dc_law_scene pm_law_scene an_law_scene cd_law_scene ct_law_scene), sl_law_scene⟩) (c_law_scene : PySem.W.codeIn K cd_law_scene "_law_scene" = true) (k_law_scene : PySem.W.keepIn K (.ref f_law_scene) = true)
    {od_law_versions an_law_versions : Option Addr} {sl_law_versions : Array (Option Value)} {oc_law_versions kV_law_versions dc_law_versions pm_law_versions cd_law_versions ct_law_versions : Value}
    (a_law_versions : PySem.W.nsIn K mainGlobals "_law_versions" = some (some (.ref f_law_versions)))
    (l_law_versions : K.lookup f_law_versions = some ⟨oc_law_versions, od_law_versions, .func (PySem.W.fnOf "_law_versions" "_law_versions" (defArgs s_law_versions) (defBody s_law_versions) (defScope s_law_versions) .none kV_law_versions dc_law_versions pm_law_versions an_law_versions cd_law_versions ct_law_versions), sl_law_versions⟩) (c_law_versions : PySem.W.codeIn K cd_law_versions "_law_versions" = true) (k_law_versions : PySem.W.keepIn K (.ref f_law_versions) = true)
    {od_law_picks an_law_picks : Option Addr} {sl_law_picks : Array (Option Value)} {oc_law_picks kV_law_picks dc_law_picks pm_law_picks cd_law_picks ct_law_picks : Value}
    (a_law_picks : PySem.W.nsIn K mainGlobals "_law_picks" = some (some (.ref f_law_picks)))
    (l_law_picks : K.lookup f_law_picks = some ⟨oc_law_picks, od_law_picks, .func (PySem.W.fnOf "_law_picks" "_law_picks" (defArgs s_law_picks) (defBody s_law_picks) (defScope s_law_picks) .none kV_law_picks dc_law_picks pm_law_picks an_law_picks cd_law_picks ct_law_picks), sl_law_picks⟩) (c_law_picks : PySem.W.codeIn K cd_law_picks "_law_picks" = true) (k_law_picks : PySem.W.keepIn K (.ref f_law_picks) = true)
    {od_law_first_paths an_law_first_paths : Option Addr} {sl_law_first_paths : Array (Option Value)} {oc_law_first_paths kV_law_first_paths dc_law_first_paths pm_law_first_paths cd_law_first_paths ct_law_first_paths : Value}
    (a_law_first_paths : PySem.W.nsIn K mainGlobals "_law_first_paths" = some (some (.ref f_law_first_paths)))
    (l_law_first_paths : K.lookup f_law_first_paths = some ⟨oc_law_first_paths, od_law_first_paths, .func (PySem.W.fnOf "_law_first_paths" "_law_first_paths" (defArgs s_law_first_paths) (defBody s_law_first_paths) (defScope s_law_first_paths) .none kV_law_first_paths dc_law_first_paths pm_law_first_paths an_law_first_paths cd_law_first_paths ct_law_first_paths), sl_law_first_paths⟩) (c_law_first_paths : PySem.W.codeIn K cd_law_first_paths "_law_first_paths" = true) (k_law_first_paths : PySem.W.keepIn K (.ref f_law_first_paths) = true)
    {od_law_lack an_law_lack : Option Addr} {sl_law_lack : Array (Option Value)} {oc_law_lack kV_law_lack dc_law_lack pm_law_lack cd_law_lack ct_law_lack : Value}
    (a_law_lack : PySem.W.nsIn K mainGlobals "_law_lack" = some (some (.ref f_law_lack)))
    (l_law_lack : K.lookup f_law_lack = some ⟨oc_law_lack, od_law_lack, .func (PySem.W.fnOf "_law_lack" "_law_lack" (defArgs s_law_lack) (defBody s_law_lack) (defScope s_law_lack) .none kV_law_lack dc_law_lack pm_law_lack an_law_lack cd_law_lack ct_law_lack), sl_law_lack⟩) (c_law_lack : PySem.W.codeIn K cd_law_lack "_law_lack" = true) (k_law_lack : PySem.W.keepIn K (.ref f_law_lack) = true)
    {od_law_good an_law_good : Option Addr} {sl_law_good : Array (Option Value)} {oc_law_good kV_law_good dc_law_good pm_law_good cd_law_good ct_law_good : Value}
    (a_law_good : PySem.W.nsIn K mainGlobals "_law_good" = some (some (.ref f_law_good)))
    (l_law_good : K.lookup f_law_good = some ⟨oc_law_good, od_law_good, .func (PySem.W.fnOf "_law_good" "_law_good" (defArgs s_law_good) (defBody s_law_good) (defScope s_law_good) .none kV_law_good dc_law_good pm_law_good an_law_good cd_law_good ct_law_good), sl_law_good⟩) (c_law_good : PySem.W.codeIn K cd_law_good "_law_good" = true) (k_law_good : PySem.W.keepIn K (.ref f_law_good) = true)
    {od_law_wide an_law_wide : Option Addr} {sl_law_wide : Array (Option Value)} {oc_law_wide kV_law_wide dc_law_wide pm_law_wide cd_law_wide ct_law_wide : Value}
    (a_law_wide : PySem.W.nsIn K mainGlobals "_law_wide" = some (some (.ref f_law_wide)))
    (l_law_wide : K.lookup f_law_wide = some ⟨oc_law_wide, od_law_wide, .func (PySem.W.fnOf "_law_wide" "_law_wide" (defArgs s_law_wide) (defBody s_law_wide) (defScope s_law_wide) .none kV_law_wide dc_law_wide pm_law_wide an_law_wide cd_law_wide ct_law_wide), sl_law_wide⟩) (c_law_wide : PySem.W.codeIn K cd_law_wide "_law_wide" = true) (k_law_wide : PySem.W.keepIn K (.ref f_law_wide) = true)
    {od_law_whole an_law_whole : Option Addr} {sl_law_whole : Array (Option Value)} {oc_law_whole kV_law_whole dc_law_whole pm_law_whole cd_law_whole ct_law_whole : Value}
    (a_law_whole : PySem.W.nsIn K mainGlobals "_law_whole" = some (some (.ref f_law_whole)))
    (l_law_whole : K.lookup f_law_whole = some ⟨oc_law_whole, od_law_whole, .func (PySem.W.fnOf "_law_whole" "_law_whole" (defArgs s_law_whole) (defBody s_law_whole) (defScope s_law_whole) .none kV_law_whole dc_law_whole pm_law_whole an_law_whole cd_law_whole ct_law_whole), sl_law_whole⟩) (c_law_whole : PySem.W.codeIn K cd_law_whole "_law_whole" = true) (k_law_whole : PySem.W.keepIn K (.ref f_law_whole) = true)
    {od_law an_law : Option Addr} {sl_law : Array (Option Value)} {oc_law kV_law dc_law pm_law cd_law ct_law : Value}
    (a_law : PySem.W.nsIn K mainGlobals "law" = some (some (.ref f_law)))
    (l_law : K.lookup f_law = some ⟨oc_law, od_law, .func (PySem.W.fnOf "law" "law" (defArgs s_law) (defBody s_law) (defScope s_law) .none kV_law dc_law pm_law an_law cd_law ct_law), sl_law⟩) (c_law : PySem.W.codeIn K cd_law "law" = true) (k_law : PySem.W.keepIn K (.ref f_law) = true)
    (kga_Book : PySem.W.nsIn K mainGlobals "Book" = some (some (.ref C_Book))) (kpg_Book : PySem.W.plainGet K C_Book Str.empty = true) (khd_Book : PySem.W.hasDictIn K C_Book = true) (kpo_Book : PySem.W.plainOver K C_Book = true) (ksa_Book : PySem.W.findIn K (.ref C_Book) "__setattr__" = some (some (.builtin "object.__setattr__"))) (kmk_Book : PySem.W.makesIn K C_Book = true) (kkc_Book : PySem.W.keepIn K (.ref C_Book) = true)
    (kna_Book_contents : PySem.W.findIn K (.ref C_Book) "contents" = some none)
    (kna_Book_depths : PySem.W.findIn K (.ref C_Book) "depths" = some none)
    (kna_Book_given : PySem.W.findIn K (.ref C_Book) "given" = some none)
    (kga_Holding : PySem.W.nsIn K mainGlobals "Holding" = some (some (.ref C_Holding))) (kpg_Holding : PySem.W.plainGet K C_Holding Str.empty = true) (khd_Holding : PySem.W.hasDictIn K C_Holding = true) (kpo_Holding : PySem.W.plainOver K C_Holding = true) (ksa_Holding : PySem.W.findIn K (.ref C_Holding) "__setattr__" = some (some (.builtin "object.__setattr__"))) (kmk_Holding : PySem.W.makesIn K C_Holding = true) (kkc_Holding : PySem.W.keepIn K (.ref C_Holding) = true)
    (kna_Holding_book : PySem.W.findIn K (.ref C_Holding) "book" = some none)
    (kna_Holding_row : PySem.W.findIn K (.ref C_Holding) "row" = some none)
    (kna_Holding_here : PySem.W.findIn K (.ref C_Holding) "here" = some none)
    (z_len : PySem.W.nsIn K mainGlobals "len" = some none)
    (z_list : PySem.W.nsIn K mainGlobals "list" = some none)
    (z_isinstance : PySem.W.nsIn K mainGlobals "isinstance" = some none)
    (z_int : PySem.W.nsIn K mainGlobals "int" = some none)
    (z_bool : PySem.W.nsIn K mainGlobals "bool" = some none)
    (z_str : PySem.W.nsIn K mainGlobals "str" = some none)
    (z_tuple : PySem.W.nsIn K mainGlobals "tuple" = some none)
    (z_dict : PySem.W.nsIn K mainGlobals "dict" = some none)
    (z_range : PySem.W.nsIn K mainGlobals "range" = some none)
    (z_all : PySem.W.nsIn K mainGlobals "all" = some none)
    (z_any : PySem.W.nsIn K mainGlobals "any" = some none)
    (z_min : PySem.W.nsIn K mainGlobals "min" = some none)
    (z_max : PySem.W.nsIn K mainGlobals "max" = some none)
    (z_set : PySem.W.nsIn K mainGlobals "set" = some none)
    (z_sorted : PySem.W.nsIn K mainGlobals "sorted" = some none)
    (z_zip : PySem.W.nsIn K mainGlobals "zip" = some none)
    (z_enumerate : PySem.W.nsIn K mainGlobals "enumerate" = some none)
    (z_ValueError : PySem.W.nsIn K mainGlobals "ValueError" = some none)
    {t_SIGNS : Tok} (y_SIGNS : PySem.W.nsIn K mainGlobals "SIGNS" = some (some (.str " !\"#$&'()*+,-./0123456789:;<=>?@ABCDEFGHIJKLMNOPQRSTUVWXYZ[\\]^_`abcdefghijklmnopqrstuvwxyz{|}~" t_SIGNS)))
    {t_LETTERS : Tok} (y_LETTERS : PySem.W.nsIn K mainGlobals "LETTERS" = some (some (.str "abcdefghijklmnopqrstuvwxyz" t_LETTERS)))
    {t_MOST : Tok} (y_MOST : PySem.W.nsIn K mainGlobals "MOST" = some (some (.int 400 t_MOST)))
    {t_DEEP : Tok} (y_DEEP : PySem.W.nsIn K mainGlobals "DEEP" = some (some (.int 8 t_DEEP)))
    {C_HouseError : Addr} (ga_HouseError : PySem.W.nsIn K mainGlobals "HouseError" = some (some (.ref C_HouseError))) (hb_HouseError : PySem.W.subIn K (.ref C_HouseError) (.type "BaseException") = some true) (hi_HouseError : PySem.W.isClsIn K C_HouseError = true) (ht_HouseError : PySem.W.typeIn K (.ref C_HouseError) = some (.type "type"))
    {C_NoName : Addr} {nm_NoName q_NoName : Str} {N_NoName : Addr} {bs_NoName : List Value} {sn_NoName : List Str} {sub_NoName : List Value} {ab_NoName : Bool} {col_NoName : Option Bool} {dd_NoName : Option Addr} {m0_NoName m1_NoName m2_NoName m3_NoName m5_NoName : Option Value}
    (ga_NoName : PySem.W.nsIn K mainGlobals "NoName" = some (some (.ref C_NoName))) (xl_NoName : K.lookup C_NoName = some (excClassObj nm_NoName q_NoName C_NoName N_NoName bs_NoName [.ref C_HouseError, .type "ValueError", .type "Exception", .type "BaseException", .type "object"] true sn_NoName sub_NoName ab_NoName col_NoName dd_NoName m0_NoName m1_NoName m2_NoName m3_NoName m5_NoName "ValueError.__new__"))
    (hb_NoName : PySem.W.subIn K (.ref C_NoName) (.type "BaseException") = some true) (hi_NoName : PySem.W.isClsIn K C_NoName = true) (ht_NoName : PySem.W.typeIn K (.ref C_NoName) = some (.type "type")) (xk_NoName : PySem.W.keepIn K (.ref C_NoName) = true) (sa_NoName : PySem.W.findIn K (.ref C_NoName) "__setattr__" = some (some (.builtin "object.__setattr__")))
    (xg_NoName : PySem.W.findIn K (.ref C_NoName) "__getattribute__" = some (some (.builtin "BaseException.__getattribute__"))) (xh_NoName : PySem.W.findIn K (.ref C_NoName) "__getattr__" = some none) (xd_NoName : PySem.W.hasDictIn K C_NoName = true)
    (xo_NoName : PySem.W.findIn K (.ref C_NoName) "__class__" = some (some (.builtin "object.__class__"))) (xp_NoName : PySem.W.specialIn K (.builtin "object.__class__") "__get__" = some (some (.builtin "getset_descriptor.__get__"))) (xq_NoName : PySem.W.takesIn K (.builtin "object.__class__") = some true) (xr_NoName : PySem.W.mroIn K C_NoName (.type "object") = some true)
    (xi_NoName : PySem.W.findIn K (.ref C_NoName) "__init__" = some (some (.ref f_NoName___init__))) (xj_NoName : PySem.W.typeIn K (.ref f_NoName___init__) = some (.type "function"))
    (nf_NoName_name : PySem.W.findIn K (.ref C_NoName) "name" = some none)
    {C_Lack : Addr} {nm_Lack q_Lack : Str} {N_Lack : Addr} {bs_Lack : List Value} {sn_Lack : List Str} {sub_Lack : List Value} {ab_Lack : Bool} {col_Lack : Option Bool} {dd_Lack : Option Addr} {m0_Lack m1_Lack m2_Lack m3_Lack m5_Lack : Option Value}
    (ga_Lack : PySem.W.nsIn K mainGlobals "Lack" = some (some (.ref C_Lack))) (xl_Lack : K.lookup C_Lack = some (excClassObj nm_Lack q_Lack C_Lack N_Lack bs_Lack [.ref C_HouseError, .type "ValueError", .type "Exception", .type "BaseException", .type "object"] true sn_Lack sub_Lack ab_Lack col_Lack dd_Lack m0_Lack m1_Lack m2_Lack m3_Lack m5_Lack "ValueError.__new__"))
    (hb_Lack : PySem.W.subIn K (.ref C_Lack) (.type "BaseException") = some true) (hi_Lack : PySem.W.isClsIn K C_Lack = true) (ht_Lack : PySem.W.typeIn K (.ref C_Lack) = some (.type "type")) (xk_Lack : PySem.W.keepIn K (.ref C_Lack) = true) (sa_Lack : PySem.W.findIn K (.ref C_Lack) "__setattr__" = some (some (.builtin "object.__setattr__")))
    (xg_Lack : PySem.W.findIn K (.ref C_Lack) "__getattribute__" = some (some (.builtin "BaseException.__getattribute__"))) (xh_Lack : PySem.W.findIn K (.ref C_Lack) "__getattr__" = some none) (xd_Lack : PySem.W.hasDictIn K C_Lack = true)
    (xo_Lack : PySem.W.findIn K (.ref C_Lack) "__class__" = some (some (.builtin "object.__class__"))) (xp_Lack : PySem.W.specialIn K (.builtin "object.__class__") "__get__" = some (some (.builtin "getset_descriptor.__get__"))) (xq_Lack : PySem.W.takesIn K (.builtin "object.__class__") = some true) (xr_Lack : PySem.W.mroIn K C_Lack (.type "object") = some true)
    (xi_Lack : PySem.W.findIn K (.ref C_Lack) "__init__" = some (some (.ref f_Lack___init__))) (xj_Lack : PySem.W.typeIn K (.ref f_Lack___init__) = some (.type "function"))
    (nf_Lack_name : PySem.W.findIn K (.ref C_Lack) "name" = some none)
    {C_NoPath : Addr} {nm_NoPath q_NoPath : Str} {N_NoPath : Addr} {bs_NoPath : List Value} {sn_NoPath : List Str} {sub_NoPath : List Value} {ab_NoPath : Bool} {col_NoPath : Option Bool} {dd_NoPath : Option Addr} {m0_NoPath m1_NoPath m2_NoPath m3_NoPath m5_NoPath : Option Value}
    (ga_NoPath : PySem.W.nsIn K mainGlobals "NoPath" = some (some (.ref C_NoPath))) (xl_NoPath : K.lookup C_NoPath = some (excClassObj nm_NoPath q_NoPath C_NoPath N_NoPath bs_NoPath [.ref C_HouseError, .type "ValueError", .type "Exception", .type "BaseException", .type "object"] true sn_NoPath sub_NoPath ab_NoPath col_NoPath dd_NoPath m0_NoPath m1_NoPath m2_NoPath m3_NoPath m5_NoPath "ValueError.__new__"))
    (hb_NoPath : PySem.W.subIn K (.ref C_NoPath) (.type "BaseException") = some true) (hi_NoPath : PySem.W.isClsIn K C_NoPath = true) (ht_NoPath : PySem.W.typeIn K (.ref C_NoPath) = some (.type "type")) (xk_NoPath : PySem.W.keepIn K (.ref C_NoPath) = true) (sa_NoPath : PySem.W.findIn K (.ref C_NoPath) "__setattr__" = some (some (.builtin "object.__setattr__")))
    (xg_NoPath : PySem.W.findIn K (.ref C_NoPath) "__getattribute__" = some (some (.builtin "BaseException.__getattribute__"))) (xh_NoPath : PySem.W.findIn K (.ref C_NoPath) "__getattr__" = some none) (xd_NoPath : PySem.W.hasDictIn K C_NoPath = true)
    (xo_NoPath : PySem.W.findIn K (.ref C_NoPath) "__class__" = some (some (.builtin "object.__class__"))) (xp_NoPath : PySem.W.specialIn K (.builtin "object.__class__") "__get__" = some (some (.builtin "getset_descriptor.__get__"))) (xq_NoPath : PySem.W.takesIn K (.builtin "object.__class__") = some true) (xr_NoPath : PySem.W.mroIn K C_NoPath (.type "object") = some true)
    (xi_NoPath : PySem.W.findIn K (.ref C_NoPath) "__init__" = some (some (.ref f_NoPath___init__))) (xj_NoPath : PySem.W.typeIn K (.ref f_NoPath___init__) = some (.type "function"))
    (nf_NoPath_path : PySem.W.findIn K (.ref C_NoPath) "path" = some none)
    (es_Lack_Lack : PySem.W.subIn K (.ref C_Lack) (.ref C_Lack) = some true)
    {eL_read : Value} {dL_read : Option Addr} {vL_read : Array Value} {sL_read : Array (Option Value)} (lk_read : K.lookup cL_read = some ⟨eL_read, dL_read, .fields vL_read, sL_read⟩) (v11_read : vL_read[11]? = some (.ref PL_read)) (hd_read : PySem.W.codeHdIn K cL_read PL_read = true) (np_read : K.lookup PL_read = none) (tb_read : h.get? PL_read = some { cls := .none, data := .fields #[] })
    : LamX.LawAtS l w K CX0 16 63 "_law_script" mg fa h := by
  have e := hfa.symm.trans (PySem.W.mg_of X G a_law)
  cases e
  have F_NoName___init__ := fun_mk (st := s_NoName___init__) l_NoName___init__ c_NoName___init__ k_NoName___init__
  have F_Lack___init__ := fun_mk (st := s_Lack___init__) l_Lack___init__ c_Lack___init__ k_Lack___init__
  have F_NoPath___init__ := fun_mk (st := s_NoPath___init__) l_NoPath___init__ c_NoPath___init__ k_NoPath___init__
  have F_is_int : FunD K "is_int" "is_int" (defArgs s_is_int) (defBody s_is_int) (defScope s_is_int) [V.int 0] [] f_is_int _ := ⟨⟨_, _, _, _, _, _, _, _, _, _, rfl, l_is_int, c_is_int, .inr ⟨by simp, _, _, [.int 0 dk_is_int_least], _, rfl, dl_is_int, rfl, .cons ⟨_, rfl⟩ (.nil)⟩, .inl rfl⟩, k_is_int⟩
  have D_is_int : DfD K mg "is_int" s_is_int ["thing", "least"] [V.int 0] _ _ := ⟨F_is_int, PySem.W.mg_of X G a_is_int, k_is_int, F_is_int.binds1 (ps := ["thing", "least"]) 1 0 (by simp) rfl fun _ _ _ _ _ _ _ us its hu hi => match us, its, hu, hi with | [_], [_], _, _ => ⟨_, rfl, rfl⟩⟩
  have F_is_text : FunD K "is_text" "is_text" (defArgs s_is_text) (defBody s_is_text) (defScope s_is_text) [V.int 40] [] f_is_text _ := ⟨⟨_, _, _, _, _, _, _, _, _, _, rfl, l_is_text, c_is_text, .inr ⟨by simp, _, _, [.int 40 dk_is_text_most], _, rfl, dl_is_text, rfl, .cons ⟨_, rfl⟩ (.nil)⟩, .inl rfl⟩, k_is_text⟩
  have D_is_text : DfD K mg "is_text" s_is_text ["thing", "most"] [V.int 40] _ _ := ⟨F_is_text, PySem.W.mg_of X G a_is_text, k_is_text, F_is_text.binds1 (ps := ["thing", "most"]) 1 0 (by simp) rfl fun _ _ _ _ _ _ _ us its hu hi => match us, its, hu, hi with | [_], [_], _, _ => ⟨_, rfl, rfl⟩⟩
  have F_is_label := fun_mk (st := s_is_label) l_is_label c_is_label k_is_label
  have D_is_label : Df K mg "is_label" s_is_label ["thing"] _ _ := ⟨F_is_label, F_is_label.binds (ps := ["thing"]) fun _ _ _ _ _ _ us hl => match us, hl with | [_], _ => rfl, PySem.W.mg_of X G a_is_label⟩
  have F_rise := fun_mk (st := s_rise) l_rise c_rise k_rise
  have D_rise : Df K mg "rise" s_rise ["row"] _ _ := ⟨F_rise, F_rise.binds (ps := ["row"]) fun _ _ _ _ _ _ us hl => match us, hl with | [_], _ => rfl, PySem.W.mg_of X G a_rise⟩
  have F_are_ints := fun_mk (st := s_are_ints) l_are_ints c_are_ints k_are_ints
  have D_are_ints : Df K mg "are_ints" s_are_ints ["thing"] _ _ := ⟨F_are_ints, F_are_ints.binds (ps := ["thing"]) fun _ _ _ _ _ _ us hl => match us, hl with | [_], _ => rfl, PySem.W.mg_of X G a_are_ints⟩
  have F_rising_ints := fun_mk (st := s_rising_ints) l_rising_ints c_rising_ints k_rising_ints
  have D_rising_ints : Df K mg "rising_ints" s_rising_ints ["thing"] _ _ := ⟨F_rising_ints, F_rising_ints.binds (ps := ["thing"]) fun _ _ _ _ _ _ us hl => match us, hl with | [_], _ => rfl, PySem.W.mg_of X G a_rising_ints⟩
  have F_is_pair := fun_mk (st := s_is_pair) l_is_pair c_is_pair k_is_pair
  have D_is_pair : Df K mg "is_pair" s_is_pair ["thing"] _ _ := ⟨F_is_pair, F_is_pair.binds (ps := ["thing"]) fun _ _ _ _ _ _ us hl => match us, hl with | [_], _ => rfl, PySem.W.mg_of X G a_is_pair⟩
  have F_are_rows := fun_mk (st := s_are_rows) l_are_rows c_are_rows k_are_rows
  have D_are_rows : Df K mg "are_rows" s_are_rows ["thing"] _ _ := ⟨F_are_rows, F_are_rows.binds (ps := ["thing"]) fun _ _ _ _ _ _ us hl => match us, hl with | [_], _ => rfl, PySem.W.mg_of X G a_are_rows⟩
  have F_look := fun_mk (st := s_look) l_look c_look k_look
  have D_look : Df K mg "look" s_look ["book", "names"] _ _ := ⟨F_look, F_look.binds (ps := ["book", "names"]) fun _ _ _ _ _ _ us hl => match us, hl with | [_, _], _ => rfl, PySem.W.mg_of X G a_look⟩
  have F_chosen := fun_mk (st := s_chosen) l_chosen c_chosen k_chosen
  have D_chosen : Df K mg "chosen" s_chosen ["book", "root", "under"] _ _ := ⟨F_chosen, F_chosen.binds (ps := ["book", "root", "under"]) fun _ _ _ _ _ _ us hl => match us, hl with | [_, _, _], _ => rfl, PySem.W.mg_of X G a_chosen⟩
  have F_tops := fun_mk (st := s_tops) l_tops c_tops k_tops
  have D_tops : Df K mg "tops" s_tops ["view", "versions"] _ _ := ⟨F_tops, F_tops.binds (ps := ["view", "versions"]) fun _ _ _ _ _ _ us hl => match us, hl with | [_, _], _ => rfl, PySem.W.mg_of X G a_tops⟩
  have F_entered := fun_mk (st := s_entered) l_entered c_entered k_entered
  have D_entered : Df K mg "entered" s_entered ["view", "versions", "under"] _ _ := ⟨F_entered, F_entered.binds (ps := ["view", "versions", "under"]) fun _ _ _ _ _ _ us hl => match us, hl with | [_, _, _], _ => rfl, PySem.W.mg_of X G a_entered⟩
  have F_reasons : FunD K "reasons" "reasons" (defArgs s_reasons) (defBody s_reasons) (defScope s_reasons) [] [(("under" : Str), V.ref ku_reasons_under)] f_reasons _ := ⟨⟨_, _, _, _, _, _, _, _, _, _, rfl, l_reasons, c_reasons, .inl ⟨rfl, rfl⟩, .inr ⟨_, rfl, fun q hq => by
    have e : q = (("under" : Str), V.ref ku_reasons_under) := by simpa using hq
    subst e
    exact ⟨_, kw_reasons_under, rfl⟩⟩⟩, k_reasons⟩
  have D_reasons : DfK K mg "reasons" s_reasons ["view", "versions", "under"] [(("under" : Str), V.ref ku_reasons_under)] [V.ref ku_reasons_under] _ _ := ⟨F_reasons, PySem.W.mg_of X G a_reasons, k_reasons, F_reasons.binds0 (ps := ["view", "versions", "under"]) 2 (by simp) rfl fun _ _ _ _ _ _ us ks hu hk => match us, ks, hu, hk with | [_, _], [_], _, _ => ⟨_, _, _, _, _, _, rfl, rfl, rfl⟩, by
    obtain ⟨mv, h⟩ := F_reasons.kbinds0 (ps := ["view", "versions", "under"]) 2 ["under"] [] (fun us _ ws => us ++ ws) (by simp) (by simp) (fun r1 _ r3 => r1.append r3) (fun _ _ _ _ _ _ us mv ws hu hm hw => match us, mv, ws, hu, hm, hw with | [_, _], [], [_], _, _, _ => rfl)
    exact ⟨_, h⟩⟩
  have U_reasons_under : ∀ H, SqT K H ku_reasons_under [] := fun H => .inr ⟨_, #[], _, lu_reasons_under, rfl, rfl, Nat.zero_le _, .nil⟩
  have F_wanted : FunD K "wanted" "wanted" (defArgs s_wanted) (defBody s_wanted) (defScope s_wanted) [] [(("under" : Str), V.ref ku_wanted_under)] f_wanted _ := ⟨⟨_, _, _, _, _, _, _, _, _, _, rfl, l_wanted, c_wanted, .inl ⟨rfl, rfl⟩, .inr ⟨_, rfl, fun q hq => by
    have e : q = (("under" : Str), V.ref ku_wanted_under) := by simpa using hq
    subst e
    exact ⟨_, kw_wanted_under, rfl⟩⟩⟩, k_wanted⟩
  have D_wanted : DfK K mg "wanted" s_wanted ["view", "versions", "under"] [(("under" : Str), V.ref ku_wanted_under)] [V.ref ku_wanted_under] _ _ := ⟨F_wanted, PySem.W.mg_of X G a_wanted, k_wanted, F_wanted.binds0 (ps := ["view", "versions", "under"]) 2 (by simp) rfl fun _ _ _ _ _ _ us ks hu hk => match us, ks, hu, hk with | [_, _], [_], _, _ => ⟨_, _, _, _, _, _, rfl, rfl, rfl⟩, by
    obtain ⟨mv, h⟩ := F_wanted.kbinds0 (ps := ["view", "versions", "under"]) 2 ["under"] [] (fun us _ ws => us ++ ws) (by simp) (by simp) (fun r1 _ r3 => r1.append r3) (fun _ _ _ _ _ _ us mv ws hu hm hw => match us, mv, ws, hu, hm, hw with | [_, _], [], [_], _, _, _ => rfl)
    exact ⟨_, h⟩⟩
  have U_wanted_under : ∀ H, SqT K H ku_wanted_under [] := fun H => .inr ⟨_, #[], _, lu_wanted_under, rfl, rfl, Nat.zero_le _, .nil⟩
  have F_entry := fun_mk (st := s_entry) l_entry c_entry k_entry
  have D_entry : Df K mg "entry" s_entry ["content", "label"] _ _ := ⟨F_entry, F_entry.binds (ps := ["content", "label"]) fun _ _ _ _ _ _ us hl => match us, hl with | [_, _], _ => rfl, PySem.W.mg_of X G a_entry⟩
  have F_come_to := fun_mk (st := s_come_to) l_come_to c_come_to k_come_to
  have D_come_to : Df K mg "come_to" s_come_to ["book", "version", "path", "absent"] _ _ := ⟨F_come_to, F_come_to.binds (ps := ["book", "version", "path", "absent"]) fun _ _ _ _ _ _ us hl => match us, hl with | [_, _, _, _], _ => rfl, PySem.W.mg_of X G a_come_to⟩
  have F_read := fun_mk (st := s_read) l_read c_read k_read
  have D_read : Df K mg "read" s_read ["view", "version", "path"] _ _ := ⟨F_read, F_read.binds (ps := ["view", "version", "path"]) fun _ _ _ _ _ _ us hl => match us, hl with | [_, _, _], _ => rfl, PySem.W.mg_of X G a_read⟩
  have F_go_down := fun_mk (st := s_go_down) l_go_down c_go_down k_go_down
  have D_go_down : Df K mg "go_down" s_go_down ["view", "name", "path", "found"] _ _ := ⟨F_go_down, F_go_down.binds (ps := ["view", "name", "path", "found"]) fun _ _ _ _ _ _ us hl => match us, hl with | [_, _, _, _], _ => rfl, PySem.W.mg_of X G a_go_down⟩
  have F_lacks : FunD K "lacks" "lacks" (defArgs s_lacks) (defBody s_lacks) (defScope s_lacks) [] [(("under" : Str), V.ref ku_lacks_under)] f_lacks _ := ⟨⟨_, _, _, _, _, _, _, _, _, _, rfl, l_lacks, c_lacks, .inl ⟨rfl, rfl⟩, .inr ⟨_, rfl, fun q hq => by
    have e : q = (("under" : Str), V.ref ku_lacks_under) := by simpa using hq
    subst e
    exact ⟨_, kw_lacks_under, rfl⟩⟩⟩, k_lacks⟩
  have D_lacks : DfK K mg "lacks" s_lacks ["view", "version", "under"] [(("under" : Str), V.ref ku_lacks_under)] [V.ref ku_lacks_under] _ _ := ⟨F_lacks, PySem.W.mg_of X G a_lacks, k_lacks, F_lacks.binds0 (ps := ["view", "version", "under"]) 2 (by simp) rfl fun _ _ _ _ _ _ us ks hu hk => match us, ks, hu, hk with | [_, _], [_], _, _ => ⟨_, _, _, _, _, _, rfl, rfl, rfl⟩, by
    obtain ⟨mv, h⟩ := F_lacks.kbinds0 (ps := ["view", "version", "under"]) 2 ["under"] [] (fun us _ ws => us ++ ws) (by simp) (by simp) (fun r1 _ r3 => r1.append r3) (fun _ _ _ _ _ _ us mv ws hu hm hw => match us, mv, ws, hu, hm, hw with | [_, _], [], [_], _, _, _ => rfl)
    exact ⟨_, h⟩⟩
  have U_lacks_under : ∀ H, SqT K H ku_lacks_under [] := fun H => .inr ⟨_, #[], _, lu_lacks_under, rfl, rfl, Nat.zero_le _, .nil⟩
  have F_Book___init__ := fun_mk (st := s_Book___init__) l_Book___init__ c_Book___init__ k_Book___init__
  have D_Book___init__ : DfM K C_Book "__init__" "Book.__init__" s_Book___init__ ["self"] _ _ := ⟨F_Book___init__, F_Book___init__.binds (ps := ["self"]) fun _ _ _ _ _ _ us hl => match us, hl with | [_], _ => rfl, ⟨a_Book___init__, i_Book___init__, k_Book___init__⟩⟩
  have F_Book_named := fun_mk (st := s_Book_named) l_Book_named c_Book_named k_Book_named
  have D_Book_named : DfM K C_Book "named" "Book.named" s_Book_named ["self", "content"] _ _ := ⟨F_Book_named, F_Book_named.binds (ps := ["self", "content"]) fun _ _ _ _ _ _ us hl => match us, hl with | [_, _], _ => rfl, ⟨a_Book_named, i_Book_named, k_Book_named⟩⟩
  have F_Book_thing := fun_mk (st := s_Book_thing) l_Book_thing c_Book_thing k_Book_thing
  have D_Book_thing : DfM K C_Book "thing" "Book.thing" s_Book_thing ["self", "name"] _ _ := ⟨F_Book_thing, F_Book_thing.binds (ps := ["self", "name"]) fun _ _ _ _ _ _ us hl => match us, hl with | [_, _], _ => rfl, ⟨a_Book_thing, i_Book_thing, k_Book_thing⟩⟩
  have F_Book_kind := fun_mk (st := s_Book_kind) l_Book_kind c_Book_kind k_Book_kind
  have D_Book_kind : DfM K C_Book "kind" "Book.kind" s_Book_kind ["self", "name"] _ _ := ⟨F_Book_kind, F_Book_kind.binds (ps := ["self", "name"]) fun _ _ _ _ _ _ us hl => match us, hl with | [_, _], _ => rfl, ⟨a_Book_kind, i_Book_kind, k_Book_kind⟩⟩
  have F_Book_parts := fun_mk (st := s_Book_parts) l_Book_parts c_Book_parts k_Book_parts
  have D_Book_parts : DfM K C_Book "parts" "Book.parts" s_Book_parts ["self", "name"] _ _ := ⟨F_Book_parts, F_Book_parts.binds (ps := ["self", "name"]) fun _ _ _ _ _ _ us hl => match us, hl with | [_, _], _ => rfl, ⟨a_Book_parts, i_Book_parts, k_Book_parts⟩⟩
  have F_is_name := fun_mk (st := s_is_name) l_is_name c_is_name k_is_name
  have D_is_name : Df K mg "is_name" s_is_name ["book", "thing"] _ _ := ⟨F_is_name, F_is_name.binds (ps := ["book", "thing"]) fun _ _ _ _ _ _ us hl => match us, hl with | [_, _], _ => rfl, PySem.W.mg_of X G a_is_name⟩
  have F_is_kind := fun_mk (st := s_is_kind) l_is_kind c_is_kind k_is_kind
  have D_is_kind : Df K mg "is_kind" s_is_kind ["book", "thing", "kind"] _ _ := ⟨F_is_kind, F_is_kind.binds (ps := ["book", "thing", "kind"]) fun _ _ _ _ _ _ us hl => match us, hl with | [_, _, _], _ => rfl, PySem.W.mg_of X G a_is_kind⟩
  have F_is_entry := fun_mk (st := s_is_entry) l_is_entry c_is_entry k_is_entry
  have D_is_entry : Df K mg "is_entry" s_is_entry ["book", "thing"] _ _ := ⟨F_is_entry, F_is_entry.binds (ps := ["book", "thing"]) fun _ _ _ _ _ _ us hl => match us, hl with | [_, _], _ => rfl, PySem.W.mg_of X G a_is_entry⟩
  have F_is_tree := fun_mk (st := s_is_tree) l_is_tree c_is_tree k_is_tree
  have D_is_tree : Df K mg "is_tree" s_is_tree ["book", "entries"] _ _ := ⟨F_is_tree, F_is_tree.binds (ps := ["book", "entries"]) fun _ _ _ _ _ _ us hl => match us, hl with | [_, _], _ => rfl, PySem.W.mg_of X G a_is_tree⟩
  have F_depth_of := fun_mk (st := s_depth_of) l_depth_of c_depth_of k_depth_of
  have D_depth_of : Df K mg "depth_of" s_depth_of ["book", "content"] _ _ := ⟨F_depth_of, F_depth_of.binds (ps := ["book", "content"]) fun _ _ _ _ _ _ us hl => match us, hl with | [_, _], _ => rfl, PySem.W.mg_of X G a_depth_of⟩
  have F_is_version := fun_mk (st := s_is_version) l_is_version c_is_version k_is_version
  have D_is_version : Df K mg "is_version" s_is_version ["book", "content"] _ _ := ⟨F_is_version, F_is_version.binds (ps := ["book", "content"]) fun _ _ _ _ _ _ us hl => match us, hl with | [_, _], _ => rfl, PySem.W.mg_of X G a_is_version⟩
  have F_is_content := fun_mk (st := s_is_content) l_is_content c_is_content k_is_content
  have D_is_content : Df K mg "is_content" s_is_content ["book", "thing"] _ _ := ⟨F_is_content, F_is_content.binds (ps := ["book", "thing"]) fun _ _ _ _ _ _ us hl => match us, hl with | [_, _], _ => rfl, PySem.W.mg_of X G a_is_content⟩
  have F_Holding___init__ := fun_mk (st := s_Holding___init__) l_Holding___init__ c_Holding___init__ k_Holding___init__
  have D_Holding___init__ : DfM K C_Holding "__init__" "Holding.__init__" s_Holding___init__ ["self", "book", "names"] _ _ := ⟨F_Holding___init__, F_Holding___init__.binds (ps := ["self", "book", "names"]) fun _ _ _ _ _ _ us hl => match us, hl with | [_, _, _], _ => rfl, ⟨a_Holding___init__, i_Holding___init__, k_Holding___init__⟩⟩
  have F_Holding_holds := fun_mk (st := s_Holding_holds) l_Holding_holds c_Holding_holds k_Holding_holds
  have D_Holding_holds : DfM K C_Holding "holds" "Holding.holds" s_Holding_holds ["self", "name"] _ _ := ⟨F_Holding_holds, F_Holding_holds.binds (ps := ["self", "name"]) fun _ _ _ _ _ _ us hl => match us, hl with | [_, _], _ => rfl, ⟨a_Holding_holds, i_Holding_holds, k_Holding_holds⟩⟩
  have F_Holding_names := fun_mk (st := s_Holding_names) l_Holding_names c_Holding_names k_Holding_names
  have D_Holding_names : DfM K C_Holding "names" "Holding.names" s_Holding_names ["self"] _ _ := ⟨F_Holding_names, F_Holding_names.binds (ps := ["self"]) fun _ _ _ _ _ _ us hl => match us, hl with | [_], _ => rfl, ⟨a_Holding_names, i_Holding_names, k_Holding_names⟩⟩
  have F_law_deck := fun_mk (st := s_law_deck) l_law_deck c_law_deck k_law_deck
  have D_law_deck : Df K mg "_law_deck" s_law_deck ["_law_script"] _ _ := ⟨F_law_deck, F_law_deck.binds (ps := ["_law_script"]) fun _ _ _ _ _ _ us hl => match us, hl with | [_], _ => rfl, PySem.W.mg_of X G a_law_deck⟩
  have F_law_mixed := fun_mk (st := s_law_mixed) l_law_mixed c_law_mixed k_law_mixed
  have D_law_mixed : Df K mg "_law_mixed" s_law_mixed ["_law_cell", "_law_turn"] _ _ := ⟨F_law_mixed, F_law_mixed.binds (ps := ["_law_cell", "_law_turn"]) fun _ _ _ _ _ _ us hl => match us, hl with | [_, _], _ => rfl, PySem.W.mg_of X G a_law_mixed⟩
  have F_law_draw := fun_mk (st := s_law_draw) l_law_draw c_law_draw k_law_draw
  have D_law_draw : Df K mg "_law_draw" s_law_draw ["_law_deck_here", "_law_many"] _ _ := ⟨F_law_draw, F_law_draw.binds (ps := ["_law_deck_here", "_law_many"]) fun _ _ _ _ _ _ us hl => match us, hl with | [_, _], _ => rfl, PySem.W.mg_of X G a_law_draw⟩
  have F_law_text := fun_mk (st := s_law_text) l_law_text c_law_text k_law_text
  have D_law_text : Df K mg "_law_text" s_law_text ["_law_deck_here", "_law_size"] _ _ := ⟨F_law_text, F_law_text.binds (ps := ["_law_deck_here", "_law_size"]) fun _ _ _ _ _ _ us hl => match us, hl with | [_, _], _ => rfl, PySem.W.mg_of X G a_law_text⟩
  have F_law_label := fun_mk (st := s_law_label) l_law_label c_law_label k_law_label
  have D_law_label : Df K mg "_law_label" s_law_label ["_law_deck_here"] _ _ := ⟨F_law_label, F_law_label.binds (ps := ["_law_deck_here"]) fun _ _ _ _ _ _ us hl => match us, hl with | [_], _ => rfl, PySem.W.mg_of X G a_law_label⟩
  have F_law_give := fun_mk (st := s_law_give) l_law_give c_law_give k_law_give
  have D_law_give : Df K mg "_law_give" s_law_give ["_law_things", "_law_content"] _ _ := ⟨F_law_give, F_law_give.binds (ps := ["_law_things", "_law_content"]) fun _ _ _ _ _ _ us hl => match us, hl with | [_, _], _ => rfl, PySem.W.mg_of X G a_law_give⟩
  have F_law_rows := fun_mk (st := s_law_rows) l_law_rows c_law_rows k_law_rows
  have D_law_rows : Df K mg "_law_rows" s_law_rows ["_law_deck_here", "_law_elder"] _ _ := ⟨F_law_rows, F_law_rows.binds (ps := ["_law_deck_here", "_law_elder"]) fun _ _ _ _ _ _ us hl => match us, hl with | [_, _], _ => rfl, PySem.W.mg_of X G a_law_rows⟩
  have F_law_entries := fun_mk (st := s_law_entries) l_law_entries c_law_entries k_law_entries
  have D_law_entries : Df K mg "_law_entries" s_law_entries ["_law_deck_here", "_law_lows"] _ _ := ⟨F_law_entries, F_law_entries.binds (ps := ["_law_deck_here", "_law_lows"]) fun _ _ _ _ _ _ us hl => match us, hl with | [_, _], _ => rfl, PySem.W.mg_of X G a_law_entries⟩
  have F_law_some := fun_mk (st := s_law_some) l_law_some c_law_some k_law_some
  have D_law_some : Df K mg "_law_some" s_law_some ["_law_deck_here", "_law_names", "_law_count"] _ _ := ⟨F_law_some, F_law_some.binds (ps := ["_law_deck_here", "_law_names", "_law_count"]) fun _ _ _ _ _ _ us hl => match us, hl with | [_, _, _], _ => rfl, PySem.W.mg_of X G a_law_some⟩
  have F_law_family := fun_mk (st := s_law_family) l_law_family c_law_family k_law_family
  have D_law_family : Df K mg "_law_family" s_law_family ["_law_deck_here", "_law_leaves", "_law_trees", "_law_versions_here"] _ _ := ⟨F_law_family, F_law_family.binds (ps := ["_law_deck_here", "_law_leaves", "_law_trees", "_law_versions_here"]) fun _ _ _ _ _ _ us hl => match us, hl with | [_, _, _, _], _ => rfl, PySem.W.mg_of X G a_law_family⟩
  have F_law_parts := fun_mk (st := s_law_parts) l_law_parts c_law_parts k_law_parts
  have D_law_parts : Df K mg "_law_parts" s_law_parts ["_law_content"] _ _ := ⟨F_law_parts, F_law_parts.binds (ps := ["_law_content"]) fun _ _ _ _ _ _ us hl => match us, hl with | [_], _ => rfl, PySem.W.mg_of X G a_law_parts⟩
  have F_law_under := fun_mk (st := s_law_under) l_law_under c_law_under k_law_under
  have D_law_under : Df K mg "_law_under" s_law_under ["_law_things", "_law_starts"] _ _ := ⟨F_law_under, F_law_under.binds (ps := ["_law_things", "_law_starts"]) fun _ _ _ _ _ _ us hl => match us, hl with | [_, _], _ => rfl, PySem.W.mg_of X G a_law_under⟩
  have F_law_held := fun_mk (st := s_law_held) l_law_held c_law_held k_law_held
  have D_law_held : Df K mg "_law_held" s_law_held ["_law_deck_here", "_law_things"] _ _ := ⟨F_law_held, F_law_held.binds (ps := ["_law_deck_here", "_law_things"]) fun _ _ _ _ _ _ us hl => match us, hl with | [_, _], _ => rfl, PySem.W.mg_of X G a_law_held⟩
  have F_law_book := fun_mk (st := s_law_book) l_law_book c_law_book k_law_book
  have D_law_book : Df K mg "_law_book" s_law_book ["_law_things"] _ _ := ⟨F_law_book, F_law_book.binds (ps := ["_law_things"]) fun _ _ _ _ _ _ us hl => match us, hl with | [_], _ => rfl, PySem.W.mg_of X G a_law_book⟩
  have F_law_tall := fun_mk (st := s_law_tall) l_law_tall c_law_tall k_law_tall
  have D_law_tall : Df K mg "_law_tall" s_law_tall ["_law_deck_here"] _ _ := ⟨F_law_tall, F_law_tall.binds (ps := ["_law_deck_here"]) fun _ _ _ _ _ _ us hl => match us, hl with | [_], _ => rfl, PySem.W.mg_of X G a_law_tall⟩
  have F_law_long := fun_mk (st := s_law_long) l_law_long c_law_long k_law_long
  have D_law_long : Df K mg "_law_long" s_law_long ["_law_deck_here"] _ _ := ⟨F_law_long, F_law_long.binds (ps := ["_law_deck_here"]) fun _ _ _ _ _ _ us hl => match us, hl with | [_], _ => rfl, PySem.W.mg_of X G a_law_long⟩
  have F_law_thick := fun_mk (st := s_law_thick) l_law_thick c_law_thick k_law_thick
  have D_law_thick : Df K mg "_law_thick" s_law_thick ["_law_deck_here"] _ _ := ⟨F_law_thick, F_law_thick.binds (ps := ["_law_deck_here"]) fun _ _ _ _ _ _ us hl => match us, hl with | [_], _ => rfl, PySem.W.mg_of X G a_law_thick⟩
  have F_law_ladder := fun_mk (st := s_law_ladder) l_law_ladder c_law_ladder k_law_ladder
  have D_law_ladder : Df K mg "_law_ladder" s_law_ladder ["_law_deck_here", "_law_many"] _ _ := ⟨F_law_ladder, F_law_ladder.binds (ps := ["_law_deck_here", "_law_many"]) fun _ _ _ _ _ _ us hl => match us, hl with | [_, _], _ => rfl, PySem.W.mg_of X G a_law_ladder⟩
  have F_law_scene := fun_mk (st := s_law_scene) l_law_scene c_law_scene k_law_scene
  have D_law_scene : Df K mg "_law_scene" s_law_scene ["_law_deck_here", "_law_turn"] _ _ := ⟨F_law_scene, F_law_scene.binds (ps := ["_law_deck_here", "_law_turn"]) fun _ _ _ _ _ _ us hl => match us, hl with | [_, _], _ => rfl, PySem.W.mg_of X G a_law_scene⟩
  have F_law_versions := fun_mk (st := s_law_versions) l_law_versions c_law_versions k_law_versions
  have D_law_versions : Df K mg "_law_versions" s_law_versions ["_law_things"] _ _ := ⟨F_law_versions, F_law_versions.binds (ps := ["_law_things"]) fun _ _ _ _ _ _ us hl => match us, hl with | [_], _ => rfl, PySem.W.mg_of X G a_law_versions⟩
  have F_law_picks := fun_mk (st := s_law_picks) l_law_picks c_law_picks k_law_picks
  have D_law_picks : Df K mg "_law_picks" s_law_picks ["_law_deck_here", "_law_things"] _ _ := ⟨F_law_picks, F_law_picks.binds (ps := ["_law_deck_here", "_law_things"]) fun _ _ _ _ _ _ us hl => match us, hl with | [_, _], _ => rfl, PySem.W.mg_of X G a_law_picks⟩
  have F_law_first_paths := fun_mk (st := s_law_first_paths) l_law_first_paths c_law_first_paths k_law_first_paths
  have D_law_first_paths : Df K mg "_law_first_paths" s_law_first_paths ["_law_things", "_law_held_here", "_law_version", "_law_picks_here"] _ _ := ⟨F_law_first_paths, F_law_first_paths.binds (ps := ["_law_things", "_law_held_here", "_law_version", "_law_picks_here"]) fun _ _ _ _ _ _ us hl => match us, hl with | [_, _, _, _], _ => rfl, PySem.W.mg_of X G a_law_first_paths⟩
  have F_law_lack := fun_mk (st := s_law_lack) l_law_lack c_law_lack k_law_lack
  have D_law_lack : Df K mg "_law_lack" s_law_lack ["_law_view", "_law_version", "_law_path"] _ _ := ⟨F_law_lack, F_law_lack.binds (ps := ["_law_view", "_law_version", "_law_path"]) fun _ _ _ _ _ _ us hl => match us, hl with | [_, _, _], _ => rfl, PySem.W.mg_of X G a_law_lack⟩
  have F_law_good := fun_mk (st := s_law_good) l_law_good c_law_good k_law_good
  have D_law_good : Df K mg "_law_good" s_law_good ["_law_found"] _ _ := ⟨F_law_good, F_law_good.binds (ps := ["_law_found"]) fun _ _ _ _ _ _ us hl => match us, hl with | [_], _ => rfl, PySem.W.mg_of X G a_law_good⟩
  have F_law_wide := fun_mk (st := s_law_wide) l_law_wide c_law_wide k_law_wide
  have D_law_wide : Df K mg "_law_wide" s_law_wide ["_law_deck_here"] _ _ := ⟨F_law_wide, F_law_wide.binds (ps := ["_law_deck_here"]) fun _ _ _ _ _ _ us hl => match us, hl with | [_], _ => rfl, PySem.W.mg_of X G a_law_wide⟩
  have F_law_whole := fun_mk (st := s_law_whole) l_law_whole c_law_whole k_law_whole
  have D_law_whole : Df K mg "_law_whole" s_law_whole ["_law_found"] _ _ := ⟨F_law_whole, F_law_whole.binds (ps := ["_law_found"]) fun _ _ _ _ _ _ us hl => match us, hl with | [_], _ => rfl, PySem.W.mg_of X G a_law_whole⟩
  have F_law := fun_mk (st := s_law) l_law c_law k_law
  have D_law : Df K mg "law" s_law ["_law_script"] _ _ := ⟨F_law, F_law.binds (ps := ["_law_script"]) fun _ _ _ _ _ _ us hl => match us, hl with | [_], _ => rfl, PySem.W.mg_of X G a_law⟩
  have X_NoName : ExnI K mg "NoName" C_NoName f_NoName___init__ _ ["self", "name"] ["name"] := ⟨PySem.W.mg_of X G ga_NoName, ⟨⟨_, _, _, _, _, _, _, _, _, _, _, _, _, _, _, xl_NoName, (show PySem.HandSPX.refsVE [.type "ValueError", .type "Exception", .type "BaseException", .type "object"] = true by decide +kernel)⟩, sa_NoName, hb_NoName, ht_NoName, xk_NoName⟩, xi_NoName, xj_NoName, F_NoName___init__.binds (ps := ["self", "name"]) fun _ _ _ _ _ _ us hl => match us, hl with | [_, _], _ => rfl, ⟨xg_NoName, xh_NoName, hb_NoName, xd_NoName⟩, ⟨xg_NoName, xh_NoName, hb_NoName, xd_NoName, xo_NoName, xp_NoName, xq_NoName, xr_NoName⟩, fun y hy => by
    rcases (by simpa using hy : y = "name") with rfl
    · exact nf_NoName_name⟩
  have X_Lack : ExnI K mg "Lack" C_Lack f_Lack___init__ _ ["self", "name"] ["name"] := ⟨PySem.W.mg_of X G ga_Lack, ⟨⟨_, _, _, _, _, _, _, _, _, _, _, _, _, _, _, xl_Lack, (show PySem.HandSPX.refsVE [.type "ValueError", .type "Exception", .type "BaseException", .type "object"] = true by decide +kernel)⟩, sa_Lack, hb_Lack, ht_Lack, xk_Lack⟩, xi_Lack, xj_Lack, F_Lack___init__.binds (ps := ["self", "name"]) fun _ _ _ _ _ _ us hl => match us, hl with | [_, _], _ => rfl, ⟨xg_Lack, xh_Lack, hb_Lack, xd_Lack⟩, ⟨xg_Lack, xh_Lack, hb_Lack, xd_Lack, xo_Lack, xp_Lack, xq_Lack, xr_Lack⟩, fun y hy => by
    rcases (by simpa using hy : y = "name") with rfl
    · exact nf_Lack_name⟩
  have X_NoPath : ExnI K mg "NoPath" C_NoPath f_NoPath___init__ _ ["self", "path"] ["path"] := ⟨PySem.W.mg_of X G ga_NoPath, ⟨⟨_, _, _, _, _, _, _, _, _, _, _, _, _, _, _, xl_NoPath, (show PySem.HandSPX.refsVE [.type "ValueError", .type "Exception", .type "BaseException", .type "object"] = true by decide +kernel)⟩, sa_NoPath, hb_NoPath, ht_NoPath, xk_NoPath⟩, xi_NoPath, xj_NoPath, F_NoPath___init__.binds (ps := ["self", "path"]) fun _ _ _ _ _ _ us hl => match us, hl with | [_, _], _ => rfl, ⟨xg_NoPath, xh_NoPath, hb_NoPath, xd_NoPath⟩, ⟨xg_NoPath, xh_NoPath, hb_NoPath, xd_NoPath, xo_NoPath, xp_NoPath, xq_NoPath, xr_NoPath⟩, fun y hy => by
    rcases (by simpa using hy : y = "path") with rfl
    · exact nf_NoPath_path⟩
  have K_Book : Kl K mg "Book" C_Book ["contents", "depths", "given"] := ⟨PySem.W.mg_of X G kga_Book, ⟨kpg_Book, khd_Book, kpo_Book, ksa_Book⟩, fun y hy => by
    rcases (by simpa using hy : y = "contents" ∨ y = "depths" ∨ y = "given") with rfl | rfl | rfl
    · exact kna_Book_contents
    · exact kna_Book_depths
    · exact kna_Book_given⟩
  have M_Book : Mk K C_Book f_Book___init__ := ⟨kmk_Book, a_Book___init__, i_Book___init__, kkc_Book⟩
  have K_Holding : Kl K mg "Holding" C_Holding ["book", "row", "here"] := ⟨PySem.W.mg_of X G kga_Holding, ⟨kpg_Holding, khd_Holding, kpo_Holding, ksa_Holding⟩, fun y hy => by
    rcases (by simpa using hy : y = "book" ∨ y = "row" ∨ y = "here") with rfl | rfl | rfl
    · exact kna_Holding_book
    · exact kna_Holding_row
    · exact kna_Holding_here⟩
  have M_Holding : Mk K C_Holding f_Holding___init__ := ⟨kmk_Holding, a_Holding___init__, i_Holding___init__, kkc_Holding⟩
  have T : Txt K mg := ⟨PySem.W.mg_none_of X G z_len, PySem.W.mg_none_of X G z_list, PySem.W.mg_none_of X G z_isinstance, PySem.W.mg_none_of X G z_int, PySem.W.mg_none_of X G z_bool, PySem.W.mg_none_of X G z_str, PySem.W.mg_none_of X G z_tuple, PySem.W.mg_none_of X G z_dict, PySem.W.mg_none_of X G z_range, PySem.W.mg_none_of X G z_all, PySem.W.mg_none_of X G z_any, PySem.W.mg_none_of X G z_min, PySem.W.mg_none_of X G z_max, PySem.W.mg_none_of X G z_set, PySem.W.mg_none_of X G z_sorted, PySem.W.mg_none_of X G z_zip, PySem.W.mg_none_of X G z_enumerate, PySem.W.mg_none_of X G z_ValueError, ⟨_, PySem.W.mg_of X G y_SIGNS⟩, ⟨_, PySem.W.mg_of X G y_LETTERS⟩, ⟨_, PySem.W.mg_of X G y_MOST⟩, ⟨_, PySem.W.mg_of X G y_DEEP⟩⟩
  exact ⟨PySem.W.fnOf "law" "law" (defArgs s_law) (defBody s_law) (defScope s_law) .none kV_law dc_law pm_law an_law cd_law ct_law, [(cL_read, PL_read)], spLaw K PL_read, (fun p hp => by rw [List.mem_singleton.mp hp]; exact tb_read), (fun p hp => by rw [List.mem_singleton.mp hp]; exact np_read), (fun p hp => by rw [List.mem_singleton.mp hp]; exact PySem.W.codeHd_of_K X hd_read), fun s v => .of_eq rfl, (fun H a ns hl hb hT hS => ⟨a, ns, rfl, hS, hl, hT (cL_read, PL_read) (by simp), fun _ => rfl⟩), fun base _ _ TB => ok_law T F_NoName___init__ F_Lack___init__ F_NoPath___init__ D_is_int D_is_text D_is_label D_rise D_are_ints D_rising_ints D_is_pair D_are_rows D_look D_chosen D_tops D_entered D_reasons U_reasons_under D_wanted U_wanted_under D_entry D_come_to D_read D_go_down D_lacks U_lacks_under D_Book___init__ D_Book_named D_Book_thing D_Book_kind D_Book_parts D_is_name D_is_kind D_is_entry D_is_tree D_depth_of D_is_version D_is_content D_Holding___init__ D_Holding_holds D_Holding_names D_law_deck D_law_mixed D_law_draw D_law_text D_law_label D_law_give D_law_rows D_law_entries D_law_some D_law_family D_law_parts D_law_under D_law_held D_law_book D_law_tall D_law_long D_law_thick D_law_ladder D_law_scene D_law_versions D_law_picks D_law_first_paths D_law_lack D_law_good D_law_wide D_law_whole D_law K_Book M_Book K_Holding M_Holding X_NoName X_Lack X_NoPath (PySem.W.mg_of X G ga_HouseError) (exm_is hb_Lack hi_Lack ht_Lack es_Lack_Lack) (TB (cL_read, PL_read) (by simp)) rfl⟩
end FW
open PySem PySem.W PyProof.Rows
set_option maxRecDepth 100000 in
set_option maxHeartbeats 0 in
theorem PySem.Challenge.cw_fewasks_k61_whole_what_lacks_holds : PySem.Challenge.rw_fewasks_k61_whole_what_lacks.Holds := by
  w_on; o_law; k_head; (case hw => w_witness2)
  k_fill
  refine LamX.walk_ofTs (l := PySem.Challenge.rw_fewasks_k61_whole_what_lacks) (n := 63) (k := 16) (x := "_law_script") (CX := fun _ => L2.CX0) rfl (by decide) rfl ⟨rfl, by decide, by decide⟩ (fun w h Y => PySem.W.km_in_of Y) ?F (fun _ _ _ _ _ h => h)
  case F =>
    intro w mg fa h Y KX G hmg
    refine' FW.all_mk KX G hmg ?l_NoName___init__ ?c_NoName___init__ ?k_NoName___init__ ?l_Lack___init__ ?c_Lack___init__ ?k_Lack___init__ ?l_NoPath___init__ ?c_NoPath___init__ ?k_NoPath___init__ ?a_is_int ?l_is_int ?c_is_int ?k_is_int ?dl_is_int ?a_is_text ?l_is_text ?c_is_text ?k_is_text ?dl_is_text ?a_is_label ?l_is_label ?c_is_label ?k_is_label ?a_rise ?l_rise ?c_rise ?k_rise ?a_are_ints ?l_are_ints ?c_are_ints ?k_are_ints ?a_rising_ints ?l_rising_ints ?c_rising_ints ?k_rising_ints ?a_is_pair ?l_is_pair ?c_is_pair ?k_is_pair ?a_are_rows ?l_are_rows ?c_are_rows ?k_are_rows ?a_look ?l_look ?c_look ?k_look ?a_chosen ?l_chosen ?c_chosen ?k_chosen ?a_tops ?l_tops ?c_tops ?k_tops ?a_entered ?l_entered ?c_entered ?k_entered ?a_reasons ?l_reasons ?c_reasons ?k_reasons ?kw_reasons_under ?lu_reasons_under ?a_wanted ?l_wanted ?c_wanted ?k_wanted ?kw_wanted_under ?lu_wanted_under ?a_entry ?l_entry ?c_entry ?k_entry ?a_come_to ?l_come_to ?c_come_to ?k_come_to ?a_read ?l_read ?c_read ?k_read ?a_go_down ?l_go_down ?c_go_down ?k_go_down ?a_lacks ?l_lacks ?c_lacks ?k_lacks ?kw_lacks_under ?lu_lacks_under ?a_Book___init__ ?i_Book___init__ ?l_Book___init__ ?c_Book___init__ ?k_Book___init__ ?a_Book_named ?i_Book_named ?l_Book_named ?c_Book_named ?k_Book_named ?a_Book_thing ?i_Book_thing ?l_Book_thing ?c_Book_thing ?k_Book_thing ?a_Book_kind ?i_Book_kind ?l_Book_kind ?c_Book_kind ?k_Book_kind ?a_Book_parts ?i_Book_parts ?l_Book_parts ?c_Book_parts ?k_Book_parts ?a_is_name ?l_is_name ?c_is_name ?k_is_name ?a_is_kind ?l_is_kind ?c_is_kind ?k_is_kind ?a_is_entry ?l_is_entry ?c_is_entry ?k_is_entry ?a_is_tree ?l_is_tree ?c_is_tree ?k_is_tree ?a_depth_of ?l_depth_of ?c_depth_of ?k_depth_of ?a_is_version ?l_is_version ?c_is_version ?k_is_version ?a_is_content ?l_is_content ?c_is_content ?k_is_content ?a_Holding___init__ ?i_Holding___init__ ?l_Holding___init__ ?c_Holding___init__ ?k_Holding___init__ ?a_Holding_holds ?i_Holding_holds ?l_Holding_holds ?c_Holding_holds ?k_Holding_holds ?a_Holding_names ?i_Holding_names ?l_Holding_names ?c_Holding_names ?k_Holding_names ?a_law_deck ?l_law_deck ?c_law_deck ?k_law_deck ?a_law_mixed ?l_law_mixed ?c_law_mixed ?k_law_mixed ?a_law_draw ?l_law_draw ?c_law_draw ?k_law_draw ?a_law_text ?l_law_text ?c_law_text ?k_law_text ?a_law_label ?l_law_label ?c_law_label ?k_law_label ?a_law_give ?l_law_give ?c_law_give ?k_law_give ?a_law_rows ?l_law_rows ?c_law_rows ?k_law_rows ?a_law_entries ?l_law_entries ?c_law_entries ?k_law_entries ?a_law_some ?l_law_some ?c_law_some ?k_law_some ?a_law_family ?l_law_family ?c_law_family ?k_law_family ?a_law_parts ?l_law_parts ?c_law_parts ?k_law_parts ?a_law_under ?l_law_under ?c_law_under ?k_law_under ?a_law_held ?l_law_held ?c_law_held ?k_law_held ?a_law_book ?l_law_book ?c_law_book ?k_law_book ?a_law_tall ?l_law_tall ?c_law_tall ?k_law_tall ?a_law_long ?l_law_long ?c_law_long ?k_law_long ?a_law_thick ?l_law_thick ?c_law_thick ?k_law_thick ?a_law_ladder ?l_law_ladder ?c_law_ladder ?k_law_ladder ?a_law_scene ?l_law_scene ?c_law_scene ?k_law_scene ?a_law_versions ?l_law_versions ?c_law_versions ?k_law_versions ?a_law_picks ?l_law_picks ?c_law_picks ?k_law_picks ?a_law_first_paths ?l_law_first_paths ?c_law_first_paths ?k_law_first_paths ?a_law_lack ?l_law_lack ?c_law_lack ?k_law_lack ?a_law_good ?l_law_good ?c_law_good ?k_law_good ?a_law_wide ?l_law_wide ?c_law_wide ?k_law_wide ?a_law_whole ?l_law_whole ?c_law_whole ?k_law_whole ?a_law ?l_law ?c_law ?k_law ?kga_Book ?kpg_Book ?khd_Book ?kpo_Book ?ksa_Book ?kmk_Book ?kkc_Book ?kna_Book_contents ?kna_Book_depths ?kna_Book_given ?kga_Holding ?kpg_Holding ?khd_Holding ?kpo_Holding ?ksa_Holding ?kmk_Holding ?kkc_Holding ?kna_Holding_book ?kna_Holding_row ?kna_Holding_here ?z_len ?z_list ?z_isinstance ?z_int ?z_bool ?z_str ?z_tuple ?z_dict ?z_range ?z_all ?z_any ?z_min ?z_max ?z_set ?z_sorted ?z_zip ?z_enumerate ?z_ValueError ?y_SIGNS ?y_LETTERS ?y_MOST ?y_DEEP ?ga_HouseError ?hb_HouseError ?hi_HouseError ?ht_HouseError ?ga_NoName ?xl_NoName ?hb_NoName ?hi_NoName ?ht_NoName ?xk_NoName ?sa_NoName ?xg_NoName ?xh_NoName ?xd_NoName ?xo_NoName ?xp_NoName ?xq_NoName ?xr_NoName ?xi_NoName ?xj_NoName ?nf_NoName_name ?ga_Lack ?xl_Lack ?hb_Lack ?hi_Lack ?ht_Lack ?xk_Lack ?sa_Lack ?xg_Lack ?xh_Lack ?xd_Lack ?xo_Lack ?xp_Lack ?xq_Lack ?xr_Lack ?xi_Lack ?xj_Lack ?nf_Lack_name ?ga_NoPath ?xl_NoPath ?hb_NoPath ?hi_NoPath ?ht_NoPath ?xk_NoPath ?sa_NoPath ?xg_NoPath ?xh_NoPath ?xd_NoPath ?xo_NoPath ?xp_NoPath ?xq_NoPath ?xr_NoPath ?xi_NoPath ?xj_NoPath ?nf_NoPath_path ?es_Lack_Lack ?lk_read ?v11_read ?hd_read ?np_read ?tb_read
    (case ga_NoName => k_is); (case xi_NoName => k_is); (case ga_Lack => k_is); (case xi_Lack => k_is); (case ga_NoPath => k_is); (case xi_NoPath => k_is); (case kga_Book => k_is); (case kga_Holding => k_is); (case a_Book___init__ => k_is); (case a_Book_named => k_is); (case a_Book_thing => k_is); (case a_Book_kind => k_is); (case a_Book_parts => k_is); (case a_Holding___init__ => k_is); (case a_Holding_holds => k_is); (case a_Holding_names => k_is); (case l_NoName___init__ => k_is); (case c_NoName___init__ => k_is); (case k_NoName___init__ => k_is); (case l_Lack___init__ => k_is); (case c_Lack___init__ => k_is); (case k_Lack___init__ => k_is); (case l_NoPath___init__ => k_is); (case c_NoPath___init__ => k_is); (case k_NoPath___init__ => k_is); (case a_is_int => k_is); (case l_is_int => k_is); (case c_is_int => k_is); (case k_is_int => k_is); (case dl_is_int => k_is); (case a_is_text => k_is); (case l_is_text => k_is); (case c_is_text => k_is); (case k_is_text => k_is); (case dl_is_text => k_is); (case a_is_label => k_is); (case l_is_label => k_is); (case c_is_label => k_is); (case k_is_label => k_is); (case a_rise => k_is); (case l_rise => k_is); (case c_rise => k_is); (case k_rise => k_is); (case a_are_ints => k_is); (case l_are_ints => k_is); (case c_are_ints => k_is); (case k_are_ints => k_is); (case a_rising_ints => k_is); (case l_rising_ints => k_is); (case c_rising_ints => k_is); (case k_rising_ints => k_is); (case a_is_pair => k_is); (case l_is_pair => k_is); (case c_is_pair => k_is); (case k_is_pair => k_is); (case a_are_rows => k_is); (case l_are_rows => k_is); (case c_are_rows => k_is); (case k_are_rows => k_is); (case a_look => k_is); (case l_look => k_is); (case c_look => k_is); (case k_look => k_is); (case a_chosen => k_is); (case l_chosen => k_is); (case c_chosen => k_is); (case k_chosen => k_is); (case a_tops => k_is); (case l_tops => k_is); (case c_tops => k_is); (case k_tops => k_is); (case a_entered => k_is); (case l_entered => k_is); (case c_entered => k_is); (case k_entered => k_is); (case a_reasons => k_is); (case l_reasons => k_is); (case c_reasons => k_is); (case k_reasons => k_is); (case kw_reasons_under => k_is); (case lu_reasons_under => k_is); (case a_wanted => k_is); (case l_wanted => k_is); (case c_wanted => k_is); (case k_wanted => k_is); (case kw_wanted_under => k_is); (case lu_wanted_under => k_is); (case a_entry => k_is); (case l_entry => k_is); (case c_entry => k_is); (case k_entry => k_is); (case a_come_to => k_is); (case l_come_to => k_is); (case c_come_to => k_is); (case k_come_to => k_is); (case a_read => k_is); (case l_read => k_is); (case c_read => k_is); (case k_read => k_is); (case a_go_down => k_is); (case l_go_down => k_is); (case c_go_down => k_is); (case k_go_down => k_is); (case a_lacks => k_is); (case l_lacks => k_is); (case c_lacks => k_is); (case k_lacks => k_is); (case kw_lacks_under => k_is); (case lu_lacks_under => k_is); (case i_Book___init__ => k_is); (case l_Book___init__ => k_is); (case c_Book___init__ => k_is); (case k_Book___init__ => k_is); (case i_Book_named => k_is); (case l_Book_named => k_is); (case c_Book_named => k_is); (case k_Book_named => k_is); (case i_Book_thing => k_is); (case l_Book_thing => k_is); (case c_Book_thing => k_is); (case k_Book_thing => k_is); (case i_Book_kind => k_is); (case l_Book_kind => k_is); (case c_Book_kind => k_is); (case k_Book_kind => k_is); (case i_Book_parts => k_is); (case l_Book_parts => k_is); (case c_Book_parts => k_is); (case k_Book_parts => k_is); (case a_is_name => k_is); (case l_is_name => k_is); (case c_is_name => k_is); (case k_is_name => k_is); (case a_is_kind => k_is); (case l_is_kind => k_is); (case c_is_kind => k_is); (case k_is_kind => k_is); (case a_is_entry => k_is); (case l_is_entry => k_is); (case c_is_entry => k_is); (case k_is_entry => k_is); (case a_is_tree => k_is); (case l_is_tree => k_is); (case c_is_tree => k_is); (case k_is_tree => k_is); (case a_depth_of => k_is); (case l_depth_of => k_is); (case c_depth_of => k_is); (case k_depth_of => k_is); (case a_is_version => k_is); (case l_is_version => k_is); (case c_is_version => k_is); (case k_is_version => k_is); (case a_is_content => k_is); (case l_is_content => k_is); (case c_is_content => k_is); (case k_is_content => k_is); (case i_Holding___init__ => k_is); (case l_Holding___init__ => k_is); (case c_Holding___init__ => k_is); (case k_Holding___init__ => k_is); (case i_Holding_holds => k_is); (case l_Holding_holds => k_is); (case c_Holding_holds => k_is); (case k_Holding_holds => k_is); (case i_Holding_names => k_is); (case l_Holding_names => k_is); (case c_Holding_names => k_is); (case k_Holding_names => k_is); (case a_law_deck => k_is); (case l_law_deck => k_is); (case c_law_deck => k_is); (case k_law_deck => k_is); (case a_law_mixed => k_is); (case l_law_mixed => k_is); (case c_law_mixed => k_is); (case k_law_mixed => k_is); (case a_law_draw => k_is); (case l_law_draw => k_is); (case c_law_draw => k_is); (case k_law_draw => k_is); (case a_law_text => k_is); (case l_law_text => k_is); (case c_law_text => k_is); (case k_law_text => k_is); (case a_law_label => k_is); (case l_law_label => k_is); (case c_law_label => k_is); (case k_law_label => k_is); (case a_law_give => k_is); (case l_law_give => k_is); (case c_law_give => k_is); (case k_law_give => k_is); (case a_law_rows => k_is); (case l_law_rows => k_is); (case c_law_rows => k_is); (case k_law_rows => k_is); (case a_law_entries => k_is); (case l_law_entries => k_is); (case c_law_entries => k_is); (case k_law_entries => k_is); (case a_law_some => k_is); (case l_law_some => k_is); (case c_law_some => k_is); (case k_law_some => k_is); (case a_law_family => k_is); (case l_law_family => k_is); (case c_law_family => k_is); (case k_law_family => k_is); (case a_law_parts => k_is); (case l_law_parts => k_is); (case c_law_parts => k_is); (case k_law_parts => k_is); (case a_law_under => k_is); (case l_law_under => k_is); (case c_law_under => k_is); (case k_law_under => k_is); (case a_law_held => k_is); (case l_law_held => k_is); (case c_law_held => k_is); (case k_law_held => k_is); (case a_law_book => k_is); (case l_law_book => k_is); (case c_law_book => k_is); (case k_law_book => k_is); (case a_law_tall => k_is); (case l_law_tall => k_is); (case c_law_tall => k_is); (case k_law_tall => k_is); (case a_law_long => k_is); (case l_law_long => k_is); (case c_law_long => k_is); (case k_law_long => k_is); (case a_law_thick => k_is); (case l_law_thick => k_is); (case c_law_thick => k_is); (case k_law_thick => k_is); (case a_law_ladder => k_is); (case l_law_ladder => k_is); (case c_law_ladder => k_is); (case k_law_ladder => k_is); (case a_law_scene => k_is); (case l_law_scene => k_is); (case c_law_scene => k_is); (case k_law_scene => k_is); (case a_law_versions => k_is); (case l_law_versions => k_is); (case c_law_versions => k_is); (case k_law_versions => k_is); (case a_law_picks => k_is); (case l_law_picks => k_is); (case c_law_picks => k_is); (case k_law_picks => k_is); (case a_law_first_paths => k_is); (case l_law_first_paths => k_is); (case c_law_first_paths => k_is); (case k_law_first_paths => k_is); (case a_law_lack => k_is); (case l_law_lack => k_is); (case c_law_lack => k_is); (case k_law_lack => k_is); (case a_law_good => k_is); (case l_law_good => k_is); (case c_law_good => k_is); (case k_law_good => k_is); (case a_law_wide => k_is); (case l_law_wide => k_is); (case c_law_wide => k_is); (case k_law_wide => k_is); (case a_law_whole => k_is); (case l_law_whole => k_is); (case c_law_whole => k_is); (case k_law_whole => k_is); (case a_law => k_is); (case l_law => k_is); (case c_law => k_is); (case k_law => k_is); (case kpg_Book => k_is); (case khd_Book => k_is); (case kpo_Book => k_is); (case ksa_Book => k_is); (case kmk_Book => k_is); (case kkc_Book => k_is); (case kna_Book_contents => k_is); (case kna_Book_depths => k_is); (case kna_Book_given => k_is); (case kpg_Holding => k_is); (case khd_Holding => k_is); (case kpo_Holding => k_is); (case ksa_Holding => k_is); (case kmk_Holding => k_is); (case kkc_Holding => k_is); (case kna_Holding_book => k_is); (case kna_Holding_row => k_is); (case kna_Holding_here => k_is); (case z_len => k_is); (case z_list => k_is); (case z_isinstance => k_is); (case z_int => k_is); (case z_bool => k_is); (case z_str => k_is); (case z_tuple => k_is); (case z_dict => k_is); (case z_range => k_is); (case z_all => k_is); (case z_any => k_is); (case z_min => k_is); (case z_max => k_is); (case z_set => k_is); (case z_sorted => k_is); (case z_zip => k_is); (case z_enumerate => k_is); (case z_ValueError => k_is); (case y_SIGNS => k_is); (case y_LETTERS => k_is); (case y_MOST => k_is); (case y_DEEP => k_is); (case ga_HouseError => k_is); (case hb_HouseError => k_is); (case hi_HouseError => k_is); (case ht_HouseError => k_is); (case xl_NoName => k_is); (case hb_NoName => k_is); (case hi_NoName => k_is); (case ht_NoName => k_is); (case xk_NoName => k_is); (case sa_NoName => k_is); (case xg_NoName => k_is); (case xh_NoName => k_is); (case xd_NoName => k_is); (case xo_NoName => k_is); (case xp_NoName => k_is); (case xq_NoName => k_is); (case xr_NoName => k_is); (case xj_NoName => k_is); (case nf_NoName_name => k_is); (case xl_Lack => k_is); (case hb_Lack => k_is); (case hi_Lack => k_is); (case ht_Lack => k_is); (case xk_Lack => k_is); (case sa_Lack => k_is); (case xg_Lack => k_is); (case xh_Lack => k_is); (case xd_Lack => k_is); (case xo_Lack => k_is); (case xp_Lack => k_is); (case xq_Lack => k_is); (case xr_Lack => k_is); (case xj_Lack => k_is); (case nf_Lack_name => k_is); (case xl_NoPath => k_is); (case hb_NoPath => k_is); (case hi_NoPath => k_is); (case ht_NoPath => k_is); (case xk_NoPath => k_is); (case sa_NoPath => k_is); (case xg_NoPath => k_is); (case xh_NoPath => k_is); (case xd_NoPath => k_is); (case xo_NoPath => k_is); (case xp_NoPath => k_is); (case xq_NoPath => k_is); (case xr_NoPath => k_is); (case xj_NoPath => k_is); (case nf_NoPath_path => k_is); (case es_Lack_Lack => k_is); (case lk_read => k_is); (case v11_read => rfl); (case hd_read => kernel_rfl); (case np_read => kernel_rfl); (case tb_read => exact PySem.W.km_tabs_of Y _ (by simp))

