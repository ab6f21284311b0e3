import PyProof.Rows.All
import Wide.All
import OpenK.AllK
import Wide.FinOn
import HandS.ForMost
import HandS.Wide
import HandS.WideBits
import HandS.Conv
import HandS.IsInst
import HandS.Walk
import HandS.TupLe
import HandS.TupAny
import HandS.DictComp
import HandS.SetKeys
import HandS.ForExc
import HandS.ExcIs
import HandS.ExcInit
import HandS.ExcField
import HandS.Defaults
import HandS.CallSlots
import HandS.MakeKwOnly
import KE.DatumOrd
import PyProof.Claim2Refuses
import KE.GoesEnum
import HandS.WordsDict
import HandS.SortInts
import HandS.Zip
import PyProof.CollectIter
import PyProof.WalksMore
import HandS.TryMany
import KE.KTryMore
import HandS.TryOnly
import HandS.TupMul
import KE.KxIndex
import KE.KeyNested
import HandS.SetFor
import HandS.Strs
import HandS.SortKw
import HandS.Deep
import HandS.DictTup
import HandS.ListItems
import KE.SortData
import HandS.ClsMeth
import HandS.More
import KE.KCallOwn
import HandS.Lambda
import HandS.EndOwn
import PySem.Challenge.RW_fewasks_k80_houses_of_a_town
set_option Elab.async false
set_option linter.all false
set_option maxRecDepth 100000
/-! My own small words over the layer: steps of readings as lemmas, heaps that keep. -/
namespace FW
open PySem L2
/-! ### heaps -/
/-- all that stood stands, but at the addresses M -/
def Kp (M : List Addr) (H H' : Hp) : Prop := ∀ b o, b ∉ M → H b = some o → H' b = some o
theorem Kp.refl {M : List Addr} {H : Hp} : Kp M H H := fun _ _ _ h => h
theorem Kp.trans {M : List Addr} {H H1 H2 : Hp} (a : Kp M H H1) (b : Kp M H1 H2) : Kp M H H2 := fun c o n h => b c o n (a c o n h)
theorem Kp.mono {M N : List Addr} {H H1 : Hp} (a : Kp M H H1) (s : ∀ x ∈ M, x ∈ N) : Kp N H H1 := fun c o n h => a c o (fun z => n (s c z)) h
theorem Kp.same {H H1 : Hp} (a : Kp [] H H1) : Same H H1 := fun c o h => a c o (by simp) h
theorem Kp.of {M : List Addr} {H H1 : Hp} (a : Same H H1) : Kp M H H1 := fun c o _ h => a c o h
theorem Kp.new {M : List Addr} {H : Hp} {p : Addr} {o : HO} (h : H p = none) : Kp M H (upd H p o) := fun b u _ e => by rw [upd_ne (ne_of_none e h)]; exact e
theorem Kp.mut {M : List Addr} {H : Hp} {p : Addr} {o : HO} (h : p ∈ M) : Kp M H (upd H p o) := fun b u n e => by
  rw [upd_ne (show b ≠ p from fun z => n (by rw [z]; exact h))]; exact e
/-- a new object that was mutated or laid since: it stood not at the start -/
theorem Kp.mutN {M : List Addr} {H H1 : Hp} {p : Addr} {o : HO} (k : Kp M H H1) (h : H p = none) : Kp M H (upd H1 p o) := fun b u n e => by
  rw [upd_ne (ne_of_none e h)]; exact k b u n e
theorem Same.new {H : Hp} {p : Addr} {o : HO} (h : H p = none) : Same H (upd H p o) := fun b u e => by rw [upd_ne (ne_of_none e h)]; exact e
theorem upd_get {H : Hp} {a b : Addr} {o u : HO} (h : b ≠ a) (e : H b = some u) : upd H a o b = some u := by rw [upd_ne h]; exact e
theorem upd_none {H : Hp} {a b : Addr} {o : HO} (e : upd H a o b = none) : H b = none ∧ b ≠ a := by
  by_cases h : b = a
  · subst h; rw [upd_same] at e; cases e
  · rw [upd_ne h] at e; exact ⟨e, h⟩
/-- all but p is as it was -/
def Off (p : Addr) (H H' : Hp) : Prop := ∀ b, b ≠ p → H' b = H b
theorem Off.get {p b : Addr} {H H' : Hp} {o : HO} (k : Off p H H') (n : b ≠ p) (e : H b = some o) : H' b = some o := (k b n).trans e
theorem Off.kp {p : Addr} {M : List Addr} {H H' : Hp} (k : Off p H H') (m : p ∈ M) : Kp M H H' := fun b o n e => (k b (fun z => n (by rw [z]; exact m))).trans e
theorem Off.trans {p : Addr} {H H1 H2 : Hp} (a : Off p H H1) (b : Off p H1 H2) : Off p H H2 := fun x n => (b x n).trans (a x n)
theorem Off.keep {p : Addr} {M : List Addr} {H H1 H2 : Hp} (a : Kp M H H1) (b : Off p H1 H2) (n : H p = none) : Kp M H H2 := fun x o m e => (b x (ne_of_none e n)).trans (a x o m e)
/-- a list's change keeps the tuples -/
theorem Off.tup {p b : Addr} {H H' : Hp} {xs ys : List V} (k : Off p H H') (hp : H p = some (.lst xs)) (e : H b = some (.tup ys)) : H' b = some (.tup ys) := k.get (ne_of e hp (fun z => nomatch z)) e
/-- what keeps the tuples -/
structure KT (H H' : Hp) : Prop where
  p : ∀ b xs, H b = some (.tup xs) → H' b = some (.tup xs)
  f : ∀ b o xs, H b = some (.frz o (.tup xs)) → H' b = some (.frz o (.tup xs))
instance {H H' : Hp} : CoeFun (KT H H') (fun _ => ∀ b xs, H b = some (.tup xs) → H' b = some (.tup xs)) := ⟨KT.p⟩
theorem KT.refl {H : Hp} : KT H H := ⟨fun _ _ e => e, fun _ _ _ e => e⟩
theorem KT.of {H H' : Hp} (k : Same H H') : KT H H' := ⟨fun b xs e => k _ _ e, fun b o xs e => k _ _ e⟩
theorem KT.off {p : Addr} {H H' : Hp} {xs : List V} (k : Off p H H') (e : H p = some (.lst xs)) : KT H H' := ⟨fun b ys e2 => k.tup e e2, fun b o ys e2 => k.get (ne_of e2 e (fun z => nomatch z)) e2⟩
theorem KT.trans {H H1 H2 : Hp} (a : KT H H1) (b : KT H1 H2) : KT H H2 := ⟨fun c xs e => b.p c xs (a.p c xs e), fun c o xs e => b.f c o xs (a.f c o xs e)⟩
theorem KT.kp {M : List Addr} {H H' : Hp} (k : Kp M H H') (h : ∀ b ∈ M, ∃ xs, H b = some (.lst xs)) : KT H H' := ⟨fun b ys e => k b _ (fun z => by
  obtain ⟨xs, e2⟩ := h b z
  rw [e] at e2; cases e2) e, fun b o ys e => k b _ (fun z => by
  obtain ⟨xs, e2⟩ := h b z
  rw [e] at e2; cases e2) e⟩
theorem KT.upd {H H1 : Hp} {D : Addr} {o : HO} (k : KT H H1) (h : H D = none) : KT H (upd H1 D o) := ⟨fun b xs e => by rw [upd_ne (ne_of_none e h)]; exact k.p b xs e, fun b u xs e => by rw [upd_ne (ne_of_none e h)]; exact k.f b u xs e⟩
theorem KT.updL {H : Hp} {D : Addr} {o : HO} {ys : List V} (h : H D = some (.lst ys)) : KT H (L2.upd H D o) := ⟨fun b xs e => upd_get (ne_of e h (fun z => nomatch z)) e, fun b u xs e => upd_get (ne_of e h (fun z => nomatch z)) e⟩
/-- a tuple whose object has no dict -/
def TupD (H : Hp) (r : Addr) (xs : List V) : Prop := ∃ o : Obj, H r = some (.frz o (.tup xs)) ∧ o.dict = none
theorem TupD.kt {H H' : Hp} {r : Addr} {xs : List V} (h : TupD H r xs) (k : KT H H') : TupD H' r xs := by
  obtain ⟨o, e, d⟩ := h
  exact ⟨o, k.f _ _ _ e, d⟩
theorem TupD.tx {K : PySem.W.Frag} {H : Hp} {r : Addr} {xs : List V} (h : TupD H r xs) : TyX K H (.ref r) (.type "tuple") := by
  obtain ⟨o, e, d⟩ := h
  exact .fTuple e
theorem TupD.sq {K : PySem.W.Frag} {H : Hp} {r : Addr} {xs : List V} (h : TupD H r xs) : SqT K H r xs := by
  obtain ⟨o, e, d⟩ := h
  exact .inl (.inr ⟨o, e⟩)
/-! ### rules by names -/
/-- a new object o -/
def Nw (o : HO) (H : Hp) (Q : VK) : Prop := ∀ p, H p = none → Q (.ref p) (upd H p o)
def rLen (K : PySem.W.Frag) : List V → Hp → VK → Prop := fun xs H Q => ∃ p ys, xs = [.ref p] ∧ (SqL K H p ys ∨ SqT K H p ys) ∧ Q (.int ys.length) H
def rMin2 : List V → Hp → VK → Prop := fun xs H Q => ∃ i j, xs = [.int i, .int j] ∧ Q (.int (if j < i then j else i)) H
def rMax2 : List V → Hp → VK → Prop := fun xs H Q => ∃ i j, xs = [.int i, .int j] ∧ Q (.int (if j > i then j else i)) H
def rListOf (K : PySem.W.Frag) : List V → Hp → VK → Prop := fun xs H Q => ∃ p ys, xs = [.ref p] ∧ (SqL K H p ys ∨ SqT K H p ys) ∧ ∀ l, H l = none → Q (.ref l) (upd H l (.lst ys))
def rTupOf (K : PySem.W.Frag) : List V → Hp → VK → Prop := fun xs H Q => ∃ p ys, xs = [.ref p] ∧ ((SqL K H p ys ∧ ∀ l, H l = none → Q (.ref l) (upd H l (.tup ys))) ∨ (SqT K H p ys ∧ Q (.ref p) H))
def rRg2 (x y : V) (H : Hp) (R : Int → Int → Hp → Prop) : Prop := ∃ i j, x = .int i ∧ y = .int j ∧ R i j H
def rBits (x : V) (H : Hp) (Q : VK) : Prop := ∃ i, x = .int i ∧ Q (.int (Builtin.Int.intBits i : Nat)) H
def rRng1 (vs : List V) (H : Hp) (R : It → Hp → Prop) : Prop := ∃ j : Int, vs = [.int j] ∧ -(2 ^ 62) ≤ j ∧ j < 2 ^ 62 ∧ R (Itr 0 j.toNat) H
def rRng2 (vs : List V) (H : Hp) (R : It → Hp → Prop) : Prop := ∃ i j : Int, vs = [.int i, .int j] ∧ (-(2 ^ 62) ≤ i ∧ i < 2 ^ 62 ∧ -(2 ^ 62) ≤ j ∧ j < 2 ^ 62) ∧ R (Itr i (j - i).toNat) H
def rItL (K : PySem.W.Frag) (x : V) (H : Hp) (R : It → Hp → Prop) : Prop := ∃ a, x = .ref a ∧ (∃ xs, SqL K H a xs) ∧ R (Itl K a) H
def rItT (K : PySem.W.Frag) (x : V) (H : Hp) (R : It → Hp → Prop) : Prop := ∃ a, x = .ref a ∧ (∃ xs, SqT K H a xs) ∧ R (Itt K a) H
def rDIn (x y : V) (H : Hp) (Q : VK) : Prop := ∃ a o, x = .ref a ∧ DGet H a y o ∧ Q (.bl o.isSome) H
def rDNotIn (x y : V) (H : Hp) (Q : VK) : Prop := ∃ a o, x = .ref a ∧ DGet H a y o ∧ Q (.bl (!o.isSome)) H
def rDGet (x y : V) (H : Hp) (Q : VK) : Prop := ∃ a v, x = .ref a ∧ DGet H a y (some v) ∧ Q v H
def rDGet2 (a : Addr) (y z : V) (H : Hp) (Q : VK) : Prop := ∃ o, DGet H a y o ∧ Q (o.getD z) H
def rDPut (x y v : V) (H : Hp) (R : Hp → Prop) : Prop := ∃ a H4, x = .ref a ∧ DPut H a y v H4 ∧ R H4
def rDSetd (a : Addr) (y z : V) (H : Hp) (Q : VK) : Prop := ∃ (kvs : List (Key × V)) (k : Key), H a = some (.dK kvs) ∧ y = kV k ∧ kvs.length < sizeLine ∧ (∀ v, valV kvs k = some v → Q v H) ∧ (valV kvs k = none → Q z (upd H a (.dK (putK kvs k z))))
def rIsD (x : V) (H : Hp) (R : Addr → Hp → Prop) : Prop := ∃ a, x = .ref a ∧ IsD H a ∧ R a H
def rIsBl : R2 := fun x y H Q => ∃ a b, x = .bl a ∧ y = .bl b ∧ Q (.bl (decide (a = b))) H
def rIsNon : R2 := fun x y H Q => y = .non ∧ Q (.bl (decide (x = .non))) H
def rNotNon : R2 := fun x y H Q => y = .non ∧ Q (.bl (!decide (x = .non))) H
def rTru (K : PySem.W.Frag) (x : V) (H : Hp) (R : Bool → Hp → Prop) : Prop := ∃ k, TruV K x H k ∧ R k H
def tTru (K : PySem.W.Frag) (ta : TE) : TT := fun σ H R => ta σ H fun x H' => ∃ k, TruV K x H' k ∧ R k H'
def rSortD (xs : List V) (H : Hp) (Q : VK) : Prop := ∃ (a : Addr) (kvs : List (Key × V)) (ks : List Int), xs = [.ref a] ∧ Rd H a (.dK kvs) ∧ kvs.map (·.1) = ks.map Sum.inl ∧ ks.length < 64 ∧
    ∀ (ys : List Int) (p : Addr), ys.Perm ks → ys.Pairwise (· ≤ ·) → H p = none → Q (.ref p) (upd H p (.lst (ys.map V.int)))
section
variable {X : Cx}
theorem o_isN : OpR X (compareOp .Is) rIsNon := op_isN
theorem c_len : CallR X (.builtin "len") (rLen X.K) := call_len_seq
theorem c_listOf : CallR X (.type "list") (rListOf X.K) := call_list_of
end
theorem kb_int_int : kitB "int" "int" = some true := by decide +kernel
theorem kb_int_bool : kitB "int" "bool" = some false := by decide +kernel
theorem kb_int_str : kitB "int" "str" = some false := by decide +kernel
theorem kb_int_tuple : kitB "int" "tuple" = some false := by decide +kernel
theorem kb_int_list : kitB "int" "list" = some false := by decide +kernel
theorem kb_int_dict : kitB "int" "dict" = some false := by decide +kernel
theorem kb_bool_int : kitB "bool" "int" = some true := by decide +kernel
theorem kb_bool_bool : kitB "bool" "bool" = some true := by decide +kernel
theorem kb_bool_str : kitB "bool" "str" = some false := by decide +kernel
theorem kb_bool_tuple : kitB "bool" "tuple" = some false := by decide +kernel
theorem kb_bool_list : kitB "bool" "list" = some false := by decide +kernel
theorem kb_bool_dict : kitB "bool" "dict" = some false := by decide +kernel
theorem kb_str_int : kitB "str" "int" = some false := by decide +kernel
theorem kb_str_bool : kitB "str" "bool" = some false := by decide +kernel
theorem kb_str_str : kitB "str" "str" = some true := by decide +kernel
theorem kb_str_tuple : kitB "str" "tuple" = some false := by decide +kernel
theorem kb_str_list : kitB "str" "list" = some false := by decide +kernel
theorem kb_str_dict : kitB "str" "dict" = some false := by decide +kernel
theorem kb_tuple_int : kitB "tuple" "int" = some false := by decide +kernel
theorem kb_tuple_bool : kitB "tuple" "bool" = some false := by decide +kernel
theorem kb_tuple_str : kitB "tuple" "str" = some false := by decide +kernel
theorem kb_tuple_tuple : kitB "tuple" "tuple" = some true := by decide +kernel
theorem kb_tuple_list : kitB "tuple" "list" = some false := by decide +kernel
theorem kb_tuple_dict : kitB "tuple" "dict" = some false := by decide +kernel
theorem kb_list_int : kitB "list" "int" = some false := by decide +kernel
theorem kb_list_bool : kitB "list" "bool" = some false := by decide +kernel
theorem kb_list_str : kitB "list" "str" = some false := by decide +kernel
theorem kb_list_tuple : kitB "list" "tuple" = some false := by decide +kernel
theorem kb_list_list : kitB "list" "list" = some true := by decide +kernel
theorem kb_list_dict : kitB "list" "dict" = some false := by decide +kernel
theorem kb_dict_int : kitB "dict" "int" = some false := by decide +kernel
theorem kb_dict_bool : kitB "dict" "bool" = some false := by decide +kernel
theorem kb_dict_str : kitB "dict" "str" = some false := by decide +kernel
theorem kb_dict_tuple : kitB "dict" "tuple" = some false := by decide +kernel
theorem kb_dict_list : kitB "dict" "list" = some false := by decide +kernel
theorem kb_dict_dict : kitB "dict" "dict" = some true := by decide +kernel
theorem kb_NoneType_int : kitB "NoneType" "int" = some false := by decide +kernel
theorem kb_NoneType_bool : kitB "NoneType" "bool" = some false := by decide +kernel
theorem kb_NoneType_str : kitB "NoneType" "str" = some false := by decide +kernel
theorem kb_NoneType_tuple : kitB "NoneType" "tuple" = some false := by decide +kernel
theorem kb_NoneType_list : kitB "NoneType" "list" = some false := by decide +kernel
theorem kb_NoneType_dict : kitB "NoneType" "dict" = some false := by decide +kernel
/-! ### steps -/
section
variable {K : PySem.W.Frag} {σ : St} {H : Hp} {Q : VK} {nx bk ct : St → Hp → Prop} {rt : VK} {v : V}
theorem w_seq {t u : TS} (h : t ⟨u ⟨nx, rt, bk, ct⟩, rt, bk, ct⟩ σ H) : tSeq t u ⟨nx, rt, bk, ct⟩ σ H := h
theorem w_seqA {te : TE} {g : TG} {u : TS} (h : te σ H fun x H1 => g x σ H1 (u ⟨nx, rt, bk, ct⟩)) : tSeq (tAsg te g) u ⟨nx, rt, bk, ct⟩ σ H := h
theorem w_seqD {te : TE} {u : TS} (h : te σ H fun _ H1 => u ⟨nx, rt, bk, ct⟩ σ H1) : tSeq (tDrop te) u ⟨nx, rt, bk, ct⟩ σ H := h
theorem w_seqF {wi : TI} {g : TG} {tb u : TS} (h : tFor wi g tb ⟨u ⟨nx, rt, bk, ct⟩, rt, bk, ct⟩ σ H) : tSeq (tFor wi g tb) u ⟨nx, rt, bk, ct⟩ σ H := h
theorem w_seqW {c : TT} {tb u : TS} (h : tWhile c tb ⟨u ⟨nx, rt, bk, ct⟩, rt, bk, ct⟩ σ H) : tSeq (tWhile c tb) u ⟨nx, rt, bk, ct⟩ σ H := h
theorem w_seqG {i : Nat} {te : TE} {ti : TIp} {u : TS} (h : tAug i te ti ⟨u ⟨nx, rt, bk, ct⟩, rt, bk, ct⟩ σ H) : tSeq (tAug i te ti) u ⟨nx, rt, bk, ct⟩ σ H := h
/-- a statement whose ways meet: what follows is taken as U, of which R is enough -/
theorem w_seqJ {t u : TS} (R : St → Hp → Prop) (h2 : ∀ σ' H', R σ' H' → u ⟨nx, rt, bk, ct⟩ σ' H') (h1 : ∀ U : St → Hp → Prop, (∀ σ' H', R σ' H' → U σ' H') → t ⟨U, rt, bk, ct⟩ σ H) : tSeq t u ⟨nx, rt, bk, ct⟩ σ H := h1 _ h2
theorem w_var {i : Nat} (e : σ[i]? = some (some v)) (h : Q v H) : tVar i σ H Q := ⟨v, e, h⟩
theorem w_c (h : Q v H) : tC v σ H Q := h
theorem w_asg {te : TE} {g : TG} (h : te σ H fun x H1 => g x σ H1 nx) : tAsg te g ⟨nx, rt, bk, ct⟩ σ H := h
theorem w_name {i : Nat} {R : St → Hp → Prop} (h : R (σ.set i (some v)) H) : gName i v σ H R := h
theorem w_op {r : R2} {ta tb : TE} (h : ta σ H fun x H1 => tb σ H1 fun y H2 => r x y H2 Q) : tOp r ta tb σ H Q := h
theorem w_un {r : V → Hp → VK → Prop} {ta : TE} (h : ta σ H fun x H1 => r x H1 Q) : tUn r ta σ H Q := h
theorem w_neg {i : Int} (h : Q (.int (-i)) H) : rU (fun i => .int (-i)) (.int i) H Q := ⟨i, rfl, h⟩
theorem w_i {C : Int → Int → Prop} {g : Int → Int → V} {i j : Int} (c : C i j) (h : Q (g i j) H) : rI C g (.int i) (.int j) H Q := ⟨i, j, rfl, rfl, c, h⟩
theorem w_i0 {g : Int → Int → V} {i j : Int} (h : Q (g i j) H) : rI0 g (.int i) (.int j) H Q := ⟨i, j, rfl, rfl, h⟩
theorem w_eqI {i j : Int} (h : Q (.bl (decide (i = j))) H) : rEq (.int i) (.int j) H Q := ⟨rfl, by
  have e : decide (V.int i = V.int j) = decide (i = j) := by
    by_cases q : i = j
    · subst q; rw [decide_eq_true rfl, decide_eq_true rfl]
    · rw [decide_eq_false q, decide_eq_false (fun z => q (V.int.inj z))]
  rw [e]; exact h⟩
theorem w_neI {i j : Int} (h : Q (.bl (!decide (i = j))) H) : rNe (.int i) (.int j) H Q := ⟨rfl, by
  have e : decide (V.int i = V.int j) = decide (i = j) := by
    by_cases q : i = j
    · subst q; rw [decide_eq_true rfl, decide_eq_true rfl]
    · rw [decide_eq_false q, decide_eq_false (fun z => q (V.int.inj z))]
  rw [e]; exact h⟩
theorem w_ixL {p : Addr} {xs : List V} {i : Int} (h1 : SqL K H p xs) (h2 : atI xs i = some v) (h : Q v H) : rIxL K (.ref p) (.int i) H Q := ⟨p, xs, i, v, rfl, rfl, h1, h2, h⟩
theorem w_ixT {p : Addr} {xs : List V} {i : Int} (h1 : SqT K H p xs) (h2 : atI xs i = some v) (h : Q v H) : rIxT K (.ref p) (.int i) H Q := ⟨p, xs, i, v, rfl, rfl, h1, h2, h⟩
theorem w_ixSL {p : Addr} {xs : List V} {i : Int} (h1 : SqL K H p xs) (h2 : atI xs i = some v) (h : Q v H) : rIx K (.ref p) (.int i) H Q := .inl ⟨p, xs, i, v, rfl, rfl, h1, h2, h⟩
theorem w_ixST {p : Addr} {xs : List V} {i : Int} (h1 : SqT K H p xs) (h2 : atI xs i = some v) (h : Q v H) : rIx K (.ref p) (.int i) H Q := .inr (.inl ⟨p, xs, i, v, rfl, rfl, h1, h2, h⟩)
theorem w_neB {x y : Bool} (h : Q (.bl (!decide (x = y))) H) : rNe (.bl x) (.bl y) H Q := ⟨rfl, by
  have e : decide (V.bl x = V.bl y) = decide (x = y) := by
    by_cases q : x = y
    · subst q; rw [decide_eq_true rfl, decide_eq_true rfl]
    · rw [decide_eq_false q, decide_eq_false (fun z => q (V.bl.inj z))]
  rw [e]; exact h⟩
theorem w_eqN (h : Q (.bl true) H) : rEq .non .non H Q := ⟨rfl, h⟩
theorem w_sub {to ti : TE} {t : TSet} {R : St → Hp → Prop} (h : to σ H fun o H1 => ti σ H1 fun i H2 => t o i v H2 fun H3 => R σ H3) : gSub to ti t v σ H R := h
theorem w_setL {p : Addr} {xs ys : List V} {k : Int} {j : Nat} {R : Hp → Prop} (h1 : H p = some (.lst xs)) (h2 : ixN xs.length k = some j) (e : xs.set j v = ys) (h : ∀ H1, H1 p = some (.lst ys) → Off p H H1 → R H1) : rSetL (.ref p) (.int k) v H R :=
  ⟨p, xs, k, j, rfl, rfl, h1, h2, by rw [e]; exact h _ upd_same fun x hx => upd_ne hx⟩
theorem w_if {c : TT} {t u : TS} (h : c σ H fun b H1 => if b = true then t ⟨nx, rt, bk, ct⟩ σ H1 else u ⟨nx, rt, bk, ct⟩ σ H1) : tIfS c t u ⟨nx, rt, bk, ct⟩ σ H := h
theorem w_test {t : TE} {R : Bool → Hp → Prop} (h : t σ H fun x H' => ∃ k, x = .bl k ∧ R k H') : tTest t σ H R := h
theorem w_tb {t : TE} {R : Bool → Hp → Prop} (h : t σ H fun x H' => ∃ k, x = .bl k ∧ R k H') : tB t σ H R := h
theorem w_bl {b : Bool} {R : Bool → Prop} (h : R b) : ∃ k, V.bl b = .bl k ∧ R k := ⟨b, rfl, h⟩
theorem w_and {t u : TT} {R : Bool → Hp → Prop} (h : t σ H fun c H1 => if c = true then u σ H1 R else R false H1) : tAnd t u σ H R := h
theorem w_or {t u : TT} {R : Bool → Hp → Prop} (h : t σ H fun c H1 => if c = true then R true H1 else u σ H1 R) : tOr t u σ H R := h
theorem w_not {t : TT} {R : Bool → Hp → Prop} (h : t σ H fun c H1 => R (!c) H1) : tNot t σ H R := h
theorem w_andV {ta tb : TE} (h : ta σ H fun x H1 => ∃ c, x = .bl c ∧ if c = true then tb σ H1 Q else Q (.bl false) H1) : tAndV ta tb σ H Q := h
theorem w_orV {ta tb : TE} (h : ta σ H fun x H1 => ∃ c, x = .bl c ∧ if c = true then Q (.bl true) H1 else tb σ H1 Q) : tOrV ta tb σ H Q := h
theorem w_notV {ta : TE} (h : ta σ H fun x H1 => ∃ c, x = .bl c ∧ Q (.bl (!c)) H1) : tNotV ta σ H Q := h
theorem w_ite {p : Prop} {inst : Decidable p} {A B : Prop} (h1 : p → A) (h2 : ¬ p → B) : if decide p = true then A else B := by
  by_cases h : p
  · rw [if_pos (decide_eq_true h)]; exact h1 h
  · rw [if_neg (fun z => h (of_decide_eq_true z))]; exact h2 h
theorem w_itN {p : Prop} {inst : Decidable p} {A B : Prop} (h1 : ¬ p → A) (h2 : p → B) : if (!decide p) = true then A else B := by
  by_cases h : p
  · rw [decide_eq_true h]; exact h2 h
  · rw [decide_eq_false h]; exact h1 h
theorem w_yes {p : Prop} {inst : Decidable p} {A B : Prop} (h : p) (a : A) : if decide p = true then A else B := by rw [if_pos (decide_eq_true h)]; exact a
theorem w_no {p : Prop} {inst : Decidable p} {A B : Prop} (h : ¬ p) (b : B) : if decide p = true then A else B := by rw [if_neg (fun z => h (of_decide_eq_true z))]; exact b
theorem w_nyes {p : Prop} {inst : Decidable p} {A B : Prop} (h : p) (b : B) : if (!decide p) = true then A else B := by rw [decide_eq_true h]; exact b
theorem w_nno {p : Prop} {inst : Decidable p} {A B : Prop} (h : ¬ p) (a : A) : if (!decide p) = true then A else B := by rw [decide_eq_false h]; exact a
theorem w_itB {b : Bool} {A B : Prop} (h1 : b = true → A) (h2 : b = false → B) : if b = true then A else B := by
  cases b with
  | true => exact h1 rfl
  | false => exact h2 rfl
theorem w_nT {A B : Prop} (h : B) : if (!true) = true then A else B := h
theorem w_nF {A B : Prop} (h : A) : if (!false) = true then A else B := h
theorem w_ret {te : TE} (h : te σ H rt) : tRet te ⟨nx, rt, bk, ct⟩ σ H := h
theorem w_drop {te : TE} (h : te σ H fun _ H1 => nx σ H1) : tDrop te ⟨nx, rt, bk, ct⟩ σ H := h
theorem w_next (h : nx σ H) : tNext ⟨nx, rt, bk, ct⟩ σ H := h
theorem w_cb {r : List V → Hp → VK → Prop} {t : TA} (h : t σ H fun vs H1 => r vs H1 Q) : tCB r t σ H Q := h
theorem w_nil {R : List V → Hp → Prop} (h : R [] H) : tNil σ H R := h
theorem w_cons {ta : TE} {tr : TA} {R : List V → Hp → Prop} (h : ta σ H fun x H1 => tr σ H1 fun xs H2 => R (x :: xs) H2) : tCons ta tr σ H R := h
theorem w_call {sp : Sp} {E : XK} {t : TA} (h : t σ H fun vs H1 => sp (vs ++ []) H1 Q E) : tCall sp [] E t σ H Q := h
theorem w_lst {t : TA} (h : t σ H fun xs H1 => xs.length ≤ sizeLine ∧ Nw (.lst xs) H1 Q) : tLst t σ H Q := h
theorem w_tup {t : TA} (h : t σ H fun xs H1 => xs.length ≤ sizeLine ∧ Nw (.tup xs) H1 Q) : tTup t σ H Q := h
theorem w_new {o : HO} (h : ∀ p H2, H p = none → H2 p = some o → Same H H2 → Q (.ref p) H2) : Nw o H Q := fun p hp => h p _ hp upd_same (Same.new hp)
theorem w_sz {n : Nat} {o : HO} (h1 : n ≤ sizeLine) (h : Nw o H Q) : n ≤ sizeLine ∧ Nw o H Q := ⟨h1, h⟩
theorem w_app {p : Addr} {xs : List V} (h1 : H p = some (.lst xs)) (h2 : xs.length < sizeLine) (h : ∀ H1, H1 p = some (.lst (xs ++ [v])) → Off p H H1 → Q .non H1) : rAppend (.ref p) [v] H Q :=
  ⟨p, xs, v, rfl, rfl, h1, h2, h _ upd_same fun x hx => upd_ne hx⟩
theorem w_bm {r : V → List V → Hp → VK → Prop} {to : TE} {t : TA} (h : to σ H fun x H1 => tyV K "list" x H1 ∧ t σ H1 fun xs H2 => r x xs H2 Q) : tBM K "list" r to t σ H Q := h
theorem w_tyL {p : Addr} {xs : List V} {A : Prop} (h1 : H p = some (.lst xs)) (h : A) : tyV K "list" (.ref p) H ∧ A := ⟨.inl ⟨rfl, _, .inl (.inl h1)⟩, h⟩
theorem w_lenL {p : Addr} {ys : List V} (h1 : SqL K H p ys) (h : Q (.int ys.length) H) : rLen K [V.ref p] H Q := ⟨p, ys, rfl, .inl h1, h⟩
theorem w_lenT {p : Addr} {ys : List V} (h1 : SqT K H p ys) (h : Q (.int ys.length) H) : rLen K [V.ref p] H Q := ⟨p, ys, rfl, .inr h1, h⟩
theorem w_min2 {i j : Int} (h : Q (.int (if j < i then j else i)) H) : rMin2 [V.int i, V.int j] H Q := ⟨i, j, rfl, h⟩
theorem w_max2 {i j : Int} (h : Q (.int (if j > i then j else i)) H) : rMax2 [V.int i, V.int j] H Q := ⟨i, j, rfl, h⟩
theorem w_listL {p : Addr} {ys : List V} (h1 : SqL K H p ys) (h : ∀ l H2, H l = none → H2 l = some (.lst ys) → Same H H2 → Q (.ref l) H2) : rListOf K [V.ref p] H Q := ⟨p, ys, rfl, .inl h1, w_new h⟩
theorem w_sum {p : Addr} {ns : List Int} (h1 : SqL K H p (ns.map V.int)) (h : Q (.int ns.sum) H) : rSum K [V.ref p] H Q := ⟨p, ns, rfl, h1, h⟩
theorem w_tupRg {te : St → Hp → (Int → Int → Hp → Prop) → Prop} (h : te σ H fun a b H1 => RgOk a b ∧ Nw (.tup (rgV a b)) H1 Q) : tTupRg te σ H Q := h
theorem w_rg2 {ta tb : TE} {R : Int → Int → Hp → Prop} (h : ta σ H fun x H1 => tb σ H1 fun y H2 => rRg2 x y H2 R) : tRg2 ta tb σ H R := h
theorem w_rg2' {i j : Int} {R : Int → Int → Hp → Prop} (h : R i j H) : rRg2 (.int i) (.int j) H R := ⟨i, j, rfl, rfl, h⟩
theorem w_bits {to : TE} (h : to σ H fun x H1 => rBits x H1 Q) : tBits to σ H Q := h
theorem w_bits' {i : Int} (h : Q (.int (Builtin.Int.intBits i : Nat)) H) : rBits (.int i) H Q := ⟨i, rfl, h⟩
theorem w_isi {x : V} {a n : String} {b : Bool} (ty : TyX K H x (.type a)) (hk : kitB a n = some b) (h : Q (.bl b) H) : rIsi K [x, .ty n] H Q := ⟨x, .ty n, _, _, b, rfl, .ty n, ty, kit_ty hk, h⟩
theorem w_eqS {x y : Str} (h : Q (.bl (decide (x = y))) H) : rEq (.str x) (.str y) H Q := ⟨rfl, by
  have e : decide (V.str x = V.str y) = decide (x = y) := by
    by_cases q : x = y
    · subst q; rw [decide_eq_true rfl, decide_eq_true rfl]
    · rw [decide_eq_false q, decide_eq_false (fun z => q (V.str.inj z))]
  rw [e]; exact h⟩
theorem w_eqB {x y : Bool} (h : Q (.bl (decide (x = y))) H) : rEq (.bl x) (.bl y) H Q := ⟨rfl, by
  have e : decide (V.bl x = V.bl y) = decide (x = y) := by
    by_cases q : x = y
    · subst q; rw [decide_eq_true rfl, decide_eq_true rfl]
    · rw [decide_eq_false q, decide_eq_false (fun z => q (V.bl.inj z))]
  rw [e]; exact h⟩
/-! targets, dicts -/
theorem w_gtup {a : Addr} {xs : List V} {n : Nat} {t : TGs} {R : St → Hp → Prop} (h1 : SqT K H a xs) (h2 : xs.length = n) (h : t xs σ H R) : gTup K n t (.ref a) σ H R := ⟨a, xs, rfl, h1, h2, h⟩
theorem w_gcons {t : TG} {u : TGs} {r : List V} {R : St → Hp → Prop} (h : t v σ H fun σ' H' => u r σ' H' R) : gCons t u (v :: r) σ H R := ⟨v, r, rfl, h⟩
theorem w_gnil {R : St → Hp → Prop} (h : R σ H) : gNil [] σ H R := ⟨rfl, h⟩
theorem w_din {ty td : TE} (h : ty σ H fun y H1 => td σ H1 fun x H2 => rDIn x y H2 Q) : tDIn ty td σ H Q := h
theorem w_dnotin {ty td : TE} (h : ty σ H fun y H1 => td σ H1 fun x H2 => rDNotIn x y H2 Q) : tDNotIn ty td σ H Q := h
theorem w_dget {ty td : TE} (h : td σ H fun x H1 => ty σ H1 fun y H2 => rDGet x y H2 Q) : tDGet td ty σ H Q := h
theorem w_dinI {a : Addr} {kvs : List (Key × V)} {n : Int} (e : H a = some (.dK kvs)) (h : Q (.bl (valV kvs (Sum.inl n)).isSome) H) : rDIn (.ref a) (.int n) H Q := ⟨a, _, rfl, DGet.k (k := Sum.inl n) e, h⟩
theorem w_dnotinI {a : Addr} {kvs : List (Key × V)} {n : Int} (e : H a = some (.dK kvs)) (h : Q (.bl (!(valV kvs (Sum.inl n)).isSome)) H) : rDNotIn (.ref a) (.int n) H Q := ⟨a, _, rfl, DGet.k (k := Sum.inl n) e, h⟩
theorem w_dgetI {a : Addr} {kvs : List (Key × V)} {n : Int} (e : H a = some (.dK kvs)) (e2 : valV kvs (Sum.inl n) = some v) (h : Q v H) : rDGet (.ref a) (.int n) H Q := ⟨a, v, rfl, e2 ▸ DGet.k (k := Sum.inl n) e, h⟩
theorem w_dnewK (h : Nw (.dK []) H Q) : tDNewK σ H Q := h
theorem w_dput {td ty tv : TE} (h : tv σ H fun v H1 => td σ H1 fun x H2 => ty σ H2 fun y H3 => rDPut x y v H3 fun H4 => nx σ H4) : sDPut td ty tv ⟨nx, rt, bk, ct⟩ σ H := h
theorem w_seqP {td ty tv : TE} {u : TS} (h : tv σ H fun v H1 => td σ H1 fun x H2 => ty σ H2 fun y H3 => rDPut x y v H3 fun H4 => u ⟨nx, rt, bk, ct⟩ σ H4) : tSeq (sDPut td ty tv) u ⟨nx, rt, bk, ct⟩ σ H := h
theorem w_dputI {a : Addr} {kvs : List (Key × V)} {n : Int} {R : Hp → Prop} (e : H a = some (.dK kvs)) (hl : kvs.length < sizeLine) (h : ∀ H1, H1 a = some (.dK (putK kvs (Sum.inl n) v)) → Off a H H1 → R H1) : rDPut (.ref a) (.int n) v H R :=
  ⟨a, _, rfl, DPut.k (k := Sum.inl n) e hl, h _ upd_same fun x hx => upd_ne hx⟩
theorem w_dget2 {td ty tx : TE} (h : td σ H fun x H1 => rIsD x H1 fun a H1 => ty σ H1 fun y H2 => tx σ H2 fun z H3 => rDGet2 a y z H3 Q) : tDGet2 td ty tx σ H Q := h
theorem w_isD {a : Addr} {kvs : List (Key × V)} {R : Addr → Hp → Prop} (e : H a = some (.dK kvs)) (h : R a H) : rIsD (.ref a) H R := ⟨a, rfl, .inl ⟨kvs, .inl e⟩, h⟩
theorem w_dget2I {a : Addr} {kvs : List (Key × V)} {n : Int} {z : V} (e : H a = some (.dK kvs)) (h : Q ((valV kvs (Sum.inl n)).getD z) H) : rDGet2 a (.int n) z H Q := ⟨_, DGet.k (k := Sum.inl n) e, h⟩
theorem w_dsetd {td ty tx : TE} (h : td σ H fun x H1 => rIsD x H1 fun a H1 => ty σ H1 fun y H2 => tx σ H2 fun z H3 => rDSetd a y z H3 Q) : tDSetd td ty tx σ H Q := h
theorem w_leT2 {p q : Addr} {a b c d : Int} (h1 : SqT K H p [.int a, .int b]) (h2 : SqT K H q [.int c, .int d]) (h : Q (.bl (decide (a < c ∨ a = c ∧ b ≤ d))) H) : rLeT K (.ref p) (.ref q) H Q := by
  refine ⟨p, q, [a, b], [c, d], rfl, rfl, h1, h2, ?_⟩
  have e : Ob.lexAt (fun j => decide (([a, b] : List Int).getD j 0 = ([c, d] : List Int).getD j 0)) (fun j => decide (([a, b] : List Int).getD j 0 ≤ ([c, d] : List Int).getD j 0)) (decide (([a, b] : List Int).length ≤ ([c, d] : List Int).length)) 0 (min ([a, b] : List Int).length ([c, d] : List Int).length) = decide (a < c ∨ a = c ∧ b ≤ d) := by
    show (if decide (a = c) = true then (if decide (b = d) = true then true else decide (b ≤ d)) else decide (a ≤ c)) = _
    by_cases h1 : a = c
    · rw [if_pos (decide_eq_true h1)]
      by_cases h2 : b = d
      · rw [if_pos (decide_eq_true h2)]
        exact (decide_eq_true (by omega)).symm
      · rw [if_neg (fun z => h2 (of_decide_eq_true z))]
        rw [Bool.eq_iff_iff]; simp; omega
    · rw [if_neg (fun z => h1 (of_decide_eq_true z))]
      rw [Bool.eq_iff_iff]; simp; omega
  rw [e]
  exact h
theorem inV_ints (n : Int) (vs : List Int) : inV (.int n) (vs.map V.int) = decide (n ∈ vs) := by
  unfold inV
  rw [Bool.eq_iff_iff, List.any_eq_true]
  constructor
  · rintro ⟨y, hy, e⟩
    obtain ⟨z, hz, rfl⟩ := List.mem_map.mp hy
    have e' : z = n := by simpa [eqV] using e
    subst e'
    exact decide_eq_true hz
  · intro h
    exact ⟨.int n, List.mem_map_of_mem (of_decide_eq_true h), by simp [eqV]⟩
theorem flat_ints (vs : List Int) : (vs.map V.int).all flatV = true := by
  rw [List.all_eq_true]
  intro y hy
  obtain ⟨z, _, rfl⟩ := List.mem_map.mp hy
  rfl
theorem w_inT {p : Addr} {vs : List Int} {n : Int} (h1 : SqT K H p (vs.map V.int)) (h : Q (.bl (decide (n ∈ vs))) H) : rIn K false (.int n) (.ref p) H Q := ⟨p, _, rfl, .inr h1, rfl, flat_ints vs, by rw [inV_ints]; exact h⟩
theorem w_ninT {p : Addr} {vs : List Int} {n : Int} (h1 : SqT K H p (vs.map V.int)) (h : Q (.bl (!decide (n ∈ vs))) H) : rIn K true (.int n) (.ref p) H Q := ⟨p, _, rfl, .inr h1, rfl, flat_ints vs, by rw [inV_ints]; exact h⟩
theorem w_inL {p : Addr} {vs : List Int} {n : Int} (h1 : SqL K H p (vs.map V.int)) (h : Q (.bl (decide (n ∈ vs))) H) : rIn K false (.int n) (.ref p) H Q := ⟨p, _, rfl, .inl h1, rfl, flat_ints vs, by rw [inV_ints]; exact h⟩
theorem w_ninL {p : Addr} {vs : List Int} {n : Int} (h1 : SqL K H p (vs.map V.int)) (h : Q (.bl (!decide (n ∈ vs))) H) : rIn K true (.int n) (.ref p) H Q := ⟨p, _, rfl, .inl h1, rfl, flat_ints vs, by rw [inV_ints]; exact h⟩
def rDisp (p : Addr) (ps : List (V × V)) (H2 : Hp) (Q : VK) : Prop := H2 p = some (.dK []) ∧ ∃ kvs : List (Key × V), ps = kvs.map (fun kv => (kV kv.1, kv.2)) ∧ kvs.length ≤ 15 ∧ Q (.ref p) (upd H2 p (.dK (mergeK [] kvs)))
theorem w_pair {tk tv : TE} {r : List (TE × TE)} {R : List (V × V) → Hp → Prop} (h : tk σ H fun x H1 => tv σ H1 fun y H2 => tPairs r σ H2 fun ps H3 => R ((x, y) :: ps) H3) : tPairs ((tk, tv) :: r) σ H R := h
theorem w_pnil {R : List (V × V) → Hp → Prop} (h : R [] H) : tPairs [] σ H R := h
theorem w_callS {sp : Sp} {E : St → XK} {t : TA} (h : t σ H fun vs H1 => sp vs H1 Q (E σ)) : tCallS sp E t σ H Q := h
theorem w_isB {x y : Bool} (h : Q (.bl (decide (x = y))) H) : rIsBl (.bl x) (.bl y) H Q := ⟨x, y, rfl, rfl, h⟩
theorem w_isN (h : Q (.bl (decide (v = .non))) H) : rIsNon v .non H Q := ⟨rfl, h⟩
theorem w_notN (h : Q (.bl (!decide (v = .non))) H) : rNotNon v .non H Q := ⟨rfl, h⟩
theorem w_chain {r r' : R2} {ta tb tc : TE} (h : ta σ H fun x H1 => tb σ H1 fun y H2 => r x y H2 fun z H3 => ∃ k, z = .bl k ∧ (if k = true then tc σ H3 fun w' H4 => r' y w' H4 Q else Q (.bl false) H3)) : tChain r r' ta tb tc σ H Q := h
theorem w_trL {p : Addr} {xs : List V} {R : Bool → Hp → Prop} (h1 : SqL K H p xs) (h : R (!xs.isEmpty) H) : rTru K (.ref p) H R := ⟨_, .inl ⟨xs, h1, rfl⟩, h⟩
theorem w_trT {p : Addr} {xs : List V} {R : Bool → Hp → Prop} (h1 : SqT K H p xs) (h : R (!xs.isEmpty) H) : rTru K (.ref p) H R := ⟨_, .inr (.inl ⟨xs, h1, rfl⟩), h⟩
theorem w_tru {ta : TE} {R : Bool → Hp → Prop} (h : ta σ H fun x H1 => rTru K x H1 R) : tTru K ta σ H R := h
/-! loops -/
def Lp (J : It) (g : TG) (tb : TS) (D : Ends) (σ : St) (H1 : Hp) : Prop := ∃ W : Nat → Nat → St → Hp → Prop, (∃ m, W 0 m σ H1) ∧ ∀ i m σ H, W i m σ H →
  (J.stop i H ∧ D.nx σ H) ∨ (J.go i H ∧ ∃ N : St → Hp → Prop, (∀ σ' H', N σ' H' → ∃ m', m' < m ∧ W (i + 1) m' σ' H') ∧ ∀ x H', J.yld i H x H' → g x σ H' fun σ2 H2 => tb { D with nx := N, ct := N, bk := D.nx } σ2 H2)
theorem w_for {wi : TI} {g : TG} {tb : TS} (h : wi σ H fun J H1 => Lp J g tb ⟨nx, rt, bk, ct⟩ σ H1) : tFor wi g tb ⟨nx, rt, bk, ct⟩ σ H := h
theorem lp_list {a : Addr} {xs : List V} {g : TG} {tb : TS} (Pv : Nat → St → Hp → Prop) (h0 : Pv 0 σ H) (hl : ∀ i σ H, i ≤ xs.length → Pv i σ H → SqL K H a xs)
    (hs : ∀ i x σ H, xs[i]? = some x → Pv i σ H → g x σ H fun σ2 H2 => tb ⟨Pv (i + 1), rt, nx, Pv (i + 1)⟩ σ2 H2) (hd : ∀ σ H, Pv xs.length σ H → nx σ H) : Lp (Itl K a) g tb ⟨nx, rt, bk, ct⟩ σ H :=
  for_list (D := ⟨nx, rt, bk, ct⟩) Pv h0 hl hs hd
theorem lp_range {lo : Int} {n : Nat} {g : TG} {tb : TS} (Pv : Nat → St → Hp → Prop) (h0 : Pv 0 σ H)
    (hs : ∀ i σ H, i < n → Pv i σ H → g (.int (lo + i)) σ H fun σ2 H2 => tb ⟨Pv (i + 1), rt, nx, Pv (i + 1)⟩ σ2 H2) (hd : ∀ σ H, Pv n σ H → nx σ H) : Lp (Itr lo n) g tb ⟨nx, rt, bk, ct⟩ σ H :=
  for_range (D := ⟨nx, rt, bk, ct⟩) Pv h0 hs hd
theorem w_rng1 {t : TA} {R : It → Hp → Prop} (h : t σ H fun vs H1 => rRng1 vs H1 R) : iRng1 t σ H R := h
theorem w_rng1' {j : Int} {R : It → Hp → Prop} (h1 : -(2 ^ 62) ≤ j) (h2 : j < 2 ^ 62) (h : R (Itr 0 j.toNat) H) : rRng1 [.int j] H R := ⟨j, rfl, h1, h2, h⟩
theorem w_rng2 {t : TA} {R : It → Hp → Prop} (h : t σ H fun vs H1 => rRng2 vs H1 R) : iRng2 t σ H R := h
theorem w_rng2' {i j : Int} {R : It → Hp → Prop} (h1 : -(2 ^ 62) ≤ i ∧ i < 2 ^ 62 ∧ -(2 ^ 62) ≤ j ∧ j < 2 ^ 62) (h : R (Itr i (j - i).toNat) H) : rRng2 [.int i, .int j] H R := ⟨i, j, rfl, h1, h⟩
theorem w_itL {tl : TE} {R : It → Hp → Prop} (h : tl σ H fun x H1 => rItL K x H1 R) : iList K tl σ H R := h
theorem w_itL' {a : Addr} {xs : List V} {R : It → Hp → Prop} (h1 : SqL K H a xs) (h : R (Itl K a) H) : rItL K (.ref a) H R := ⟨a, rfl, ⟨xs, h1⟩, h⟩
theorem w_itT {tl : TE} {R : It → Hp → Prop} (h : tl σ H fun x H1 => rItT K x H1 R) : iTup K tl σ H R := h
theorem w_itT' {a : Addr} {xs : List V} {R : It → Hp → Prop} (h1 : SqT K H a xs) (h : R (Itt K a) H) : rItT K (.ref a) H R := ⟨a, rfl, ⟨xs, h1⟩, h⟩
/-- one turn of a while: W (by a falling number) is reached again -/
def WhT (W : Nat → St → Hp → Prop) (m : Nat) (tb : TS) (rt : VK) (nx : St → Hp → Prop) (σ : St) (H : Hp) : Prop := ∃ N : St → Hp → Prop, (∀ σ' H', N σ' H' → ∃ m', m' < m ∧ W m' σ' H') ∧ tb ⟨N, rt, nx, N⟩ σ H
/-! comprehensions -/
def LcP (J : It) (g : TG) (tt : TT) (te : TE) (vs : List Nat) (Q : VK) (σ : St) (H1 : Hp) : Prop := ∀ D, H1 D = none → ∃ W : Nat → Nat → Hp → Prop, (∃ m, W 0 m (upd H1 D (.lst []))) ∧ ∀ i m H, W i m H →
  (J.stop i H ∧ Q (.ref D) H) ∨ (J.go i H ∧ ∃ Nx : Hp → Prop, (∀ H', Nx H' → ∃ m', m' < m ∧ W (i + 1) m' H') ∧ ∀ x H', J.yld i H x H' → g x (wipe σ vs) H' fun σ2 H2 => wipe σ2 vs = wipe σ vs ∧ tt σ2 H2 fun b H3 =>
    if b = true then te σ2 H3 fun y H4 => ∃ acc, H4 D = some (.lst acc) ∧ acc.length < sizeLine ∧ Nx (upd H4 D (.lst (acc ++ [y]))) else Nx H3)
theorem w_lc {wi : TI} {g : TG} {tt : TT} {te : TE} {vs : List Nat} (h : wi σ H fun J H1 => LcP J g tt te vs Q σ H1) : tLc wi g tt te vs σ H Q := h
/-- each turn adds one: the k-th is ys[k]; what stood but M stands -/
theorem lcp_map {J : It} {n : Nat} {G : Hp → Prop} {Y : Nat → Hp → V → Hp → Prop} (w : Walk J n G Y) {g : TG} {te : TE} {vs : List Nat} (M : List Addr) (ys : List V) (hn : ys.length = n) (hz : n ≤ 1000000) (hG : ∀ H', Kp M H H' → G H')
    (hs : ∀ i x H1 H2 (R : V → Hp → Prop), i < n → Kp M H H1 → Y i H1 x H2 → (∀ y H4, ys[i]? = some y → Kp M H1 H4 → R y H4) → g x (wipe σ vs) H2 fun σ2 H3 => wipe σ2 vs = wipe σ vs ∧ te σ2 H3 R)
    (hM : ∀ b ∈ M, ∃ o, H b = some o)
    (hd : ∀ D H', H D = none → Kp M H H' → H' D = some (.lst ys) → Q (.ref D) H') : LcP J g tYes te vs Q σ H := by
  intro D hD
  have hDM : D ∉ M := fun z => by obtain ⟨o, e⟩ := hM D z; rw [hD] at e; cases e
  refine lc_it w (fun i H' => Kp M H H' ∧ H' D = some (.lst (ys.take i))) ⟨Kp.new hD, upd_same⟩ (fun i H' _ z => hG H' z.1) ?_ ?_
  · rintro i x H1 H2 hi ⟨k1, e1⟩ y
    refine (hs i x H1 H2 _ hi k1 y ?_)
    intro z H4 hz' k4
    refine ⟨ys.take i, k4 _ _ hDM e1, ?_, ?_, ?_⟩
    · rw [List.length_take]; exact Nat.lt_of_le_of_lt (Nat.min_le_left _ _) (Nat.lt_of_lt_of_le (Nat.lt_of_lt_of_le hi hz) (by decide))
    · exact (k1.trans k4).mutN hD
    · rw [upd_same, List.take_add_one, hz']; rfl
  · rintro H' ⟨k, e⟩
    rw [List.take_of_length_le (by omega)] at e
    exact hd D H' hD k e
/-- each turn adds one of which P holds (P leans on tuples alone); S: what else holds turn by turn -/
theorem lcp_gen {J : It} {n : Nat} {G : Hp → Prop} {Y : Nat → Hp → V → Hp → Prop} (w : Walk J n G Y) {g : TG} {te : TE} {vs : List Nat} (M : List Addr) (P : Nat → V → Hp → Prop) (S : Nat → Hp → Prop) (hz : n ≤ 1000000)
    (mono : ∀ i y H1 H2, KT H1 H2 → P i y H1 → P i y H2) (SD : ∀ D, H D = none → ∀ i H1 o, S i H1 → S i (upd H1 D o)) (hG : ∀ i H', Kp M H H' → S i H' → G H') (S0 : S 0 H)
    (hs : ∀ i x H1 H2 (R : V → Hp → Prop), i < n → Kp M H H1 → KT H H1 → S i H1 → Y i H1 x H2 → (∀ y H4, P i y H4 → Kp M H1 H4 → KT H1 H4 → S (i + 1) H4 → R y H4) → g x (wipe σ vs) H2 fun σ2 H3 => wipe σ2 vs = wipe σ vs ∧ te σ2 H3 R)
    (hM : ∀ b ∈ M, ∃ o, H b = some o)
    (hd : ∀ D H' ys, ys.length = n → (∀ i y, ys[i]? = some y → P i y H') → H D = none → Kp M H H' → KT H H' → S n H' → H' D = some (.lst ys) → Q (.ref D) H') : LcP J g tYes te vs Q σ H := by
  intro D hD
  have hDM : D ∉ M := fun z => by obtain ⟨o, e⟩ := hM D z; rw [hD] at e; cases e
  refine lc_it w (fun i H' => Kp M H H' ∧ KT H H' ∧ S i H' ∧ ∃ ys, ys.length = i ∧ H' D = some (.lst ys) ∧ ∀ k y, ys[k]? = some y → P k y H') ⟨Kp.new hD, KT.refl.upd hD, SD D hD _ _ _ S0, [], rfl, upd_same, by simp⟩ (fun i H' _ z => hG i H' z.1 z.2.2.1) ?_ ?_
  · rintro i x H1 H2 hi ⟨k1, t1, s1, ys, hl, e1, hp⟩ y
    refine hs i x H1 H2 _ hi k1 t1 s1 y ?_
    intro z H4 pz k4 t4 s4
    have e4 := k4 _ _ hDM e1
    refine ⟨ys, e4, ?_, (k1.trans k4).mutN hD, (t1.trans t4).upd hD, SD D hD _ _ _ s4, ys ++ [z], by rw [List.length_append, hl]; rfl, upd_same, ?_⟩
    · rw [hl]; exact Nat.lt_of_lt_of_le (Nat.lt_of_lt_of_le hi hz) (by decide)
    · intro k y' hy'
      by_cases hk : k < ys.length
      · rw [List.getElem?_append_left hk] at hy'
        exact mono _ _ _ _ (KT.updL e4) (mono _ _ _ _ t4 (hp k y' hy'))
      · rw [List.getElem?_append_right (by omega)] at hy'
        by_cases hk2 : k = ys.length
        · subst hk2
          have e : z = y' := by simpa using hy'
          subst e
          rw [hl]
          exact mono _ _ _ _ (KT.updL e4) pz
        · rw [List.getElem?_eq_none (by simp; omega)] at hy'
          cases hy'
  · rintro H' ⟨k, t, sn, ys, hl, e, hp⟩
    exact hd D H' ys hl hp hD k t sn e
end
/-! ### errors -/
/-- what the top has written of an own error class without __init__ -/
structure Exn (K : PySem.W.Frag) (mg : Str → Option Value) (x : Str) (C : Addr) : Prop where
  g : mg x = some (.ref C)
  x : PySem.W.excIn K C [.type "ValueError", .type "Exception", .type "BaseException", .type "object"] "ValueError.__new__" = true
  k : PySem.W.keepIn K (.ref C) = true
  b : PySem.W.subIn K (.ref C) (.type "BaseException") = some true
  t : PySem.W.typeIn K (.ref C) = some (.type "type")
  e : PySem.W.exmOne K (.ref C) (.ref C) = some true
theorem exm_is {K : PySem.W.Frag} {t : Value} {C : Addr} {r : Bool} (hb : PySem.W.subIn K (.ref C) (.type "BaseException") = some true) (hi : PySem.W.isClsIn K C = true) (ht : PySem.W.typeIn K (.ref C) = some (.type "type")) (hs : PySem.W.subIn K t (.ref C) = some r) : PySem.W.exmOne K t (.ref C) = some r := by
  have hi' : (PySem.W.clsIn K C).isSome = true := hi
  unfold PySem.W.exmOne
  rw [hb, if_pos (by rfl)]
  show (if ((PySem.W.clsIn K C).isSome && PySem.W.typeIn K (Value.ref C) == some (Value.type "type")) = true then PySem.W.subIn K t (Value.ref C) else none) = some r
  rw [hi', ht]
  exact hs
def tTryO (K : PySem.W.Frag) (c : Value) (tb : WX → TS) (ts : Addr → Value → Option Addr → TS) : TS := fun D σ H => tb (wOnly K c ts (fun _ _ _ _ => False) D) D σ H
section
variable {X : Cx} {x : Str} {c : Value} {body suite : List Stmt} {b₀ : Stmt} {np pos pos' : Pos} {tb : WX → TS} {ts : Addr → Value → Option Addr → TS}
end
section
variable {K : PySem.W.Frag} {σ : St} {H : Hp} {nx bk ct : St → Hp → Prop} {rt : VK}
theorem w_try {c : Value} {tb : WX → TS} {ts : Addr → Value → Option Addr → TS} (h : tb (wOnly K c ts (fun _ _ _ _ => False) ⟨nx, rt, bk, ct⟩) ⟨nx, rt, bk, ct⟩ σ H) : tTryO K c tb ts ⟨nx, rt, bk, ct⟩ σ H := h
end
/-! ### dict comprehensions -/
section
open PySem.Spec PyProof.Rows
variable {X : Cx}
end
section
variable {K : PySem.W.Frag} {σ : St} {H : Hp} {Q : VK}
def DcP (J : It) (g : TG) (tt : TT) (tk tv : TE) (vs : List Nat) (Q : VK) (σ : St) (H1 : Hp) : Prop := ∀ D, H1 D = none → ∃ W : Nat → Nat → Hp → Prop, (∃ m, W 0 m (upd H1 D (.dK []))) ∧ ∀ i m H, W i m H →
  (J.stop i H ∧ Q (.ref D) H) ∨ (J.go i H ∧ ∃ Nx : Hp → Prop, (∀ H', Nx H' → ∃ m', m' < m ∧ W (i + 1) m' H') ∧ ∀ x H', J.yld i H x H' → g x (wipe σ vs) H' fun σ2 H2 => wipe σ2 vs = wipe σ vs ∧ tt σ2 H2 fun b H3 =>
    if b = true then tk σ2 H3 fun y H4 => tv σ2 H4 fun z H5 => ∃ kvs k, y = kV k ∧ H5 D = some (.dK kvs) ∧ kvs.length < sizeLine ∧ Nx (upd H5 D (.dK (putK kvs k z))) else Nx H3)
theorem w_dc {wi : TI} {g : TG} {tt : TT} {tk tv : TE} {vs : List Nat} (h : wi σ H fun J H1 => DcP J g tt tk tv vs Q σ H1) : tDc wi g tt tk tv vs σ H Q := h
theorem putK_len' {κ : Type} [DecidableEq κ] (c : List (κ × V)) (k : κ) (x : V) : (putK c k x).length ≤ c.length + 1 := by
  unfold putK
  by_cases e : (c.any fun kv => decide (kv.1 = k)) = true
  · rw [if_pos e, List.length_map]; omega
  · rw [if_neg e, List.length_append]; simp
end
/-! ### ints -/
theorem cmul_l {i j : Int} (h1 : -(2 ^ 64) < i) (h2 : i < 2 ^ 64) : CMul i j := .inl ⟨h1, h2⟩
theorem cmul_r {i j : Int} (h1 : -(2 ^ 64) < j) (h2 : j < 2 ^ 64) : CMul i j := .inr ⟨h1, h2⟩
theorem cdivw {i j : Int} (h1 : 0 < j) (h2 : j < 2 ^ 64) : CDivW i j := wide_div (b := 64) h1 (by omega) (by decide) (by decide)
theorem at_lt {α : Type} {xs : List α} {i : Int} (h0 : 0 ≤ i) (h1 : i < xs.length) : ∃ v, xs[i.toNat]? = some v ∧ atI xs i = some v := by
  have hl : i.toNat < xs.length := by omega
  refine ⟨xs[i.toNat], List.getElem?_eq_getElem hl, ?_⟩
  have e := atI_nat (xs := xs) (j := i.toNat) (List.getElem?_eq_getElem hl)
  rw [Int.toNat_of_nonneg h0] at e
  exact e
/-! ### the deck -/
def MOSTD : Nat := 1099511627776
structure Deck (H : Hp) (d c : Addr) (n : Nat) : Prop where
  ex : ∃ (cs : List Int) (a : Nat) (b : Int) (t : Nat), H d = some (.lst [.ref c, .int a, .int b, .int t]) ∧ H c = some (.lst (cs.map V.int)) ∧ t ≤ n
  ne : c ≠ d
theorem Deck.kp {M : List Addr} {H H' : Hp} {d c : Addr} {n : Nat} (k : Kp M H H') (h1 : d ∉ M) (h2 : c ∉ M) (D : Deck H d c n) : Deck H' d c n := by
  obtain ⟨⟨cs, a, b, t, e1, e2, e3⟩, ne⟩ := D
  exact ⟨⟨cs, a, b, t, k _ _ h1 e1, k _ _ h2 e2, e3⟩, ne⟩
theorem Deck.new {H : Hp} {d c : Addr} {n : Nat} {p : Addr} {o : HO} (h : H p = none) (D : Deck H d c n) : Deck (upd H p o) d c n := D.kp (M := []) (Kp.new h) (by simp) (by simp)
theorem Deck.mut {H : Hp} {d c : Addr} {n : Nat} {p : Addr} {o : HO} (h1 : p ≠ d) (h2 : p ≠ c) (D : Deck H d c n) : Deck (upd H p o) d c n :=
  D.kp (M := [p]) (Kp.mut (by simp)) (by simpa using Ne.symm h1) (by simpa using Ne.symm h2)
theorem Deck.mono {H : Hp} {d c : Addr} {n m : Nat} (D : Deck H d c n) (h : n ≤ m) : Deck H d c m := by
  obtain ⟨⟨cs, a, b, t, e1, e2, e3⟩, ne⟩ := D
  exact ⟨⟨cs, a, b, t, e1, e2, Nat.le_trans e3 h⟩, ne⟩
theorem Deck.at {H : Hp} {d c : Addr} {n : Nat} (D : Deck H d c n) : (∃ xs, H d = some (.lst xs)) ∧ ∃ xs, H c = some (.lst xs) := by
  obtain ⟨⟨cs, a, b, t, e1, e2, e3⟩, ne⟩ := D
  exact ⟨⟨_, e1⟩, ⟨_, e2⟩⟩
theorem Deck.ne1 {H : Hp} {d c p : Addr} {n : Nat} (D : Deck H d c n) (h : H p = none) : p ≠ d ∧ p ≠ c := by
  obtain ⟨⟨xs, e1⟩, ys, e2⟩ := D.at
  exact ⟨(ne_of_none e1 h).symm, (ne_of_none e2 h).symm⟩
end FW

set_option Elab.async false
set_option linter.all false
set_option maxRecDepth 100000
set_option maxHeartbeats 4000000
/-! {key: value for a in as if .. for b in bs if ..}: a dict by two clauses, as a rule of the layer (my own: the layer has it for lists). -/
namespace FW
open PySem PySem.Spec PyProof.Rows L2
section
variable {kx vx ta ia tb ib : Expr} {fa fb : List Expr} {sc : Scope} {ps : Pos}
abbrev two (kx vx ta ia : Expr) (fa : List Expr) (tb ib : Expr) (fb : List Expr) (sc : Scope) (ps : Pos) : Expr := .DictComp kx vx [⟨ta, ia, fa, 0⟩, ⟨tb, ib, fb, 0⟩] sc ps
/-- the tests of a clause, one behind the other -/
abbrev testsOf2 (fs : List Expr) (env : Env) : Sem Bool := forIn fs true fun c r => if r = true then do let ok ← isTrue c env (eval c env); pure (ForInStep.yield ok) else pure (ForInStep.yield r)
variable {pg : Program} {wd : World} {A : Around} {R : Result → Shared → Prop} {st : Shared} {it : Value} {D : Addr} {env : Env}
end
section
variable {X : Cx} {kx vx ta ia tb ib : Expr} {fa fb : List Expr} {sc : Scope} {ps qs : Pos} {own : List (Str × Nat)} {us : List Nat} {wa wb : TI} {ga gb : TG} {ra rb : TT} {tk tv : TE}
/-- the inner walk of one turn: from it Nx is reached -/
def Inner2 (J : It) (gb : TG) (rb : TT) (tk tv : TE) (us : List Nat) (D : Addr) (σ : L2.St) (H : Hp) (Nx : Hp → Prop) : Prop := ∃ W : Nat → Nat → Hp → Prop, (∃ m, W 0 m H) ∧ ∀ j k H1, W j k H1 →
  (J.stop j H1 ∧ Nx H1) ∨ (J.go j H1 ∧ ∃ Ny : Hp → Prop, (∀ H2, Ny H2 → ∃ k', k' < k ∧ W (j + 1) k' H2) ∧ ∀ x H2, J.yld j H1 x H2 → gb x (wipe σ us) H2 fun σ3 H3 => wipe σ3 us = wipe σ us ∧ rb σ3 H3 fun b H4 =>
    if b = true then tk σ3 H4 fun y H5 => tv σ3 H5 fun z H6 => ∃ kvs key, y = kV key ∧ H6 D = some (.dK kvs) ∧ kvs.length < sizeLine ∧ Ny (upd H6 D (.dK (putK kvs key z))) else Ny H4)
/-- the whole -/
def tDc2 (wa : TI) (ga : TG) (ra : TT) (wb : TI) (gb : TG) (rb : TT) (tk tv : TE) (os us : List Nat) : TE := fun σ H Q => wa σ H fun J H1 => ∀ D, H1 D = none → ∃ W : Nat → Nat → Hp → Prop, (∃ m, W 0 m (upd H1 D (.dK []))) ∧ ∀ i m H2, W i m H2 →
  (J.stop i H2 ∧ Q (.ref D) H2) ∨ (J.go i H2 ∧ ∃ Nx : Hp → Prop, (∀ H3, Nx H3 → ∃ m', m' < m ∧ W (i + 1) m' H3) ∧ ∀ x H3, J.yld i H2 x H3 → ga x (wipe σ os) H3 fun σ2 H4 => wipe σ2 os = wipe σ os ∧ ra σ2 H4 fun b H5 =>
    if b = true then wb σ2 H5 fun J1 H6 => Inner2 J1 gb rb tk tv us D σ2 H6 Nx else Nx H5)
end
/-! ### its steps -/
section
variable {K : PySem.W.Frag} {σ : L2.St} {H : Hp} {Q : VK}
def Dc2P (J : It) (ga : TG) (ra : TT) (wb : TI) (gb : TG) (rb : TT) (tk tv : TE) (os us : List Nat) (Q : VK) (σ : L2.St) (H1 : Hp) : Prop := ∀ D, H1 D = none → ∃ W : Nat → Nat → Hp → Prop, (∃ m, W 0 m (upd H1 D (.dK []))) ∧ ∀ i m H2, W i m H2 →
  (J.stop i H2 ∧ Q (.ref D) H2) ∨ (J.go i H2 ∧ ∃ Nx : Hp → Prop, (∀ H3, Nx H3 → ∃ m', m' < m ∧ W (i + 1) m' H3) ∧ ∀ x H3, J.yld i H2 x H3 → ga x (wipe σ os) H3 fun σ2 H4 => wipe σ2 os = wipe σ os ∧ ra σ2 H4 fun b H5 =>
    if b = true then wb σ2 H5 fun J1 H6 => Inner2 J1 gb rb tk tv us D σ2 H6 Nx else Nx H5)
theorem w_dc2 {wa wb : TI} {ga gb : TG} {ra rb : TT} {tk tv : TE} {os us : List Nat} (h : wa σ H fun J H1 => Dc2P J ga ra wb gb rb tk tv os us Q σ H1) : tDc2 wa ga ra wb gb rb tk tv os us σ H Q := h
/-! ### a dict that is walked; any, sorted, insert -/
def rInsert : V → List V → Hp → VK → Prop := fun x vs H Q => ∃ (l : Addr) (xs : List V) (i : Int) (y : V), x = .ref l ∧ vs = [.int i, y] ∧ H l = some (.lst xs) ∧ xs.length < sizeLine ∧ 0 ≤ i ∧ i < 2 ^ 63 ∧ Q .non (upd H l (.lst (xs.take i.toNat ++ [y] ++ xs.drop i.toNat)))
theorem w_any {p : Addr} {bs : List Bool} (h1 : SqL K H p (bs.map V.bl)) (h : Q (.bl (bs.any id)) H) : rAny K [.ref p] H Q := ⟨p, bs, rfl, h1, h⟩
section
variable {nx bk ct : L2.St → Hp → Prop} {rt : VK}
def rKeys (x : V) (H1 : Hp) (R : It → Hp → Prop) : Prop := ∃ d o, x = .ref d ∧ ((∃ kvs, H1 d = some (.frz o (.dK kvs)) ∧ R (Itk d o kvs) H1) ∨ ∃ kvs, H1 d = some (.frz o (.dT kvs)) ∧ R (Itkt d o kvs) H1)
theorem w_keys {td : TE} {R : It → Hp → Prop} (h : td σ H fun x H1 => rKeys x H1 R) : iKeys td σ H R := h
theorem w_keys' {d : Addr} {o : Obj} {kvs : List (Key × V)} {R : It → Hp → Prop} (e : H d = some (.frz o (.dK kvs))) (h : R (Itk d o kvs) H) : rKeys (.ref d) H R := ⟨d, o, rfl, .inl ⟨kvs, e, h⟩⟩
end
theorem w_tyes {R : Bool → Hp → Prop} (h : R true H) : tYes σ H R := h
theorem w_dinF {a : Addr} {o : Obj} {kvs : List (Key × V)} {n : Int} (e : H a = some (.frz o (.dK kvs))) (h : Q (.bl (valV kvs (Sum.inl n)).isSome) H) : rDIn (.ref a) (.int n) H Q := ⟨a, _, rfl, .inl ⟨kvs, Sum.inl n, .inr ⟨o, e⟩, rfl, rfl⟩, h⟩
theorem w_dgetF {a : Addr} {o : Obj} {kvs : List (Key × V)} {n : Int} {v : V} (e : H a = some (.frz o (.dK kvs))) (e2 : valV kvs (Sum.inl n) = some v) (h : Q v H) : rDGet (.ref a) (.int n) H Q := ⟨a, v, rfl, .inl ⟨kvs, Sum.inl n, .inr ⟨o, e⟩, rfl, e2.symm⟩, h⟩
/-! ### get, reversed, slices, pop -/
def rDGet1 (a : Addr) (y : V) (H : Hp) (Q : VK) : Prop := ∃ o, DGet H a y o ∧ Q (o.getD .non) H
theorem w_dget1 {td ty : TE} (h : td σ H fun x H1 => rIsD x H1 fun a H1 => ty σ H1 fun y H2 => rDGet1 a y H2 Q) : tDGet1 td ty σ H Q := h
theorem w_dget1I {a : Addr} {kvs : List (Key × V)} {n : Int} (e : H a = some (.dK kvs)) (h : Q ((valV kvs (Sum.inl n)).getD .non) H) : rDGet1 a (.int n) H Q := ⟨_, DGet.k (k := Sum.inl n) e, h⟩
def rRev (K : PySem.W.Frag) (vs : List V) (H : Hp) (R : It → Hp → Prop) : Prop := ∃ (a : Addr) (xs : List V), vs = [.ref a] ∧ SqL K H a xs ∧ R (Itv K a xs.length) H
theorem w_rev {ta : TA} {R : It → Hp → Prop} (h : ta σ H fun vs H1 => rRev K vs H1 R) : iRev K ta σ H R := h
theorem w_rev' {a : Addr} {xs : List V} {R : It → Hp → Prop} (h1 : SqL K H a xs) (h : R (Itv K a xs.length) H) : rRev K [.ref a] H R := ⟨a, xs, rfl, h1, h⟩
def rPart (x : V) (H : Hp) (R : Option Int → Hp → Prop) : Prop := ∃ i, x = .int i ∧ R (some i) H
theorem w_slice {r : V → Option Int → Option Int → Hp → VK → Prop} {te : TE} {tl th : TO} (h : te σ H fun x H1 => tl σ H1 fun l H2 => th σ H2 fun u H3 => r x l u H3 Q) : L2.tSl r te tl th σ H Q := h
theorem w_noPart {R : Option Int → Hp → Prop} (h : R none H) : tNoPart σ H R := h
theorem w_part {te : TE} {R : Option Int → Hp → Prop} (h : te σ H fun x H1 => rPart x H1 R) : tPart te σ H R := h
theorem w_part' {i : Int} {R : Option Int → Hp → Prop} (h : R (some i) H) : rPart (.int i) H R := ⟨i, rfl, h⟩
theorem w_bm0 {r : V → List V → Hp → VK → Prop} {to : TE} (h : to σ H fun x H1 => tyV K "list" x H1 ∧ r x [] H1 Q) : tBM0 K "list" r to σ H Q := h
theorem w_retN {nx bk ct : L2.St → Hp → Prop} {rt : VK} (h : rt .non H) : tRetN ⟨nx, rt, bk, ct⟩ σ H := h
end
end FW

set_option Elab.async false
set_option linter.all false
set_option maxRecDepth 100000
set_option maxHeartbeats 4000000
/-! Data of any kind: what isinstance says of them, and tuples of them to a depth. -/
namespace FW
open PySem PySem.Spec PyProof.Rows L2
inductive Ty (H : Hp) : V → String → Prop where
  | non : Ty H .non "NoneType"
  | bl (b : Bool) : Ty H (.bl b) "bool"
  | int (i : Int) : Ty H (.int i) "int"
  | str (z : Str) : Ty H (.str z) "str"
  | lst {a : Addr} {xs : List V} (e : H a = some (.lst xs)) : Ty H (.ref a) "list"
  | tup {a : Addr} {xs : List V} (e : H a = some (.tup xs)) : Ty H (.ref a) "tuple"
  | dK {a : Addr} {kvs : List (Key × V)} (e : H a = some (.dK kvs)) : Ty H (.ref a) "dict"
section
variable {K : PySem.W.Frag} {σ : L2.St} {H : Hp} {Q : VK} {x : V} {a : String}
theorem Ty.tx (t : Ty H x a) : TyX K H x (.type a) := by
  cases t with
  | non => exact .base .non
  | bl b => exact .base (.bl b)
  | int i => exact .base (.int i)
  | str z => exact .base (.str z)
  | lst e => exact .base (.lst e)
  | tup e => exact .base (.tup e)
  | dK e => exact .base (.dK e)
theorem Ty.kTup (t : Ty H x a) : kitB a "tuple" = some (decide (a = "tuple")) := by
  cases t with
  | non => exact kb_NoneType_tuple
  | bl b => exact kb_bool_tuple
  | int i => exact kb_int_tuple
  | str z => exact kb_str_tuple
  | lst e => exact kb_list_tuple
  | tup e => exact kb_tuple_tuple
  | dK e => exact kb_dict_tuple
theorem Ty.kInt (t : Ty H x a) : kitB a "int" = some (decide (a = "int") || decide (a = "bool")) := by
  cases t with
  | non => exact kb_NoneType_int
  | bl b => exact kb_bool_int
  | int i => exact kb_int_int
  | str z => exact kb_str_int
  | lst e => exact kb_list_int
  | tup e => exact kb_tuple_int
  | dK e => exact kb_dict_int
theorem Ty.kBool (t : Ty H x a) : kitB a "bool" = some (decide (a = "bool")) := by
  cases t with
  | non => exact kb_NoneType_bool
  | bl b => exact kb_bool_bool
  | int i => exact kb_int_bool
  | str z => exact kb_str_bool
  | lst e => exact kb_list_bool
  | tup e => exact kb_tuple_bool
  | dK e => exact kb_dict_bool
theorem w_isTup (t : Ty H x a) (h : Q (.bl (decide (a = "tuple"))) H) : rIsi K [x, .ty "tuple"] H Q := w_isi t.tx t.kTup h
theorem w_isInt (t : Ty H x a) (h : Q (.bl (decide (a = "int") || decide (a = "bool"))) H) : rIsi K [x, .ty "int"] H Q := w_isi t.tx t.kInt h
theorem w_isBool (t : Ty H x a) (h : Q (.bl (decide (a = "bool"))) H) : rIsi K [x, .ty "bool"] H Q := w_isi t.tx t.kBool h
theorem Ty.isInt (t : Ty H x a) (e : a = "int") : ∃ i, x = .int i := by
  cases t with
  | int i => exact ⟨i, rfl⟩
  | non => exact absurd e (by decide)
  | bl _ => exact absurd e (by decide)
  | tup _ => exact absurd e (by decide)
  | str _ => exact absurd e (by decide)
  | lst _ => exact absurd e (by decide)
  | dK _ => exact absurd e (by decide)
theorem Ty.ofInt {i : Int} (t : Ty H (.int i) a) : a = "int" := by
  cases t with
  | int i => rfl
theorem Ty.ofTup {p : Addr} {xs : List V} (t : Ty H (.ref p) a) (e : H p = some (.tup xs)) : a = "tuple" := by
  cases t with
  | tup h => rfl
  | lst h => rw [e] at h; cases h
  | dK h => rw [e] at h; cases h
end
/-- data: a tuple of data, or another thing -/
inductive Dat (B : Nat) (H : Hp) : V → Prop where
  | leaf {x : V} {a : String} (t : Ty H x a) (h : a ≠ "tuple") : Dat B H x
  | tup {p : Addr} {xs : List V} (e : H p = some (.tup xs)) (l : xs.length ≤ B) (h : ∀ y ∈ xs, Dat B H y) : Dat B H (.ref p)
theorem Dat.int {B : Nat} {H : Hp} {i : Int} : Dat B H (.int i) := .leaf (.int i) (by decide)
theorem Dat.ty {B : Nat} {H : Hp} {x : V} (h : Dat B H x) : ∃ a, Ty H x a := by
  cases h with
  | leaf t _ => exact ⟨_, t⟩
  | tup e _ _ => exact ⟨_, .tup e⟩
/-- what keeps tuples, and of lists and dicts their kind -/
structure KD (H H' : Hp) : Prop where
  t : KT H H'
  l : ∀ b xs, H b = some (.lst xs) → ∃ ys, H' b = some (.lst ys)
  d : ∀ b kvs, H b = some (.dK kvs) → ∃ kws, H' b = some (.dK kws)
theorem KD.of {H H' : Hp} (k : Same H H') : KD H H' := ⟨KT.of k, fun b xs e => ⟨xs, k _ _ e⟩, fun b kvs e => ⟨kvs, k _ _ e⟩⟩
theorem KD.refl {H : Hp} : KD H H := ⟨KT.refl, fun b xs e => ⟨xs, e⟩, fun b kvs e => ⟨kvs, e⟩⟩
theorem KD.trans {H H1 H2 : Hp} (a : KD H H1) (b : KD H1 H2) : KD H H2 := ⟨a.t.trans b.t, fun c xs e => by
  obtain ⟨ys, e⟩ := a.l c xs e
  exact b.l c ys e, fun c xs e => by
  obtain ⟨ys, e⟩ := a.d c xs e
  exact b.d c ys e⟩
theorem KD.off {p : Addr} {H H' : Hp} {xs ys : List V} (k : Off p H H') (e : H p = some (.lst xs)) (e' : H' p = some (.lst ys)) : KD H H' := ⟨KT.off k e, fun b zs h => by
  by_cases q : b = p
  · subst q; exact ⟨ys, e'⟩
  · exact ⟨zs, k.get q h⟩, fun b kvs h => ⟨kvs, k.get (ne_of h e (fun z => nomatch z)) h⟩⟩
theorem Ty.kd {H H' : Hp} {x : V} {a : String} (t : Ty H x a) (k : KD H H') : Ty H' x a := by
  cases t with
  | non => exact .non
  | bl b => exact .bl b
  | int i => exact .int i
  | str z => exact .str z
  | lst e => obtain ⟨ys, e⟩ := k.l _ _ e; exact .lst e
  | tup e => exact .tup (k.t _ _ e)
  | dK e => obtain ⟨ys, e⟩ := k.d _ _ e; exact .dK e
theorem Dat.kd {B : Nat} {H H' : Hp} {x : V} (h : Dat B H x) (k : KD H H') : Dat B H' x := by
  induction h with
  | leaf t h => exact .leaf (t.kd k) h
  | tup e l _ ih => exact .tup (k.t _ _ e) l fun y hy => ih y hy
theorem Dat.mono {B C : Nat} (hB : B ≤ C) {H : Hp} {x : V} (h : Dat B H x) : Dat C H x := by
  induction h with
  | leaf t h => exact .leaf t h
  | tup e l _ ih => exact .tup e (Nat.le_trans l hB) fun y hy => ih y hy
theorem Dat.cases {B : Nat} {H : Hp} {x : V} (h : Dat B H x) : (∃ a, Ty H x a ∧ a ≠ "tuple") ∨ ∃ (p : Addr) (xs : List V), x = .ref p ∧ H p = some (.tup xs) ∧ xs.length ≤ B ∧ ∀ y ∈ xs, Dat B H y := by
  cases h with
  | leaf t h => exact .inl ⟨_, t, h⟩
  | tup e l h => exact .inr ⟨_, _, rfl, e, l, h⟩
theorem Deck.kd {H H' : Hp} {d c : Addr} {n m : Nat} (D : Deck H d c n) (D' : Deck H' d c m) (o : Off d H H') : KD H H' := by
  obtain ⟨⟨xs, e⟩, _⟩ := D.at
  obtain ⟨⟨ys, e'⟩, _⟩ := D'.at
  exact KD.off o e e'
section
variable {K : PySem.W.Frag} {H : Hp} {Q : VK}
theorem w_cat {l b : Addr} {xs zs : List V} (h1 : H l = some (.lst xs)) (h2 : H b = some (.lst zs)) (hz : xs.length + zs.length ≤ sizeLine) (h : ∀ p H1, H p = none → H1 p = some (.lst (xs ++ zs)) → Same H H1 → Q (.ref p) H1) : rCat (.ref l) (.ref b) H Q := ⟨l, b, xs, zs, rfl, rfl, h1, h2, hz, w_new h⟩
end
/-! ### except X as e -/
def tTryA (K : PySem.W.Frag) (c : Value) (i : Nat) (tb : WX → TS) (ts : Addr → Value → Option Addr → TS) : TS := fun D σ H => tb (wAs K c i ts (fun _ _ _ _ => False) D) D σ H
def tGuard (P : Prop) (t : TS) : TS := fun D σ H => P ∧ t D σ H
section
variable {X : Cx} {x n : Str} {c : Value} {i : Nat} {body suite : List Stmt} {b₀ : Stmt} {np pos pos' : Pos} {tb : WX → TS} {ts : Addr → Value → Option Addr → TS}
theorem p_tryAs (hs : X.stack = X.env :: X.outer) (hf : X.env.frame = some X.env.locals) (hN : X.N.Nodup) (hi : X.N[i]? = some n) (hln : X.env.kindOf n = some .local) (hc : Names X x c)
    (hb : ∀ (W : WX) (pn : List (Addr × Obj)) (xe : Value → Shared → Prop), Takes (X.tr pn xe) W → PassesOwn (model X.prog X.w) X.A X.env xe → PSs (X.tr pn xe) body (tb W))
    (hsu : ∀ (a : Addr) (oe : Obj) (cls : Value) (d : Option Addr) (pn : List (Addr × Obj)), Zc cls d oe → (∃ vs, oe.data = .fields vs) → PSs (X.suite a ((a, oe) :: pn)) (b₀ :: suite) (ts a cls d)) :
    PS X (.Try body [.ExceptHandler (some (.Name x np)) (some n) (b₀ :: suite) pos'] [] [] pos) (tTryA X.K c i tb ts) := ps_try_as hs hf hN hi hln hc takes0 hb hsu
theorem pss_guard {P : Prop} {ss : List Stmt} {t : TS} (h : P → PSs X ss t) : PSs X ss (tGuard P t) := ⟨fun pins s σ H D I hw => (h hw.1).run pins s σ H D I hw.2⟩
end
section
variable {K : PySem.W.Frag} {σ : L2.St} {H : Hp} {Q : VK} {nx bk ct : L2.St → Hp → Prop} {rt : VK}
theorem w_tryA {c : Value} {i : Nat} {tb : WX → TS} {ts : Addr → Value → Option Addr → TS} (h : tb (wAs K c i ts (fun _ _ _ _ => False) ⟨nx, rt, bk, ct⟩) ⟨nx, rt, bk, ct⟩ σ H) : tTryA K c i tb ts ⟨nx, rt, bk, ct⟩ σ H := h
theorem w_guard {P : Prop} {t : TS} (p : P) (h : t ⟨nx, rt, bk, ct⟩ σ H) : tGuard P t ⟨nx, rt, bk, ct⟩ σ H := ⟨p, h⟩
end
end FW

set_option Elab.async false
set_option linter.all false
set_option maxRecDepth 100000
set_option maxHeartbeats 4000000
/-! own errors with fields: made, caught, looked at; min of pairs; defaults by keyword -/
namespace FW
section
open PySem PySem.W PySem.Calls PyProof.Rows
variable {prog : Program} {w : World} {A : Around} {E : Value → Shared → Prop} {s : Shared} {K : Frag} {x D : Addr} {ox : Obj} {od : Option Obj}
theorem fo_data {C : Addr} {name : Str} {a g : Value} (hc : (clsIn K C).isSome = true) (ha : findIn K (.ref C) name = some (some a)) (hg : specialIn K a "__get__" = some (some g)) (ht : takesIn K a = some true) : findObj K C od name = some (.bind g a) := by
  obtain ⟨cd, e⟩ := Option.isSome_iff_exists.mp hc
  unfold findObj; rw [e, Option.bind_some, ha, Option.bind_some]; simp [hg, ht]
theorem cls_look {Q : Option Value → Shared → Prop} (C : L2.ExcC K D) (X : K.In s.heap) (I : InstAt s.heap x ox D od) (h : Q (some (.ref D)) { s with toks := s.toks + 1 }) : wpAny (model prog w) A (getAttr? (.ref x) "__class__") Q E s := by
  have hf : findObj K D od "__class__" = some (.bind (.builtin "getset_descriptor.__get__") (.builtin "object.__class__")) := fo_data (by obtain ⟨cd, hc, _⟩ := any_some C.hd; rw [hc]; rfl) C.ha C.hn C.ht
  obtain ⟨hp, g, d, t, os⟩ := s
  have y0 := I.type (M := model prog w); have y1 := looks_findIn (M := model prog w) X C.hg
  have y2 := looks_findIn (M := model prog w) X C.hk; have y3 := looks_find (M := model prog w) X I hf
  have sub : Looks (model prog w) hp (isInstance (.ref x) (.type "BaseException")) true := y0.andThen (looks_subIn X C.hs)
  have n2 : (Value.builtin "BaseException.__getattribute__" == Value.builtin "object.__getattribute__") = false := by decide +kernel
  have n1 : (onTheHeap (Value.ref D) && Value.builtin "BaseException.__getattribute__" == Value.builtin "object.__getattribute__") = false := by rw [n2]; rfl
  unfold getAttr? getAttrBy? getAttrBy
  refine wpAny_bind (wpAny_mkText (wpAny_bind (wpAny_attempt (wpAny_holding (wpAny_bind (y0.at (wpAny_bind (y1.at ?_))))))))
  show wpAny _ _ (if (onTheHeap (Value.ref D) && Value.builtin "BaseException.__getattribute__" == Value.builtin "object.__getattribute__") = true then _ else _) _ _ _; rw [n1, if_neg Bool.false_ne_true]
  unfold getAttrByItsOwn hookBefore; refine wpAny_bind ?_; rw [if_pos (show onTheHeap (Value.ref D) = true from rfl)]; refine y2.at ?_
  refine wpAny_bind (wpAny_attempt (wpAny_holding ?_)); unfold callGetattribute; rw [show (false && onTheHeap (Value.builtin "BaseException.__getattribute__")) = false from rfl, if_neg Bool.false_ne_true]
  unfold boundAndCalled; rw [PySem.F.excAttr_ValueError.ga.bind (.ref x)]; refine wpAny_bind (wpAny_pure ?_)
  show wpAny _ _ (call (.builtin "BaseException.__getattribute__") [.ref x, .str "__class__" t]) _ _ _; refine wpAny_call (codeAny_call_builtin PySem.F.excAttr_ValueError.ga.plain PySem.F.entry_bexc_ga ?_)
  refine @check_slot (model prog w) _ _ ⟨hp, g, d, t + 1, os⟩ "BaseException.__getattribute__" "BaseException" "__getattribute__" (.ref x) [.str "__class__" t] [] _ (by decide +kernel) (by decide +kernel) sub (PySem.F.args_bexc_ga (.ref x) (.str "__class__" t)) ?_; unfold Builtin.«object.__getattribute__»
  refine wpAny_bind (wpAny_of_eq (a := ((Value.ref x : Value), [Value.str "__class__" t])) (by first | rfl | (simp only [slotArgs]; rfl)) ?_); refine wpAny_bind (wpAny_pure (wpAny_bind (y0.at (wpAny_bind (y3.at ?_)))))
  show wpAny _ _ (holding [Value.builtin "object.__class__"] (call (.builtin "getset_descriptor.__get__") [.builtin "object.__class__", .ref x, .ref D]) >>= ret) _ _ _; refine wpAny_bind (wpAny_holding (wpAny_call (class_get (s := ⟨hp, g, d, t + 1, os⟩) (ox := ox) (od := od) X I C.hm ?_)))
  refine wpAny_pure ?_; show wpAny _ _ (handedOut (.ref D)) _ _ _; rw [handedOut_of (v := .ref D) rfl]
  first | exact wpAny_pure (wpAny_pure h) | exact wpAny_pure h | exact wpAny_pure (wpAny_bind (wpAny_pure (wpAny_pure h)))
theorem kitx_of (C : L2.ExcC K D) : KitX K (.ref x) (.ref D) (fun h => InstAt h x ox D od) := by
  have Z : KitX K (.ref x) (.ref D) (fun h => InstAt h x ox D none) := handS_kitx_exc C.hg C.hk C.hs C.hd C.ha C.hn C.ht C.hm
  refine ⟨fun _ _ _ I => I.type, fun _ _ X _ => ?_, Z.ne, fun X I k => cls_look C X I k⟩
  obtain ⟨cd, hc, _⟩ := any_some C.hd
  unfold clsIn at hc
  split at hc
  · rename_i ho
    intro A' Q' E' s' k q
    unfold isType loadHead; exact wpAny_bind (wpAny_loadPart (k _ _ (X _ _ ho)) (wpAny_pure q))
  · cases hc
end
open PySem PySem.Spec PyProof.Rows L2
/-- isinstance(e, c), e the error that the suite holds, with its fields at d -/
def rIsF (K : PySem.W.Frag) (D a : Addr) (d : Option Addr) : List V → Hp → VK → Prop := fun xs H Q => ∃ (c : V) (cv : Value) (b : Bool) (dd : Addr) (fs : List (Str × V)), xs = [.ref a, c] ∧ d = some dd ∧ H dd = some (.xd fs) ∧ (∀ u, RelV c u → u = cv) ∧ PySem.W.kitOne K (.ref D) cv = some b ∧ Q (.bl b) H
theorem call_isF {X : Cx} {a D : Addr} {oe : Obj} {cls : Value} {d : Option Addr} {pn : List (Addr × Obj)} (C : ExcC X.K D) (hc : cls = .ref D) (hz : Zc cls d oe) (hf : ∃ vs, oe.data = .fields vs) : CallR (X.suite a ((a, oe) :: pn)) (.builtin "isinstance") (rIsF X.K D a d) := by
  intro pins s σ H xs us Q I r ⟨c, cv, b, dd, fs, e0, ed, ea, hcv, e, q⟩
  subst e0 hc ed
  cases r with
  | cons rx rr =>
    cases rr with
    | cons rt rr =>
      cases rr
      cases rx
      have ec := hcv _ rt
      subst ec
      obtain ⟨ha, _⟩ := I.pin (a, oe) (List.mem_append.mpr (.inl List.mem_cons_self))
      obtain ⟨vs, hv⟩ := hf
      have hx : ObjOk X.prog X.w H s.heap dd (.xd fs) := I.hok dd _ ea
      obtain ⟨mA, hns, _⟩ := hx
      obtain ⟨od, ho, _⟩ := lookIn_ns hns
      have J : PySem.W.InstAt s.heap a oe D (some od) := ⟨ha, hz.1, by unfold PySem.W.notCls; rw [hv] <;> rfl, by rw [hz.2]; exact ho⟩
      exact PySem.W.kia_one (kitx_of C) I.kIn J e (fun z => nomatch z) fun tk => ⟨.bl b, H, I.kept (t' := tk) fun _ _ z => z, rfl, q⟩
/-- an own error with __init__ -/
structure ExnI (K : PySem.W.Frag) (mg : Str → Option Value) (x : Str) (C fI : Addr) (fd : FuncData) (ps : List Str) (fs : List Str) : Prop where
  g : mg x = some (.ref C)
  T : OexC K C
  i : PySem.W.findIn K (.ref C) "__init__" = some (some (.ref fI))
  t : PySem.W.typeIn K (.ref fI) = some (.type "function")
  b : Binds K fd ps []
  f : XfC K C
  ec : ExcC K C
  nf : ∀ y ∈ fs, PySem.W.findIn K (.ref C) y = some none
/-- a def with keyword-only defaults -/
structure DfK (K : PySem.W.Frag) (mg : Str → Option Value) (x : Str) (st : Stmt) (ps : List Str) (kws : List (Str × V)) (dvs : List V) (f : Addr) (fd : FuncData) : Prop where
  fn : FunD K x x (defArgs st) (defBody st) (defScope st) [] kws f fd
  g : mg x = some (.ref f)
  kp : PySem.W.keepIn K (.ref f) = true
  b : ∃ ds, Vals dvs ds ∧ Binds K fd ps ds
  kb : ∃ g, KBn K fd ps (ps.length - kws.length) (kws.map (·.1)) g (fun vs zs => vs ++ zs)
/-- raise C(..) of two fields -/
def tRaiseO (C : Addr) (W : WX) (sp : Sp) (ta : TA) : TS := fun _ σ H => tMkO C sp [] ta σ H fun cls d H' => W cls d σ H'
section
variable {K : PySem.W.Frag} {σ : L2.St} {H : Hp} {Q : VK} {nx bk ct : L2.St → Hp → Prop} {rt : VK}
theorem w_mkO {C : Addr} {sp : Sp} {ta : TA} {Qx : XK} (h : ta σ H fun vs H1 => vs.length ≤ 1000 ∧ ∀ a, H1 a = none → sp (.ref a :: (vs ++ [])) (upd H1 a (exo a C none)) (fun v H2 => v = .non ∧ ∃ (d : Addr) (fs : List (Str × V)), H2 a = some (exo a C (some d)) ∧ H2 d = some (exd d fs) ∧ H1 d = none ∧ Qx (.ref C) (some d) (upd (del H2 a) d (.xd fs))) (fun _ _ _ => False)) : tMkO C sp [] ta σ H Qx := h
theorem w_callN {n m : Nat} {sp : Sp} {gV : List V → List V → List V} {E : XK} {t tk : TA} (h : t σ H fun vs H1 => tk σ H1 fun zs H2 => vs.length = n ∧ zs.length = m ∧ sp (gV vs zs) H2 Q E) : tCallN n m sp gV E t tk σ H Q := h
theorem w_xf {a C : Addr} {cls : Value} {d : Option Addr} {f : Str} {te : TE} (h : te σ H fun x H1 => x = .ref a ∧ cls = .ref C ∧ ∃ (dd : Addr) (fs : List (Str × V)) (v : V), d = some dd ∧ H1 dd = some (.xd fs) ∧ fs.lookup f = some v ∧ Q v H1) : tXf a cls d C f te σ H Q := h
theorem w_isF {a D C dd : Addr} {fs : List (Str × V)} {b : Bool} (ed : H dd = some (.xd fs)) (e : PySem.W.kitOne K (.ref D) (.ref C) = some b) (h : Q (.bl b) H) : rIsF K D a (some dd) [.ref a, .ref C] H Q := ⟨.ref C, .ref C, b, dd, fs, rfl, rfl, ed, fun u r => r, e, h⟩
theorem w_isFt {a D dd : Addr} {fs : List (Str × V)} {n : String} {b : Bool} (ed : H dd = some (.xd fs)) (e : PySem.W.kitOne K (.ref D) (.type n) = some b) (h : Q (.bl b) H) : rIsF K D a (some dd) [.ref a, .ty n] H Q := ⟨.ty n, .type n, b, dd, fs, rfl, rfl, ed, fun u r => r, e, h⟩
theorem w_ost {f : Str} {to te : TE} {D : Ends} (h : te σ H fun y H1 => to σ H1 fun x H2 => ∃ a C : Addr, x = .ref a ∧ OexC K C ∧ PySem.W.findIn K (.ref C) f = some none ∧ ((H2 a = some (exo a C none) ∧ ∀ dx, H2 dx = none → dx ≠ a → D.nx σ (upd (upd H2 dx (exd dx [(f, y)])) a (exo a C (some dx)))) ∨ ∃ (dx : Addr) (fs : List (Str × V)), H2 a = some (exo a C (some dx)) ∧ H2 dx = some (exd dx fs) ∧ fs.length ≤ 900 ∧ D.nx σ (upd H2 dx (exd dx ((f, y) :: fs))))) : tOst K f to te D σ H := h
end
/-- what __init__ of two fields leaves -/
def spInit2 (K : PySem.W.Frag) (C : Addr) (f g : Str) : Sp := fun vs H Q _ => ∃ (a : Addr) (x y : V), vs = [.ref a, x, y] ∧ H a = some (exo a C none) ∧ ∀ dx, H dx = none → dx ≠ a → Q .non (upd (upd (upd H dx (exd dx [(f, x)])) a (exo a C (some dx))) dx (exd dx [(g, y), (f, x)]))
def spInit1 (K : PySem.W.Frag) (C : Addr) (f : Str) : Sp := fun vs H Q _ => ∃ (a : Addr) (x : V), vs = [.ref a, x] ∧ H a = some (exo a C none) ∧ ∀ dx, H dx = none → dx ≠ a → Q .non (upd (upd H dx (exd dx [(f, x)])) a (exo a C (some dx)))
/-! ### min of a list of pairs -/
def LtP (p q : Int × Int) : Prop := p.1 < q.1 ∨ p.1 = q.1 ∧ p.2 < q.2
def rMinP (K : PySem.W.Frag) : List V → Hp → VK → Prop := fun vs H Q => ∃ (a : Addr) (ps : List (Addr × Int × Int)), vs = [V.ref a] ∧ SqL K H a (ps.map fun q => .ref q.1) ∧ (∀ q ∈ ps, H q.1 = some (.tup [.int q.2.1, .int q.2.2])) ∧ ps ≠ [] ∧ ∀ q ∈ ps, (∀ r ∈ ps, ¬ LtP r.2 q.2) → Q (.ref q.1) H
section
variable {X : Cx} {pins : List (Addr × Obj)} {σ : L2.St} {H : Hp} {s : Shared}
end
end FW

set_option Elab.async false
set_option linter.all false
set_option maxRecDepth 100000
set_option maxHeartbeats 4000000
/-! for i, x in enumerate(t), t a tuple -/
namespace FW
open PySem PySem.Spec PyProof.Rows L2
def ItU (K : PySem.W.Frag) (a : Addr) : It :=
  ⟨fun i H => ∃ (xs : List V) (x : V), SqT K H a xs ∧ xs[i]? = some x,
   fun i H v H' => ∃ T x, v = .ref T ∧ H T = none ∧ H' = upd H T (.tup [.int (i : Nat), x]) ∧ ∀ xs, SqT K H a xs → xs[i]? = some x,
   fun i H => ∃ xs : List V, SqT K H a xs ∧ xs.length = i⟩
section
variable {P : Program} {w : World} {K : PySem.W.Frag} {elts : List Expr} {kk : Nat} {tpos : Pos}
end
section
variable {prog : Program} {w : World} {A : Around} {E : Value → Shared → Prop} {s : Shared}
end
def rEnumT (K : PySem.W.Frag) (vs : List V) (H : Hp) (R : It → Hp → Prop) : Prop := ∃ a xs, vs = [.ref a] ∧ SqT K H a xs ∧ R (ItU K a) H
def iEnumT (K : PySem.W.Frag) (ta : TA) : TI := fun σ H R => ta σ H fun vs H1 => rEnumT K vs H1 R
def rLenD (vs : List V) (H : Hp) (Q : VK) : Prop := ∃ a kvs, vs = [V.ref a] ∧ H a = some (.dK kvs) ∧ Q (.int kvs.length) H
theorem c_lenD {X : Cx} : CallR X (.builtin "len") rLenD := call_lenD
theorem w_lenD {H : Hp} {Q : VK} {a : Addr} {kvs : List (Key × V)} (e : H a = some (.dK kvs)) (h : Q (.int kvs.length) H) : rLenD [.ref a] H Q := ⟨a, kvs, rfl, e, h⟩
section
variable {K : PySem.W.Frag} {σ : L2.St} {H : Hp} {a : Addr} {xs : List V}
theorem w_enum {ta : TA} {R : It → Hp → Prop} (h : ta σ H fun vs H1 => rEnumT K vs H1 R) : iEnumT K ta σ H R := h
theorem w_enum' {R : It → Hp → Prop} (h1 : SqT K H a xs) (h : R (ItU K a) H) : rEnumT K [.ref a] H R := ⟨a, xs, rfl, h1, h⟩
end
/-! ### what keeps all but the deck -/
structure KX (dk : Addr) (H H' : Hp) : Prop extends KD H H' where
  p : Kp [dk] H H'
theorem KX.of {d : Addr} {H H' : Hp} (k : Same H H') : KX d H H' := ⟨KD.of k, Kp.of k⟩
theorem KX.refl {d : Addr} {H : Hp} : KX d H H := ⟨KD.refl, Kp.refl⟩
theorem KX.trans {d : Addr} {H H1 H2 : Hp} (a : KX d H H1) (b : KX d H1 H2) : KX d H H2 := ⟨a.toKD.trans b.toKD, a.p.trans b.p⟩
theorem Deck.kx {H H' : Hp} {d c : Addr} {n m : Nat} (D : Deck H d c n) (D' : Deck H' d c m) (o : Off d H H') : KX d H H' := ⟨D.kd D' o, o.kp (by simp)⟩
instance {d : Addr} {H H' : Hp} : CoeOut (KX d H H') (KD H H') := ⟨KX.toKD⟩
end FW

set_option Elab.async false
set_option linter.all false
set_option maxRecDepth 100000
set_option maxHeartbeats 4000000
/-! sorted(d) of a dict of ints, of any length -/
namespace FW
open PySem PySem.Spec PyProof.Rows L2
def rSortA (xs : List V) (H : Hp) (Q : VK) : Prop := ∃ (a : Addr) (kvs : List (Key × V)) (ks : List Int), xs = [.ref a] ∧ Rd H a (.dK kvs) ∧ kvs.map (·.1) = ks.map Sum.inl ∧ ks.length ≤ 100000 ∧
    ∀ (ys : List Int) (p : Addr), ys.Perm ks → ys.Pairwise (· ≤ ·) → H p = none → Q (.ref p) (upd H p (.lst (ys.map V.int)))
theorem c_sortA {X : Cx} (hcalm : X.calm = true) : CallR X (.builtin "sorted") rSortA := by
  intro pins s σ H xs us Q I r ⟨a, kvs, ks, ex, hd, hks, hlk, q⟩
  subst ex
  obtain ⟨u, eu, rx⟩ := vals1 r
  subst eu
  cases rx
  obtain ⟨z, lo, vs, rel, dd⟩ := dk_rd I.hok hd
  obtain ⟨ep, hat⟩ := dd.dictAt
  have hkeys : vs.map (·.1) = ks.map Sum.inl := rel.keys.symm.trans hks
  have hl : vs.length = ks.length := by
    have e := congrArg List.length hkeys
    simpa using e
  have h16 : vs.length ≤ sizeLine := by rw [hl, sizeLine_eq]; omega
  refine Calls.call_function_entry kind_sorted plain_sorted entry_sorted (args_sorted1 _) ?_
  unfold Builtin.«sorted»; refine wpAny_bind (m := checkCount "sorted" 1 1 _) (wpAny_pure ?_)
  refine wpAny_bind (PySem.W.kdu_collect (A := X.A.in1) (PySem.W.kdl_dict (knd := mixKind X.prog X.w) (kvs := vs) (ep := ep) lo) (I.ok.hd hcalm) hat h16 fun h' tk acc hk hacc => ?_)
  have hal : acc.toList.length = ks.length := by rw [Array.length_toList, hacc.1, hl]
  have hS : IntsAre acc.toList ks := ints_each hal fun j v e => by
    obtain ⟨k, x, e1, e2⟩ := hacc.2 j v (by rw [← Array.getElem?_toList]; exact e)
    have e3 : (vs.map (·.1))[j]? = some k := by rw [List.getElem?_map, e1]; rfl
    rw [hkeys, List.getElem?_map] at e3
    obtain ⟨y, e4, e5⟩ := Option.map_eq_some_iff.mp e3
    subst e5
    rcases keyIs_shape (show keyIs (Sum.inl y) v = true from e2) with ⟨i, t, ek, ev⟩ | ⟨z, t, ek, ev⟩
    · cases ek
      exact ⟨y, t, e4, ev⟩
    · cases ek
  have I1 : Inv X pins σ H { s with heap := h', toks := tk } := I.kept hk
  have hz : acc.toList.length ≤ sizeLine := by rw [hal, sizeLine_eq]; omega
  refine wpAny_bind (wpAny_newList ?_ hz)
  have hoL : (h'.push (seqObj "list" acc.toList.toArray 0)).get? h'.objs.size = some (seqObj "list" acc.toList.toArray 0) := Heap.get?_push_size _ rfl
  show wpAny _ _ _ _ _ { s with heap := h'.push (seqObj "list" acc.toList.toArray 0), toks := tk }
  refine wpAny_bind (wpAny_holding (wpAny_call_entry slot_list_sort ⟨_, hoL, rfl⟩ entry_list_sort (SrtO.list_sort_ord (s := { s with heap := h'.push (seqObj "list" acc.toList.toArray 0), toks := tk }) SrtO.swo_int hoL hz (fun h2 => SrtO.ints_sortable hS h2) fun out h1 h2 => ⟨_, rfl, ?_⟩) (args_list_sort _)))
  obtain ⟨g1, g2, g3⟩ := SrtO.ints_out hS h1 h2
  obtain ⟨e', he'⟩ := sortedHeap_at (vs := acc.toList) (out := out.toArray) hoL
  have hlen : ((out.map SrtO.iv).map V.int).length ≤ sizeLine := by rw [List.length_map, g2.length_eq, ← hal]; exact hz
  refine wpAny_pure ⟨_, rfl, .ref h'.objs.size, upd H h'.objs.size (.lst ((out.map SrtO.iv).map V.int)), I1.laid (t' := tk) (fun b u e => ?_) (Nat.le_refl _) (show ObjOk X.prog X.w _ _ _ (.lst ((out.map SrtO.iv).map V.int)) from ⟨hlen, out, e', vals_of_ints g1, he'⟩), rfl, q _ _ g2 g3 (I1.hok.fresh (Nat.le_refl _))⟩
  have hb : b < h'.objs.size := Heap.lt_size e
  rw [sortedHeap_old (Nat.ne_of_lt hb) (by rw [size_push']; exact Nat.lt_succ_of_lt hb)]
  exact Heap.get?_push_of_some _ e
theorem w_sortA {H : Hp} {Q : VK} {a : Addr} {kvs : List (Key × V)} {ks : List Int} (e : H a = some (.dK kvs)) (hk : kvs.map (·.1) = ks.map Sum.inl) (hl : ks.length ≤ 100000) (h : ∀ (ys : List Int) p H1, ys.Perm ks → ys.Pairwise (· ≤ ·) → H p = none → H1 p = some (.lst (ys.map V.int)) → Same H H1 → Q (.ref p) H1) : rSortA [.ref a] H Q :=
  ⟨a, kvs, ks, rfl, .inl e, hk, hl, fun ys p g1 g2 hp => h ys p _ g1 g2 hp upd_same (Same.new hp)⟩
end FW

set_option Elab.async false
set_option linter.all false
set_option maxRecDepth 100000
set_option maxHeartbeats 4000000
/-! t[k::w] of a tuple; extend by a tuple; pairs in a list -/
namespace HT
open PySem PySem.Spec PyProof.Rows
section
variable {prog : Program} {w : World} {A : Around} {E : Value → Shared → Prop} {s : Shared}
def places (n k w : Nat) : Nat := (n - k - 1) / w + 1
def stepL {α : Type} (xs : List α) (k c : Nat) : List α := (List.range (places xs.length k c)).filterMap fun j => xs[k + j * c]?
end
end HT
namespace FW
open PySem PySem.Spec PyProof.Rows L2
/-- t[k::w] -/
def rStep (K : PySem.W.Frag) (x y z : V) (H : Hp) (Q : VK) : Prop := ∃ (a : Addr) (xs : List V) (k c : Nat), x = .ref a ∧ y = .int k ∧ z = .int c ∧ SqT K H a xs ∧ k < xs.length ∧ 0 < c ∧ (k = 0 → c = 1 → Q (.ref a) H) ∧ (¬ (k = 0 ∧ c = 1) → Nw (.tup (HT.stepL xs k c)) H Q)
def tStep (K : PySem.W.Frag) (te tl ts : TE) : TE := fun σ H Q => te σ H fun x H1 => tl σ H1 fun y H2 => ts σ H2 fun z H3 => rStep K x y z H3 Q
section
variable {X : Cx}
def rExtT (K : PySem.W.Frag) : V → List V → Hp → VK → Prop := fun x vs H Q => ∃ l b xs zs, x = .ref l ∧ vs = [.ref b] ∧ H l = some (.lst xs) ∧ H b = some (.tup zs) ∧ xs.length + zs.length ≤ sizeLine ∧ Q .non (upd H l (.lst (xs ++ zs)))
/-- a pair (int, truth) that is not in a list of such -/
def rNotInP (K : PySem.W.Frag) : R2 := fun x y H Q => ∃ (p a : Addr) (v : Int) (b : Bool) (an : List (Addr × Int × Bool)), x = .ref p ∧ y = .ref a ∧ H p = some (.tup [.int v, .bl b]) ∧ SqL K H a (an.map fun q => .ref q.1) ∧ (∀ q ∈ an, H q.1 = some (.tup [.int q.2.1, .bl q.2.2])) ∧ Q (.bl (decide ((v, b) ∉ an.map (·.2)))) H
end
section
variable {K : PySem.W.Frag} {σ : L2.St} {H : Hp} {Q : VK}
theorem w_step {te tl ts : TE} (h : te σ H fun x H1 => tl σ H1 fun y H2 => ts σ H2 fun z H3 => rStep K x y z H3 Q) : tStep K te tl ts σ H Q := h
end
end FW

set_option Elab.async false
set_option linter.all false
set_option maxRecDepth 100000
set_option maxHeartbeats 4000000
/-! a, .., *rest = t: the last target starred, t a tuple -/
namespace FW
open PySem PySem.Spec PyProof.Rows L2
section
variable {prog : Program} {w : World} {A : Around} {E : Value → Shared → Prop} {s : Shared}
end
/-- n names, then a starred one -/
def gStar (K : PySem.W.Frag) (j : Nat) (t : TGs) : TG := fun v σ H Q => ∃ a xs, v = .ref a ∧ SqT K H a xs ∧ j ≤ xs.length ∧ ∀ L, H L = none → t (xs.take j ++ [.ref L]) σ (upd H L (.lst (xs.drop j))) Q
section
variable {X : Cx} {pos : Pos}
end
end FW

set_option Elab.async false
set_option linter.all false
set_option maxRecDepth 100000
set_option maxHeartbeats 4000000
/-! try with several except clauses, each with or without a name -/
namespace FW
open PySem PySem.Spec PyProof.Rows L2
abbrev Suite := Addr → Value → Option Addr → TS
/-- the ends behind a suite whose name goes -/
def unset (i : Nat) (D : Ends) : Ends := ⟨fun σ H => D.nx (σ.set i none) H, D.rt, fun σ H => D.bk (σ.set i none) H, fun σ H => D.ct (σ.set i none) H⟩
def runCl (o : Option Nat) (ts : Suite) (a : Addr) (cls : Value) (d : Option Addr) (D : Ends) (σ : L2.St) (H : Hp) : Prop :=
  match o with
  | none => ts a cls d D σ H
  | some i => ts a cls d (unset i D) (σ.set i (some (.ref a))) H
def wCl (K : PySem.W.Frag) (Wo : WX) (D : Ends) : List (Value × Option Nat × Suite) → WX
  | [] => Wo
  | (c, o, ts) :: r => fun cls d σ H => ∃ b, PySem.W.exmOne K cls c = some b ∧ (b = true → ∀ a, H a = none → runCl o ts a cls d D σ H) ∧ (b = false → wCl K Wo D r cls d σ H)
inductive ClOk (X : Cx) : List ExceptHandler → List (Value × Option Nat × Suite) → Prop
  | nil : ClOk X [] []
  | only {x : Str} {c : Value} {ts : Suite} {st : Stmt} {sts : List Stmt} {p1 p2 : Pos} {hs : List ExceptHandler} {l : List (Value × Option Nat × Suite)} (nm : Names X x c)
      (su : ∀ a oe cls d pn, Zc cls d oe → (∃ vs, oe.data = .fields vs) → PSs (X.suite a ((a, oe) :: pn)) (st :: sts) (ts a cls d)) (r : ClOk X hs l) :
      ClOk X (.ExceptHandler (some (.Name x p1)) none (st :: sts) p2 :: hs) ((c, none, ts) :: l)
  | as {x n : Str} {c : Value} {i : Nat} {ts : Suite} {st : Stmt} {sts : List Stmt} {p1 p2 : Pos} {hs : List ExceptHandler} {l : List (Value × Option Nat × Suite)} (hi : X.N[i]? = some n) (hl : X.env.kindOf n = some .local) (nm : Names X x c)
      (su : ∀ a oe cls d pn, Zc cls d oe → (∃ vs, oe.data = .fields vs) → PSs (X.suite a ((a, oe) :: pn)) (st :: sts) (ts a cls d)) (r : ClOk X hs l) :
      ClOk X (.ExceptHandler (some (.Name x p1)) (some n) (st :: sts) p2 :: hs) ((c, some i, ts) :: l)
def tTryG (K : PySem.W.Frag) (l : List (Value × Option Nat × Suite)) (Wo : WX) (tb : WX → TS) : TS := fun D σ H => tb (wCl K Wo D l) D σ H
section
variable {X : Cx} {body : List Stmt} {h1 : ExceptHandler} {hs : List ExceptHandler} {l : List (Value × Option Nat × Suite)} {pos : Pos} {tb : WX → TS} {Wo : WX}
end
section
variable {K : PySem.W.Frag} {σ : L2.St} {H : Hp} {nx bk ct : L2.St → Hp → Prop} {rt : VK}
theorem w_tryG {l : List (Value × Option Nat × Suite)} {Wo : WX} {tb : WX → TS} (h : tb (wCl K Wo ⟨nx, rt, bk, ct⟩ l) ⟨nx, rt, bk, ct⟩ σ H) : tTryG K l Wo tb ⟨nx, rt, bk, ct⟩ σ H := h
end
end FW

set_option Elab.async false
set_option linter.all false
set_option maxRecDepth 100000
set_option maxHeartbeats 4000000
/-! {tuple: value for a in as if ..}: a dict keyed by tuples, one clause; pairs looked for in tuples; zip of tuples -/
namespace FW
open PySem PySem.Spec PyProof.Rows L2
section
variable {kx vx ta ia : Expr} {fa : List Expr} {sc : Scope} {ps : Pos}
abbrev one (kx vx ta ia : Expr) (fa : List Expr) (sc : Scope) (ps : Pos) : Expr := .DictComp kx vx [⟨ta, ia, fa, 0⟩] sc ps
variable {pg : Program} {wd : World} {A : Around} {R : Result → Shared → Prop} {st : Shared} {it : Value} {D : Addr} {env : Env}
end
section
variable {X : Cx}
variable {kx vx ta ia : Expr} {fa : List Expr} {sc : Scope} {ps qs : Pos} {own : List (Str × Nat)} {wa : TI} {ga : TG} {ra : TT} {tk tv : TE}
def DcTP (J : It) (g : TG) (tt : TT) (tk tv : TE) (vs : List Nat) (Q : VK) (σ : L2.St) (H1 : Hp) : Prop := ∀ D, H1 D = none → ∃ W : Nat → Nat → Hp → Prop, (∃ m, W 0 m (upd H1 D (.dT []))) ∧ ∀ i m H, W i m H →
  (J.stop i H ∧ Q (.ref D) H) ∨ (J.go i H ∧ ∃ Nx : Hp → Prop, (∀ H', Nx H' → ∃ m', m' < m ∧ W (i + 1) m' H') ∧ ∀ x H', J.yld i H x H' → g x (wipe σ vs) H' fun σ2 H2 => wipe σ2 vs = wipe σ vs ∧ tt σ2 H2 fun b H3 =>
    if b = true then tk σ2 H3 fun y H4 => tv σ2 H4 fun z H5 => ∃ kvs k b, y = .ref b ∧ H5 b = some (.tup (k.map kV)) ∧ H5 D = some (.dT kvs) ∧ kvs.length < sizeLine ∧ Nx (upd H5 D (.dT (putK kvs k z))) else Nx H3)
def tDcT (wi : TI) (g : TG) (tt : TT) (tk tv : TE) (vs : List Nat) : TE := fun σ H Q => wi σ H fun J H1 => DcTP J g tt tk tv vs Q σ H1
/-- a pair of ints that is not in a tuple of such -/
def rNotInT (K : PySem.W.Frag) : R2 := fun x y H Q => ∃ (p a : Addr) (v b : Int) (an : List (Addr × Int × Int)), x = .ref p ∧ y = .ref a ∧ H p = some (.tup [.int v, .int b]) ∧ SqT K H a (an.map fun q => .ref q.1) ∧ (∀ q ∈ an, H q.1 = some (.tup [.int q.2.1, .int q.2.2])) ∧ Q (.bl (decide ((v, b) ∉ an.map (·.2)))) H
end
section
variable {K : PySem.W.Frag} {σ : L2.St} {H : Hp} {Q : VK} {nx bk ct : L2.St → Hp → Prop} {rt : VK}
theorem w_dct {wi : TI} {g : TG} {tt : TT} {tk tv : TE} {vs : List Nat} (h : wi σ H fun J H1 => DcTP J g tt tk tv vs Q σ H1) : tDcT wi g tt tk tv vs σ H Q := h
/-- for a, b in zip(tuple, tuple) -/
def rZipA (K : PySem.W.Frag) (vs : List V) (H : Hp) (R : It → Hp → Prop) : Prop := ∃ a b xs ys, vs = [.ref a, .ref b] ∧ ((SqL K H a xs ∧ SqL K H b ys ∧ R (Itz K a b) H) ∨ (SqT K H a xs ∧ SqT K H b ys ∧ R (RZ.ItzT K a b) H))
theorem w_zipA {ta : TA} {R : It → Hp → Prop} (h : ta σ H fun vs H1 => rZipA K vs H1 R) : RZ.iZipA K ta σ H R := h
theorem w_zipT' {a b : Addr} {xs ys : List V} {R : It → Hp → Prop} (h1 : SqT K H a xs) (h2 : SqT K H b ys) (h : R (RZ.ItzT K a b) H) : rZipA K [.ref a, .ref b] H R := ⟨a, b, xs, ys, rfl, .inr ⟨h1, h2, h⟩⟩
end
end FW

set_option Elab.async false
set_option linter.all false
set_option maxRecDepth 100000
set_option maxHeartbeats 4000000
/-! try: .. except (A, B): .. -/
namespace FW
open PySem PySem.Spec PyProof.Rows L2
def wTwo (K : PySem.W.Frag) (c1 c2 : Value) (ts : Suite) (D : Ends) : WX := fun cls d σ H => PySem.W.exmAny K cls [c1, c2] = some true ∧ ∀ a, H a = none → ts a cls d D σ H
def tTry2 (K : PySem.W.Frag) (c1 c2 : Value) (tb : WX → TS) (ts : Suite) : TS := fun D σ H => tb (wTwo K c1 c2 ts D) D σ H
section
variable {X : Cx} {body sts : List Stmt} {st : Stmt} {x1 x2 : Str} {c1 c2 : Value} {p1 p2 p3 p4 p5 : Pos} {kk : Nat} {tb : WX → TS} {ts : Suite}
end
end FW

set_option Elab.async false
set_option linter.all false
set_option maxRecDepth 100000
set_option maxHeartbeats 4000000
/-! texts: len, in, signs one by one, join; lists taken apart; all -/
namespace FW
open PySem PySem.Spec PyProof.Rows L2
def rLenS : List V → Hp → VK → Prop := fun xs H Q => ∃ z, xs = [.str z] ∧ z.length ≤ sizeLine ∧ Q (.int z.length) H
def rInS : R2 := fun x y H Q => ∃ (c : Nat) (z : Str), x = .str ⟨#[c]⟩ ∧ y = .str z ∧ Q (.bl (decide (c ∈ z.cps.toList))) H
def rJoin (K : PySem.W.Frag) : V → List V → Hp → VK → Prop := fun x xs H Q => ∃ a p, ∃ ys : List Str, x = .str a ∧ xs = [.ref p] ∧ (SqL K H p (ys.map V.str) ∨ SqT K H p (ys.map V.str)) ∧ (ys.map (·.length)).sum + ys.length * a.length ≤ 16777216 ∧ Q (.str (Txt.join a ys)) H
def rIStr (v : V) (H : Hp) (R : It → Hp → Prop) : Prop := ∃ x, v = .str x ∧ R (Its x) H
def rLtS : R2 := fun x y H Q => ∃ i j : Str, x = .str i ∧ y = .str j ∧ Q (.bl (decide (i.cps.toList < j.cps.toList))) H
def rGtS : R2 := fun x y H Q => ∃ i j : Str, x = .str i ∧ y = .str j ∧ Q (.bl (decide (j.cps.toList < i.cps.toList))) H
section
variable {X : Cx}
theorem o_ltS : OpR X (compareOp .Lt) rLtS := op_lt_str
theorem c_lenS : CallR X (.builtin "len") rLenS := call_len_str
theorem o_inS : OpR X (compareOp .In) rInS := op_in_sign
theorem p_join {o e : Expr} {to te : TE} {apos pos : Pos} (ho : PE X o to) (he : PE X e te) (hs : starEach [e] X.env = [(false, eval e X.env)] := by rfl) (hbase : attributeBase o "join" X.env (eval o X.env) = eval o X.env := by rfl) (hline : (apos.endLine == pos.line) = true := by rfl) :
    PE X (.Call (.Attribute o "join" apos) [e] [] pos) (tM1 (rJoin X.K) to te) := pe_join ho he hs hbase hline
end
section
variable {K : PySem.W.Frag} {σ : L2.St} {H : Hp} {Q : VK} {nx bk ct : L2.St → Hp → Prop} {rt : VK}
theorem w_callD {sp : Sp} {dvs : List V} {E : XK} {t : TA} (h : t σ H fun vs H1 => sp (vs ++ dvs) H1 Q E) : tCall sp dvs E t σ H Q := h
theorem w_ipI {g : Int → Int → Int} {i j : Int} (h : Q (.int (g i j)) H) : ipI g (.int i) (.int j) H Q := ⟨i, j, rfl, rfl, h⟩
theorem w_ltS {x y : Str} (h : Q (.bl (decide (x.cps.toList < y.cps.toList))) H) : rLtS (.str x) (.str y) H Q := ⟨x, y, rfl, rfl, h⟩
theorem w_gtS {x y : Str} (h : Q (.bl (decide (y.cps.toList < x.cps.toList))) H) : rGtS (.str x) (.str y) H Q := ⟨x, y, rfl, rfl, h⟩
theorem w_neS {x y : Str} (h : Q (.bl (!decide (x = y))) H) : rNe (.str x) (.str y) H Q := ⟨rfl, by
  have e : decide (V.str x = V.str y) = decide (x = y) := by
    by_cases q : x = y
    · subst q; rw [decide_eq_true rfl, decide_eq_true rfl]
    · rw [decide_eq_false q, decide_eq_false (fun z => q (V.str.inj z))]
  rw [e]; exact h⟩
theorem w_lenS {z : Str} (h1 : z.length ≤ sizeLine) (h : Q (.int z.length) H) : rLenS [.str z] H Q := ⟨z, rfl, h1, h⟩
theorem w_inS {c : Nat} {z : Str} (h : Q (.bl (decide (c ∈ z.cps.toList))) H) : rInS (.str ⟨#[c]⟩) (.str z) H Q := ⟨c, z, rfl, rfl, h⟩
theorem w_ixS {z : Str} {i : Int} {c : Nat} (h1 : z.length ≤ sizeLine) (h2 : atI z.cps.toList i = some c) (h : Q (.str ⟨#[c]⟩) H) : rIxS (.str z) (.int i) H Q := ⟨z, i, c, rfl, rfl, h1, h2, h⟩
theorem w_m1 {r : V → List V → Hp → VK → Prop} {to te : TE} (h : to σ H fun x H1 => (∃ a, x = .str a) ∧ te σ H1 fun y H2 => r x [y] H2 Q) : tM1 r to te σ H Q := h
theorem w_isS {z : Str} {A : Prop} (h : A) : (∃ a, V.str z = .str a) ∧ A := ⟨⟨z, rfl⟩, h⟩
theorem w_joinL {a : Str} {p : Addr} {ys : List Str} (h1 : SqL K H p (ys.map V.str)) (h2 : (ys.map (·.length)).sum + ys.length * a.length ≤ 16777216) (h : Q (.str (Txt.join a ys)) H) : rJoin K (.str a) [.ref p] H Q := ⟨a, p, ys, rfl, rfl, .inl h1, h2, h⟩
theorem w_istr {te : TE} {R : It → Hp → Prop} (h : te σ H fun v H1 => rIStr v H1 R) : iStr te σ H R := h
theorem w_istr' {z : Str} {R : It → Hp → Prop} (h : R (Its z) H) : rIStr (.str z) H R := ⟨z, rfl, h⟩
theorem walk_str (x : Str) : Walk (Its x) x.cps.size (fun _ => True) (fun i H v H' => H' = H ∧ ∃ c, x.cps[i]? = some c ∧ v = .str ⟨#[c]⟩) := ⟨fun _ _ hi _ => hi, fun _ _ => Nat.le_refl _, fun _ _ _ _ _ _ y => y⟩
theorem w_glst {a : Addr} {xs : List V} {n : Nat} {t : TGs} {R : L2.St → Hp → Prop} (h1 : SqL K H a xs) (h2 : xs.length = n) (h : t xs σ H R) : gLst K n t (.ref a) σ H R := ⟨a, xs, rfl, h1, h2, h⟩
theorem w_all {p : Addr} {bs : List Bool} (h1 : SqL K H p (bs.map V.bl)) (h : Q (.bl (bs.all id)) H) : rAll K [.ref p] H Q := ⟨p, bs, rfl, h1, h⟩
theorem w_augI {i : Nat} {te : TE} {ti : TIp} {v : V} (e : σ[i]? = some (some v)) (h : te σ H fun x H1 => ti v x H1 fun z H2 => nx (σ.set i (some z)) H2) : tAug i te ti ⟨nx, rt, bk, ct⟩ σ H := ⟨v, e, h⟩
end
section
variable {P : Program} {w : World} {K : PySem.W.Frag} {mg : Str → Option Value} {base : Heap} {x qual : Str} {params : Arguments} {body : List Stmt} {scope : Scope} {dvs : List V} {kws : List (Str × V)} {f : Addr} {fd : FuncData}
/-- a def with defaults that lets nothing out -/
theorem okD {N ps : List Str} {k : Nat} {sp : Sp} (F : FunD K x qual params body scope dvs kws f fd) (S : FnScope N ps scope) (len : ∀ vs H Q E, sp vs H Q E → vs.length = ps.length)
    (hb : ∀ cdv A outer s H vs Q E, Room k (A.deeper (envOfC qual scope s.heap.objs.size f cdv)) → sp vs H Q E → ∃ t, PSs (cxOf CX0 P w K mg base N qual scope f cdv A outer s H E).nox body t ∧ t { nx := fun _ H' => Q .non H', rt := Q } (L2.start N vs) H) : FnOk P w K mg base CX0 (k + 1) f fd ps sp :=
  F.ok S len fun cdv A outer s H vs Q E hr h => by
    obtain ⟨t, p, q⟩ := hb cdv A outer s H vs Q E hr h
    exact ⟨t, p.nox, q⟩
end
/-- a def with defaults -/
structure DfD (K : PySem.W.Frag) (mg : Str → Option Value) (x : Str) (st : Stmt) (ps : List Str) (dvs : List V) (f : Addr) (fd : FuncData) : Prop where
  fn : FunD K x x (defArgs st) (defBody st) (defScope st) dvs [] f fd
  g : mg x = some (.ref f)
  kp : PySem.W.keepIn K (.ref f) = true
  b : ∃ ds, Vals dvs ds ∧ Binds K fd ps ds
/-- a def with several keyword-only defaults -/
structure DfKs (K : PySem.W.Frag) (mg : Str → Option Value) (x : Str) (st : Stmt) (ps : List Str) (kws : List (Str × V)) (dvs : List V) (f : Addr) (fd : FuncData) : Prop where
  fn : FunD K x x (defArgs st) (defBody st) (defScope st) [] kws f fd
  g : mg x = some (.ref f)
  kp : PySem.W.keepIn K (.ref f) = true
  b : ∃ ds, Vals dvs ds ∧ Binds K fd ps ds
theorem join_cps' : ∀ ys : List Str, (Str.join (Str.ofString "") ys).cps.toList = (ys.map fun y => y.cps.toList).flatten
  | [] => rfl
  | [y] => by
    show y.cps.toList = _
    simp
  | y :: z :: r => by
    have ih := join_cps' (z :: r)
    show (y.cps ++ (Str.ofString "").cps ++ (Str.join (Str.ofString "") (z :: r)).cps).toList = _
    rw [Array.toList_append, Array.toList_append, ih, List.map_cons (l := z :: r), List.flatten_cons]
    show y.cps.toList ++ [] ++ _ = _
    rw [List.append_nil]
theorem join_cps (ys : List Str) : (Txt.join (Str.ofString "") ys).cps.toList = (ys.map fun y => y.cps.toList).flatten := by
  have e : Txt.join (Str.ofString "") ys = Str.join (Str.ofString "") ys := StrLaws.glued_eq_join _ _
  rw [e]
  exact join_cps' ys
end FW

set_option Elab.async false
set_option linter.all false
set_option maxRecDepth 100000
set_option maxHeartbeats 4000000
/-! t[::-1] of a tuple -/
namespace HT
open PySem PySem.Spec PyProof.Rows
section
variable {prog : Program} {w : World} {A : Around} {E : Value → Shared → Prop} {s : Shared}
end
end HT
namespace FW
open PySem PySem.Spec PyProof.Rows L2
/-- t[::-1] -/
def rRevT (K : PySem.W.Frag) (x z : V) (H : Hp) (Q : VK) : Prop := ∃ (a : Addr) (xs : List V), x = .ref a ∧ z = .int (-1) ∧ SqT K H a xs ∧ Nw (.tup xs.reverse) H Q
def tRevT (K : PySem.W.Frag) (te ts : TE) : TE := fun σ H Q => te σ H fun x H1 => ts σ H1 fun z H3 => rRevT K x z H3 Q
section
variable {X : Cx}
end
section
variable {K : PySem.W.Frag} {σ : L2.St} {H : Hp} {Q : VK}
theorem w_revT {te ts : TE} (h : te σ H fun x H1 => ts σ H1 fun z H3 => rRevT K x z H3 Q) : tRevT K te ts σ H Q := h
end
end FW

set_option Elab.async false
set_option linter.all false
set_option maxRecDepth 100000
set_option maxHeartbeats 4000000
/-! text * number, tuple * number, texts put together -/
namespace FW
open PySem PySem.Spec PyProof.Rows L2
def rRepS : R2 := fun x y H Q => ∃ (z : Str) (k : Int), x = .str z ∧ y = .int k ∧ z.length ≤ 16 ∧ 0 ≤ k ∧ k ≤ 1000 ∧ Q (.str (Txt.mul z k)) H
def rAddS : R2 := fun x y H Q => ∃ i j : Str, x = .str i ∧ y = .str j ∧ i.length + j.length ≤ sizeLine ∧ Q (.str (i ++ j)) H
theorem o_addS {X : Cx} : OpR X (binaryOp .Add) rAddS := op_add_str
section
variable {K : PySem.W.Frag} {H : Hp} {Q : VK}
theorem w_addS {i j : Str} (h1 : i.length + j.length ≤ sizeLine) (h : Q (.str (i ++ j)) H) : rAddS (.str i) (.str j) H Q := ⟨i, j, rfl, rfl, h1, h⟩
end
end FW

set_option Elab.async false
set_option linter.all false
set_option maxRecDepth 100000
set_option maxHeartbeats 4000000
/-! dicts whose keys are nested tuples of ints, texts and None -/
namespace FW
open PySem PySem.Spec PyProof.Rows L2
mutual
/-- the thing v is the key k -/
inductive NAt (H : Hp) : NestedKey → V → Prop
  | non : NAt H .none .non
  | int (i : Int) : NAt H (.num i) (.int i)
  | str (x : Str) : NAt H (.text x) (.str x)
  | tup {a : Addr} {ks : List NestedKey} {xs : List V} : H a = some (.tup xs) → NAll H ks xs → NAt H (.tup ks) (.ref a)
  | frz {a : Addr} {o : Obj} {ks : List NestedKey} {xs : List V} : H a = some (.frz o (.tup xs)) → NAll H ks xs → NAt H (.tup ks) (.ref a)
inductive NAll (H : Hp) : List NestedKey → List V → Prop
  | nil : NAll H [] []
  | cons {k : NestedKey} {v : V} {ks : List NestedKey} {vs : List V} : NAt H k v → NAll H ks vs → NAll H (k :: ks) (v :: vs)
end
mutual
theorem NAt.kt {H H' : Hp} (t : KT H H') : ∀ (k : NestedKey) (v : V), NAt H k v → NAt H' k v
  | .none, _, h => by cases h; exact .non
  | .num i, _, h => by cases h; exact .int i
  | .text x, _, h => by cases h; exact .str x
  | .tup ks, _, h => by
    cases h with
    | tup e all => exact .tup (t _ _ e) (NAll.kt t ks _ all)
    | frz e all => exact .frz (t.f _ _ _ e) (NAll.kt t ks _ all)
theorem NAll.kt {H H' : Hp} (t : KT H H') : ∀ (ks : List NestedKey) (vs : List V), NAll H ks vs → NAll H' ks vs
  | [], _, h => by cases h; exact .nil
  | k :: ks, _, h => by
    cases h with
    | cons a b => exact .cons (NAt.kt t k _ a) (NAll.kt t ks _ b)
end
mutual
theorem NAt.inj {H : Hp} : ∀ (k k' : NestedKey) (v : V), NAt H k v → NAt H k' v → k = k'
  | .none, _, _, h, h' => by cases h; cases h'; rfl
  | .num i, _, _, h, h' => by cases h; cases h'; rfl
  | .text x, _, _, h, h' => by cases h; cases h'; rfl
  | .tup ks, _, _, h, h' => by
    cases h with
    | tup e all =>
      cases h' with
      | tup e' all' =>
        rw [e] at e'
        cases e'
        rw [NAll.inj ks _ _ all all']
      | frz e' all' =>
        rw [e] at e'
        cases e'
    | frz e all =>
      cases h' with
      | tup e' all' =>
        rw [e] at e'
        cases e'
      | frz e' all' =>
        rw [e] at e'
        cases e'
        rw [NAll.inj ks _ _ all all']
theorem NAll.inj {H : Hp} : ∀ (ks ks' : List NestedKey) (vs : List V), NAll H ks vs → NAll H ks' vs → ks = ks'
  | [], _, _, h, h' => by cases h; cases h'; rfl
  | k :: ks, _, _, h, h' => by
    cases h with
    | cons a b =>
      cases h' with
      | cons a' b' => rw [NAt.inj k _ _ a a', NAll.inj ks _ _ b b']
end
section
variable {X : Cx} {pins : List (Addr × Obj)} {σ : L2.St} {H : Hp} {s : Shared}
mutual
theorem NAt.is (I : Inv X pins σ H s) : ∀ (k : NestedKey) (v : V) (u : Value), NAt H k v → RelV v u → NestedIs s.heap k u
  | .none, _, _, h, r => by
    cases h
    cases r
    exact .none
  | .num i, _, _, h, r => by
    cases h
    obtain ⟨t, rfl⟩ := r
    exact .int i t
  | .text x, _, _, h, r => by
    cases h
    obtain ⟨t, rfl⟩ := r
    exact .text x t
  | .tup ks, _, _, h, r => by
    cases h with
    | @tup a _ xs e all =>
      cases r
      obtain ⟨_, its, rel, o, h1, h2, n, h3⟩ := (show ObjOk X.prog X.w H s.heap a (.tup xs) from I.hok a _ e)
      exact .tup h1 h2 h3 (NAll.is I ks _ _ all rel)
    | @frz a ob _ xs e all =>
      cases r
      obtain ⟨_, _, its, rel, o, h1, h2, n, h3⟩ := (show ObjOk X.prog X.w H s.heap a (.frz ob (.tup xs)) from I.hok a _ e)
      exact .tup h1 h2 h3 (NAll.is I ks _ _ all rel)
theorem NAll.is (I : Inv X pins σ H s) : ∀ (ks : List NestedKey) (vs : List V) (us : List Value), NAll H ks vs → Vals vs us → NestedAll s.heap ks us
  | [], _, _, h, r => by
    cases h
    cases r
    exact .nil
  | k :: ks, _, _, h, r => by
    cases h with
    | cons a b =>
      cases r with
      | cons ra rb => exact .cons (NAt.is I k _ _ a ra) (NAll.is I ks _ _ b rb)
end
end
abbrev NEnt := NestedKey × Addr × V
def NVal (xs : List NEnt) (k : NestedKey) : Option V := (xs.find? fun x => decide (x.1 = k)).map (·.2.2)
def NPut (xs : List NEnt) (k : NestedKey) (a : Addr) (v : V) : List NEnt := if (NVal xs k).isSome then xs.map (fun x => if x.1 = k then (x.1, x.2.1, v) else x) else xs ++ [(k, a, v)]
abbrev NRel : List NEnt → List (NestedKey × Addr × Value) → Prop := Paired fun p q => p.1 = q.1 ∧ p.2.1 = q.2.1 ∧ RelV p.2.2 q.2.2
theorem NRel.val {xs : List NEnt} {ys : List (NestedKey × Addr × Value)} (r : NRel xs ys) (k : NestedKey) : RelO (NVal xs k) ((atKey ys k).map (·.2)) := by
  induction r with
  | nil => exact True.intro
  | @cons p q ps qs h t ih =>
    obtain ⟨h1, _, h2⟩ := h
    by_cases e : p.1 = k
    · have e' : q.1 = k := h1.symm.trans e
      have b : atKey (q :: qs) k = some q.2 := by simp [atKey, List.find?_cons, e']
      have c : NVal (p :: ps) k = some p.2.2 := by simp [NVal, List.find?_cons, e]
      rw [c, b]
      exact h2
    · have e' : ¬ q.1 = k := fun z => e (h1.trans z)
      have b : atKey (q :: qs) k = atKey qs k := by simp [atKey, List.find?_cons, e']
      have c : NVal (p :: ps) k = NVal ps k := by simp [NVal, List.find?_cons, e]
      rw [c, b]
      exact ih
theorem NRel.put {xs : List NEnt} {ys : List (NestedKey × Addr × Value)} (r : NRel xs ys) (k : NestedKey) (b : Addr) {y : V} {u : Value} (ry : RelV y u) : NRel (NPut xs k b y) (storedH ys k b u) := by
  have e : (NVal xs k).isSome = (atKey ys k).isSome := by rw [(r.val k).isSome_eq, Option.isSome_map]
  unfold NPut storedH
  rw [e]
  by_cases q : (atKey ys k).isSome = true
  · rw [if_pos q, if_pos q]
    clear e q
    induction r with
    | nil => exact .nil
    | @cons p q ps qs h t ih =>
      rw [List.map_cons, List.map_cons]
      refine .cons ?_ ih
      obtain ⟨h1, h2, h3⟩ := h
      unfold putAt
      by_cases e : p.1 = k
      · rw [if_pos e, if_pos (h1.symm.trans e)]
        exact ⟨h1, h2, ry⟩
      · rw [if_neg e, if_neg (fun z => e (h1.trans z))]
        exact ⟨h1, h2, h3⟩
  · rw [if_neg q, if_neg q]
    exact Paired.snoc r ⟨rfl, rfl, ry⟩
/-- the dict at a, keyed by nested tuples -/
def NO (P : Program) (w : World) (a : Addr) (xs : List NEnt) : HO := .ext fun h => xs.length ≤ sizeLine ∧ (a == sysModules) = false ∧ ∃ ys : List (NestedKey × Addr × Value), NRel xs ys ∧
  ∃ o es ep, h.get? a = some o ∧ o.ExactDict ∧ o.data = .dict es ep ∧ es.toList = ys.map (entryOfKey (nestedKind P w)) ∧ (ys.map (·.1)).Nodup
structure NDict (P : Program) (w : World) (H : Hp) (a : Addr) (xs : List NEnt) : Prop where
  at' : H a = some (NO P w a xs)
  keys : ∀ p ∈ xs, NAt H p.1 (.ref p.2.1) ∧ p.1.depth ≤ 8
theorem NDict.kp {P : Program} {w : World} {M : List Addr} {H H' : Hp} {a : Addr} {xs : List NEnt} (d : NDict P w H a xs) (k : Kp M H H') (t : KT H H') (h : a ∉ M) : NDict P w H' a xs :=
  ⟨k _ _ h d.at', fun p hp => ⟨NAt.kt t _ _ (d.keys p hp).1, (d.keys p hp).2⟩⟩
section
variable {X : Cx} {pins : List (Addr × Obj)} {σ : L2.St} {H : Hp} {s : Shared} {a : Addr} {xs : List NEnt}
theorem nd_of (I : Inv X pins σ H s) (d : NDict X.prog X.w H a xs) : xs.length ≤ sizeLine ∧ (a == sysModules) = false ∧ ∃ ys, NRel xs ys ∧ s.heap.DictOfH (nestedKind X.prog X.w) a ys := by
  obtain ⟨⟨z, y, ys, r, o, es, ep, h1, h2, h3, h4, h5⟩, hex, hst⟩ := (show ObjOk X.prog X.w H s.heap a (NO X.prog X.w a xs) from I.hok a _ d.at')
  refine ⟨z, y, ys, r, o, es, ep, h1, h2, h3, h4, ?_, h5⟩
  have hk := d.keys
  clear h4 h5 z d hex hst
  induction r with
  | nil => intro x hx; cases hx
  | @cons p q ps qs h t ih =>
    intro x hx
    rcases List.mem_cons.mp hx with rfl | hx
    · obtain ⟨g1, g2⟩ := hk p (by simp)
      have e1 : p.1 = x.1 := h.1
      have e2 : p.2.1 = x.2.1 := h.2.1
      rw [e1] at g1 g2
      rw [e2] at g1
      exact ⟨NAt.is I _ _ _ g1 rfl, g2⟩
    · exact ih (fun p hp => hk p (by simp [hp])) x hx
theorem nd_type (I : Inv X pins σ H s) (d : NDict X.prog X.w H a xs) : s.TypeIs (.ref a) "dict" ∧ (∀ b, Value.ref a = .ref b → ∃ ob, s.heap.get? b = some ob ∧ ob.dict = none) := by
  obtain ⟨_, _, ys, _, dd⟩ := nd_of I d
  refine ⟨dd.typeIs, fun b q => ?_⟩
  cases q
  obtain ⟨ob, _, _, h1, h2, _⟩ := dd
  exact ⟨ob, h1, h2.2.1⟩
theorem nk_is (I : Inv X pins σ H s) {b : Addr} {k : NestedKey} (h : NAt H k (.ref b)) (h8 : k.depth ≤ 8) : (nestedKind X.prog X.w).is s.heap k b := ⟨NAt.is I _ _ _ h rfl, h8⟩
variable {b : Addr} {k : NestedKey} {A : Around} {E : Value → Shared → Prop} {v : V} {r : Value}
theorem n_in {Q : Value → Shared → Prop} (hu : A.units + 9 < cLine) (I : Inv X pins σ H s) (d : NDict X.prog X.w H a xs) (hk : NAt H k (.ref b)) (h8 : k.depth ≤ 8) (h : ∀ s', Inv X pins σ H s' → Q (.bool (NVal xs k).isSome) s') :
    wpAny (model X.prog X.w) A (compareOp .In (.ref b) (.ref a)) Q E s := by
  obtain ⟨z, hd, ys, rel, dd⟩ := nd_of I d
  refine wpAny_in_heap (knd := nestedKind X.prog X.w) (show A.in1.units + 8 < cLine from by show A.units + 1 + 8 < cLine; omega) (nk_is I hk h8) hd dd ?_
  have q := (rel.val k).isSome_eq
  rw [Option.isSome_map] at q
  rw [← q]
  exact h _ (I.tok _)
theorem n_getItem {Q : Value → Shared → Prop} (hu : A.units + 9 < cLine) (I : Inv X pins σ H s) (d : NDict X.prog X.w H a xs) (hk : NAt H k (.ref b)) (h8 : k.depth ≤ 8) (l : NVal xs k = some v) (h : ∀ w' s', Inv X pins σ H s' → RelV v w' → Q w' s') :
    wpAny (model X.prog X.w) A (getItem (.ref a) (.ref b)) Q E s := by
  obtain ⟨z, hd, ys, rel, dd⟩ := nd_of I d
  obtain ⟨w', hw, rw'⟩ := RelO.some_of (v := v) (o := (atKey ys k).map (·.2)) (by rw [← l]; exact rel.val k)
  obtain ⟨p, hp, hp2⟩ := Option.map_eq_some_iff.mp hw
  refine wpAny_getItem_heap (knd := nestedKind X.prog X.w) (show A.in1.units + 8 < cLine from by show A.units + 1 + 8 < cLine; omega) (nk_is I hk h8) dd hp ?_
  rw [hp2]
  exact h w' _ (I.tok _) rw'
theorem n_setItem {Q : Unit → Shared → Prop} (hu : A.units + 9 < cLine) (I : Inv X pins σ H s) (d : NDict X.prog X.w H a xs) (hk : NAt H k (.ref b)) (h8 : k.depth ≤ 8) (hl : xs.length < sizeLine) (rv : RelV v r) (h : ∀ s', Inv X pins σ (upd H a (NO X.prog X.w a (NPut xs k b v))) s' → Q () s') :
    wpAny (model X.prog X.w) A (setItem (.ref a) (.ref b) r) Q E s := by
  obtain ⟨z, hd, ys, rel, dd⟩ := nd_of I d
  have hz : ys.length ≤ sizeLine := by rw [← Paired.length rel]; exact z
  have hl' : (NPut xs k b v).length ≤ sizeLine := by
    unfold NPut
    split
    · rw [List.length_map]; exact z
    · rw [List.length_append]; exact hl
  refine wpAny_setItem_heap (knd := nestedKind X.prog X.w) (hsz := hz) (show A.in1.units + 8 < cLine from by show A.units + 1 + 8 < cLine; omega) (nk_is I hk h8) dd fun h' dd' hs => h _ ?_
  obtain ⟨q, es, ep, hq, h2, h3, h4, _, h5⟩ := dd'
  refine d_write I (by rw [d.at']; exact True.intro) hs ⟨q, hq⟩ ⟨⟨hl', hd, _, rel.put k b rv, q, es, ep, hq, h2, h3, h4, h5⟩, ⟨q, hq⟩, ?_⟩
  rintro h1 h2' ⟨g1, g2, ys', g3, o, es, ep, g4, g5⟩ keep
  exact ⟨g1, g2, ys', g3, o, es, ep, keep _ g4, g5⟩
end
/-! ### the rules -/
def rNIn (P : Program) (w : World) (x y : V) (H : Hp) (Q : VK) : Prop := ∃ a b xs k, x = .ref a ∧ y = .ref b ∧ NDict P w H a xs ∧ NAt H k (.ref b) ∧ k.depth ≤ 8 ∧ Q (.bl (NVal xs k).isSome) H
def rNGet (P : Program) (w : World) (x y : V) (H : Hp) (Q : VK) : Prop := ∃ a b xs k v, x = .ref a ∧ y = .ref b ∧ NDict P w H a xs ∧ NAt H k (.ref b) ∧ k.depth ≤ 8 ∧ NVal xs k = some v ∧ Q v H
def rNIs (P : Program) (w : World) (x : V) (H : Hp) (R : Addr → Hp → Prop) : Prop := ∃ a xs, x = .ref a ∧ NDict P w H a xs ∧ R a H
def rNGet1 (P : Program) (w : World) (a : Addr) (y : V) (H : Hp) (Q : VK) : Prop := ∃ b xs k, y = .ref b ∧ NDict P w H a xs ∧ NAt H k (.ref b) ∧ k.depth ≤ 8 ∧ Q ((NVal xs k).getD .non) H
def rNPut (P : Program) (w : World) (x y v : V) (H : Hp) (R : Hp → Prop) : Prop := ∃ a b xs k, x = .ref a ∧ y = .ref b ∧ NDict P w H a xs ∧ NAt H k (.ref b) ∧ k.depth ≤ 8 ∧ xs.length < sizeLine ∧ R (upd H a (NO P w a (NPut xs k b v)))
def tNIn (P : Program) (w : World) (ty td : TE) : TE := fun σ H Q => ty σ H fun y H1 => td σ H1 fun x H2 => rNIn P w x y H2 Q
def tNGet (P : Program) (w : World) (td ty : TE) : TE := fun σ H Q => td σ H fun x H1 => ty σ H1 fun y H2 => rNGet P w x y H2 Q
def tNGet1 (P : Program) (w : World) (td ty : TE) : TE := fun σ H Q => td σ H fun x H1 => rNIs P w x H1 fun a H1 => ty σ H1 fun y H2 => rNGet1 P w a y H2 Q
def sNPut (P : Program) (w : World) (td ty tv : TE) : TS := fun D σ H => tv σ H fun v H1 => td σ H1 fun x H2 => ty σ H2 fun y H3 => rNPut P w x y v H3 fun H4 => D.nx σ H4
def tNNew (P : Program) (w : World) : TE := fun _ H Q => ∀ p, H p = none → Q (.ref p) (upd H p (NO P w p []))
section
variable {X : Cx} {o i e value : Expr} {pos pos' tpos apos cpos : Pos} {td ty tv : TE}
theorem pc_nin (hu : X.A.units + 64 < cLine) (hi : PE X i ty) (ho : PE X o td) : PC X .In i o (tNIn X.prog X.w ty td) := by
  refine ⟨fun pins s σ H Q I h => ?_⟩
  refine thn (hi.run pins s σ H _ I h) fun iv s1 ⟨y, H1, I1, ry, q1⟩ => thn (ho.run pins s1 σ H1 _ I1 q1) fun u s2 ⟨x, H2, I2, rx, a, b, xs, k, ex, ey, d, hk, h8, q2⟩ => ?_
  subst ex ey
  obtain rfl : u = Value.ref a := rx
  obtain rfl : iv = Value.ref b := ry
  exact n_in (by omega) I2 d hk h8 fun s3 I3 => ⟨.bl _, H2, I3, rfl, q2⟩
theorem pe_nget (hu : X.A.units + 64 < cLine) (ho : PE X o td) (hi : PE X i ty) (hs : NoSl i) : PE X (.Subscript o i pos) (tNGet X.prog X.w td ty) := by
  refine ⟨fun pins s σ H Q I h => ?_⟩
  refine subD_of PySem.F.slot_dict_getitem.lookup hs (thn (ho.run pins s σ H _ I h) fun u s1 ⟨x, H1, I1, rx, q1⟩ => thn (hi.run pins s1 σ H1 _ I1 q1) fun iv s2 ⟨y, H2, I2, ry, a, b, xs, k, v, ex, ey, d, hk, h8, l, q2⟩ => ?_)
  subst ex ey
  obtain rfl : u = Value.ref a := rx
  obtain rfl : iv = Value.ref b := ry
  exact ⟨(nd_type I2 d).1, n_getItem (by omega) I2 d hk h8 l fun w' s3 I3 rw' => ⟨v, H2, I3, rw', q2⟩⟩
theorem ps_nput (hu : X.A.units + 64 < cLine) (ho : PE X o td) (hi : PE X i ty) (hv : PE X value tv) (hs : swapsWith value (some (.Subscript o i pos')) pos.line X.env = pure false) :
    PS X (.Assign [.Subscript o i pos'] value pos) (sNPut X.prog X.w td ty tv) := by
  refine ⟨fun pins s σ H D I h => ?_⟩
  refine wpAny_Assign_Subscript (thn (hv.run pins s σ H _ I h) fun r s1 ⟨v, H1, I1, rv, q1⟩ => thn (ho.run pins s1 σ H1 _ I1 q1) fun u s2 ⟨x, H2, I2, rx, q2⟩ => thn (hi.run pins s2 σ H2 _ I2 q2) fun iv s3 ⟨y, H3, I3, ry, a, b, xs, k, ex, ey, d, hk, h8, hl, q3⟩ => ?_) hs
  subst ex ey
  obtain rfl : u = Value.ref a := rx
  obtain rfl : iv = Value.ref b := ry
  exact n_setItem (by omega) I3 d hk h8 hl rv fun s4 I4 => ⟨σ, _, I4, q3⟩
theorem pe_nnew : PE X (.Dict [] [] pos) (tNNew X.prog X.w) := ⟨fun pins s σ H Q I h =>
  wpAny_Dict_empty ⟨.ref s.heap.objs.size, _, I.laid (a := s.heap.objs.size) (o := NO X.prog X.w s.heap.objs.size []) (t' := s.toks) (fun _ _ q => Heap.get?_push_of_some _ q) (Nat.le_refl _)
    ⟨⟨Nat.zero_le _, beq_eq_false_iff_ne.mpr (Ne.symm (Nat.ne_of_lt I.big)), [], .nil, _, #[], 0, Heap.get?_push_size _ rfl, ⟨rfl, rfl, rfl⟩, rfl, rfl, List.nodup_nil⟩, ⟨_, Heap.get?_push_size _ rfl⟩, by
      rintro h1 h2' ⟨g1, g2, ys', g3, o, es, ep, g4, g5⟩ keep
      exact ⟨g1, g2, ys', g3, o, es, ep, keep _ g4, g5⟩⟩, rfl, h _ (I.hok.fresh (Nat.le_refl _))⟩⟩
end
section
variable {P : Program} {w : World} {K : PySem.W.Frag} {σ : L2.St} {H : Hp} {Q : VK} {nx bk ct : L2.St → Hp → Prop} {rt : VK} {v : V}
theorem w_nin {ty td : TE} (h : ty σ H fun y H1 => td σ H1 fun x H2 => rNIn P w x y H2 Q) : tNIn P w ty td σ H Q := h
theorem w_nget {td ty : TE} (h : td σ H fun x H1 => ty σ H1 fun y H2 => rNGet P w x y H2 Q) : tNGet P w td ty σ H Q := h
theorem w_nget1 {td ty : TE} (h : td σ H fun x H1 => rNIs P w x H1 fun a H1 => ty σ H1 fun y H2 => rNGet1 P w a y H2 Q) : tNGet1 P w td ty σ H Q := h
theorem w_nput {td ty tv : TE} (h : tv σ H fun v H1 => td σ H1 fun x H2 => ty σ H2 fun y H3 => rNPut P w x y v H3 fun H4 => nx σ H4) : sNPut P w td ty tv ⟨nx, rt, bk, ct⟩ σ H := h
theorem w_seqNP {td ty tv : TE} {u : TS} (h : tv σ H fun v H1 => td σ H1 fun x H2 => ty σ H2 fun y H3 => rNPut P w x y v H3 fun H4 => u ⟨nx, rt, bk, ct⟩ σ H4) : tSeq (sNPut P w td ty tv) u ⟨nx, rt, bk, ct⟩ σ H := h
theorem w_nin' {a b : Addr} {xs : List NEnt} {k : NestedKey} (d : NDict P w H a xs) (hk : NAt H k (.ref b)) (h8 : k.depth ≤ 8) (h : Q (.bl (NVal xs k).isSome) H) : rNIn P w (.ref a) (.ref b) H Q := ⟨a, b, xs, k, rfl, rfl, d, hk, h8, h⟩
theorem w_nget' {a b : Addr} {xs : List NEnt} {k : NestedKey} (d : NDict P w H a xs) (hk : NAt H k (.ref b)) (h8 : k.depth ≤ 8) (l : NVal xs k = some v) (h : Q v H) : rNGet P w (.ref a) (.ref b) H Q := ⟨a, b, xs, k, v, rfl, rfl, d, hk, h8, l, h⟩
theorem w_nput' {a b : Addr} {xs : List NEnt} {k : NestedKey} {R : Hp → Prop} (d : NDict P w H a xs) (hk : NAt H k (.ref b)) (h8 : k.depth ≤ 8) (hl : xs.length < sizeLine) (h : ∀ H1, NDict P w H1 a (NPut xs k b v) → Off a H H1 → R H1) : rNPut P w (.ref a) (.ref b) v H R := by
  refine ⟨a, b, xs, k, rfl, rfl, d, hk, h8, hl, h _ ⟨upd_same, fun p hp => ?_⟩ fun x hx => upd_ne hx⟩
  have t : KT H (upd H a (NO P w a (NPut xs k b v))) := ⟨fun c ys ec => upd_get (ne_of ec d.at' (fun z => nomatch z)) ec, fun c _ ys ec => upd_get (ne_of ec d.at' (fun z => nomatch z)) ec⟩
  have hp' : (NAt H p.1 (.ref p.2.1) ∧ p.1.depth ≤ 8) := by
    unfold NPut at hp
    split at hp
    · obtain ⟨q, hq, rfl⟩ := List.mem_map.mp hp
      have := d.keys q hq
      split <;> exact this
    · rcases List.mem_append.mp hp with hp | hp
      · exact d.keys p hp
      · have e : p = (k, b, v) := by simpa using hp
        subst e
        exact ⟨hk, h8⟩
  exact ⟨NAt.kt t _ _ hp'.1, hp'.2⟩
theorem w_nnew (h : ∀ p H1, H p = none → NDict P w H1 p [] → Same H H1 → Q (.ref p) H1) : tNNew P w σ H Q := fun p hp => h p _ hp ⟨upd_same, fun q hq => by cases hq⟩ (Same.new hp)
end
end FW

set_option Elab.async false
set_option linter.all false
set_option maxRecDepth 100000
set_option maxHeartbeats 4000000
/-! sets of ints out of lists, sorted at any length -/
namespace FW
open PySem PySem.Spec PyProof.Rows L2
/-- an empty set, as set.__new__ lays it -/
abbrev es0 (w : World) : Obj := { cls := .type "set", dict := none, data := .set #[] 0 (.fresh 0 0 (!w.params.followText "set-order")) }
section
variable {P : Program} {w : World} {A : Around} {E : Value → Shared → Prop} {s : Shared}
theorem set_of_list {l : Addr} {xs : Array Value} (ns : List Int) {Q : Value → Shared → Prop} (calm : A.handled = none) (isL : s.heap.IsList l xs) (are : IntsAre xs.toList ns) (few : ns.length + 1 < scanBound)
    (fin : ∀ (g : Heap) (tk c : Nat), SetR w g s.heap.objs.size (fun j => decide (j ∈ ns)) c → c ≤ ns.length → (∀ b o, s.heap.get? b = some o → g.get? b = some o) → Q (.ref s.heap.objs.size) { s with heap := g, toks := tk }) :
    wpAny (model P w) A (call (.type "set") [.ref l]) Q E s := by
  have size : xs.size = ns.length := by rw [← Array.length_toList]; exact IntsAre.length are
  obtain ⟨c0, tl, c1⟩ := F.called_set.mro
  have c2 := F.called_set.made
  have c3 := F.called_set.sub
  have c4 := F.called_set.notType
  have c5 := F.called_set.canCreate
  have c6 := F.typeCall_set_1 (.ref l)
  refine wpAny_call (codeAny_of_tree ?_)
  show wpAny (model P w) _ (callAny (.type "set") ⟨[.ref l], []⟩) _ _ s
  refine wpAny_pure ⟨Code.quiet_builtin _ (by decide +kernel), ?_⟩
  refine codeAny_builtin F.entry_type_call ?_
  rw [Around.under_plain (weight_type_call_type "set" [.ref l] []) rfl]
  repeat (any_goals (first | assumption | wp_step))
  refine codeAny_mono (code_set_led1 (w := w) (.ref l) (E := E) (Q₁ := fun y t => y = .ref s.heap.objs.size ∧ t = { s with heap := s.heap.push (es0 w) }) ⟨rfl, rfl⟩) fun r t hr => ?_
  match r, hr with
  | .error e, hr => exact hr
  | .ok (.ret y), hr =>
    obtain ⟨ey, et⟩ := hr
    subst ey et
    have at0 : (s.heap.push (es0 w)).get? s.heap.objs.size = some (es0 w) := Heap.get?_push_size _ rfl
    have ty0 : Shared.TypeIs { s with heap := s.heap.push (es0 w) } (.ref s.heap.objs.size) "set" := ⟨_, at0, rfl⟩
    have d1 := F.called_set.init.lookup
    have d2 := F.called_set.init.bind (.ref s.heap.objs.size)
    repeat (any_goals (first | assumption | wp_step))
    refine codeAny_mono (codeAny_call_builtin (R := wants (fun y t => y = .none ∧ ∃ g tk c, t = { s with heap := g, toks := tk } ∧ SetR w g s.heap.objs.size (fun j => decide (j ∈ ns)) c ∧ c ≤ ns.length ∧ (∀ b o, s.heap.get? b = some o → g.get? b = some o)) E) F.called_set.init.plain F.entry_set_init (check_set_init_1 ty0 ?_)) fun r2 t2 hr2 => ?_
    · obtain ⟨⟨kl, dc, dt, sl⟩, hol, hcl, nl, hdl⟩ := isL
      simp only at hcl hdl
      subst hcl
      subst hdl
      have at1 : (s.heap.push (es0 w)).get? l = some { cls := .type "list", dict := dc, data := .seq xs nl, slots := sl } := Heap.get?_push_of_some _ hol
      have n1 := F.sub_list_set
      have n2 := F.sub_list_frozenset
      have n3 : (Value.type "list" == Value.type "dict") = false := by decide
      have isL1 : (s.heap.push (es0 w)).IsList l xs := ⟨_, at1, rfl, nl, rfl⟩
      unfold Builtin.«set.__init__» noKeywords Builtin.Frozenset.updateFrom
      generalize gi : pyIter = it
      wp_walk
      subst gi
      refine wpAny_pyIter_list isL1 ?_
      refine wpAny_bind (wpAny_runValue ?_)
      have ll : l < s.heap.objs.size := Heap.lt_size hol
      have calm3 : A.in1.in1.in1.handled = none := by simp [calm]
      have sz1 : (s.heap.push (es0 w)).objs.size = s.heap.objs.size + 1 := Heap.size_push ..
      have ne1 : l ≠ (s.heap.push (es0 w)).objs.size := by rw [sz1]; exact Nat.ne_of_lt (Nat.lt_succ_of_lt ll)
      have ne2 : s.heap.objs.size ∉ [(s.heap.push (es0 w)).objs.size, l] := by
        rw [sz1]
        simp only [List.mem_cons, List.not_mem_nil, or_false, not_or]
        exact ⟨Nat.ne_of_lt (Nat.lt_succ_self _), Nat.ne_of_gt ll⟩
      have vals : ∀ (i : Nat) (v : Value), xs[i]? = some v → ∃ k t, ns[i]? = some k ∧ v = .int k t := fun i v hv => by
        have hi : i < ns.length := by rw [← size]; exact (Array.getElem?_eq_some_iff.mp hv).1
        obtain ⟨t, e⟩ := PyProof.Rows.IntsAre.int_at are i v (by rw [Array.getElem?_toList]; exact hv)
        exact ⟨ns[i], t, List.getElem?_eq_getElem hi, by rw [e, List.getD_eq_getElem?_getD, List.getElem?_eq_getElem hi]; rfl⟩
      refine set_update_ints (Walks.list calm3 _ l ne1 xs).toS s.heap.objs.size ne2 ns size few vals xs.size 0 _ (Nat.sub_zero _) (Nat.zero_le _) ⟨⟨_, Heap.get?_push_size _ rfl, rfl, rfl⟩, isL1.push _⟩ ⟨0, Nat.le_refl 0, setR_new_at (Heap.get?_push_of_some _ at0)⟩ ?_
      intro t c mv hc hS
      obtain ⟨g, g2, g3, tk, g5⟩ := t
      have q1 : g2 = s.gens := mv.gens
      have q2 : g3 = s.drawn := mv.drawn
      have q3 : g5 = s.os := mv.os
      subst q1 q2 q3
      show wpAny _ _ _ _ _ _
      refine wpAny_pure ?_
      show wpAny _ _ (ret Value.none) _ _ _
      rw [size] at hc
      refine wpAny_pure ⟨rfl, g, tk, c, rfl, hS, hc, fun b o e => ?_⟩
      have lb : b < s.heap.objs.size := Heap.lt_size e
      exact mv.heap b o (by rw [sz1]; simp only [List.mem_cons, List.not_mem_nil, or_false, not_or]; exact ⟨Nat.ne_of_lt lb, Nat.ne_of_lt (Nat.lt_succ_of_lt lb)⟩) (Heap.get?_push_of_some _ (Heap.get?_push_of_some _ e))
    · match r2, hr2 with
      | .error e, hr2 => exact hr2
      | .ok (.ret y), hr2 =>
        obtain ⟨ey, g, tk, c, et, hS, hc, keep⟩ := hr2
        subst ey et
        repeat (any_goals (first | assumption | wp_step))
        exact fin _ _ _ hS hc keep
      | .ok .next, hr2 => exact hr2.elim
      | .ok .brk, hr2 => exact hr2.elim
      | .ok .cont, hr2 => exact hr2.elim
  | .ok .next, hr => exact hr.elim
  | .ok .brk, hr => exact hr.elim
  | .ok .cont, hr => exact hr.elim
end
def rSetL (K : PySem.W.Frag) (w : World) (vs : List V) (H : Hp) (Q : VK) : Prop := ∃ (l : Addr) (ns : List Int), vs = [.ref l] ∧ SqL K H l (ns.map V.int) ∧ ns.length ≤ 4000 ∧ ∀ (p : Addr) (c : Nat), H p = none → c ≤ ns.length → Q (.ref p) (upd H p (SetO w p (fun j => decide (j ∈ ns)) c))
def rSortS (w : World) (vs : List V) (H : Hp) (Q : VK) : Prop := ∃ (a : Addr) (S : Int → Bool) (n : Nat), vs = [V.ref a] ∧ H a = some (SetO w a S n) ∧ n ≤ 4000 ∧ ∀ (ns : List Int) (p : Addr), ns.Pairwise (· < ·) → (∀ k : Int, k ∈ ns ↔ S k = true) → H p = none → Q (.ref p) (upd H p (.lst (ns.map V.int)))
section
variable {X : Cx}
theorem c_setL (calm : X.calm = true) : CallR X (.type "set") (rSetL X.K X.w) := by
  intro pins s σ H vs us Q I r h
  obtain ⟨l, ns, rfl, hl, hn, q⟩ := h
  rw [Vals.ref1 r]
  obtain ⟨its, rv, pl, hz⟩ := I.list hl
  refine set_of_list ns (I.ok.hd calm) pl.isList (by simpa using RZ.intsAre_vals rv) (by unfold scanBound; omega) fun g tk c R hc keep => ?_
  have free : H s.heap.objs.size = none := I.hok.fresh (Nat.le_refl _)
  exact ⟨.ref s.heap.objs.size, _, I.laid (t' := tk) keep (Nat.le_refl _) (setO_new R), rfl, q _ c free hc⟩
theorem c_sortS (calm : X.calm = true) : CallR X (.builtin "sorted") (rSortS X.w) := by
  intro pins s σ H vs us Q I r h
  obtain ⟨a, S, n, rfl, ha, hn4, q⟩ := h
  rw [Vals.ref1 r]
  obtain ⟨o, es, ep, t, ho, hex, hd, good, nd, hm, hb, hf, hn, ris, led⟩ := setO_get I ha
  refine Calls.call_function_entry kind_sorted plain_sorted entry_sorted (args_sorted1 _) ?_
  unfold Builtin.«sorted»; refine wpAny_bind (m := checkCount "sorted" 1 1 _) (wpAny_pure ?_)
  refine wpAny_bind (collect_set (A := X.A.in1) (I.ok.hd calm) ⟨o, ho, hex.1, hd⟩ hf hb ris led fun s1 xs k1 z1 g1 o1 pm => ?_)
  have xl : xs.length = n := by rw [pm.length_eq, List.length_map, Array.length_toList]; exact hn
  have xI : IntsAre xs (xs.map Builtin.Re.reRawOf) := L2.ints_of xs fun v hv => by
    obtain ⟨e, he, rfl⟩ := List.mem_map.mp (pm.mem_iff.mp hv)
    obtain ⟨k, tk, h1, _⟩ := good e he
    exact ⟨k, tk, h1⟩
  have pk : (xs.map Builtin.Re.reRawOf).Perm (es.toList.map keyOf) := by
    have q := pm.map Builtin.Re.reRawOf
    rwa [List.map_map] at q
  have hz : xs.length ≤ sizeLine := by rw [xl, sizeLine_eq]; omega
  refine wpAny_bind (wpAny_newList ?_ hz)
  have atL : (s1.heap.push (seqObj "list" xs.toArray 0)).get? s1.heap.objs.size = some (seqObj "list" xs.toArray 0) := Heap.get?_push_size _ rfl
  refine wpAny_bind (wpAny_holding (wpAny_call_entry slot_list_sort ⟨_, atL, rfl⟩ entry_list_sort (SrtO.list_sort_ord (s := { s1 with heap := s1.heap.push (seqObj "list" xs.toArray 0) }) SrtO.swo_int atL hz (fun h2 => SrtO.ints_sortable xI h2) fun out h1 h2 => ⟨_, rfl, ?_⟩) (args_list_sort _)))
  obtain ⟨i1, i2, i3⟩ := SrtO.ints_out xI h1 h2
  obtain ⟨e', he'⟩ := sortedHeap_at (vs := xs) (out := out.toArray) atL
  have pn : (out.map SrtO.iv).Perm (es.toList.map keyOf) := i2.trans pk
  have hlen : ((out.map SrtO.iv).map V.int).length ≤ sizeLine := by rw [List.length_map, i2.length_eq, List.length_map]; exact hz
  have free : H s1.heap.objs.size = none := I.hok.fresh z1
  have keep : ∀ b u, s.heap.get? b = some u → (sortedHeap (s1.heap.push (seqObj "list" xs.toArray 0)) s1.heap.objs.size xs out.toArray).get? b = some u := fun b u e => by
    have e1 := k1 b u e
    have lb : b < s1.heap.objs.size := Heap.lt_size e1
    rw [sortedHeap_old (Nat.ne_of_lt lb) (by rw [size_push']; exact Nat.lt_succ_of_lt lb)]
    exact Heap.get?_push_of_some _ e1
  have J : Inv X pins σ (upd H s1.heap.objs.size (.lst ((out.map SrtO.iv).map V.int))) { s with heap := sortedHeap (s1.heap.push (seqObj "list" xs.toArray 0)) s1.heap.objs.size xs out.toArray, gens := s1.gens, drawn := s1.drawn, toks := s1.toks } := I.call (ch := []) (Un.laid keep z1 free) (I.hok.laid (o := .lst ((out.map SrtO.iv).map V.int)) keep z1 ⟨hlen, out, e', vals_of_ints i1, he'⟩) (by rw [g1]; exact I.bare) (fun _ z => nomatch z)
  refine wpAny_pure ⟨_, rfl, .ref s1.heap.objs.size, upd H s1.heap.objs.size (.lst ((out.map SrtO.iv).map V.int)), ?_, rfl, q _ _ (lt_of_le_nodup _ i3 (pn.nodup_iff.mpr nd)) (fun k => by rw [pn.mem_iff, ← hm k]) free⟩
  cases s1
  cases s
  cases o1
  exact J
end
section
variable {K : PySem.W.Frag} {w : World} {H : Hp} {Q : VK}
theorem w_setOf {l : Addr} {ns : List Int} (h1 : SqL K H l (ns.map V.int)) (h2 : ns.length ≤ 4000) (h : ∀ p c H1, H p = none → c ≤ ns.length → H1 p = some (SetO w p (fun j => decide (j ∈ ns)) c) → Same H H1 → Q (.ref p) H1) : rSetL K w [.ref l] H Q :=
  ⟨l, ns, rfl, h1, h2, fun p c hp hc => h p c _ hp hc upd_same (Same.new hp)⟩
theorem w_sortS {a : Addr} {S : Int → Bool} {n : Nat} (h1 : H a = some (SetO w a S n)) (h2 : n ≤ 4000) (h : ∀ (ns : List Int) p H1, ns.Pairwise (· < ·) → (∀ k : Int, k ∈ ns ↔ S k = true) → H p = none → H1 p = some (.lst (ns.map V.int)) → Same H H1 → Q (.ref p) H1) : rSortS w [.ref a] H Q :=
  ⟨a, S, n, rfl, h1, h2, fun ns p hs hm hp => h ns p _ hs hm hp upd_same (Same.new hp)⟩
end
end FW

set_option Elab.async false
set_option linter.all false
set_option maxRecDepth 100000
set_option maxHeartbeats 4000000
/-! objects of own classes; max with a default; data in lists -/
namespace FW
open PySem PySem.Spec PyProof.Rows L2
/-! ### max(list, default=d) -/
def rMaxD (K : PySem.W.Frag) (vs zs : List V) (H : Hp) (Q : VK) : Prop := ∃ (a : Addr) (ns : List Int) (d : Int), vs = [.ref a] ∧ zs = [.int d] ∧ SqL K H a (ns.map V.int) ∧ (ns = [] → Q (.int d) H) ∧ ∀ m, m ∈ ns → (∀ y ∈ ns, y ≤ m) → Q (.int m) H
theorem maxOf_ge (ys : List Int) : ∀ y : Int, ∀ z ∈ y :: ys, z ≤ PySem.W.maxOf y ys := by
  induction ys with
  | nil => intro y z hz; have : z = y := by simpa using hz
           subst this; exact Int.le_refl _
  | cons x ys ih =>
    intro y z hz
    show z ≤ PySem.W.maxOf (if PySem.W.DatumOrd.lt y x = true then x else y) ys
    have e : PySem.W.DatumOrd.lt y x = decide (y < x) := rfl
    rw [e]
    by_cases h : y < x
    · rw [if_pos (decide_eq_true h)]
      have h1 := ih x
      rcases List.mem_cons.mp hz with rfl | hz
      · have := h1 x (by simp)
        omega
      · exact h1 z hz
    · rw [if_neg (fun q => h (of_decide_eq_true q))]
      have h1 := ih y
      rcases List.mem_cons.mp hz with rfl | hz
      · exact h1 z (by simp)
      · rcases List.mem_cons.mp hz with rfl | hz
        · have := h1 y (by simp)
          omega
        · exact h1 z (by simp [hz])
section
variable {X : Cx} {pins : List (Addr × Obj)} {σ : L2.St} {H : Hp} {s : Shared}
theorem hold_ints (h : Heap) : ∀ (ns : List Int) (its : List Value), Vals (ns.map V.int) its → PySem.W.HoldAll h its ns
  | [], _, r => by cases r; exact PySem.W.HoldAll.nil
  | n :: ns, _, r => by
    cases r with
    | cons r1 rr =>
      obtain ⟨t, rfl⟩ := r1
      exact PySem.W.HoldAll.cons ⟨_, Reads.int n t⟩ (hold_ints h ns _ rr)
theorem int_at {ns : List Int} {its : List Value} (r : Vals (ns.map V.int) its) {i : Nat} {v : Value} (h : its[i]? = some v) : ∃ k t, ns[i]? = some k ∧ v = .int k t := by
  induction ns generalizing its i with
  | nil =>
    cases r
    simp at h
  | cons n ns ih =>
    cases r with
    | cons r1 rr =>
      obtain ⟨t, rfl⟩ := r1
      cases i with
      | zero => exact ⟨n, t, rfl, by simpa using h.symm⟩
      | succ i => exact ih rr (by simpa using h)
theorem c_maxD (calm : X.calm = true) (hu : X.A.units + 64 < cLine) : CallRK X (.builtin "max") ["default"] (rMaxD X.K) := by
  intro pins s σ H vs zs us ws Q I r rz ⟨a, ns, d, e1, e2, hs, q0, q1⟩
  subst e1 e2
  obtain ⟨its, rv, hl, _⟩ := I.list hs
  rw [Vals.ref1 r]
  cases rz with
  | cons r1 rr =>
    cases rr
    obtain ⟨t, rfl⟩ := r1
    have hdp : PySem.W.Datum.depth Int ≤ 50 := by decide
    refine PySem.W.max_list_datum_default (d := .int d t) (xs := ns) (I.ok.hd calm) hl.isList (by simpa using hold_ints s.heap ns its rv) (by omega) (fun e h' tk hk => ?_) fun y ys i v h' tk e hi hv hk => ?_
    · exact ⟨.int d, H, I.kept (t' := tk) hk, ⟨_, rfl⟩, q0 e⟩
    · obtain ⟨k, t', hk', rfl⟩ := int_at rv (by simpa using hi)
      have ek : k = PySem.W.maxOf y ys := by
        obtain ⟨as, ra⟩ := hv
        cases ra
        rfl
      refine ⟨.int k, H, I.kept (t' := tk) hk, ⟨_, rfl⟩, q1 k (List.mem_of_getElem? hk') fun z hz => ?_⟩
      rw [ek]
      exact maxOf_ge ys y z (by rw [← e]; exact hz)
end
/-! ### fields, methods, makings -/
/-- a class as the top has left it, with the names of its fields -/
structure Kl (K : PySem.W.Frag) (mg : Str → Option Value) (x : Str) (C : Addr) (as : List Str) : Prop where
  g : mg x = some (.ref C)
  cl : Cls K C
  na : ∀ f ∈ as, NoAttr K C f
/-- a method -/
structure DfM (K : PySem.W.Frag) (C : Addr) (m qual : Str) (st : Stmt) (ps : List Str) (f : Addr) (fd : FuncData) : Prop where
  fn : Fun K m qual st f fd
  b : Binds K fd ps []
  m : Meth K C m f
def rFld (K : PySem.W.Frag) (f : Str) (x : V) (H : Hp) (Q : VK) : Prop := ∃ a C dx fs v, x = .ref a ∧ H a = some (.ins C dx fs) ∧ Cls K C ∧ NoAttr K C f ∧ fs.lookup f = some v ∧ Q v H
def rFldS (K : PySem.W.Frag) (f : Str) (x y : V) (H : Hp) (R : Hp → Prop) : Prop := ∃ a C dx fs, x = .ref a ∧ H a = some (.ins C dx fs) ∧ Cls K C ∧ NoAttr K C f ∧ fs.length < 1000 ∧ R (upd H a (.ins C dx (putF f y fs)))
def rMeth (C : Addr) (m : Str) (x : V) (H : Hp) (A : Prop) : Prop := ∃ a dx fs, x = .ref a ∧ H a = some (.ins C dx fs) ∧ fs.lookup m = none ∧ A
def rMake (C : Addr) (sp : Sp) (vs : List V) (H : Hp) (Q : VK) (E : XK) : Prop := ∀ x dx, H x = none → H dx = none → dx ≠ x → sp (.ref x :: vs) (upd (upd H dx (.own x)) x (.ins C dx [])) (fun v H2 => v = .non ∧ Q (.ref x) H2) E
section
variable {K : PySem.W.Frag} {σ : L2.St} {H : Hp} {Q : VK} {nx bk ct : L2.St → Hp → Prop} {rt : VK} {v : V}
theorem w_fld {ta : TE} {f : Str} (h : ta σ H fun x H1 => rFld K f x H1 Q) : tFld K ta f σ H Q := h
theorem w_fld' {f : Str} {a C dx : Addr} {fs : List (Str × V)} (h1 : H a = some (.ins C dx fs)) (h2 : Cls K C) (h3 : NoAttr K C f) (h4 : fs.lookup f = some v) (h : Q v H) : rFld K f (.ref a) H Q := ⟨a, C, dx, fs, v, rfl, h1, h2, h3, h4, h⟩
theorem w_fldS {ta tv : TE} {f : Str} (h : tv σ H fun y H1 => ta σ H1 fun x H2 => rFldS K f x y H2 fun H3 => nx σ H3) : sFld K ta tv f ⟨nx, rt, bk, ct⟩ σ H := h
theorem w_seqFS {ta tv : TE} {f : Str} {u : TS} (h : tv σ H fun y H1 => ta σ H1 fun x H2 => rFldS K f x y H2 fun H3 => u ⟨nx, rt, bk, ct⟩ σ H3) : tSeq (sFld K ta tv f) u ⟨nx, rt, bk, ct⟩ σ H := h
theorem w_fldS' {f : Str} {a C dx : Addr} {fs : List (Str × V)} {R : Hp → Prop} (h1 : H a = some (.ins C dx fs)) (h2 : Cls K C) (h3 : NoAttr K C f) (h4 : fs.length < 1000) (h : ∀ H1, H1 a = some (.ins C dx (putF f v fs)) → Off a H H1 → R H1) : rFldS K f (.ref a) v H R :=
  ⟨a, C, dx, fs, rfl, h1, h2, h3, h4, h _ upd_same fun x hx => upd_ne hx⟩
theorem w_meth {C : Addr} {m : Str} {sp : Sp} {E : XK} {ta : TE} {t : TA} (h : ta σ H fun x H1 => rMeth C m x H1 (t σ H1 fun vs H2 => sp (x :: (vs ++ [])) H2 Q E)) : tMeth C m sp [] E ta t σ H Q := by
  unfold tMeth
  exact h
theorem w_meth' {C a dx : Addr} {m : Str} {fs : List (Str × V)} {A : Prop} (h1 : H a = some (.ins C dx fs)) (h2 : fs.lookup m = none) (h : A) : rMeth C m (.ref a) H A := ⟨a, dx, fs, rfl, h1, h2, h⟩
theorem w_make {C : Addr} {sp : Sp} {E : XK} {t : TA} (h : t σ H fun vs H1 => rMake C sp (vs ++ []) H1 Q E) : tMake C sp [] E t σ H Q := h
theorem w_make' {C : Addr} {sp : Sp} {vs : List V} {E : XK} (h : ∀ x dx H1, H x = none → H dx = none → dx ≠ x → H1 x = some (.ins C dx []) → Same H H1 → sp (.ref x :: vs) H1 (fun v H2 => v = .non ∧ Q (.ref x) H2) E) : rMake C sp vs H Q E := fun x dx hx hd hne =>
  h x dx _ hx hd hne upd_same fun b o e => by
    rw [upd_ne (ne_of_none e hx), upd_ne (ne_of_none e hd)]
    exact e
theorem w_maxD {r : List V → List V → Hp → VK → Prop} {t tk : TA} (h : t σ H fun vs H1 => tk σ H1 fun zs H2 => r vs zs H2 Q) : tCKw r t tk σ H Q := h
theorem w_maxD' {a : Addr} {ns : List Int} {d : Int} (h1 : SqL K H a (ns.map V.int)) (h0 : ns = [] → Q (.int d) H) (h : ∀ m, m ∈ ns → (∀ y ∈ ns, y ≤ m) → Q (.int m) H) : rMaxD K [.ref a] [.int d] H Q := ⟨a, ns, d, rfl, rfl, h1, h0, h⟩
end
theorem pe_fldK {X : Cx} {K : PySem.W.Frag} {e : Expr} {f : Str} {pos : Pos} {ta : TE} (hk : X.K = K) (he : PE X e ta) (hb : attributeBase e f X.env (eval e X.env) = eval e X.env) : PE X (.Attribute e f pos) (tFld K ta f) := by
  subst hk
  exact pe_fld he hb
end FW

set_option Elab.async false
set_option linter.all false
set_option maxRecDepth 100000
set_option maxHeartbeats 4000000
/-! l[::-1] of a list; set of a tuple of ints; two promises of one def -/
namespace FW
open PySem PySem.Spec PyProof.Rows L2
def rRevL (K : PySem.W.Frag) (x z : V) (H : Hp) (Q : VK) : Prop := ∃ (a : Addr) (xs : List V), x = .ref a ∧ z = .int (-1) ∧ SqL K H a xs ∧ Nw (.lst xs.reverse) H Q
def tRevL (K : PySem.W.Frag) (te ts : TE) : TE := fun σ H Q => te σ H fun x H1 => ts σ H1 fun z H3 => rRevL K x z H3 Q
section
variable {X : Cx}
end
def rSetT (K : PySem.W.Frag) (w : World) (vs : List V) (H : Hp) (Q : VK) : Prop := ∃ (l : Addr) (ns : List Int), vs = [.ref l] ∧ SqT K H l (ns.map V.int) ∧ ns.length ≤ 4000 ∧ ∀ (p : Addr) (c : Nat), H p = none → c ≤ ns.length → Q (.ref p) (upd H p (SetO w p (fun j => decide (j ∈ ns)) c))
section
variable {K : PySem.W.Frag} {w : World} {σ : L2.St} {H : Hp} {Q : VK}
theorem w_revL {te ts : TE} (h : te σ H fun x H1 => ts σ H1 fun z H3 => rRevL K x z H3 Q) : tRevL K te ts σ H Q := h
end
theorem FnOk.or {P : Program} {w : World} {K : PySem.W.Frag} {mg : Str → Option Value} {base : Heap} {CX : CXT} {k : Nat} {f : Addr} {fd : FuncData} {ps : List Str} {sp sp' : Sp} (F : FnOk P w K mg base CX k f fd ps sp) (G : FnOk P w K mg base CX k f fd ps sp') : FnOk P w K mg base CX k f fd ps (fun vs H Q E => sp vs H Q E ∨ sp' vs H Q E) :=
  ⟨fun vs H Q E q => q.elim (F.len vs H Q E) (G.len vs H Q E), fun A outer s H args us vs Q E hr he hb hv hs => hs.elim (F.run A outer s H args us vs Q E hr he hb hv) (G.run A outer s H args us vs Q E hr he hb hv)⟩
end FW

set_option Elab.async false
set_option linter.all false
set_option maxRecDepth 100000
set_option maxHeartbeats 4000000
/-! d.items() of a dict of texts and ints, and sorted of it -/
namespace FW
open PySem PySem.Spec PyProof.Rows L2
def rItemsK : V → List V → Hp → VK → Prop := fun x xs H Q => ∃ (a : Addr) (kvs : List (Key × V)), x = .ref a ∧ xs = [] ∧ H a = some (.dK kvs) ∧ ∀ p, H p = none → Q (.ref p) (upd H p (L2.DX.itemsO p a))
/-! ### the order of pairs of a text and an int -/
abbrev TI := Addr × Str × Int
def encTI (b : TI) : PyData := .tuple [.str b.2.1, .int b.2.2]
abbrev txLt (x y : Str) : Prop := x.cps.toList < y.cps.toList
theorem tx_tri {x y : Str} (h : ¬ txLt x y) : txLt y x ∨ x = y := by
  by_cases h2 : txLt y x
  · exact .inl h2
  · exact .inr (PySem.W.str_of_cps (List.le_antisymm (List.not_lt.mp h2) (List.not_lt.mp h)))
/-! ### the tuples laid -/
def kvTI (qs : List (Str × Int)) : List (Key × V) := qs.map fun q => ((Sum.inr q.1 : Key), V.int q.2)
def rSortI (vs : List V) (H : Hp) (Q : VK) : Prop := ∃ (a d : Addr) (qs : List (Str × Int)), vs = [.ref a] ∧ H a = some (L2.DX.itemsO a d) ∧ H d = some (.dK (kvTI qs)) ∧ (qs.map (·.1)).Nodup ∧
  ∀ (H' : Hp) (p : Addr) (ts : List TI), (∀ b o, H b = some o → H' b = some o) → H p = none → H' p = some (.lst (ts.map fun t => .ref t.1)) → (∀ t ∈ ts, H' t.1 = some (.tup [.str t.2.1, .int t.2.2])) → (ts.map (·.2)).Perm qs → ts.Pairwise (fun x y => txLt x.2.1 y.2.1) → Q (.ref p) H'
end FW

set_option Elab.async false
set_option linter.all false
set_option maxRecDepth 100000
set_option maxHeartbeats 4000000
/-! a def of an own class called through the class: C.m(x, ..) -/
namespace FW
open PySem PySem.Spec PyProof.Rows L2
/-- a class's reading, with the names of fields, whatever its name -/
structure Kf (K : PySem.W.Frag) (C : Addr) (as : List Str) : Prop where
  cl : Cls K C
  na : ∀ f ∈ as, NoAttr K C f
def tClsF (C : Addr) (sp : Sp) (dvs : List V) (E : XK) (ta : TE) (t : TA) : TE := fun σ H Q => ta σ H fun x H1 => x = .ref C ∧ t σ H1 fun vs H2 => sp (vs ++ dvs) H2 Q E
theorem pe_clsF {X : Cx} {CX : CXT} {k : Nat} {C f : Addr} {fd : FuncData} {ps : List Str} {mc : Value} {sp : Sp} {E : XK} {o e : Expr} {es : List Expr} {m : Str} {pos apos : Pos} {ta : TE} {t : TA} {pl : Sem Bool} {ds : List Value} {dvs : List V}
    (he : PE X o ta) (r : ClX.CRead X.K C mc) (c : ClX.CVal X.K C mc m (.ref f) (.ref f)) (hk : PySem.W.keepIn X.K (.ref f) = true) (F : FnOk X.prog X.w X.K X.mg X.base CX k f fd ps sp) (hr : Room k X.A) (hb : Binds X.K fd ps ds) (hd : Vals dvs ds) (hx : Passes CX X E) (ha : PA X (e :: es) t)
    (hst : starEach (e :: es) X.env = (false, eval e X.env) :: starEach es X.env := by rfl) (hpl : (backTo pos (starEach es X.env)).any (·.1) = false := by rfl)
    (ht : eval (.Call (.Attribute o m apos) (e :: es) [] pos) X.env = (do
      let ov ← eval o X.env
      standAt apos.atName
      let (f, first) ← holding [ov] (getMethod ov m pl)
      callWith pos f first (backTo pos (starEach (e :: es) X.env)) (backToKw pos (keywordEach [] X.env))) := by rfl) :
    PE X (.Call (.Attribute o m apos) (e :: es) [] pos) (tClsF C sp dvs E ta t) := by
  refine ⟨fun pins s σ H Q I h => ?_⟩
  refine PySem.W.methodCall_KW (pl := pl) (thn (he.run pins s σ H _ I h) fun u s1 ⟨x, H1, I1, rx, ex, q⟩ => ?_) ht
  subst ex
  obtain rfl : u = Value.ref C := rx
  refine PySem.W.method_cls I1.kIn r.ga (ClX.getcval_ok I1 r c fun s2 I2 => ?_)
  refine PySem.W.callWith_K (h₀ := X.base) I2.ok.mod.kin hk (thn (ha.run pos pins s2 σ H1 _ I2 q) fun us s3 ⟨vs, H2, I3, rv, q2⟩ => ⟨I3.kIn, ?_⟩) hst hpl
  exact run_fn F hr hb hd hx I3 rv q2
theorem w_clsF {σ : L2.St} {H : Hp} {Q : VK} {C : Addr} {sp : Sp} {E : XK} {t : TA} (h : t σ H fun vs H2 => sp (vs ++ []) H2 Q E) : tClsF C sp [] E (tC (.ref C)) t σ H Q := ⟨rfl, h⟩
end FW

set_option Elab.async false
set_option linter.all false
set_option maxRecDepth 100000
set_option maxHeartbeats 4000000
/-! len and str by an own class's defs; != of one object with itself -/
namespace FW
open PySem PySem.Spec PyProof.Rows L2
section
variable {X : Cx} {CX : CXT} {k : Nat} {f C : Addr} {fd : FuncData} {ps : List Str} {sp : Sp} {E : XK}
/-- the callee runs, called by a builtin -/
theorem run_fnB {A : Around} {pins : List (Addr × Obj)} {σ : L2.St} {H : Hp} {s : Shared} {Q : VK} {us : List Value} {vs : List V} (F : FnOk X.prog X.w X.K X.mg X.base CX k f fd ps sp) (hr : Room k A) (he : Env0 X.prog X.w X.K X.mg X.base A X.stack s H) (hb : Binds X.K fd ps []) (hx : Passes CX X E)
    (I : Inv X pins σ H s) (r : Vals vs us) (h : sp vs H Q E) : wpAny (model X.prog X.w) A (call (.ref f) us) (EP X pins σ Q) X.xe s := by
  have len2 : (us ++ []).length = ps.length := by
    rw [List.append_nil, ← r.length]
    exact F.len _ _ _ _ h
  have bd := hb s us I.kIn len2
  rw [List.append_nil] at bd
  refine wpAny_call (codeAny_mono (F.run A X.stack s H ⟨us, []⟩ us vs Q E hr he bd r h) fun o t ho => ?_)
  match o, ho with
  | .error e, ho => exact hx pins σ H s e t I ho
  | .ok (.ret u), ho => exact I.after ho
  | .ok .next, ho => exact False.elim ho
  | .ok .brk, ho => exact False.elim ho
  | .ok .cont, ho => exact False.elim ho
def rLenO (C : Addr) (sp : Sp) (E : XK) (xs : List V) (H : Hp) (Q : VK) : Prop := ∃ a dx fs, xs = [.ref a] ∧ H a = some (.ins C dx fs) ∧ sp [.ref a] H (fun v H2 => ∃ n : Nat, v = .int (n : Int) ∧ n ≤ 1000000 ∧ Q (.int (n : Int)) H2) E
theorem c_lenO (hm : Meth X.K C "__len__" f) (F : FnOk X.prog X.w X.K X.mg X.base CX k f fd ps sp) (hr : Room (k + 1) X.A) (hb : Binds X.K fd ps []) (hx : Passes CX X E) : CallR X (.builtin "len") (rLenO C sp E) := by
  intro pins s σ H vs us Q I r h
  obtain ⟨a, dx, fs, rfl, ha, q⟩ := h
  have r0 := r
  rw [Vals.ref1 r] at r0 ⊢
  obtain ⟨mA, O, _, _, _, _⟩ := ins_get I.hok ha
  obtain ⟨od, J, _⟩ := O.look
  obtain ⟨m, fr⟩ := I.fr
  refine PySem.W.len_K fr I.ok.mod.kin J hm.at_ hm.fn (thn (run_fnB F hr.in1 I.env0.in1 hb hx I r0 q) fun v t ⟨x, H2, I2, rx, n, ex, hn, q2⟩ => ?_)
  subst ex
  obtain ⟨tk, rfl⟩ := (show ∃ tk, v = Value.int (n : Int) tk from rx)
  exact ⟨⟨by omega, by omega⟩, .int n, H2, I2.tok _, ⟨_, rfl⟩, q2⟩
def rStrO (C : Addr) (sp : Sp) (E : XK) (xs : List V) (H : Hp) (Q : VK) : Prop := ∃ a dx fs, xs = [.ref a] ∧ H a = some (.ins C dx fs) ∧ sp [.ref a] H (fun v H2 => ∃ z : Str, v = .str z ∧ Q (.str z) H2) E
end
def rStrI (xs : List V) (H : Hp) (Q : VK) : Prop := ∃ i, xs = [V.int i] ∧ i.natAbs.log2 < 1920 ∧ Q (.str (toString i)) H
theorem w_strI {H : Hp} {Q : VK} {i : Int} (h1 : i.natAbs.log2 < 1920) (h : Q (.str (toString i)) H) : rStrI [.int i] H Q := ⟨i, rfl, h1, h⟩
theorem w_lenO {H : Hp} {Q : VK} {C : Addr} {sp : Sp} {E : XK} {a dx : Addr} {fs : List (Str × V)} (ha : H a = some (.ins C dx fs)) (h : sp [.ref a] H (fun v H2 => ∃ n : Nat, v = .int (n : Int) ∧ n ≤ 1000000 ∧ Q (.int (n : Int)) H2) E) : rLenO C sp E [.ref a] H Q := ⟨a, dx, fs, rfl, ha, h⟩
/-! ### one object compared with itself -/
section
variable {M : Model} {prog : Program} {w : World} {A : Around} {E : Value → Shared → Prop} {s : Shared} {K : PySem.W.Frag} {x C : Addr} {ox : Obj} {od : Option Obj}
theorem ent_eqS {Q : Fin → Shared → Prop} (hq : Q (.done (.ret (.bool true))) s) : wpAny M A (Builtin.«object.__eq__» ⟨[.ref x, .ref x], []⟩) Q E s := objEq_entry_same hq
theorem call_eqS {Q : Value → Shared → Prop} (X : K.In s.heap) (I : PySem.W.InstAt s.heap x ox C od) (hm : PySem.W.mroIn K C (.type "object") = some true) (hq : Q (.bool true) s) :
    wpAny (model prog w) A (call (.builtin "object.__eq__") [.ref x, .ref x]) Q E s :=
  wpAny_call (codeAny_call_builtin F.cmp_object.eq.plain F.cmpEntry_eq (PySem.W.check_slot F.cmpKind_eq F.cmpSplit_eq (I.type.andThen (PySem.W.looks_mroIn X hm)) (F.cmpArgs_eq _ _) (ent_eqS hq)))
theorem ifB_ne {args : List Value} {Q : Option Value → Shared → Prop} (X : K.In s.heap) (I : PySem.W.InstAt s.heap x ox C od) (hs : PySem.W.findIn K (.ref C) "__ne__" = some (some (.builtin "object.__ne__")))
    (h : wpAny M A (call (.builtin "object.__ne__") (.ref x :: args)) (fun v => Q (some v)) E s) : wpAny M A (callSpecialIfBound? (.ref x) "__ne__" args) Q E s := by
  simp only [bindSpecialIfBound?, callSpecialIfBound?]
  have at1 := PySem.W.looks_findIn (M := M) X hs
  refine wpAny_holding (wpAny_bind (wpAny_bind (wpAny_bind (I.type.here (at1.here (wpAny_bind (wpAny_askSetting (wpAny_ite ?_))))))))
  have last : wpAny M A (call (.builtin "object.__ne__") ([.ref x] ++ args) >>= fun v => pure (some v)) Q E s := wpAny_bind (wpAny_mono h (fun v s' g => wpAny_pure g) fun _ _ g => g)
  split
  · exact wpAny_bind (wpAny_of_eq (F.cmp_object.ne.bind _) (wpAny_pure (by exact last)))
  · exact wpAny_tryCatch (wpAny_bind (wpAny_of_eq (F.cmp_object.ne.bind _) (wpAny_pure (by exact last))))
theorem ent_neS {Q : Fin → Shared → Prop} (hu : A.units < cLine) (X : K.In s.heap) (I : PySem.W.InstAt s.heap x ox C od) (hm : PySem.W.mroIn K C (.type "object") = some true) (hs : PySem.W.findIn K (.ref C) "__eq__" = some (some (.builtin "object.__eq__"))) (hq : Q (.done (.ret (.bool false))) s) :
    wpAny (model prog w) A (Builtin.«object.__ne__» ⟨[.ref x, .ref x], []⟩) Q E s := by
  unfold Builtin.«object.__ne__»
  refine wpAny_bind (m := slotArgs "__ne__" 1 _) (wpAny_pure ?_)
  refine wpAny_bind (wpAny_cRoomFor hu ?_)
  refine wpAny_bind (m := callSpecialIfBound? (.ref x) "__eq__" [.ref x]) (HN.ifBound_objEq X I hs (call_eqS X I hm ?_))
  show wpAny _ _ (truthy (.bool true) >>= fun b => ret (.bool (!b))) _ _ _
  exact wpAny_bind (wpAny_truthy_bool (wpAny_pure hq))
theorem rc_neS (hu : A.units + 1 < cLine) (X : K.In s.heap) (I : PySem.W.InstAt s.heap x ox C od) (hm : PySem.W.mroIn K C (.type "object") = some true) (hs : PySem.W.findIn K (.ref C) "__eq__" = some (some (.builtin "object.__eq__"))) (hn : PySem.W.findIn K (.ref C) "__ne__" = some (some (.builtin "object.__ne__")))
    {Q : Value → Shared → Prop} (hq : Q (.bool false) s) : wpAny (model prog w) A (richCompare .NotEq (.ref x) (.ref x)) Q E s := by
  have one : wpAny (model prog w) A (tryCompare (.ref x) "__ne__" (.ref x)) (fun r s' => r = some (.bool false) ∧ s' = s) E s := by
    unfold tryCompare
    refine wpAny_bind (ifB_ne X I hn ?_)
    refine wpAny_call (codeAny_call_builtin F.cmp_object.ne.plain F.cmpEntry_ne (PySem.W.check_slot F.cmpKind_ne F.cmpSplit_ne (I.type.andThen (PySem.W.looks_mroIn X hm)) (F.cmpArgs_ne _ _) (ent_neS (A := A.in1) (by first | exact hu | (simp; omega)) X I hm hs ?_)))
    exact wpAny_pure ⟨rfl, rfl⟩
  simp only [oneThing_ref, richCompare, cmpInfo_NotEq]
  refine wpAny_holding (wpAny_bind (wpAny_cRoomFor (by omega) (wpAny_bind (I.type.here (wpAny_bind (I.type.here ?_))))))
  rw [if_neg (by simp)]
  refine wpAny_bind (wpAny_pure ?_)
  simp only [Bool.false_eq_true, if_false]
  refine wpAny_bind (m := tryCompare (.ref x) _ (.ref x)) (wpAny_mono one (fun r s1 z => ?_) fun _ _ e => e)
  obtain ⟨z1, z2⟩ := z
  subst z1
  subst z2
  exact wpAny_pure hq
end
/-- an own class that compares by identity -/
structure EqI (K : PySem.W.Frag) (C : Addr) : Prop where
  mr : PySem.W.mroIn K C (.type "object") = some true
  eq : PySem.W.findIn K (.ref C) "__eq__" = some (some (.builtin "object.__eq__"))
  ne : PySem.W.findIn K (.ref C) "__ne__" = some (some (.builtin "object.__ne__"))
def rNeS (K : PySem.W.Frag) : R2 := fun x y H Q => ∃ a C dx fs, x = .ref a ∧ y = .ref a ∧ H a = some (.ins C dx fs) ∧ EqI K C ∧ Q (.bl false) H
theorem op_neS {X : Cx} (hu : X.A.units + 1 < cLine) : OpR X (compareOp .NotEq) (rNeS X.K) := by
  intro pins s σ H x y u v Q I rx ry h
  obtain ⟨a, C, dx, fs, rfl, rfl, ha, ei, q⟩ := h
  obtain rfl : u = Value.ref a := rx
  obtain rfl : v = Value.ref a := ry
  obtain ⟨mA, O, _, _, _, _⟩ := ins_get I.hok ha
  obtain ⟨od, J, _⟩ := O.look
  exact rc_neS hu I.kIn J ei.mr ei.eq ei.ne ⟨.bl false, H, I, rfl, q⟩
end FW

set_option Elab.async false
set_option linter.all false
set_option maxRecDepth 100000
set_option maxHeartbeats 4000000
/-! f(x, k = v) in a try; for k, v in e.items() of a dict that a call made -/
namespace FW
open PySem PySem.Spec PyProof.Rows L2
section
variable {X : Cx} {CX : CXT} {k n : Nat} {f : Addr} {fd : FuncData} {ps ks : List Str} {sp : Sp} {E : L2.St → XK} {x : Str} {p pos : Pos} {e : Expr} {es : List Expr} {kws : List Keyword} {t tk : TA} {g : List Value → List Value → List Value} {gV : List V → List V → List V}
def tCallNS (n m : Nat) (sp : Sp) (gV : List V → List V → List V) (E : L2.St → XK) (t tk : TA) : TE := fun σ H Q => t σ H fun vs H1 => tk σ H1 fun zs H2 => vs.length = n ∧ zs.length = m ∧ sp (gV vs zs) H2 Q (E σ)
/-! ### a dict that is read from here on -/
def tFrz (td : TE) : TE := fun σ H Q => td σ H fun x H1 => ∃ d kvs, x = .ref d ∧ H1 d = some (.dK kvs) ∧ ∀ o H2, H2 d = some (.frz o (.dK kvs)) → Off d H1 H2 → Q x H2
def rItems (x : V) (H1 : Hp) (R : It → Hp → Prop) : Prop := ∃ d o kvs, x = .ref d ∧ H1 d = some (.frz o (.dK kvs)) ∧ R (Iti d o kvs) H1
end
end FW

set_option Elab.async false
set_option linter.all false
set_option maxRecDepth 100000
set_option maxHeartbeats 4000000
/-! zip of a tuple and a list -/
namespace FW
open PySem
section
variable {pg : Program} {w : World} {ar : Around} {er : Value → Shared → Prop} {sh : Shared}
end
abbrev zipMH1 (h : Heap) (l1 : Addr) : Heap := h.push { cls := .type "tuple_iterator", data := .fields #[.ref l1, .int 0 0] }
abbrev zipMH2 (h : Heap) (l1 l2 : Addr) : Heap := (zipMH1 h l1).push { cls := .type "list_iterator", data := .fields #[.ref l2, .int 0 0] }
abbrev zipMH3 (h : Heap) (l1 l2 : Addr) : Heap := (zipMH2 h l1 l2).push { cls := .type "tuple", data := .seq #[.ref h.objs.size, .ref (zipMH1 h l1).objs.size] }
abbrev zipMH4 (h : Heap) (l1 l2 : Addr) : Heap := (zipMH3 h l1 l2).push { cls := .type "tuple", data := .seq #[.none, .none] }
abbrev zipMH5 (h : Heap) (l1 l2 : Addr) : Heap := (zipMH4 h l1 l2).push { cls := .type "zip", data := .fields #[.none, .bool false, .bool false, .ref (zipMH2 h l1 l2).objs.size, .ref (zipMH3 h l1 l2).objs.size] }

section
variable {pg : Program} {w : World} {ar : Around} {er : Value → Shared → Prop} {sh : Shared}
end
open PySem.Spec PyProof.Rows L2
def ItzM (K : PySem.W.Frag) (aa b : Addr) : It :=
  ⟨fun ix H => ∃ (xs ys : List V) (x y : V), SqT K H aa xs ∧ SqL K H b ys ∧ xs[ix]? = some x ∧ ys[ix]? = some y,
    fun ix H v H' => ∃ T x y, v = .ref T ∧ H T = none ∧ H' = upd H T (.tup [x, y]) ∧ (∀ xs, SqT K H aa xs → xs[ix]? = some x) ∧ ∀ ys, SqL K H b ys → ys[ix]? = some y,
    fun ix H => ∃ xs ys : List V, SqT K H aa xs ∧ SqL K H b ys ∧ (xs.length ≤ ix ∨ ys.length ≤ ix)⟩
def iZipM (K : PySem.W.Frag) (ta : TA) : L2.TI := fun σ H R => ta σ H fun vs Hn => ∃ a b xs ys, vs = [.ref a, .ref b] ∧ SqT K Hn a xs ∧ SqL K Hn b ys ∧ R (ItzM K a b) Hn
def rZipM (K : PySem.W.Frag) (vs : List V) (H : Hp) (R : It → Hp → Prop) : Prop := ∃ a b xs ys, vs = [.ref a, .ref b] ∧ SqT K H a xs ∧ SqL K H b ys ∧ R (ItzM K a b) H
end FW

set_option Elab.async false
set_option linter.all false
set_option maxRecDepth 100000
/-! A walk over what is a list or a tuple. -/
namespace FW
open PySem L2
def rItS (K : PySem.W.Frag) (x : V) (H : Hp) (R : It → Hp → Prop) : Prop := ∃ a, x = .ref a ∧ (((∃ xs, SqL K H a xs) ∧ R (Itl K a) H) ∨ ((∃ xs, SqT K H a xs) ∧ R (Itt K a) H))
def iSeq (K : PySem.W.Frag) (te : L2.TE) : L2.TI := fun σ H R => te σ H fun x H1 => rItS K x H1 R
section
open PySem.Spec PyProof.Rows
end
section
variable {K : PySem.W.Frag} {σ : L2.St} {H : Hp}
end
end FW

set_option Elab.async false
set_option linter.all false
set_option maxRecDepth 100000
set_option maxHeartbeats 4000000
/-! l.count(x) of flat things; a lambda handed to a def -/
namespace FW
open PySem PySem.Spec PyProof.Rows L2
def rCount (K : PySem.W.Frag) (x : V) (xs : List V) (H : Hp) (Q : VK) : Prop := ∃ (a : Addr) (ys : List V) (y : V), x = V.ref a ∧ xs = [y] ∧ SqL K H a ys ∧ flatV y = true ∧ ys.all flatV = true ∧ Q (.int ((ys.countP fun z => eqV z y : Nat) : Int)) H
theorem count_vals {y : V} : ∀ {ys : List V} {us : List Value}, Vals ys us → ys.all flatV = true → us.countP (eqU y) = ys.countP fun z => eqV z y
  | [], _, r, _ => by cases r; rfl
  | z :: ys, _, r, f => by
    cases r with
    | cons rz rr =>
      rw [List.all_cons, Bool.and_eq_true_iff] at f
      rw [List.countP_cons, List.countP_cons, count_vals rr f.2, eqU_of rz f.1]
theorem mt_countF {X : Cx} : MtR X "list.count" (rCount X.K) := by
  intro pins s σ H x xs v us Q I rx rxs h
  obtain ⟨a, ys, y, rfl, rfl, hs, fy, fys, q⟩ := h
  cases rx
  cases rxs with
  | cons ry rt =>
    rename_i uy ut
    cases rt
    obtain ⟨its, rv, ⟨⟨cls, dd, data, sl⟩, n, ho, hc, hdn, hd⟩, hlen⟩ := I.list hs
    simp only at hc hd
    subst hc hd
    refine call_meets PySem.F.slot_list_count ⟨_, ho, rfl⟩ PySem.F.entry_list_count (PySem.F.args_list_count_2 _ _) (SeqAt.list_countAt a its.toArray n dd sl uy (eqU y)) ⟨ho, fun u' hu' => mem_eqAt ry fy rv fys u' (by simpa using hu'), ?_⟩
    exact ⟨.int _, H, I.tok _, ⟨_, by rw [show its.toArray.toList = its from rfl, count_vals rv fys]⟩, q⟩
theorem w_count {K : PySem.W.Frag} {H : Hp} {Q : VK} {a : Addr} {ys : List V} {y : V} (hs : SqL K H a ys) (fy : flatV y = true) (fys : ys.all flatV = true) (h : Q (.int ((ys.countP fun z => eqV z y : Nat) : Int)) H) : rCount K (.ref a) [y] H Q := ⟨a, ys, y, rfl, rfl, hs, fy, fys, h⟩
theorem w_indexF {K : PySem.W.Frag} {H : Hp} {Q : VK} {a : Addr} {ys : List V} {y z : V} (j : Nat) (hs : SqL K H a ys) (fy : flatV y = true) (fys : ys.all flatV = true) (h1 : ys[j]? = some z) (h2 : eqV z y = true) (h3 : ∀ (m : Nat) (z' : V), m < j → ys[m]? = some z' → eqV z' y = false) (h : Q (.int (j : Nat)) H) : rIndex K (.ref a) [y] H Q := ⟨a, ys, y, j, z, rfl, rfl, hs, fy, fys, h1, h2, h3, h⟩
end FW

set_option Elab.async false
set_option linter.all false
set_option maxRecDepth 100000
set_option maxHeartbeats 4000000
/-! A lambda handed to a def that calls it within a try. -/
namespace FW
open PySem PySem.Spec PyProof.Rows L2
/-- behind a raise the slots are as many as ever -/
theorem takesLen {X : Cx} {W : WX} (t : Takes X W) : Takes X (fun c d σ H => σ.length = X.N.length → W c d σ H) := fun u s' ⟨a, B, sI, pins, σ, H, cls, d, e, I, nb, up, sky, na, os, ag, w⟩ =>
  t u s' ⟨a, B, sI, pins, σ, H, cls, d, e, I, nb, up, sky, na, os, ag, w I.len⟩
/-- the call of what was handed in: R tells what it asks, by what it may raise -/
def tDeed (n : Nat) (W : WX) (R : XK → TE) : TE := fun σ H Q => ∃ E : XK, (∀ cls d σ' H', E cls d H' → σ'.length = n → W cls d σ' H') ∧ R E σ H Q
theorem pe_deed {X : Cx} {W : WX} {e : Expr} {R : XK → TE} (tk : Takes X W) (h : ∀ (W' : WX) (E : XK), Takes X W' → (∀ cls d σ' H', E cls d H' → W' cls d σ' H') → PE X e (R E)) : PE X e (tDeed X.N.length W R) := by
  refine ⟨fun pins s σ H Q I z => ?_⟩
  obtain ⟨E, hW, q⟩ := z
  exact (h _ E (takesLen tk) hW).run pins s σ H Q I q
theorem w_deed {n : Nat} {W : WX} {R : XK → TE} {σ : L2.St} {H : Hp} {Q : VK} (E : XK) (h1 : ∀ cls d σ' H', E cls d H' → σ'.length = n → W cls d σ' H') (h2 : R E σ H Q) : tDeed n W R σ H Q := ⟨E, h1, h2⟩
section
variable {P : Program} {w : World} {K : PySem.W.Frag} {mg : Str → Option Value} {base : Heap}
/-- as Fun.ok, with the def's code object told -/
theorem _root_.L2.Fun.okT {x qual : Str} {st : Stmt} {f : Addr} {fd : FuncData} {N ps : List Str} {k : Nat} {sp : Sp} (F : L2.Fun K x qual st f fd) (S : FnScope N ps (defScope st)) (len : ∀ vs H Q E, sp vs H Q E → vs.length = ps.length)
    (hbody : ∀ (cdv : Value) (A : Around) (outer : List Env) (s : Shared) (H : Hp) (vs : List V) (Q : VK) (E : XK), fd.code = cdv → Room k (A.deeper (envOfC qual (defScope st) s.heap.objs.size f cdv)) → sp vs H Q E →
      ∃ t, PSs (cxOf CX0 P w K mg base N qual (defScope st) f cdv A outer s H E).nox (defBody st) t ∧ t { nx := fun _ H' => Q .non H', rt := Q } (start N vs) H) : FnOk P w K mg base CX0 (k + 1) f fd ps sp := by
  obtain ⟨oc, od, kV, doc, pm, an, cdv, ct, osl, rfl, lk, hcd⟩ := F.ex
  refine fn_of lk hcd S len fun A outer s H vs Q E hr hsp => ?_
  obtain ⟨t, h, q⟩ := hbody cdv A outer s H vs Q E rfl hr hsp
  exact ⟨t, h.nox, q⟩
end
/-- x(lambda: body), x a def of one parameter that stands in the text -/
theorem pe_lamD {X : Cx} {TT : (XK → Hp → VK → Prop) → Hp → VK → Prop} {x a : Str} {g c P : Addr} {k : Nat} {st : Stmt} {fd : FuncData} {Ng : List Str} {params : Arguments} {body : Expr} {scope : Scope} {t : XK → TE} {p lpos pos : Pos} (D : L2.Fun X.K x x st g fd) (hb : L2.Binds X.K fd [a] []) (hm : X.mg x = some (.ref g)) (hg : Gl X x) (hNg : Ng[0]? = some a) (Sg : FnScope Ng [a] (defScope st)) (hva : Vis (defScope st) a)
    (hG : ∀ cdg, LamX.GivesTo X Ng x (defScope st) g cdg (defBody st) a (X.env.qual ++ "<lambda>") TT) (TB : LamX.TabB X.base X.mg c P) (hcode : X.env.code = .ref c) (hr : Room (k + 2) X.A) (L : LamX.LamS X.env.scope scope) (hdef : defaultsOf params X.env = ([], []))
    (hbind : ∀ (q : Str) (cl : List (Str × Addr)) (pm cv ctv : Value), bindArgs (PySem.W.kla_fn "<lambda>" q params body scope cl pm cv ctv) ⟨[], []⟩ = pure [])
    (hbody : ∀ (A : Around) (outer : List Env) (s : Shared) (H : Hp) (E : XK) (f c' : Addr), Room k (A.deeper (LamX.lamEnv X scope s.heap.objs.size f c')) → PE (LamX.lamCx X A outer s H E scope f c') body (t E))
    (hdb : (x == ("__debug__" : Str)) = false := by decide) (hd : (a == ("__debug__" : Str)) = false := by decide) (hcd : (a == ("__classdict__" : Str)) = false := by decide) :
    PE X (.Call (.Name x p) [.Lambda params body scope lpos] [] pos) (LamX.tLam [(P, X.env.qual ++ "<lambda>")] TT t) := by
  obtain ⟨oc, od, kV, doc, pm, an, cdv, ct, osl, rfl, lk, hcg⟩ := D.ex
  exact LamX.pe_lamcall hg hm D.kp lk hcg hb Sg hNg hva (hG cdv) TB hcode (.head _) (fun p hp _ => by rw [List.mem_singleton.mp hp]) hr L hdef hbind hbody hdb hd hcd
/-- as pe_lamD, beside other tables -/
theorem pe_lamT {X : Cx} (T : List (Addr × Str)) {TT : (XK → Hp → VK → Prop) → Hp → VK → Prop} {x a : Str} {g c P : Addr} {k : Nat} {st : Stmt} {fd : FuncData} {Ng : List Str} {params : Arguments} {body : Expr} {scope : Scope} {t : XK → TE} {p lpos pos : Pos} (D : L2.Fun X.K x x st g fd) (hb : L2.Binds X.K fd [a] []) (hm : X.mg x = some (.ref g)) (hg : Gl X x) (hNg : Ng[0]? = some a) (Sg : FnScope Ng [a] (defScope st)) (hva : Vis (defScope st) a)
    (hG : ∀ cdg, LamX.GivesTo X Ng x (defScope st) g cdg (defBody st) a (X.env.qual ++ "<lambda>") TT) (TB : LamX.TabB X.base X.mg c P) (hcode : X.env.code = .ref c) (hmT : (P, X.env.qual ++ "<lambda>") ∈ T) (hu : ∀ p ∈ T, p.1 = P → p.2 = X.env.qual ++ "<lambda>") (hr : Room (k + 2) X.A) (L : LamX.LamS X.env.scope scope) (hdef : defaultsOf params X.env = ([], []))
    (hbind : ∀ (q : Str) (cl : List (Str × Addr)) (pm cv ctv : Value), bindArgs (PySem.W.kla_fn "<lambda>" q params body scope cl pm cv ctv) ⟨[], []⟩ = pure [])
    (hbody : ∀ (A : Around) (outer : List Env) (s : Shared) (H : Hp) (E : XK) (f c' : Addr), Room k (A.deeper (LamX.lamEnv X scope s.heap.objs.size f c')) → PE (LamX.lamCx X A outer s H E scope f c') body (t E))
    (hdb : (x == ("__debug__" : Str)) = false := by decide) (hd : (a == ("__debug__" : Str)) = false := by decide) (hcd : (a == ("__classdict__" : Str)) = false := by decide) :
    PE X (.Call (.Name x p) [.Lambda params body scope lpos] [] pos) (LamX.tLam T TT t) := by
  obtain ⟨oc, od, kV, doc, pm, an, cdv, ct, osl, rfl, lk, hcg⟩ := D.ex
  exact LamX.pe_lamcall hg hm D.kp lk hcg hb Sg hNg hva (hG cdv) TB hcode hmT hu hr L hdef hbind hbody hdb hd hcd
theorem w_lam {T : List (Addr × Str)} {TT : (XK → Hp → VK → Prop) → Hp → VK → Prop} {t : XK → TE} {σ : L2.St} {H : Hp} {Q : VK} (hT : LamX.Tabs T H) (h : ∀ H1, LamX.ExtN H H1 → LamX.Tabs T H1 → TT (fun E H' Q' => t E σ H' Q') H1 Q) : LamX.tLam T TT t σ H Q := ⟨hT, h⟩
theorem twoH {P Q : Addr} {a b : Str} (h : P ≠ Q) : ∀ p ∈ [(P, a), (Q, b)], p.1 = P → p.2 = a := fun p hp e => by
  rcases List.mem_cons.mp hp with rfl | hp
  · rfl
  · rw [List.mem_singleton.mp hp] at e
    exact absurd e.symm h
theorem twoT {P Q : Addr} {a b : Str} (h : P ≠ Q) : ∀ p ∈ [(P, a), (Q, b)], p.1 = Q → p.2 = b := fun p hp e => by
  rcases List.mem_cons.mp hp with rfl | hp
  · exact absurd e h
  · rw [List.mem_singleton.mp hp]
theorem tabs2 {H : Hp} {P Q : Addr} {a b : Str} (h : H P = some (.tbl #[])) (g : H Q = some (.tbl #[])) : LamX.Tabs [(P, a), (Q, b)] H := fun p hp => by
  rcases List.mem_cons.mp hp with rfl | hp
  · exact LamX.TabS.nil h
  · rw [List.mem_singleton.mp hp]
    exact LamX.TabS.nil g
end FW

set_option Elab.async false
set_option linter.all false
set_option maxRecDepth 100000
set_option maxHeartbeats 4000000
/-! x == y of two objects that compare by identity -/
namespace FW
open PySem PySem.Spec PyProof.Rows L2 PySem.SeqAt
section
variable {prog : Program} {w : World} {A : Around} {E : Value → Shared → Prop} {s : Shared} {K : PySem.W.Frag} {x y C : Addr} {ox oy : Obj} {od od' : Option Obj}
theorem rc_eqO (hu : A.units < cLine) (X : K.In s.heap) (Ix : PySem.W.InstAt s.heap x ox C od) (Iy : PySem.W.InstAt s.heap y oy C od') (hx : s.heap.get? x = some ox) (hy : s.heap.get? y = some oy) (tx : ox.cls ≠ .type "tuple") (ty : oy.cls ≠ .type "tuple") (hxy : x ≠ y)
    (hm : PySem.W.mroIn K C (.type "object") = some true) (hs : PySem.W.findIn K (.ref C) "__eq__" = some (some (.builtin "object.__eq__"))) {Q : Value → Shared → Prop} (hq : Q (.bool false) s) : wpAny (model prog w) A (richCompare .Eq (.ref x) (.ref y)) Q E s := by
  have one : wpAny (model prog w) A (tryCompare (.ref x) "__eq__" (.ref y)) (fun r s' => r = none ∧ s' = s) E s := by
    unfold tryCompare
    refine wpAny_bind (HN.ifBound_objEq X Ix hs ?_)
    exact wpAny_call (codeAny_call_builtin F.cmp_object.eq.plain F.cmpEntry_eq (PySem.W.check_slot F.cmpKind_eq F.cmpSplit_eq (Ix.type.andThen (PySem.W.looks_mroIn X hm)) (F.cmpArgs_eq _ _) (objEq_entry_other hxy hx hy tx (wpAny_pure ⟨rfl, rfl⟩))))
  have two : wpAny (model prog w) A (tryCompare (.ref y) "__eq__" (.ref x)) (fun r s' => r = none ∧ s' = s) E s := by
    unfold tryCompare
    refine wpAny_bind (HN.ifBound_objEq X Iy hs ?_)
    exact wpAny_call (codeAny_call_builtin F.cmp_object.eq.plain F.cmpEntry_eq (PySem.W.check_slot F.cmpKind_eq F.cmpSplit_eq (Iy.type.andThen (PySem.W.looks_mroIn X hm)) (F.cmpArgs_eq _ _) (objEq_entry_other (Ne.symm hxy) hy hx ty (wpAny_pure ⟨rfl, rfl⟩))))
  simp only [oneThing_ref, richCompare, cmpInfo_Eq]
  refine wpAny_holding (wpAny_bind (wpAny_cRoomFor hu (wpAny_bind (Ix.type.here (wpAny_bind (Iy.type.here ?_))))))
  rw [if_neg (by simp)]
  refine wpAny_bind (wpAny_pure ?_)
  simp only [Bool.false_eq_true, if_false]
  refine wpAny_bind (m := tryCompare (.ref x) _ (.ref y)) (wpAny_mono one (fun r s1 z => ?_) fun _ _ e => e)
  obtain ⟨z1, z2⟩ := z
  subst z1
  subst z2
  simp only [Bool.not_false, if_true]
  refine wpAny_bind (m := tryCompare (.ref y) _ (.ref x)) (wpAny_mono two (fun r s2 z => ?_) fun _ _ e => e)
  obtain ⟨z1, z2⟩ := z
  subst z1
  subst z2
  refine wpAny_bind (wpAny_rule (wpAny_bind ?_))
  exact wpAny_isSame_ref_other hxy hx hy tx (wpAny_pure hq)
end
def rEqO (K : PySem.W.Frag) : R2 := fun x y H Q => ∃ a b C dx dy fs gs, x = .ref a ∧ y = .ref b ∧ a ≠ b ∧ H a = some (.ins C dx fs) ∧ H b = some (.ins C dy gs) ∧ EqI K C ∧ Q (.bl false) H
end FW

set_option Elab.async false
set_option linter.all false
set_option maxRecDepth 100000
set_option maxHeartbeats 4000000
/-! == and != where one of the two has an own __eq__, the other being anything -/
namespace FW
open PySem PySem.Spec PyProof.Rows L2 PySem.SeqAt
section
variable {prog : Program} {w : World} {A : Around} {E : Value → Shared → Prop} {s : Shared} {b l : Addr} {Q : Option Value → Shared → Prop}
end
/-- an own class with an own __eq__ and no __ne__ -/
structure EqV (K : PySem.W.Frag) (C : Addr) : Prop where
  mr : PySem.W.mroIn K C (.type "object") = some true
  ne : PySem.W.findIn K (.ref C) "__ne__" = some (some (.builtin "object.__ne__"))
  ha : PySem.W.findIn K (.ref C) "__class__" = some (some (.builtin "object.__class__"))
  hn : PySem.W.specialIn K (.builtin "object.__class__") "__get__" = some (some (.builtin "getset_descriptor.__get__"))
  ht : PySem.W.takesIn K (.builtin "object.__class__") = some true
  ko : PySem.W.kitOne K (.ref C) (.ref C) = some true
  f_NoneType : PySem.W.subIn K (.type "NoneType") (.ref C) = some false
  b_NoneType : PySem.W.subIn K (.ref C) (.type "NoneType") = some false
  k_NoneType : PySem.W.kitOne K (.type "NoneType") (.ref C) = some false
  f_bool : PySem.W.subIn K (.type "bool") (.ref C) = some false
  b_bool : PySem.W.subIn K (.ref C) (.type "bool") = some false
  k_bool : PySem.W.kitOne K (.type "bool") (.ref C) = some false
  f_int : PySem.W.subIn K (.type "int") (.ref C) = some false
  b_int : PySem.W.subIn K (.ref C) (.type "int") = some false
  k_int : PySem.W.kitOne K (.type "int") (.ref C) = some false
  f_str : PySem.W.subIn K (.type "str") (.ref C) = some false
  b_str : PySem.W.subIn K (.ref C) (.type "str") = some false
  k_str : PySem.W.kitOne K (.type "str") (.ref C) = some false
  f_list : PySem.W.subIn K (.type "list") (.ref C) = some false
  b_list : PySem.W.subIn K (.ref C) (.type "list") = some false
  k_list : PySem.W.kitOne K (.type "list") (.ref C) = some false
  f_tuple : PySem.W.subIn K (.type "tuple") (.ref C) = some false
  b_tuple : PySem.W.subIn K (.ref C) (.type "tuple") = some false
  k_tuple : PySem.W.kitOne K (.type "tuple") (.ref C) = some false
  f_dict : PySem.W.subIn K (.type "dict") (.ref C) = some false
  b_dict : PySem.W.subIn K (.ref C) (.type "dict") = some false
  k_dict : PySem.W.kitOne K (.type "dict") (.ref C) = some false
section
variable {X : Cx} {CX : CXT} {k : Nat} {f C : Addr} {fd : FuncData} {ps : List Str} {sp : Sp} {E : XK} {pins : List (Addr × Obj)} {σ : L2.St} {H : Hp} {s : Shared}
theorem Ty.knd (I : Inv X pins σ H s) {y : V} {t : String} {u : Value} (ty : Ty H y t) (ry : RelV y u) : s.TypeIs u t ∧ PySem.W.Looks (model X.prog X.w) s.heap (typeOf u) (.type t) := by
  obtain ⟨Pk, kx, hp, _⟩ := kit_of I ry ty.tx
  refine ⟨?_, kx.ty _ _ I.kIn hp⟩
  cases ty with
  | non => cases (show u = Value.none from ry); rfl
  | bl b => cases (show u = Value.bool b from ry); rfl
  | int i => obtain ⟨tk, q⟩ := (show ∃ t, u = Value.int i t from ry); cases q; rfl
  | str z => obtain ⟨tk, q⟩ := (show ∃ t, u = Value.str z t from ry); cases q; rfl
  | @lst a xs ea =>
    cases (show u = Value.ref a from ry)
    obtain ⟨_, _, n, _, h1⟩ := (show ObjOk X.prog X.w H s.heap a (.lst xs) from I.hok a _ ea)
    exact ⟨_, h1, rfl⟩
  | @tup a xs ea =>
    cases (show u = Value.ref a from ry)
    obtain ⟨_, _, _, o, h1, h2, _⟩ := (show ObjOk X.prog X.w H s.heap a (.tup xs) from I.hok a _ ea)
    exact ⟨o, h1, h2⟩
  | @dK a kvs ea =>
    cases (show u = Value.ref a from ry)
    obtain ⟨_, _, vs, _, o, es, ep, h1, h2, _⟩ := (show ObjOk X.prog X.w H s.heap a (.dK kvs) from I.hok a _ ea)
    exact ⟨o, h1, h2.1⟩
theorem EqV.fw {K : PySem.W.Frag} (q : EqV K C) {H : Hp} {y : V} {t : String} (ty : Ty H y t) : PySem.W.subIn K (.type t) (.ref C) = some false := by
  cases ty
  · exact q.f_NoneType
  · exact q.f_bool
  · exact q.f_int
  · exact q.f_str
  · exact q.f_list
  · exact q.f_tuple
  · exact q.f_dict
theorem EqV.kt {K : PySem.W.Frag} (q : EqV K C) {H : Hp} {y : V} {t : String} (ty : Ty H y t) : PySem.W.kitOne K (.type t) (.ref C) = some false := by
  cases ty
  · exact q.k_NoneType
  · exact q.k_bool
  · exact q.k_int
  · exact q.k_str
  · exact q.k_list
  · exact q.k_tuple
  · exact q.k_dict
/-- what the own __eq__ tells, True or False -/
def eqB (g : Bool → Bool) (Q : VK) : VK := fun v H' => ∃ r, v = .bl r ∧ Q (.bl (g r)) H'
def VwOr (C : Addr) (H : Hp) (y : V) : Prop := (∃ t, Ty H y t) ∨ ∃ b dy gs, y = .ref b ∧ H b = some (.ins C dy gs)
def rEqV (C : Addr) (sp : Sp) (E : XK) : R2 := fun x y H Q => (∃ a dx fs, x = .ref a ∧ H a = some (.ins C dx fs) ∧ VwOr C H y ∧ sp [x, y] H (eqB (fun r => r) Q) E) ∨ ∃ b dy gs, y = .ref b ∧ H b = some (.ins C dy gs) ∧ (∃ t, Ty H x t) ∧ sp [y, x] H (eqB (fun r => r) Q) E
def rNeV (C : Addr) (sp : Sp) (E : XK) : R2 := fun x y H Q => ∃ a dx fs, x = .ref a ∧ H a = some (.ins C dx fs) ∧ VwOr C H y ∧ sp [x, y] H (eqB (fun r => !r) Q) E
/-! ### x == y by identity, the same or another -/
theorem rc_eqS {A : Around} {E : Value → Shared → Prop} {s : Shared} {K : PySem.W.Frag} {prog : Program} {w : World} {x C : Addr} {ox : Obj} {od : Option Obj} (hu : A.units < cLine) (X : K.In s.heap) (I : PySem.W.InstAt s.heap x ox C od) (hm : PySem.W.mroIn K C (.type "object") = some true) (hs : PySem.W.findIn K (.ref C) "__eq__" = some (some (.builtin "object.__eq__"))) {Q : Value → Shared → Prop} (hq : Q (.bool true) s) : wpAny (model prog w) A (richCompare .Eq (.ref x) (.ref x)) Q E s := by
  have one : wpAny (model prog w) A (tryCompare (.ref x) "__eq__" (.ref x)) (fun r s' => r = some (.bool true) ∧ s' = s) E s := by
    unfold tryCompare
    refine wpAny_bind (HN.ifBound_objEq X I hs (call_eqS X I hm ?_))
    exact wpAny_pure ⟨rfl, rfl⟩
  simp only [oneThing_ref, richCompare, cmpInfo_Eq]
  refine wpAny_holding (wpAny_bind (wpAny_cRoomFor hu (wpAny_bind (I.type.here (wpAny_bind (I.type.here ?_))))))
  rw [if_neg (by simp)]
  refine wpAny_bind (wpAny_pure ?_)
  simp only [Bool.false_eq_true, if_false]
  refine wpAny_bind (m := tryCompare (.ref x) _ (.ref x)) (wpAny_mono one (fun r s1 z => ?_) fun _ _ e => e)
  obtain ⟨z1, z2⟩ := z
  subst z1
  subst z2
  exact wpAny_pure hq
def rEqI (K : PySem.W.Frag) : R2 := fun x y H Q => ∃ a b C dx dy fs gs, x = .ref a ∧ y = .ref b ∧ H a = some (.ins C dx fs) ∧ H b = some (.ins C dy gs) ∧ EqI K C ∧ Q (.bl (decide (a = b))) H
theorem op_eqI {X : Cx} (hu : X.A.units < cLine) : OpR X (compareOp .Eq) (rEqI X.K) := by
  intro pins s σ H x y u v Q I rx ry h
  obtain ⟨a, b, C, dx, dy, fs, gs, rfl, rfl, ha, hb, ei, q⟩ := h
  obtain rfl : u = Value.ref a := rx
  obtain rfl : v = Value.ref b := ry
  obtain ⟨mA, O, _, _, _, _⟩ := ins_get I.hok ha
  obtain ⟨od, J, _⟩ := O.look
  by_cases hab : a = b
  · subst hab
    rw [decide_eq_true rfl] at q
    exact rc_eqS hu I.kIn J ei.mr ei.eq ⟨.bl true, H, I, rfl, q⟩
  · rw [decide_eq_false hab] at q
    obtain ⟨mB, O', _, _, _, _⟩ := ins_get I.hok hb
    obtain ⟨od', J', _⟩ := O'.look
    exact rc_eqO hu I.kIn J J' J.at_ J'.at_ (by rw [J.cls]; nofun) (by rw [J'.cls]; nofun) hab ei.mr ei.eq ⟨.bl false, H, I, rfl, q⟩
end
end FW

set_option Elab.async false
set_option linter.all false
set_option maxRecDepth 100000
set_option maxHeartbeats 4000000
/-! isinstance(x, C) of an own class without an own __eq__ -/
namespace FW
open PySem PySem.Spec PyProof.Rows L2
structure OwnK (K : PySem.W.Frag) (C : Addr) : Prop where
  mr : PySem.W.mroIn K C (.type "object") = some true
  ha : PySem.W.findIn K (.ref C) "__class__" = some (some (.builtin "object.__class__"))
  hn : PySem.W.specialIn K (.builtin "object.__class__") "__get__" = some (some (.builtin "getset_descriptor.__get__"))
  ht : PySem.W.takesIn K (.builtin "object.__class__") = some true
  ko : PySem.W.kitOne K (.ref C) (.ref C) = some true
theorem w_isO {K : PySem.W.Frag} {H : Hp} {Q : VK} {a C dx : Addr} {fs : List (Str × V)} (q : OwnK K C) (cl : Cls K C) (ea : H a = some (.ins C dx fs)) (h : Q (.bl true) H) : rIsi K [.ref a, .ref C] H Q := ⟨.ref a, .ref C, .ref C, .ref C, true, rfl, .own C, .base (.ins ea cl q.ha q.hn q.ht q.mr), q.ko, h⟩
end FW
namespace FW
open PySem PySem.Spec PyProof.Rows L2
/-- o.m() where o is never had -/
def tDead (ta : TE) : TE := fun σ H _ => ta σ H fun _ _ => False
theorem pe_deadM {X : Cx} {o : Expr} {m : Str} {apos pos : Pos} {ta : TE} {pl : Sem Bool} (he : PE X o ta)
    (ht : eval (.Call (.Attribute o m apos) [] [] pos) X.env = (do
      let ov ← eval o X.env
      standAt apos.atName
      let (f, first) ← holding [ov] (getMethod ov m pl)
      callWith pos f first (backTo pos (starEach [] X.env)) (backToKw pos (keywordEach [] X.env))) := by rfl) :
    PE X (.Call (.Attribute o m apos) [] [] pos) (tDead ta) := by
  refine ⟨fun pins s σ H Q I h => ?_⟩
  exact PySem.W.methodCall_KW (pl := pl) (thn (he.run pins s σ H _ I h) fun u s1 ⟨x, H1, I1, rx, q⟩ => q.elim) ht
theorem w_dead {ta : TE} {σ : L2.St} {H : Hp} {Q : VK} (h : ta σ H fun _ _ => False) : tDead ta σ H Q := h
end FW

set_option Elab.async false
set_option linter.all false
set_option maxRecDepth 100000
set_option maxHeartbeats 4000000
/-! sets of texts out of lists, sorted -/
namespace FW
open PySem PySem.Spec PyProof.Rows L2
def keyT (z : Int × Value) : Str := match z.2 with | .str k _ => k | _ => ⟨#[]⟩
def GoodT (w : World) (z : Int × Value) : Prop := ∃ k u, z.2 = Value.str k u ∧ z.1 = hashStr w k
/-- the set of texts at a -/
def SetT (w : World) (h : Heap) (a : Addr) (S : Str → Bool) (n : Nat) : Prop :=
  ∃ ob xs ep tb, h.get? a = some ob ∧ ob.ExactSet ∧ ob.data = .set xs ep tb ∧ (∀ z ∈ xs.toList, GoodT w z) ∧ (xs.toList.map keyT).Nodup ∧ (∀ k, S k = true ↔ k ∈ xs.toList.map keyT) ∧
    xs.size < scanBound ∧ tb.fits xs.size = true ∧ xs.size = n ∧ Ris tb.place.toList ∧ (w.params.followText "set-order" = true ∨ tb.led = true)
section
variable {P : Program} {w : World} {h h' : Heap} {a : Addr} {S : Str → Bool} {n : Nat}
theorem SetT.at (R : SetT w h a S n) (k : ∀ ob, h.get? a = some ob → h'.get? a = some ob) : SetT w h' a S n := by
  obtain ⟨ob, xs, ep, tb, at', r⟩ := R
  exact ⟨ob, xs, ep, tb, k ob at', r⟩
theorem SetT.congr {S' : Str → Bool} (R : SetT w h a S n) (e : ∀ k, S' k = S k) : SetT w h a S' n := by
  have q : S' = S := funext e
  rw [q]; exact R
end
section
variable {P : Program} {w : World} {A : Around} {E : Value → Shared → Prop} {s : Shared} {a : Addr} {S : Str → Bool} {n : Nat}
end
section
variable {P : Program} {w : World} {A : Around} {E : Value → Shared → Prop} {s : Shared}
end
section
variable {P : Program} {w : World} {A : Around} {E : Value → Shared → Prop} {s : Shared}
end
/-! ### as calls -/
def SetTO (w : World) (a : Addr) (S : Str → Bool) (n : Nat) : HO := .ext fun h => SetT w h a S n
def rSetTL (K : PySem.W.Frag) (w : World) (vs : List V) (H : Hp) (Q : VK) : Prop := ∃ (l : Addr) (zs : List Str), vs = [.ref l] ∧ SqL K H l (zs.map V.str) ∧ zs.length < 64 ∧ ∀ (p : Addr) (c : Nat), H p = none → c ≤ zs.length → Q (.ref p) (upd H p (SetTO w p (fun j => decide (j ∈ zs)) c))
def rSortTS (w : World) (vs : List V) (H : Hp) (Q : VK) : Prop := ∃ (a : Addr) (S : Str → Bool) (n : Nat), vs = [V.ref a] ∧ H a = some (SetTO w a S n) ∧ n < 64 ∧ ∀ (zs : List Str) (p : Addr), zs.Pairwise (fun x y => x.cps.toList < y.cps.toList) → (∀ k : Str, k ∈ zs ↔ S k = true) → zs.length = n → H p = none → Q (.ref p) (upd H p (.lst (zs.map V.str)))
theorem risingS_pw : ∀ (l : List Str) (p : Str), risingS p l = true → (p :: l).Pairwise fun x y => ¬ y.cps.toList < x.cps.toList
  | [], p, _ => List.pairwise_singleton _ _
  | x :: r, p, h => by
    simp only [risingS, Bool.and_eq_true, Bool.not_eq_true', ltCps_eq, decide_eq_false_iff_not] at h
    have ih := risingS_pw r x h.2
    refine List.pairwise_cons.mpr ⟨fun y hy => ?_, ih⟩
    rcases List.mem_cons.mp hy with e | hy
    · rw [e]
      exact h.1
    · intro hlt
      have h2 := (List.pairwise_cons.mp ih).1 y hy
      rcases tx_tri h2 with g | g
      · exact h.1 (List.lt_trans g hlt)
      · rw [g] at hlt
        exact h.1 hlt
theorem sortedS_pw {l : List Str} (h : sortedS l = true) (nd : l.Nodup) : l.Pairwise fun x y => x.cps.toList < y.cps.toList := by
  have hp : l.Pairwise fun x y => ¬ y.cps.toList < x.cps.toList := by
    cases l with
    | nil => exact .nil
    | cons p r => exact risingS_pw r p h
  refine (hp.and nd).imp fun {x y} ⟨h1, h2⟩ => ?_
  rcases tx_tri h1 with g | g
  · exact g
  · exact absurd g.symm h2
section
variable {X : Cx}
end
section
variable {K : PySem.W.Frag} {w : World} {H : Hp} {Q : VK}
end
end FW

set_option Elab.async false
set_option linter.all false
set_option maxRecDepth 100000
set_option maxHeartbeats 4000000
/-! sorted(d) of a dict keyed by texts, fewer than 64 -/
namespace FW
open PySem PySem.Spec PyProof.Rows L2
def rSortDS (xs : List V) (H : Hp) (Q : VK) : Prop := ∃ (a : Addr) (kvs : List (Key × V)) (ks : List Str), xs = [.ref a] ∧ Rd H a (.dK kvs) ∧ kvs.map (·.1) = ks.map Sum.inr ∧ ks.Nodup ∧ ks.length < 64 ∧
    ∀ (ys : List Str) (p : Addr), ys.Perm ks → ys.Pairwise (fun x y => x.cps.toList < y.cps.toList) → H p = none → Q (.ref p) (upd H p (.lst (ys.map V.str)))
theorem strs_each : ∀ {l : List Value} {ks : List Str}, l.length = ks.length → (∀ (j : Nat) (v : Value), l[j]? = some v → ∃ k u, ks[j]? = some k ∧ v = .str k u) → StrsAre l ks
  | [], [], _, _ => .nil
  | v :: l, k :: ks, hl, h => by
    obtain ⟨k0, u, e1, rfl⟩ := h 0 v rfl
    cases e1
    exact .cons k u (strs_each (by simpa using hl) fun j v e => by simpa using h (j + 1) v (by simpa using e))
theorem c_sortDS {X : Cx} (hcalm : X.calm = true) : CallR X (.builtin "sorted") rSortDS := by
  intro pins s σ H xs us Q I r ⟨a, kvs, ks, ex, hd, hks, hnd, hlk, q⟩
  subst ex
  obtain ⟨u, eu, rx⟩ := vals1 r
  subst eu
  cases rx
  obtain ⟨z, lo, vs, rel, dd⟩ := dk_rd I.hok hd
  obtain ⟨ep, hat⟩ := dd.dictAt
  have hkeys : vs.map (·.1) = ks.map Sum.inr := rel.keys.symm.trans hks
  have hl : vs.length = ks.length := by
    have e := congrArg List.length hkeys
    simpa using e
  have h16 : vs.length ≤ sizeLine := by rw [hl, sizeLine_eq]; omega
  refine Calls.call_function_entry kind_sorted plain_sorted entry_sorted (args_sorted1 _) ?_
  unfold Builtin.«sorted»; refine wpAny_bind (m := checkCount "sorted" 1 1 _) (wpAny_pure ?_)
  refine wpAny_bind (PySem.W.kdu_collect (A := X.A.in1) (PySem.W.kdl_dict (knd := mixKind X.prog X.w) (kvs := vs) (ep := ep) lo) (I.ok.hd hcalm) hat h16 fun h' tk acc hk hacc => ?_)
  have hal : acc.toList.length = ks.length := by rw [Array.length_toList, hacc.1, hl]
  have hS : StrsAre acc.toList ks := strs_each hal fun j v e => by
    obtain ⟨k, x, e1, e2⟩ := hacc.2 j v (by rw [← Array.getElem?_toList]; exact e)
    have e3 : (vs.map (·.1))[j]? = some k := by rw [List.getElem?_map, e1]; rfl
    rw [hkeys, List.getElem?_map] at e3
    obtain ⟨y, e4, e5⟩ := Option.map_eq_some_iff.mp e3
    subst e5
    rcases keyIs_shape (show keyIs (Sum.inr y) v = true from e2) with ⟨i, t, ek, ev⟩ | ⟨z, t, ek, ev⟩
    · cases ek
    · cases ek
      exact ⟨y, t, e4, ev⟩
  have I1 : Inv X pins σ H { s with heap := h', toks := tk } := I.kept hk
  have hz : acc.toList.length ≤ sizeLine := by rw [hal, sizeLine_eq]; omega
  refine wpAny_bind (wpAny_newList ?_ hz)
  have atL : (h'.push (seqObj "list" acc.toList.toArray 0)).get? h'.objs.size = some (seqObj "list" acc.toList.toArray 0) := Heap.get?_push_size _ rfl
  show wpAny _ _ _ _ _ { s with heap := h'.push (seqObj "list" acc.toList.toArray 0), toks := tk }
  refine wpAny_bind (wpAny_holding (wpAny_call_entry slot_list_sort ⟨_, atL, rfl⟩ entry_list_sort (list_sort_treeK strKind_oneLt (s := { s with heap := h'.push (seqObj "list" acc.toList.toArray 0), toks := tk }) atL hS.keysOf (fun v1 v2 rest e => keyKind_strs (by rw [← e]; exact hS)) (by rw [hal]; exact hlk) fun st1 hp hs => ⟨_, rfl, ?_⟩) (args_list_sort _)))
  obtain ⟨ys, y1, y2, y3⟩ := sorted_out_str hS hp hs
  obtain ⟨e', he'⟩ := sortedHeap_at (vs := acc.toList) (out := (arrOf st1).map (·.2)) atL
  have hlen : (ys.map V.str).length ≤ sizeLine := by rw [List.length_map, y2.length_eq, ← hal]; exact hz
  refine wpAny_pure ⟨_, rfl, .ref h'.objs.size, upd H h'.objs.size (.lst (ys.map V.str)), I1.laid (t' := tk) (fun b u e => ?_) (Nat.le_refl _) (show ObjOk X.prog X.w _ _ _ (.lst (ys.map V.str)) from ⟨hlen, ((arrOf st1).map (·.2)).toList, e', vals_of_strs y1, by rw [Array.toArray_toList]; exact he'⟩), rfl, q _ _ y2 (sortedS_pw y3 (y2.nodup_iff.mpr hnd)) (I1.hok.fresh (Nat.le_refl _))⟩
  have hb : b < h'.objs.size := Heap.lt_size e
  rw [sortedHeap_old (Nat.ne_of_lt hb) (by rw [size_push']; exact Nat.lt_succ_of_lt hb)]
  exact Heap.get?_push_of_some _ e
theorem w_sortDS {H : Hp} {Q : VK} {a : Addr} {kvs : List (Key × V)} {ks : List Str} (e : H a = some (.dK kvs)) (hk : kvs.map (·.1) = ks.map Sum.inr) (hn : ks.Nodup) (hl : ks.length < 64) (h : ∀ (ys : List Str) p H1, ys.Perm ks → ys.Pairwise (fun x y => x.cps.toList < y.cps.toList) → H p = none → H1 p = some (.lst (ys.map V.str)) → Same H H1 → Q (.ref p) H1) : rSortDS [.ref a] H Q :=
  ⟨a, kvs, ks, rfl, .inl e, hk, hn, hl, fun ys p g1 g2 hp => h ys p _ g1 g2 hp upd_same (Same.new hp)⟩
end FW

set_option Elab.async false
set_option linter.all false
set_option maxRecDepth 100000
set_option maxHeartbeats 4000000
namespace FW
open PySem L2
def top (i : Nat) : Stmt := PySem.Challenge.pw_fewasks_k80_houses_of_a_town.main.body.getD i (.Pass ⟨0, 0, 0, 0⟩)
abbrev s_NoHouse___init__ : Stmt := inClass (top 8) 0
abbrev N_NoHouse___init__ : List Str := ["self", "label"]
theorem sc_NoHouse___init__ : FnScope N_NoHouse___init__ ["self", "label"] (defScope s_NoHouse___init__) := ⟨rfl, rfl, rfl, by decide +kernel, rfl, by decide +kernel, by decide +kernel⟩
abbrev s_Taken___init__ : Stmt := inClass (top 9) 0
abbrev N_Taken___init__ : List Str := ["self", "label"]
theorem sc_Taken___init__ : FnScope N_Taken___init__ ["self", "label"] (defScope s_Taken___init__) := ⟨rfl, rfl, rfl, by decide +kernel, rfl, by decide +kernel, by decide +kernel⟩
abbrev s_is_int : Stmt := top 16
abbrev N_is_int : List Str := ["thing", "least"]
theorem sc_is_int : FnScope N_is_int ["thing", "least"] (defScope s_is_int) := ⟨rfl, rfl, rfl, by decide +kernel, rfl, by decide +kernel, by decide +kernel⟩
abbrev s_is_text : Stmt := top 17
abbrev N_is_text : List Str := ["thing", "most", "sign"]
theorem sc_is_text : FnScope N_is_text ["thing", "most"] (defScope s_is_text) := ⟨rfl, rfl, rfl, by decide +kernel, rfl, by decide +kernel, by decide +kernel⟩
abbrev s_is_label : Stmt := top 18
abbrev N_is_label : List Str := ["thing", "sign"]
theorem sc_is_label : FnScope N_is_label ["thing"] (defScope s_is_label) := ⟨rfl, rfl, rfl, by decide +kernel, rfl, by decide +kernel, by decide +kernel⟩
abbrev s_rise : Stmt := top 19
abbrev N_rise : List Str := ["row", "k"]
theorem sc_rise : FnScope N_rise ["row"] (defScope s_rise) := ⟨rfl, rfl, rfl, by decide +kernel, rfl, by decide +kernel, by decide +kernel⟩
abbrev s_are_ints : Stmt := top 20
abbrev N_are_ints : List Str := ["thing", "part"]
theorem sc_are_ints : FnScope N_are_ints ["thing"] (defScope s_are_ints) := ⟨rfl, rfl, rfl, by decide +kernel, rfl, by decide +kernel, by decide +kernel⟩
abbrev s_rising_ints : Stmt := top 21
abbrev N_rising_ints : List Str := ["thing"]
theorem sc_rising_ints : FnScope N_rising_ints ["thing"] (defScope s_rising_ints) := ⟨rfl, rfl, rfl, by decide +kernel, rfl, by decide +kernel, by decide +kernel⟩
abbrev s_is_pair : Stmt := top 22
abbrev N_is_pair : List Str := ["thing"]
theorem sc_is_pair : FnScope N_is_pair ["thing"] (defScope s_is_pair) := ⟨rfl, rfl, rfl, by decide +kernel, rfl, by decide +kernel, by decide +kernel⟩
abbrev s_are_rows : Stmt := top 23
abbrev N_are_rows : List Str := ["thing", "row"]
theorem sc_are_rows : FnScope N_are_rows ["thing"] (defScope s_are_rows) := ⟨rfl, rfl, rfl, by decide +kernel, rfl, by decide +kernel, by decide +kernel⟩
abbrev s_Book___init__ : Stmt := inClass (top 27) 0
abbrev N_Book___init__ : List Str := ["self"]
theorem sc_Book___init__ : FnScope N_Book___init__ ["self"] (defScope s_Book___init__) := ⟨rfl, rfl, rfl, by decide +kernel, rfl, by decide +kernel, by decide +kernel⟩
abbrev s_Book___len__ : Stmt := inClass (top 27) 1
abbrev N_Book___len__ : List Str := ["self"]
theorem sc_Book___len__ : FnScope N_Book___len__ ["self"] (defScope s_Book___len__) := ⟨rfl, rfl, rfl, by decide +kernel, rfl, by decide +kernel, by decide +kernel⟩
abbrev s_Book_named : Stmt := inClass (top 27) 2
abbrev N_Book_named : List Str := ["self", "content"]
theorem sc_Book_named : FnScope N_Book_named ["self", "content"] (defScope s_Book_named) := ⟨rfl, rfl, rfl, by decide +kernel, rfl, by decide +kernel, by decide +kernel⟩
abbrev s_Book_thing : Stmt := inClass (top 27) 4
abbrev N_Book_thing : List Str := ["self", "name"]
theorem sc_Book_thing : FnScope N_Book_thing ["self", "name"] (defScope s_Book_thing) := ⟨rfl, rfl, rfl, by decide +kernel, rfl, by decide +kernel, by decide +kernel⟩
abbrev s_Book_kind : Stmt := inClass (top 27) 5
abbrev N_Book_kind : List Str := ["self", "name"]
theorem sc_Book_kind : FnScope N_Book_kind ["self", "name"] (defScope s_Book_kind) := ⟨rfl, rfl, rfl, by decide +kernel, rfl, by decide +kernel, by decide +kernel⟩
abbrev s_is_name : Stmt := top 28
abbrev N_is_name : List Str := ["book", "thing"]
theorem sc_is_name : FnScope N_is_name ["book", "thing"] (defScope s_is_name) := ⟨rfl, rfl, rfl, by decide +kernel, rfl, by decide +kernel, by decide +kernel⟩
abbrev s_is_kind : Stmt := top 29
abbrev N_is_kind : List Str := ["book", "thing", "kind"]
theorem sc_is_kind : FnScope N_is_kind ["book", "thing", "kind"] (defScope s_is_kind) := ⟨rfl, rfl, rfl, by decide +kernel, rfl, by decide +kernel, by decide +kernel⟩
abbrev s_is_entry : Stmt := top 30
abbrev N_is_entry : List Str := ["book", "thing"]
theorem sc_is_entry : FnScope N_is_entry ["book", "thing"] (defScope s_is_entry) := ⟨rfl, rfl, rfl, by decide +kernel, rfl, by decide +kernel, by decide +kernel⟩
abbrev s_is_tree : Stmt := top 31
abbrev N_is_tree : List Str := ["book", "entries", "entry"]
theorem sc_is_tree : FnScope N_is_tree ["book", "entries"] (defScope s_is_tree) := ⟨rfl, rfl, rfl, by decide +kernel, rfl, by decide +kernel, by decide +kernel⟩
abbrev s_depth_of : Stmt := top 32
abbrev N_depth_of : List Str := ["book", "content", "label", "name"]
theorem sc_depth_of : FnScope N_depth_of ["book", "content"] (defScope s_depth_of) := ⟨rfl, rfl, rfl, by decide +kernel, rfl, by decide +kernel, by decide +kernel⟩
abbrev s_is_version : Stmt := top 33
abbrev N_is_version : List Str := ["book", "content", "parents", "parent"]
theorem sc_is_version : FnScope N_is_version ["book", "content"] (defScope s_is_version) := ⟨rfl, rfl, rfl, by decide +kernel, rfl, by decide +kernel, by decide +kernel⟩
abbrev s_is_content : Stmt := top 34
abbrev N_is_content : List Str := ["book", "thing"]
theorem sc_is_content : FnScope N_is_content ["book", "thing"] (defScope s_is_content) := ⟨rfl, rfl, rfl, by decide +kernel, rfl, by decide +kernel, by decide +kernel⟩
abbrev s_Store___init__ : Stmt := inClass (top 42) 0
abbrev N_Store___init__ : List Str := ["self", "book"]
theorem sc_Store___init__ : FnScope N_Store___init__ ["self", "book"] (defScope s_Store___init__) := ⟨rfl, rfl, rfl, by decide +kernel, rfl, by decide +kernel, by decide +kernel⟩
abbrev s_Store_put : Stmt := inClass (top 42) 2
abbrev N_Store_put : List Str := ["self", "name"]
theorem sc_Store_put : FnScope N_Store_put ["self", "name"] (defScope s_Store_put) := ⟨rfl, rfl, rfl, by decide +kernel, rfl, by decide +kernel, by decide +kernel⟩
abbrev s_Store_write : Stmt := inClass (top 42) 3
abbrev N_Store_write : List Str := ["self", "content", "name"]
theorem sc_Store_write : FnScope N_Store_write ["self", "content"] (defScope s_Store_write) := ⟨rfl, rfl, rfl, by decide +kernel, rfl, by decide +kernel, by decide +kernel⟩
abbrev s_Store_held : Stmt := inClass (top 42) 5
abbrev N_Store_held : List Str := ["self"]
theorem sc_Store_held : FnScope N_Store_held ["self"] (defScope s_Store_held) := ⟨rfl, rfl, rfl, by decide +kernel, rfl, by decide +kernel, by decide +kernel⟩
abbrev s_House___init__ : Stmt := inClass (top 44) 0
abbrev N_House___init__ : List Str := ["self", "book"]
theorem sc_House___init__ : FnScope N_House___init__ ["self", "book"] (defScope s_House___init__) := ⟨rfl, rfl, rfl, by decide +kernel, rfl, by decide +kernel, by decide +kernel⟩
abbrev s_Town___init__ : Stmt := inClass (top 46) 0
abbrev N_Town___init__ : List Str := ["self"]
theorem sc_Town___init__ : FnScope N_Town___init__ ["self"] (defScope s_Town___init__) := ⟨rfl, rfl, rfl, by decide +kernel, rfl, by decide +kernel, by decide +kernel⟩
abbrev s_Town_build : Stmt := inClass (top 46) 1
abbrev N_Town_build : List Str := ["self", "label"]
theorem sc_Town_build : FnScope N_Town_build ["self", "label"] (defScope s_Town_build) := ⟨rfl, rfl, rfl, by decide +kernel, rfl, by decide +kernel, by decide +kernel⟩
abbrev s_Town_house : Stmt := inClass (top 46) 2
abbrev N_Town_house : List Str := ["self", "label"]
theorem sc_Town_house : FnScope N_Town_house ["self", "label"] (defScope s_Town_house) := ⟨rfl, rfl, rfl, by decide +kernel, rfl, by decide +kernel, by decide +kernel⟩
abbrev s_Town_labels : Stmt := inClass (top 46) 3
abbrev N_Town_labels : List Str := ["self"]
theorem sc_Town_labels : FnScope N_Town_labels ["self"] (defScope s_Town_labels) := ⟨rfl, rfl, rfl, by decide +kernel, rfl, by decide +kernel, by decide +kernel⟩
abbrev s_Town_sweep : Stmt := inClass (top 46) 12
abbrev N_Town_sweep : List Str := ["self", "label"]
theorem sc_Town_sweep : FnScope N_Town_sweep ["self", "label"] (defScope s_Town_sweep) := ⟨rfl, rfl, rfl, by decide +kernel, rfl, by decide +kernel, by decide +kernel⟩
abbrev s_law_deck : Stmt := top 48
abbrev N_law_deck : List Str := ["_law_script"]
theorem sc_law_deck : FnScope N_law_deck ["_law_script"] (defScope s_law_deck) := ⟨rfl, rfl, rfl, by decide +kernel, rfl, by decide +kernel, by decide +kernel⟩
abbrev s_law_mixed : Stmt := top 49
abbrev N_law_mixed : List Str := ["_law_cell", "_law_turn"]
theorem sc_law_mixed : FnScope N_law_mixed ["_law_cell", "_law_turn"] (defScope s_law_mixed) := ⟨rfl, rfl, rfl, by decide +kernel, rfl, by decide +kernel, by decide +kernel⟩
abbrev s_law_draw : Stmt := top 50
abbrev N_law_draw : List Str := ["_law_deck_here", "_law_many", "_law_cells", "_law_found", "_law_number"]
theorem sc_law_draw : FnScope N_law_draw ["_law_deck_here", "_law_many"] (defScope s_law_draw) := ⟨rfl, rfl, rfl, by decide +kernel, rfl, by decide +kernel, by decide +kernel⟩
abbrev s_law_label : Stmt := top 51
abbrev N_law_label : List Str := ["_law_deck_here", "_law_letters", "_law_k"]
theorem sc_law_label : FnScope N_law_label ["_law_deck_here"] (defScope s_law_label) := ⟨rfl, rfl, rfl, by decide +kernel, rfl, by decide +kernel, by decide +kernel⟩
abbrev s_law_alike : Stmt := top 52
abbrev N_law_alike : List Str := ["_law_found", "_law_due", "_law_k"]
theorem sc_law_alike : FnScope N_law_alike ["_law_found", "_law_due"] (defScope s_law_alike) := ⟨rfl, rfl, rfl, by decide +kernel, rfl, by decide +kernel, by decide +kernel⟩
abbrev s_law_town_why : Stmt := top 53
abbrev N_law_town_why : List Str := ["_law_deed", "_law_told", "e", "_law_kinds"]
theorem sc_law_town_why : FnScope N_law_town_why ["_law_deed"] (defScope s_law_town_why) := ⟨rfl, rfl, rfl, by decide +kernel, rfl, by decide +kernel, by decide +kernel⟩
abbrev s_law_built : Stmt := top 54
abbrev N_law_built : List Str := ["_law_deck_here", "_law_town", "_law_homes", "_law_label_here"]
theorem sc_law_built : FnScope N_law_built ["_law_deck_here", "_law_town", "_law_homes"] (defScope s_law_built) := ⟨rfl, rfl, rfl, by decide +kernel, rfl, by decide +kernel, by decide +kernel⟩
abbrev s_law_stands : Stmt := top 55
abbrev N_law_stands : List Str := ["_law_town", "_law_homes", "_law_held", "_law_label_here"]
theorem sc_law_stands : FnScope N_law_stands ["_law_town", "_law_homes", "_law_held"] (defScope s_law_stands) := ⟨rfl, rfl, rfl, by decide +kernel, rfl, by decide +kernel, by decide +kernel⟩
abbrev s_law : Stmt := top 56
abbrev N_law : List Str := ["_law_script", "_law_deck_here", "_law_town", "_law_other", "_law_homes", "_law_others", "_law_held", "_law_turn", "_law_label_here", "_law_name", "_law_due"]
theorem sc_law : FnScope N_law ["_law_script"] (defScope s_law) := ⟨rfl, rfl, rfl, by decide +kernel, rfl, by decide +kernel, by decide +kernel⟩
structure Df (K : PySem.W.Frag) (mg : Str → Option Value) (x : Str) (st : Stmt) (ps : List Str) (f : Addr) (fd : FuncData) : Prop where
  fn : Fun K x x st f fd
  b : Binds K fd ps []
  g : mg x = some (.ref f)
structure Txt (K : PySem.W.Frag) (mg : Str → Option Value) : Prop where
  n_len : mg "len" = none
  n_list : mg "list" = none
  n_isinstance : mg "isinstance" = none
  n_int : mg "int" = none
  n_bool : mg "bool" = none
  n_str : mg "str" = none
  n_tuple : mg "tuple" = none
  n_dict : mg "dict" = none
  n_range : mg "range" = none
  n_all : mg "all" = none
  n_min : mg "min" = none
  n_max : mg "max" = none
  n_set : mg "set" = none
  n_sorted : mg "sorted" = none
  n_ValueError : mg "ValueError" = none
  g_SIGNS : ∃ t, mg "SIGNS" = some (.str " !\"#$&'()*+,-./0123456789:;<=>?@ABCDEFGHIJKLMNOPQRSTUVWXYZ[\\]^_`abcdefghijklmnopqrstuvwxyz{|}~" t)
  g_LETTERS : ∃ t, mg "LETTERS" = some (.str "abcdefghijklmnopqrstuvwxyz" t)
  g_MOST : ∃ t, mg "MOST" = some (.int 400 t)
  g_DEEP : ∃ t, mg "DEEP" = some (.int 8 t)
local macro_rules | `(tactic| walk_at "sq") => `(tactic| first | assumption | exact SqL.of (by assumption) | exact SqT.of (by assumption) | exact TupD.sq (by assumption))
local macro_rules | `(tactic| walk_at "c") => `(tactic| first | ((with_reducible refine cdivw ?_ ?_) <;> first | decide | omega | assumption) | ((with_reducible refine cmul_r ?_ ?_) <;> first | decide | omega) | ((with_reducible refine cmul_l ?_ ?_) <;> first | decide | omega) | with_reducible assumption | decide | omega | exact ⟨by decide, by decide, by first | decide | omega⟩)
local macro_rules | `(tactic| walk_at "at") => `(tactic| first | assumption | exact rfl)
local macro_rules | `(tactic| walk_at "ty") => `(tactic| first | exact .base (.int _) | exact .base (.bl _) | exact .base (.str _) | exact .base .non | exact .base (.tup (by assumption)) | exact .base (.lst (by assumption)) | exact .base (.dK (by assumption)) | exact TupD.tx (by assumption))
local macro_rules | `(tactic| walk_at "kb") => `(tactic| first | exact kb_int_int | exact kb_int_bool | exact kb_int_str | exact kb_int_tuple | exact kb_int_list | exact kb_int_dict | exact kb_bool_int | exact kb_bool_bool | exact kb_bool_str | exact kb_bool_tuple | exact kb_bool_list | exact kb_bool_dict | exact kb_str_int | exact kb_str_bool | exact kb_str_str | exact kb_str_tuple | exact kb_str_list | exact kb_str_dict | exact kb_tuple_int | exact kb_tuple_bool | exact kb_tuple_str | exact kb_tuple_tuple | exact kb_tuple_list | exact kb_tuple_dict | exact kb_list_int | exact kb_list_bool | exact kb_list_str | exact kb_list_tuple | exact kb_list_list | exact kb_list_dict | exact kb_dict_int | exact kb_dict_bool | exact kb_dict_str | exact kb_dict_tuple | exact kb_dict_list | exact kb_dict_dict | exact kb_NoneType_int | exact kb_NoneType_bool | exact kb_NoneType_str | exact kb_NoneType_tuple | exact kb_NoneType_list | exact kb_NoneType_dict)
local macro_rules | `(tactic| walk_at "s") => `(tactic| first
  | dsimp only [Bool.not_true, Bool.not_false]
  )
local macro_rules | `(tactic| walk_at "s") => `(tactic| first
  | with_reducible refine w_m1 ?_
  | with_reducible refine w_isS ?_
  | with_reducible refine w_istr ?_
  | with_reducible refine w_istr' ?_
  | ((with_reducible refine' w_all ?h1 ?_); (case h1 => walk_at "sq"))
  | ((with_reducible refine' w_glst ?h1 ?h2 ?_); (case h1 => walk_at "sq"); (case h2 => exact rfl))
  | with_reducible refine w_callN ?_
  | with_reducible refine w_step ?_
  )
local macro_rules | `(tactic| walk_at "s") => `(tactic| first
  | with_reducible refine w_tryG ?_
  | with_reducible refine w_inS ?_
  | with_reducible refine w_neS ?_
  | with_reducible refine w_ltS ?_
  | with_reducible refine w_gtS ?_
  | ((with_reducible refine' w_augI ?hv ?_); (case hv => exact rfl))
  | ((with_reducible refine w_ipI ?_); dsimp only [List.set_cons_zero, List.set_cons_succ])
  | with_reducible refine w_callD ?_
  )
local macro_rules | `(tactic| walk_at "s") => `(tactic| first
  | with_reducible refine w_keys ?_
  | ((with_reducible refine' w_keys' ?h1 ?_); (case h1 => assumption))
  | ((with_reducible refine' w_dinF ?h1 ?_); (case h1 => assumption))
  | ((with_reducible refine' w_dgetF ?h1 ?h2 ?_); (case h1 => assumption); (case h2 => assumption))
  | ((with_reducible refine' w_any ?h1 ?_); (case h1 => walk_at "sq"))
  | with_reducible refine w_zipA ?_
  | ((with_reducible refine' w_zipT' ?h1 ?h2 ?_); (case h1 => walk_at "sq"); (case h2 => walk_at "sq"))
  | with_reducible refine w_dct ?_
  )
local macro_rules | `(tactic| walk_at "s") => `(tactic| first
  | with_reducible refine w_noPart ?_
  | with_reducible refine w_part ?_
  | with_reducible refine w_part' ?_
  | with_reducible refine w_enum ?_
  | ((with_reducible refine' w_enum' ?h1 ?_); (case h1 => walk_at "sq"))
  | with_reducible refine w_bm0 ?_
  | with_reducible refine w_retN ?_
  | with_reducible refine w_tyes ?_
  )
local macro_rules | `(tactic| walk_at "s") => `(tactic| first
  | ((with_reducible refine' w_trT ?h1 ?_); (case h1 => walk_at "sq"))
  | with_reducible refine w_dc ?_
  | with_reducible refine w_dc2 ?_
  | with_reducible refine w_dget1 ?_
  | ((with_reducible refine' w_dget1I ?h1 ?_); (case h1 => assumption))
  | with_reducible refine w_rev ?_
  | ((with_reducible refine' w_rev' ?h1 ?_); (case h1 => walk_at "sq"))
  | with_reducible refine w_slice ?_
  )
local macro_rules | `(tactic| walk_at "s") => `(tactic| first
  | with_reducible refine w_callS ?_
  | with_reducible refine w_try ?_
  | with_reducible refine w_isB ?_
  | with_reducible refine w_isN ?_
  | with_reducible refine w_notN ?_
  | with_reducible refine w_chain ?_
  | with_reducible refine w_tru ?_
  | ((with_reducible refine' w_trL ?h1 ?_); (case h1 => walk_at "sq"))
  )
local macro_rules | `(tactic| walk_at "s") => `(tactic| first
  | with_reducible refine w_dsetd ?_
  | ((with_reducible refine' w_leT2 ?h1 ?h2 ?_); (case h1 => walk_at "sq"); (case h2 => walk_at "sq"))
  | ((with_reducible refine' w_inT ?h1 ?_); (case h1 => walk_at "sq"))
  | ((with_reducible refine' w_ninT ?h1 ?_); (case h1 => walk_at "sq"))
  | ((with_reducible refine' w_inL ?h1 ?_); (case h1 => walk_at "sq"))
  | ((with_reducible refine' w_ninL ?h1 ?_); (case h1 => walk_at "sq"))
  | with_reducible refine w_pair ?_
  | with_reducible refine w_pnil ?_
  )
local macro_rules | `(tactic| walk_at "s") => `(tactic| first
  | ((with_reducible refine' w_dinI ?h1 ?_); (case h1 => assumption))
  | ((with_reducible refine' w_dnotinI ?h1 ?_); (case h1 => assumption))
  | ((with_reducible refine' w_dgetI ?h1 ?h2 ?_); (case h1 => assumption); (case h2 => assumption))
  | with_reducible refine w_dnewK ?_
  | with_reducible refine w_dput ?_
  | with_reducible refine w_dget2 ?_
  | ((with_reducible refine' w_isD ?h1 ?_); (case h1 => assumption))
  | ((with_reducible refine' w_dget2I ?h1 ?_); (case h1 => assumption))
  )
local macro_rules | `(tactic| walk_at "s") => `(tactic| first
  | with_reducible refine w_eqB ?_
  | ((with_reducible refine' w_sum ?h1 ?_); (case h1 => walk_at "sq"))
  | ((with_reducible refine' w_gtup ?h1 ?h2 ?_); (case h1 => walk_at "sq"); (case h2 => exact rfl))
  | with_reducible refine w_gcons ?_
  | with_reducible refine w_gnil ?_
  | with_reducible refine w_din ?_
  | with_reducible refine w_dnotin ?_
  | with_reducible refine w_dget ?_
  )
local macro_rules | `(tactic| walk_at "s") => `(tactic| first
  | ((with_reducible refine' w_itT' ?h1 ?_); (case h1 => walk_at "sq"))
  | with_reducible refine w_lc ?_
  | ((with_reducible refine' w_isi ?ty ?hk ?_); (case ty => walk_at "ty"); (case hk => walk_at "kb"))
  | with_reducible refine iteT ?_
  | with_reducible refine iteF ?_
  | with_reducible refine w_nT ?_
  | with_reducible refine w_nF ?_
  | with_reducible refine w_eqS ?_
  )
local macro_rules | `(tactic| walk_at "s") => `(tactic| first
  | with_reducible refine w_for ?_
  | with_reducible refine w_rng1 ?_
  | ((with_reducible refine w_rng1' ?h1 ?h2 ?_); (case h1 => omega); (case h2 => omega))
  | with_reducible refine w_rng2 ?_
  | ((with_reducible refine w_rng2' ?h1 ?_); (case h1 => omega))
  | with_reducible refine w_itL ?_
  | ((with_reducible refine' w_itL' ?h1 ?_); (case h1 => walk_at "sq"))
  | with_reducible refine w_itT ?_
  )
local macro_rules | `(tactic| walk_at "s") => `(tactic| first
  | ((with_reducible refine w_sz ?h1 ?_); (case h1 => first | decide | (simp only [List.length_cons, List.length_nil]; decide)))
  | with_reducible refine w_min2 ?_
  | with_reducible refine w_max2 ?_
  | with_reducible refine w_tupRg ?_
  | with_reducible refine w_rg2 ?_
  | with_reducible refine w_rg2' ?_
  | with_reducible refine w_bits ?_
  | with_reducible refine w_bits' ?_
  )
local macro_rules | `(tactic| walk_at "s") => `(tactic| first
  | with_reducible refine w_cons ?_
  | with_reducible refine w_call ?_
  | with_reducible refine w_lst ?_
  | with_reducible refine w_tup ?_
  | with_reducible refine w_bm ?_
  | ((with_reducible refine' w_tyL ?h1 ?_); (case h1 => assumption))
  | ((with_reducible refine' w_lenL ?h1 ?_); (case h1 => walk_at "sq"))
  | ((with_reducible refine' w_lenT ?h1 ?_); (case h1 => walk_at "sq"))
  )
local macro_rules | `(tactic| walk_at "s") => `(tactic| first
  | with_reducible refine w_andV ?_
  | with_reducible refine w_orV ?_
  | with_reducible refine w_notV ?_
  | with_reducible refine w_ret ?_
  | with_reducible refine w_drop ?_
  | with_reducible refine w_next ?_
  | with_reducible refine w_cb ?_
  | with_reducible refine w_nil ?_
  )
local macro_rules | `(tactic| walk_at "s") => `(tactic| first
  | with_reducible refine w_sub ?_
  | with_reducible refine w_if ?_
  | with_reducible refine w_test ?_
  | with_reducible refine w_tb ?_
  | with_reducible refine w_bl ?_
  | with_reducible refine w_and ?_
  | with_reducible refine w_or ?_
  | with_reducible refine w_not ?_
  )
local macro_rules | `(tactic| walk_at "s") => `(tactic| first
  | with_reducible refine w_eqI ?_
  | with_reducible refine w_neI ?_
  | ((with_reducible refine' w_ixL ?h1 ?h2 ?_); (case h1 => walk_at "sq"); (case h2 => walk_at "at"))
  | ((with_reducible refine' w_ixT ?h1 ?h2 ?_); (case h1 => walk_at "sq"); (case h2 => walk_at "at"))
  | ((with_reducible refine' w_ixSL ?h1 ?h2 ?_); (case h1 => walk_at "sq"); (case h2 => walk_at "at"))
  | ((with_reducible refine' w_ixST ?h1 ?h2 ?_); (case h1 => walk_at "sq"); (case h2 => walk_at "at"))
  | with_reducible refine w_neB ?_
  | with_reducible refine w_eqN ?_
  )
local macro_rules | `(tactic| walk_at "s") => `(tactic| first
  | with_reducible refine w_c ?_
  | ((with_reducible refine w_name ?_); dsimp only [List.set_cons_zero, List.set_cons_succ])
  | with_reducible refine w_name ?_
  | with_reducible refine w_op ?_
  | with_reducible refine w_un ?_
  | with_reducible refine w_neg ?_
  | with_reducible refine w_i0 ?_
  | ((with_reducible refine w_i ?hc ?_); (case hc => walk_at "c"))
  )
local macro_rules | `(tactic| walk_at "s") => `(tactic| first
  | with_reducible refine w_seqA ?_
  | with_reducible refine w_seqD ?_
  | with_reducible refine w_seqF ?_
  | with_reducible refine w_seqW ?_
  | with_reducible refine w_seqG ?_
  | with_reducible refine w_seqP ?_
  | with_reducible refine w_asg ?_
  | ((with_reducible refine' w_var ?hv ?_); (case hv => exact rfl))
  )
local macro_rules | `(tactic| walk_at "p") => `(tactic| first | assumption | omega | (simp only [List.length_cons, List.length_nil, List.length_map]; omega) | exact rfl | decide)
local macro_rules | `(tactic| walk_at "d") => `(tactic| first
  | ((with_reducible refine w_yes ?hp ?_); (case hp => walk_at "p"))
  | ((with_reducible refine w_no ?hp ?_); (case hp => walk_at "p"))
  | ((with_reducible refine w_nyes ?hp ?_); (case hp => walk_at "p"))
  | ((with_reducible refine w_nno ?hp ?_); (case hp => walk_at "p")))
local macro_rules | `(tactic| walk_at "g") => `(tactic| repeat walk_at "s")
local macro_rules | `(tactic| walk_at "dg") => `(tactic| (walk_at "d"; repeat walk_at "s"))
local macro_rules | `(tactic| walk_at "x") => `(tactic| ((try dsimp only [cxOf, Cx.nox, Cx.wish]); repeat walk_at "s"))
local macro_rules | `(tactic| walk_at "s") => `(tactic| with_reducible refine w_revT ?_)
local macro_rules | `(tactic| walk_at "s") => `(tactic| first
  | with_reducible refine w_nget ?_
  | with_reducible refine w_nget1 ?_
  | with_reducible refine w_seqNP ?_
  | with_reducible refine w_nput ?_
  | with_reducible refine w_maxD ?_
  )
local macro_rules | `(tactic| walk_at "s") => `(tactic| first
  | with_reducible refine w_fld ?_
  | ((with_reducible refine' w_fld' ?h1 ?h2 ?h3 ?h4 ?_); (case h1 => assumption); (case h2 => assumption); (case h3 => assumption); (case h4 => exact rfl))
  | with_reducible refine w_seqFS ?_
  | with_reducible refine w_fldS ?_
  | with_reducible refine w_meth ?_
  | ((with_reducible refine' w_meth' ?h1 ?h2 ?_); (case h1 => assumption); (case h2 => exact rfl))
  | with_reducible refine w_make ?_
  | with_reducible refine w_nin ?_
  )
local macro_rules | `(tactic| walk_at "s") => `(tactic| first
  | with_reducible refine w_revL ?_
  )
def spDeck (K : PySem.W.Frag) : Sp := fun vs H Q _ => ∃ (a : Addr) (ns : List Int), vs = [.ref a] ∧ SqL K H a (ns.map V.int) ∧
  ∀ H' d c, Same H H' → H d = none → H c = none → Deck H' d c 0 → Q (.ref d) H'
def spMixed : Sp := fun vs H Q _ => ∃ (x t : Int), vs = [.int x, .int t] ∧ 0 ≤ t ∧ t ≤ 2 ^ 41 ∧ ∀ i, Q (.int i) H
def spDraw : Sp := fun vs H Q _ => ∃ (d c : Addr) (n : Nat) (m : Int), vs = [.ref d, .int m] ∧ Deck H d c n ∧ n < MOSTD ∧ 0 < m ∧ m < 2 ^ 64 ∧
  ∀ (i : Nat) H', (i : Int) < m → Deck H' d c (n + 1) → Off d H H' → Q (.int i) H'
theorem w_deck {K : PySem.W.Frag} {H : Hp} {Q : VK} {E : XK} {a : Addr} {ns : List Int} (h1 : SqL K H a (ns.map V.int)) (h : ∀ H' d c, Same H H' → H d = none → H c = none → Deck H' d c 0 → Q (.ref d) H') : spDeck K ([V.ref a] ++ []) H Q E := ⟨a, ns, rfl, h1, h⟩
theorem w_draw {H : Hp} {Q : VK} {E : XK} {d c : Addr} {n : Nat} {m : Int} (D : Deck H d c n) (hn : n < MOSTD) (h0 : 0 < m) (h1 : m < 2 ^ 64) (h : ∀ (i : Nat) H', (i : Int) < m → Deck H' d c (n + 1) → Off d H H' → Q (.int i) H') : spDraw ([V.ref d, V.int m] ++ []) H Q E := ⟨d, c, n, m, rfl, D, hn, h0, h1, h⟩
section
variable {P : Program} {w : World} {K : PySem.W.Frag} {mg : Str → Option Value} {base : Heap}
theorem ok_deck {f : Addr} {fd : FuncData} (T : Txt K mg) (F : Fun K "_law_deck" "_law_deck" s_law_deck f fd) : FnOk P w K mg base CX0 1 f fd ["_law_script"] (spDeck K) := by
  refine F.ok sc_law_deck (fun vs H Q E h => ?_) (fun cdv A outer s H vs Q E hr h => ?_)
  · obtain ⟨a, ns, rfl, _⟩ := h
    rfl
  · obtain ⟨a, ns, rfl, hS, q⟩ := h
    refine ⟨_,
      (pss_one
        (ps_ret (pe_lst (pa_cons (pe_callTy (r := rListOf K) c_listOf (by rfl) T.n_list (by decide +kernel) (pa_cons (pv 0) pa_nil)) (pa_cons pe_int (pa_cons pe_int (pa_cons pe_int pa_nil)))))))
      , ?_⟩
    walk_at "x"
    refine w_listL hS fun c H1 hc e1 k1 => ?_
    walk_at "g"
    refine w_new fun d H2 hd e2 k2 => ?_
    refine q _ d c (Same.trans k1 k2) (k1.free hd) hc ⟨⟨ns, 0, 0, 0, e2, k2 _ _ e1, Nat.le_refl _⟩, ne_of_none e1 hd⟩
theorem ok_mixed {f : Addr} {fd : FuncData} (T : Txt K mg) (F : Fun K "_law_mixed" "_law_mixed" s_law_mixed f fd) : FnOk P w K mg base CX0 1 f fd ["_law_cell", "_law_turn"] spMixed := by
  refine F.ok sc_law_mixed (fun vs H Q E h => ?_) (fun cdv A outer s H vs Q E hr h => ?_)
  · obtain ⟨x, t, rfl, _⟩ := h
    rfl
  · obtain ⟨x, t, rfl, h0, h1, q⟩ := h
    refine ⟨_,
      (pss_one
        (ps_ret (pe_op op_mod (pe_op op_pow (pe_op op_add (pe_op op_add (pe_op op_mod (pv 0) pe_int) (pe_op op_mul (pv 1) pe_int)) pe_int) pe_int) pe_int)))
      , ?_⟩
    have e := Int.emod_lt_of_pos x (show (0 : Int) < 2147483629 by decide)
    have e2 := Int.emod_nonneg x (show (2147483629 : Int) ≠ 0 by decide)
    walk_at "x"
    exact q _
theorem ok_draw {f fM : Addr} {fd fdM : FuncData} (T : Txt K mg) (F : Fun K "_law_draw" "_law_draw" s_law_draw f fd) (D_law_mixed : Df K mg "_law_mixed" s_law_mixed ["_law_cell", "_law_turn"] fM fdM) : FnOk P w K mg base CX0 2 f fd ["_law_deck_here", "_law_many"] spDraw := by
  have G_law_mixed : FnOk P w K mg base CX0 1 fM fdM ["_law_cell", "_law_turn"] spMixed := ok_mixed T D_law_mixed.fn
  refine F.ok sc_law_draw (fun vs H Q E h => ?_) (fun cdv A outer s H vs Q E hr h => ?_)
  · obtain ⟨d, c, n, m, rfl, _⟩ := h
    rfl
  · obtain ⟨d, c, n, m, rfl, ⟨⟨cs, a, b, t, e1, e2, e3⟩, ne⟩, hn, hm, hm2, q⟩ := h
    have hn' : t < 1099511627776 := Nat.lt_of_le_of_lt e3 hn
    refine ⟨_,
      (pss_cons
        (ps_set (i := 2) sc_law_draw.nd rfl (.inl rfl) (pe_ix (r := rIxL K) ix_list (pv 0) pe_int (fun _ _ => rfl)))
      (pss_cons
        (ps_asg (pe_op op_add (pe_ix (r := rIxL K) ix_list (pv 0) pe_int (fun _ _ => rfl)) pe_int) (pg_sub (pv 0) pe_int set_list))
      (pss_cons
        (ps_if (PW.pt (pw_and (pt_cmpR op_eq (pe_ix (r := rIxL K) ix_list (pv 0) pe_int (fun _ _ => rfl)) pe_int (nomark _)) (pw_and1 (pt_cmpR op_lt (pe_ix (r := rIxL K) ix_list (pv 0) pe_int (fun _ _ => rfl)) (pe_callB (r := rLen K) c_len (by rfl) T.n_len (by decide +kernel) (pa_cons (pv 2) pa_nil)) (nomark _)))))
          (pss_cons
            (ps_asg (pe_op op_add (pe_ix (r := rIxL K) ix_list (pv 0) pe_int (fun _ _ => rfl)) pe_int) (pg_sub (pv 0) pe_int set_list))
          (pss_cons
            (ps_if (pt_cmpR op_lt (pe_ix (r := rIxL K) ix_list (pv 2) (pe_op op_sub (pe_ix (r := rIxL K) ix_list (pv 0) pe_int (fun _ _ => rfl)) pe_int) (fun _ _ => rfl)) (pe_op op_pow pe_int pe_int) (nomark _))
              (pss_one
                (ps_ret (pe_op op_mod (pe_call G_law_mixed (hr.mono (by omega)) (by rfl) D_law_mixed.g D_law_mixed.fn.kp D_law_mixed.b .nil pass0 (pa_cons (pe_ix (r := rIxL K) ix_list (pv 2) (pe_op op_sub (pe_ix (r := rIxL K) ix_list (pv 0) pe_int (fun _ _ => rfl)) pe_int) (fun _ _ => rfl)) (pa_cons (pe_ix (r := rIxL K) ix_list (pv 0) pe_int (fun _ _ => rfl)) pa_nil))) (pv 1))))
              pss_nil)
          (pss_one
            (ps_asg (pe_ix (r := rIxL K) ix_list (pv 2) (pe_op op_sub (pe_ix (r := rIxL K) ix_list (pv 0) pe_int (fun _ _ => rfl)) pe_int) (fun _ _ => rfl)) (pg_sub (pv 0) pe_int set_list)))))
          pss_nil)
      (pss_cons
        (ps_if (pt_cmpR op_gt (pe_ix (r := rIxL K) ix_list (pv 0) pe_int (fun _ _ => rfl)) pe_int (nomark _))
          (pss_cons
            (ps_set (i := 3) sc_law_draw.nd rfl (.inl rfl) (pe_op op_mod (pe_ix (r := rIxL K) ix_list (pv 0) pe_int (fun _ _ => rfl)) (pv 1)))
          (pss_cons
            (ps_asg (pe_op op_fdivW (pe_ix (r := rIxL K) ix_list (pv 0) pe_int (fun _ _ => rfl)) (pv 1)) (pg_sub (pv 0) pe_int set_list))
          (pss_one
            (ps_ret (pv 3)))))
          pss_nil)
      (pss_cons
        (ps_set (i := 4) sc_law_draw.nd rfl (.inl rfl) (pe_op op_mul (pe_ix (r := rIxL K) ix_list (pv 0) pe_int (fun _ _ => rfl)) pe_int))
      (pss_cons
        (ps_if (pt_cmpR op_gt (pe_callB (r := rLen K) c_len (by rfl) T.n_len (by decide +kernel) (pa_cons (pv 2) pa_nil)) pe_int (nomark _))
          (pss_one
            (ps_set (i := 4) sc_law_draw.nd rfl (.inl rfl) (pe_op op_add (pv 4) (pe_op op_mod (pe_ix (r := rIxL K) ix_list (pv 2) (pe_op op_mod (pe_op op_mul (pe_ix (r := rIxL K) ix_list (pv 0) pe_int (fun _ _ => rfl)) pe_int) (pe_callB (r := rLen K) c_len (by rfl) T.n_len (by decide +kernel) (pa_cons (pv 2) pa_nil))) (fun _ _ => rfl)) pe_int))))
          pss_nil)
      (pss_one
        (ps_ret (pe_op op_mod (pe_call G_law_mixed (hr.mono (by omega)) (by rfl) D_law_mixed.g D_law_mixed.fn.kp D_law_mixed.b .nil pass0 (pa_cons (pv 4) (pa_cons (pe_ix (r := rIxL K) ix_list (pv 0) pe_int (fun _ _ => rfl)) pa_nil))) (pv 1))))))))))
      , ?_⟩
    rw [show L2.start N_law_draw [V.ref d, V.int m] = [some (.ref d), some (.int m), none, none, none] from rfl]
    -- cells = deck[0]; deck[3] = deck[3] + 1
    walk_at "x"
    refine w_setL e1 rfl rfl fun H1 g0 o0 => ?_
    have fin : ∀ (H' : Hp) (a' : Nat) (b' i : Int), 0 ≤ i → i < m → H' d = some (.lst [.ref c, .int a', .int b', .int (t + 1)]) → Off d H H' → Q (.int i) H' := fun H' a' b' i i0 i1 g1 g2 => by
      have z := q i.toNat H' (by omega) ⟨⟨cs, a', b', t + 1, g1, (g2 c ne).trans e2, by omega⟩, ne⟩ g2
      rw [Int.toNat_of_nonneg i0] at z
      exact z
    have md : ∀ x : Int, 0 ≤ x % m ∧ x % m < m := fun x => ⟨Int.emod_nonneg x (by omega), Int.emod_lt_of_pos x hm⟩
    have g0 : H1 d = some (.lst [.ref c, .int a, .int b, .int ((t : Int) + 1)]) := g0
    have c1 : H1 c = some (.lst (cs.map V.int)) := (o0 c ne).trans e2
    -- if deck[2] == 0 and deck[1] < len(cells): ..
    refine w_seqJ (fun σ' H2 => σ' = [some (.ref d), some (.int m), some (.ref c), none, none] ∧ ∃ (a' : Nat) (b' : Int), H2 d = some (.lst [.ref c, .int a', .int b', .int ((t : Int) + 1)]) ∧ Off d H H2) ?_ ?_
    · rintro σ' H2 ⟨rfl, a', b', g2, o2⟩
      have c2 : H2 c = some (.lst (cs.map V.int)) := (o2 c ne).trans e2
      refine w_seqJ (fun σ' H3 => σ' = [some (.ref d), some (.int m), some (.ref c), none, none] ∧ H3 = H2) ?_ ?_
      · rintro σ' H3 ⟨rfl, rfl⟩
        -- number = deck[3] * 48271; if len(cells) > 0: ..
        walk_at "g"
        refine w_seqJ (fun σ' H4 => (∃ z : Int, σ' = [some (.ref d), some (.int m), some (.ref c), none, some (.int z)]) ∧ H4 = H3) ?_ ?_
        · rintro σ' H4 ⟨⟨z, rfl⟩, rfl⟩
          walk_at "g"
          refine ⟨_, _, rfl, by omega, by omega, fun y => ?_⟩
          walk_at "g"
          exact fin _ a' b' _ (md y).1 (md y).2 g2 o2
        · intro U hU
          walk_at "g"
          refine w_ite (fun hl => ?_) (fun hl => ?_)
          · obtain ⟨v, hv1, hv2⟩ := at_lt (xs := cs.map V.int) (i := ((t : Int) + 1) * 7 % ((cs.map V.int).length : Int)) (Int.emod_nonneg _ (by omega)) (Int.emod_lt_of_pos _ hl)
            rw [List.getElem?_map] at hv1
            obtain ⟨y, _, rfl⟩ := Option.map_eq_some_iff.mp hv1
            walk_at "g"
            exact hU _ _ ⟨⟨_, rfl⟩, rfl⟩
          · exact hU _ _ ⟨⟨_, rfl⟩, rfl⟩
      · intro U hU
        walk_at "g"
        refine w_ite (fun hl => ?_) (fun hl => ?_)
        · walk_at "g"
          refine w_setL g2 rfl rfl fun H9 g9 o9 => ?_
          walk_at "g"
          exact fin _ a' (b' / m) _ (md b').1 (md b').2 g9 (o2.trans o9)
        · exact hU _ _ ⟨rfl, rfl⟩
    · intro U hU
      have no : U [some (.ref d), some (.int m), some (.ref c), none, none] H1 := hU _ _ ⟨rfl, a, b, g0, o0⟩
      walk_at "g"
      refine w_ite (fun hl => ?_) (fun _ => no)
      walk_at "g"
      refine w_ite (fun hl2 => ?_) (fun _ => no)
      obtain ⟨v, hv1, hv2⟩ := at_lt (xs := cs.map V.int) (i := ((a + 1 : Nat) : Int) - 1) (by omega) (by omega)
      rw [List.getElem?_map] at hv1
      obtain ⟨y, _, rfl⟩ := Option.map_eq_some_iff.mp hv1
      walk_at "g"
      refine w_setL g0 rfl rfl fun H2 g2 o2 => ?_
      have g2 : H2 d = some (.lst [.ref c, .int ((a + 1 : Nat) : Int), .int b, .int ((t : Int) + 1)]) := g2
      have o2 : Off d H H2 := o0.trans o2
      have c2 : H2 c = some (.lst (cs.map V.int)) := (o2 c ne).trans e2
      refine w_seq ?_
      walk_at "g"
      refine w_ite (fun hl => ?_) (fun hl => ?_)
      · walk_at "g"
        refine ⟨_, _, rfl, by omega, by omega, fun y => ?_⟩
        walk_at "g"
        exact fin _ (a + 1) b _ (md y).1 (md y).2 g2 o2
      · walk_at "g"
        refine w_setL g2 rfl rfl fun H9 g9 o9 => ?_
        exact hU _ _ ⟨rfl, a + 1, y, g9, o2.trans o9⟩
end
/-! ### pieces and scripts -/
theorem map_at {α : Type} {f : α → V} {xs : List α} {i : Nat} {v : V} (h : (xs.map f)[i]? = some v) : ∃ x, xs[i]? = some x ∧ v = f x := by
  rw [List.getElem?_map] at h
  obtain ⟨y, h1, h2⟩ := Option.map_eq_some_iff.mp h
  exact ⟨y, h1, h2.symm⟩
theorem le_sum : ∀ {l : List Nat} {x : Nat}, x ∈ l → x ≤ l.sum
  | [], x, h => by cases h
  | y :: l, x, h => by
    rw [List.sum_cons]
    rcases List.mem_cons.mp h with rfl | h
    · omega
    · have := le_sum h
      omega
abbrev SG : Str := Str.ofString " !\"#$&'()*+,-./0123456789:;<=>?@ABCDEFGHIJKLMNOPQRSTUVWXYZ[\\]^_`abcdefghijklmnopqrstuvwxyz{|}~"
def LineOk (z : Str) : Prop := z.length ≤ 40 ∧ ∀ c ∈ z.cps.toList, c ∈ SG.cps.toList
inductive Pc where
  | take (b m : Nat)
  | put (ls : List Str)
def Pc.size : Pc → Nat
  | .take _ m => m
  | .put ls => ls.length
def Pc.make (base : List Str) : Pc → List Str
  | .take b m => (base.drop b).take m
  | .put ls => ls
def Pc.fits (n : Nat) : Pc → Prop
  | .take b m => b + m ≤ n
  | .put _ => True
def Pc.ok : Pc → Prop
  | .take _ m => 1 ≤ m
  | .put ls => ls ≠ [] ∧ ∀ z ∈ ls, LineOk z
def Pc.cost (t p : Int) : Pc → Int
  | .take _ _ => t
  | .put ls => p * (ls.length : Int)
theorem Pc.ok.pos {p : Pc} (h : p.ok) : 1 ≤ p.size := by
  cases p with
  | take b m => exact h
  | put ls =>
    have := List.length_pos_iff.mpr h.1
    exact this
def sizes (ps : List Pc) : Nat := (ps.map Pc.size).sum
def makes (base : List Str) (ps : List Pc) : List Str := (ps.map (Pc.make base)).flatten
def costs (t p : Int) (ps : List Pc) : Int := (ps.map (Pc.cost t p)).sum
theorem sizes_ge : ∀ {ps : List Pc}, (∀ p ∈ ps, p.ok) → ps.length ≤ sizes ps
  | [], _ => by simp [sizes]
  | p :: ps, h => by
    have h1 := (h p (by simp)).pos
    have h2 := sizes_ge (ps := ps) fun q hq => h q (by simp [hq])
    unfold sizes at *
    simp only [List.map_cons, List.sum_cons, List.length_cons]
    omega
def RwAt (H : Hp) (a : Addr) (ls : List Str) : Prop := H a = some (.tup (ls.map V.str))
def PcAt (H : Hp) (a : Addr) : Pc → Prop
  | .take b m => H a = some (.tup [.str "take", .int (b : Int), .int (m : Int)])
  | .put ls => ∃ r, H a = some (.tup [.str "put", .ref r]) ∧ RwAt H r ls
theorem PcAt.kt {H H' : Hp} {a : Addr} {p : Pc} (h : PcAt H a p) (k : KT H H') : PcAt H' a p := by
  cases p with
  | take b m => exact k _ _ h
  | put ls =>
    obtain ⟨r, h1, h2⟩ := h
    exact ⟨r, k _ _ h1, k _ _ h2⟩
structure ScAt (H : Hp) (s : Addr) (ps : List (Addr × Pc)) : Prop where
  at' : H s = some (.tup (ps.map fun q => .ref q.1))
  pc : ∀ q ∈ ps, PcAt H q.1 q.2
theorem ScAt.kt {H H' : Hp} {s : Addr} {ps : List (Addr × Pc)} (h : ScAt H s ps) (k : KT H H') : ScAt H' s ps := ⟨k _ _ h.at', fun q hq => (h.pc q hq).kt k⟩
structure ScOk (ps : List Pc) : Prop where
  ok : ∀ p ∈ ps, p.ok
  few : sizes ps ≤ 40
/-- data whose texts are not too long -/
inductive DatT (B : Nat) (H : Hp) : V → Prop where
  | leaf {x : V} {a : String} (t : Ty H x a) (h : a ≠ "tuple") (z : ∀ z, x = .str z → z.length ≤ B) : DatT B H x
  | tup {p : Addr} {xs : List V} (e : H p = some (.tup xs)) (l : xs.length ≤ B) (h : ∀ y ∈ xs, DatT B H y) : DatT B H (.ref p)
theorem DatT.ty {B : Nat} {H : Hp} {x : V} (h : DatT B H x) : ∃ a, Ty H x a := by
  cases h with
  | leaf t _ _ => exact ⟨_, t⟩
  | tup e _ _ => exact ⟨_, .tup e⟩
theorem DatT.len {B : Nat} {H : Hp} {z : Str} (h : DatT B H (.str z)) : z.length ≤ B := by
  cases h with
  | leaf _ _ hz => exact hz z rfl
theorem DatT.kd {B : Nat} {H H' : Hp} {x : V} (h : DatT B H x) (k : KD H H') : DatT B H' x := by
  induction h with
  | leaf t h z => exact .leaf (t.kd k) h z
  | tup e l _ ih => exact .tup (k.t _ _ e) l fun y hy => ih y hy
theorem DatT.cases {B : Nat} {H : Hp} {x : V} (h : DatT B H x) : (∃ a, Ty H x a ∧ a ≠ "tuple") ∨ ∃ (p : Addr) (xs : List V), x = .ref p ∧ H p = some (.tup xs) ∧ xs.length ≤ B ∧ ∀ y ∈ xs, DatT B H y := by
  cases h with
  | leaf t h _ => exact .inl ⟨_, t, h⟩
  | tup e l h => exact .inr ⟨_, _, rfl, e, l, h⟩
theorem DatT.elem {B : Nat} {H : Hp} {a : Addr} {xs : List V} (d : DatT B H (.ref a)) (e : H a = some (.tup xs)) : xs.length ≤ B ∧ ∀ y ∈ xs, DatT B H y := by
  rcases d.cases with ⟨s, t, hne⟩ | ⟨p, ys, e1, e2, h⟩
  · exact absurd (t.ofTup e) hne
  · cases e1
    rw [e] at e2
    cases e2
    exact h
theorem DatT.strs {B : Nat} {H : Hp} {a : Addr} {ls : List Str} (h : RwAt H a ls) (hl : ls.length ≤ B) (hz : ∀ z ∈ ls, z.length ≤ B) : DatT B H (.ref a) := .tup h (by rw [List.length_map]; exact hl) fun y hy => by
  obtain ⟨z, hz', rfl⟩ := List.mem_map.mp hy
  exact .leaf (.str z) (by decide) fun z' e => by cases e; exact hz z hz'
theorem PcAt.dat {B : Nat} {H : Hp} {a : Addr} {p : Pc} (h : PcAt H a p) (hB : 4 ≤ B) (hs : p.size ≤ B) (hz : ∀ ls, p = .put ls → ∀ z ∈ ls, z.length ≤ B) : DatT B H (.ref a) := by
  cases p with
  | take b m =>
    refine .tup h (by simp only [List.length_cons, List.length_nil]; omega) fun y hy => ?_
    have hy' : y = .str "take" ∨ y = .int (b : Int) ∨ y = .int (m : Int) := by simpa using hy
    rcases hy' with rfl | rfl | rfl
    · exact .leaf (.str _) (by decide) fun z e => by cases e; exact Nat.le_trans (show (Str.ofString "take").length ≤ 4 by decide) hB
    · exact .leaf (.int _) (by decide) fun z e => by cases e
    · exact .leaf (.int _) (by decide) fun z e => by cases e
  | put ls =>
    obtain ⟨r, h1, h2⟩ := h
    refine .tup h1 (by simp only [List.length_cons, List.length_nil]; omega) fun y hy => ?_
    have hy' : y = .str "put" ∨ y = .ref r := by simpa using hy
    rcases hy' with rfl | rfl
    · exact .leaf (.str _) (by decide) fun z e => by cases e; exact Nat.le_trans (show (Str.ofString "put").length ≤ 4 by decide) hB
    · exact DatT.strs h2 hs (hz ls rfl)
theorem ScAt.dat {B : Nat} {H : Hp} {s : Addr} {ps : List (Addr × Pc)} (h : ScAt H s ps) (k : ScOk (ps.map (·.2))) (hB : 40 ≤ B) : DatT B H (.ref s) := by
  have hl := sizes_ge k.ok
  have hf := k.few
  rw [List.length_map] at hl
  refine .tup h.at' (by rw [List.length_map]; omega) fun y hy => ?_
  obtain ⟨q, hq, rfl⟩ := List.mem_map.mp hy
  have hqm : q.2 ∈ ps.map (·.2) := List.mem_map_of_mem hq
  have hsz : q.2.size ≤ sizes (ps.map (·.2)) := by
    unfold sizes
    exact le_sum (List.mem_map_of_mem hqm)
  refine (h.pc q hq).dat (by omega) (by omega) fun ls e z hz => ?_
  have := k.ok _ hqm
  rw [e] at this
  have := (this.2 z hz).1
  omega
/-- a piece, as a thing of any kind -/
def PcV (H : Hp) (x : V) (p : Pc) : Prop := ∃ a, x = .ref a ∧ PcAt H a p ∧ p.ok
def ScV (H : Hp) (x : V) (ps : List (Addr × Pc)) : Prop := ∃ s, x = .ref s ∧ ScAt H s ps ∧ ScOk (ps.map (·.2))
def spIsInt : Sp := fun vs H Q _ => ∃ (x : V) (a : String), vs = [x, .int 0] ∧ Ty H x a ∧ (∀ n : Nat, x = .int (n : Int) → Q (.bl true) H) ∧ ((∀ n : Nat, x ≠ .int (n : Int)) → Q (.bl false) H)
def spIsText : Sp := fun vs H Q _ => ∃ (x : V) (B : Nat), vs = [x, .int 40] ∧ DatT B H x ∧ B ≤ 1000000 ∧ (∀ z, x = .str z → LineOk z → ∀ H', Same H H' → Q (.bl true) H') ∧ ((∀ z, x = .str z → ¬ LineOk z) → ∀ H', Same H H' → Q (.bl false) H')
def spMadeBy : Sp := fun vs H Q _ => ∃ (x : V) (B : Nat), vs = [x] ∧ DatT B H x ∧ B ≤ 1000000 ∧ (∀ p, PcV H x p → ∀ H', Same H H' → Q (.int (p.size : Int)) H') ∧ ((∀ p, ¬ PcV H x p) → ∀ H', Same H H' → Q (.int 0) H')
def spIsScript : Sp := fun vs H Q _ => ∃ (x : V) (B : Nat), vs = [x] ∧ DatT B H x ∧ B ≤ 1000000 ∧ (∀ ps, ScV H x ps → ∀ H', Same H H' → Q (.bl true) H') ∧ ((∀ ps, ¬ ScV H x ps) → ∀ H', Same H H' → Q (.bl false) H')
theorem ln_size {B : Nat} (h : B ≤ 1000000) {n : Nat} (h2 : n ≤ B) : n ≤ sizeLine := Nat.le_trans (Nat.le_trans h2 h) (by decide)
theorem Ty.kStr {H : Hp} {x : V} {a : String} (t : Ty H x a) : kitB a "str" = some (decide (a = "str")) := by
  cases t with
  | non => exact kb_NoneType_str
  | bl b => exact kb_bool_str
  | int i => exact kb_int_str
  | str z => exact kb_str_str
  | lst e => exact kb_list_str
  | tup e => exact kb_tuple_str
  | dK e => exact kb_dict_str
theorem w_isStr {K : PySem.W.Frag} {H : Hp} {Q : VK} {x : V} {a : String} (t : Ty H x a) (h : Q (.bl (decide (a = "str"))) H) : rIsi K [x, .ty "str"] H Q := w_isi t.tx t.kStr h
theorem Ty.isStr {H : Hp} {x : V} {a : String} (t : Ty H x a) (e : a = "str") : ∃ z, x = .str z := by
  cases t with
  | str z => exact ⟨z, rfl⟩
  | non => exact absurd e (by decide)
  | bl _ => exact absurd e (by decide)
  | tup _ => exact absurd e (by decide)
  | int _ => exact absurd e (by decide)
  | lst _ => exact absurd e (by decide)
  | dK _ => exact absurd e (by decide)
theorem Ty.ofStr {H : Hp} {z : Str} {a : String} (t : Ty H (.str z) a) : a = "str" := by
  cases t with
  | str i => rfl
section
variable {P : Program} {w : World} {K : PySem.W.Frag} {mg : Str → Option Value} {base : Heap}
theorem ok_isint {f : Addr} {fd : FuncData} (T : Txt K mg) (D : DfD K mg "is_int" s_is_int ["thing", "least"] [.int 0] f fd) : FnOk P w K mg base CX0 1 f fd ["thing", "least"] spIsInt := by
  refine okD D.fn sc_is_int (fun vs H Q E h => ?_) (fun cdv A outer s H vs Q E hr h => ?_)
  · obtain ⟨x, a, rfl, _⟩ := h
    rfl
  · obtain ⟨x, a, rfl, t, q1, q2⟩ := h
    refine ⟨_,
      (pss_one
        (ps_ret (pe_and (pe_callB (r := rIsi K) call_isi (by rfl) T.n_isinstance (by decide +kernel) (pa_cons (pv 0) (pa_cons (pe_bltn (v := .ty "int") (u := .type "int") (by rfl) T.n_int (by decide +kernel) rfl) pa_nil))) (pe_and (pe_not (pe_callB (r := rIsi K) call_isi (by rfl) T.n_isinstance (by decide +kernel) (pa_cons (pv 0) (pa_cons (pe_bltn (v := .ty "bool") (u := .type "bool") (by rfl) T.n_bool (by decide +kernel) rfl) pa_nil)))) (pe_one (pe_cmpR op_ge (pv 0) (pv 1) (nomark _)))))))
      , ?_⟩
    rw [show L2.start N_is_int [x, V.int 0] = [some x, some (.int 0)] from rfl]
    walk_at "x"
    refine w_isInt t ?_
    walk_at "g"
    refine w_itB (fun hb => ?_) (fun hb => ?_)
    · walk_at "g"
      refine w_isBool t ?_
      walk_at "g"
      refine w_itN (fun hn => ?_) (fun hn => ?_)
      · rw [decide_eq_false hn, Bool.or_false, decide_eq_true_iff] at hb
        obtain ⟨i, rfl⟩ := t.isInt hb
        walk_at "g"
        by_cases h : i ≥ 0
        · rw [decide_eq_true h]
          exact q1 i.toNat (by rw [Int.toNat_of_nonneg h])
        · rw [decide_eq_false h]
          exact q2 fun n e => by cases e; exact h (by omega)
      · exact q2 fun n e => by
          subst e
          rw [t.ofInt] at hn
          exact absurd hn (by decide)
    · exact q2 fun n e => by
        subst e
        rw [t.ofInt] at hb
        exact absurd hb (by decide)
theorem ok_istext {f : Addr} {fd : FuncData} (T : Txt K mg) (D : DfD K mg "is_text" s_is_text ["thing", "most"] [.int 40] f fd) : FnOk P w K mg base CX0 1 f fd ["thing", "most"] spIsText := by
  obtain ⟨tk_SIGNS, g_SIGNS⟩ := T.g_SIGNS
  refine okD D.fn sc_is_text (fun vs H Q E h => ?_) (fun cdv A outer s H vs Q E hr h => ?_)
  · obtain ⟨x, B, rfl, _⟩ := h
    rfl
  · obtain ⟨x, B, rfl, hd, hB, q1, q2⟩ := h
    obtain ⟨a, t⟩ := hd.ty
    refine ⟨_,
      (pss_one
        (ps_ret (pe_and (pe_callB (r := rIsi K) call_isi (by rfl) T.n_isinstance (by decide +kernel) (pa_cons (pv 0) (pa_cons (pe_bltn (v := .ty "str") (u := .type "str") (by rfl) T.n_str (by decide +kernel) rfl) pa_nil))) (pe_and (pe_cmpR op_le (pe_callB c_lenS (by rfl) T.n_len (by decide +kernel) (pa_cons (pv 0) pa_nil)) (pv 1) (nomark _)) (pe_one (pe_callB (r := rAll K) (cr_all rfl) (by rfl) T.n_all (by decide +kernel) (pa_cons (pe_lc (own := [("sign", 2)]) (g := (gName 2)) rfl sc_is_text.nd (pi_str (pv 0)) (blkOk_by (own := [("sign", 2)]) (N := N_is_text) (sc := defScope s_is_text) (by decide +kernel)) (fun _ _ _ _ _ => (pg_name (i := 2) sc_is_text.nd rfl (.inl rfl))) (fun _ _ _ _ _ => pts_nil) (fun _ _ _ _ _ => (pe_cmpR o_inS (pv 2) (pe_glob (v := .str " !\"#$&'()*+,-./0123456789:;<=>?@ABCDEFGHIJKLMNOPQRSTUVWXYZ[\\]^_`abcdefghijklmnopqrstuvwxyz{|}~") rfl g_SIGNS ⟨_, rfl⟩) rfl))) pa_nil)))))))
      , ?_⟩
    rw [show L2.start N_is_text [x, V.int 40] = [some x, some (.int 40), none] from rfl]
    walk_at "x"
    refine w_isStr t ?_
    walk_at "g"
    refine w_ite (fun hs => ?_) (fun hs => ?_)
    rotate_left
    · exact q2 (fun z e => by subst e; exact absurd t.ofStr hs) H (fun _ _ z => z)
    obtain ⟨z, rfl⟩ := t.isStr hs
    have hzl := hd.len
    walk_at "g"
    refine w_lenS (ln_size hB hzl) ?_
    walk_at "g"
    refine w_ite (fun h40 => ?_) (fun h40 => ?_)
    rotate_left
    · exact q2 (fun z' e hl => by cases e; exact h40 (by have := hl.1; omega)) H (fun _ _ z => z)
    walk_at "g"
    refine lcp_map (walk_str z) [] ((z.cps.toList.map fun c => decide (c ∈ SG.cps.toList)).map V.bl) (by simp) (by show z.length ≤ 1000000; omega) (fun _ _ => trivial) ?_ (by simp) ?_
    · rintro i x H1 H2 R hi k1 ⟨rfl, c, hc, rfl⟩ hR
      refine w_name ⟨rfl, ?_⟩
      walk_at "g"
      refine hR _ _ ?_ Kp.refl
      rw [List.getElem?_map, List.getElem?_map, Array.getElem?_toList, hc]
      rfl
    · intro L H1 hL k1 eL
      walk_at "g"
      have hk := k1.same
      by_cases h : ∀ c ∈ z.cps.toList, c ∈ SG.cps.toList
      · have e : (z.cps.toList.map fun c => decide (c ∈ SG.cps.toList)).all id = true := by
          rw [List.all_eq_true]
          intro b hb
          obtain ⟨c, hc, rfl⟩ := List.mem_map.mp hb
          exact decide_eq_true (h c hc)
        rw [e]
        exact q1 z rfl ⟨by omega, h⟩ _ hk
      · have e : (z.cps.toList.map fun c => decide (c ∈ SG.cps.toList)).all id = false := by
          rw [Bool.eq_false_iff]
          intro hall
          rw [List.all_eq_true] at hall
          exact h fun c hc => of_decide_eq_true (hall _ (List.mem_map_of_mem (f := fun c => decide (c ∈ SG.cps.toList)) hc))
        rw [e]
        exact q2 (fun z' e' hl => by cases e'; exact h hl.2) _ hk
end
/-! ### contents and books -/
inductive Ct where
  | leaf (rows : List Str)
  | tree (es : List (Str × Nat))
  | ver (ps : List Nat) (root stamp : Nat)
abbrev nV (n : Nat) : V := .int (n : Int)
def CtAt (H : Hp) (a : Addr) : Ct → Prop
  | .leaf rows => ∃ r, H a = some (.tup [.str "leaf", .ref r]) ∧ RwAt H r rows
  | .tree es => ∃ (r : Addr) (qs : List (Addr × Str × Nat)), H a = some (.tup [.str "tree", .ref r]) ∧ H r = some (.tup (qs.map fun q => .ref q.1)) ∧ qs.map (·.2) = es ∧ ∀ q ∈ qs, H q.1 = some (.tup [.str q.2.1, nV q.2.2])
  | .ver ps root stamp => ∃ r, H a = some (.tup [.str "version", .ref r, nV root, nV stamp]) ∧ H r = some (.tup (ps.map nV))
theorem CtAt.kt {H H' : Hp} {a : Addr} {c : Ct} (h : CtAt H a c) (k : KT H H') : CtAt H' a c := by
  cases c with
  | leaf rows =>
    obtain ⟨r, h1, h2⟩ := h
    exact ⟨r, k _ _ h1, k _ _ h2⟩
  | tree es =>
    obtain ⟨r, qs, h1, h2, h3, h4⟩ := h
    exact ⟨r, qs, k _ _ h1, k _ _ h2, h3, fun q hq => k _ _ (h4 q hq)⟩
  | ver ps root stamp =>
    obtain ⟨r, h1, h2⟩ := h
    exact ⟨r, k _ _ h1, k _ _ h2⟩
def Ct.word : Ct → Str
  | .leaf _ => "leaf"
  | .tree _ => "tree"
  | .ver _ _ _ => "version"
def Ct.key : Ct → NestedKey
  | .leaf rows => .tup [.text "leaf", .tup (rows.map .text)]
  | .tree es => .tup [.text "tree", .tup (es.map fun e => .tup [.text e.1, .num (e.2 : Int)])]
  | .ver ps root stamp => .tup [.text "version", .tup (ps.map fun n : Nat => .num (n : Int)), .num (root : Int), .num (stamp : Int)]
theorem nall_strs {H : Hp} : ∀ rows : List Str, NAll H (rows.map .text) (rows.map V.str)
  | [] => .nil
  | z :: r => .cons (.str z) (nall_strs r)
theorem nall_nats {H : Hp} : ∀ ns : List Nat, NAll H (ns.map fun n : Nat => .num (n : Int)) (ns.map nV)
  | [] => .nil
  | z :: r => .cons (.int _) (nall_nats r)
theorem nall_ents {H : Hp} : ∀ qs : List (Addr × Str × Nat), (∀ q ∈ qs, H q.1 = some (.tup [.str q.2.1, nV q.2.2])) → NAll H ((qs.map (·.2)).map fun e => .tup [.text e.1, .num (e.2 : Int)]) (qs.map fun q => .ref q.1)
  | [], _ => .nil
  | q :: r, h => .cons (.tup (h q (by simp)) (.cons (.str _) (.cons (.int _) .nil))) (nall_ents r fun z hz => h z (by simp [hz]))
theorem CtAt.nk {H : Hp} {a : Addr} {c : Ct} (h : CtAt H a c) : NAt H c.key (.ref a) := by
  cases c with
  | leaf rows =>
    obtain ⟨r, h1, h2⟩ := h
    exact .tup h1 (.cons (.str _) (.cons (.tup h2 (nall_strs rows)) .nil))
  | tree es =>
    obtain ⟨r, qs, h1, h2, rfl, h4⟩ := h
    exact .tup h1 (.cons (.str _) (.cons (.tup h2 (nall_ents qs h4)) .nil))
  | ver ps root stamp =>
    obtain ⟨r, h1, h2⟩ := h
    exact .tup h1 (.cons (.str _) (.cons (.tup h2 (nall_nats ps)) (.cons (.int _) (.cons (.int _) .nil))))
theorem da_texts : ∀ rows : List Str, NestedKey.depthAll (rows.map .text) = 0
  | [] => rfl
  | z :: r => by rw [List.map_cons, NestedKey.depthAll, da_texts r]; rfl
theorem da_nats : ∀ ns : List Nat, NestedKey.depthAll (ns.map fun n : Nat => .num (n : Int)) = 0
  | [] => rfl
  | z :: r => by rw [List.map_cons, NestedKey.depthAll, da_nats r]; rfl
theorem da_ents : ∀ es : List (Str × Nat), NestedKey.depthAll (es.map fun e => .tup [.text e.1, .num (e.2 : Int)]) ≤ 1
  | [] => Nat.zero_le _
  | z :: r => by
    rw [List.map_cons, NestedKey.depthAll]
    have := da_ents r
    have e : NestedKey.depth (.tup [.text z.1, .num (z.2 : Int)]) = 1 := rfl
    rw [e]
    omega
theorem Ct.key_depth (c : Ct) : c.key.depth ≤ 8 := by
  cases c with
  | leaf rows =>
    show NestedKey.depthAll [.text "leaf", .tup (rows.map .text)] + 1 ≤ 8
    simp only [NestedKey.depthAll, NestedKey.depth, da_texts]
    decide
  | tree es =>
    show NestedKey.depthAll [.text "tree", .tup (es.map fun e => .tup [.text e.1, .num (e.2 : Int)])] + 1 ≤ 8
    have := da_ents es
    simp only [NestedKey.depthAll, NestedKey.depth]
    omega
  | ver ps root stamp =>
    show NestedKey.depthAll [.text "version", .tup (ps.map fun n : Nat => .num (n : Int)), .num (root : Int), .num (stamp : Int)] + 1 ≤ 8
    simp only [NestedKey.depthAll, NestedKey.depth, da_nats]
    decide
theorem text_inj : ∀ {xs ys : List Str}, xs.map NestedKey.text = ys.map NestedKey.text → xs = ys
  | [], [], _ => rfl
  | [], _ :: _, h => by simp at h
  | _ :: _, [], h => by simp at h
  | x :: xs, y :: ys, h => by
    rw [List.map_cons, List.map_cons, List.cons.injEq] at h
    injection h.1 with e
    rw [e, text_inj h.2]
theorem num_inj : ∀ {xs ys : List Nat}, (xs.map fun n : Nat => NestedKey.num (n : Int)) = (ys.map fun n : Nat => NestedKey.num (n : Int)) → xs = ys
  | [], [], _ => rfl
  | [], _ :: _, h => by simp at h
  | _ :: _, [], h => by simp at h
  | x :: xs, y :: ys, h => by
    rw [List.map_cons, List.map_cons, List.cons.injEq] at h
    injection h.1 with e
    rw [show x = y by omega, num_inj h.2]
theorem ent_inj : ∀ {xs ys : List (Str × Nat)}, (xs.map fun e => NestedKey.tup [.text e.1, .num (e.2 : Int)]) = (ys.map fun e => NestedKey.tup [.text e.1, .num (e.2 : Int)]) → xs = ys
  | [], [], _ => rfl
  | [], _ :: _, h => by simp at h
  | _ :: _, [], h => by simp at h
  | x :: xs, y :: ys, h => by
    rw [List.map_cons, List.map_cons, List.cons.injEq] at h
    injection h.1 with e
    have e1 := (List.cons.inj e).1
    have e2 := (List.cons.inj (List.cons.inj e).2).1
    injection e1 with e1
    injection e2 with e2
    rw [show x = y from Prod.ext e1 (by omega), ent_inj h.2]
theorem lit_ne1 : ¬ ((Str.ofString "leaf") = "tree") := by decide +kernel
theorem lit_ne2 : ¬ ((Str.ofString "leaf") = "version") := by decide +kernel
theorem lit_ne3 : ¬ ((Str.ofString "tree") = "version") := by decide +kernel
theorem lit_ne4 : ¬ ((Str.ofString "tree") = "leaf") := by decide +kernel
theorem lit_ne5 : ¬ ((Str.ofString "version") = "leaf") := by decide +kernel
theorem lit_ne6 : ¬ ((Str.ofString "version") = "tree") := by decide +kernel
theorem Ct.key_inj {c d : Ct} (h : c.key = d.key) : c = d := by
  cases c with
  | leaf rows =>
    cases d with
    | leaf rows' =>
      injection h with h
      have := (List.cons.inj (List.cons.inj h).2).1
      injection this with this
      rw [text_inj this]
    | tree es =>
      injection h with h
      have := (List.cons.inj h).1
      injection this with this
      exact absurd this lit_ne1
    | ver ps r s =>
      injection h with h
      have := (List.cons.inj h).1
      injection this with this
      exact absurd this lit_ne2
  | tree es =>
    cases d with
    | leaf rows' =>
      injection h with h
      have := (List.cons.inj h).1
      injection this with this
      exact absurd this lit_ne4
    | tree es' =>
      injection h with h
      have := (List.cons.inj (List.cons.inj h).2).1
      injection this with this
      rw [ent_inj this]
    | ver ps r s =>
      injection h with h
      have := (List.cons.inj h).1
      injection this with this
      exact absurd this lit_ne3
  | ver ps r s =>
    cases d with
    | leaf rows' =>
      injection h with h
      have := (List.cons.inj h).1
      injection this with this
      exact absurd this lit_ne5
    | tree es' =>
      injection h with h
      have := (List.cons.inj h).1
      injection this with this
      exact absurd this lit_ne6
    | ver ps' r' s' =>
      injection h with h
      have h1 := (List.cons.inj (List.cons.inj h).2).1
      have h2 := (List.cons.inj (List.cons.inj (List.cons.inj h).2).2).1
      have h3 := (List.cons.inj (List.cons.inj (List.cons.inj (List.cons.inj h).2).2).2).1
      injection h1 with h1
      injection h2 with h2
      injection h3 with h3
      rw [num_inj h1, show r = r' by omega, show s = s' by omega]
def entsF : Nat → List (Addr × Ct) → List NEnt
  | _, [] => []
  | i, q :: r => (q.2.key, q.1, nV i) :: entsF (i + 1) r
theorem entsF_len : ∀ (cs : List (Addr × Ct)) (i : Nat), (entsF i cs).length = cs.length
  | [], _ => rfl
  | q :: r, i => by show (entsF (i + 1) r).length + 1 = _; rw [entsF_len r]; rfl
theorem entsF_snoc (a : Addr) (c : Ct) : ∀ (cs : List (Addr × Ct)) (i : Nat), entsF i (cs ++ [(a, c)]) = entsF i cs ++ [(c.key, a, nV (i + cs.length))]
  | [], i => rfl
  | q :: r, i => by
    show (q.2.key, q.1, nV i) :: entsF (i + 1) (r ++ [(a, c)]) = (q.2.key, q.1, nV i) :: (entsF (i + 1) r ++ _)
    rw [entsF_snoc a c r (i + 1), List.length_cons, show i + 1 + r.length = i + (r.length + 1) by omega]
theorem ents_none {c : Ct} : ∀ (cs : List (Addr × Ct)) (i : Nat), (∀ q ∈ cs, q.2 ≠ c) → NVal (entsF i cs) c.key = none
  | [], _, _ => rfl
  | q :: r, i, h => by
    have hne : ¬ q.2.key = c.key := fun e => h q (by simp) (Ct.key_inj e)
    show NVal ((q.2.key, q.1, nV i) :: entsF (i + 1) r) c.key = none
    have : NVal ((q.2.key, q.1, nV i) :: entsF (i + 1) r) c.key = NVal (entsF (i + 1) r) c.key := by simp [NVal, List.find?_cons, hne]
    rw [this]
    exact ents_none r (i + 1) fun z hz => h z (by simp [hz])
theorem ents_some {c : Ct} {a : Addr} : ∀ (cs : List (Addr × Ct)) (i j : Nat), (cs.map (·.2)).Nodup → cs[j]? = some (a, c) → NVal (entsF i cs) c.key = some (nV (i + j))
  | [], _, _, _, h => by simp at h
  | q :: r, i, 0, _, h => by
    have e : q = (a, c) := by simpa using h
    subst e
    show NVal ((c.key, a, nV i) :: entsF (i + 1) r) c.key = some (nV (i + 0))
    simp [NVal, List.find?_cons]
  | q :: r, i, j + 1, nd, h => by
    rw [List.map_cons, List.nodup_cons] at nd
    have hr : r[j]? = some (a, c) := by simpa using h
    have hne : ¬ q.2.key = c.key := fun e => nd.1 (by rw [Ct.key_inj e]; exact List.mem_map.mpr ⟨(a, c), List.mem_of_getElem? hr, rfl⟩)
    show NVal ((q.2.key, q.1, nV i) :: entsF (i + 1) r) c.key = _
    have : NVal ((q.2.key, q.1, nV i) :: entsF (i + 1) r) c.key = NVal (entsF (i + 1) r) c.key := by simp [NVal, List.find?_cons, hne]
    rw [this, ents_some r (i + 1) j nd.2 hr, show i + 1 + j = i + (j + 1) by omega]
def depOf (ds : List Nat) : Ct → Nat
  | .tree es => 1 + (es.map fun e => ds.getD e.2 0).foldl max 0
  | _ => 0
def LabOk (z : Str) : Prop := 1 ≤ z.length ∧ z.length ≤ 8 ∧ ∀ c ∈ z.cps.toList, c ∈ (Str.ofString "abcdefghijklmnopqrstuvwxyz").cps.toList
/-- a good content behind those of cs -/
def CtOk (cs : List Ct) (ds : List Nat) : Ct → Prop
  | .leaf rows => rows.length ≤ 40 ∧ ∀ z ∈ rows, LineOk z
  | .tree es => es.length ≤ 20 ∧ (∀ e ∈ es, LabOk e.1 ∧ ∃ c, cs[e.2]? = some c ∧ c.word ≠ "version") ∧ es.Pairwise (fun x y => x.1.cps.toList < y.1.cps.toList) ∧ depOf ds (.tree es) ≤ 8
  | .ver ps root stamp => ps.Pairwise (· < ·) ∧ ps.length ≤ 4 ∧ (∀ p ∈ ps, ∃ c, cs[p]? = some c ∧ c.word = "version") ∧ (∃ c, cs[root]? = some c ∧ c.word = "tree") ∧ stamp ≤ 10 ^ 18
structure BookAt (P : Program) (w : World) (C : Addr) (H : Hp) (p dx lc ld lg : Addr) (cs : List (Addr × Ct)) (ds : List Nat) : Prop where
  ob : H p = some (.ins C dx [("contents", .ref lc), ("depths", .ref ld), ("given", .ref lg)])
  co : H lc = some (.lst (cs.map fun q => .ref q.1))
  de : H ld = some (.lst (ds.map nV))
  gi : NDict P w H lg (entsF 0 cs)
  ct : ∀ q ∈ cs, CtAt H q.1 q.2
  nd : (cs.map (·.2)).Nodup
  dl : ds.length = cs.length
  ne : lc ≠ ld
  few : cs.length ≤ 400
theorem BookAt.kp {P : Program} {w : World} {C : Addr} {M : List Addr} {H H' : Hp} {p dx lc ld lg : Addr} {cs : List (Addr × Ct)} {ds : List Nat} (B : BookAt P w C H p dx lc ld lg cs ds) (k : Kp M H H') (t : KT H H') (h1 : p ∉ M) (h2 : lc ∉ M) (h3 : ld ∉ M) (h4 : lg ∉ M) : BookAt P w C H' p dx lc ld lg cs ds :=
  ⟨k _ _ h1 B.ob, k _ _ h2 B.co, k _ _ h3 B.de, B.gi.kp k t h4, fun q hq => (B.ct q hq).kt t, B.nd, B.dl, B.ne, B.few⟩
theorem BookAt.same {P : Program} {w : World} {C : Addr} {H H' : Hp} {p dx lc ld lg : Addr} {cs : List (Addr × Ct)} {ds : List Nat} (B : BookAt P w C H p dx lc ld lg cs ds) (k : Same H H') : BookAt P w C H' p dx lc ld lg cs ds :=
  B.kp (M := []) (Kp.of k) (KT.of k) (by simp) (by simp) (by simp) (by simp)
def spIsLabel : Sp := fun vs H Q _ => ∃ z : Str, vs = [.str z] ∧ LabOk z ∧ ∀ H', Same H H' → Q (.bl true) H'
def spRiseT : Sp := fun vs H Q _ => ∃ (r : Addr) (ns : List Nat), vs = [.ref r] ∧ H r = some (.tup (ns.map nV)) ∧ ns.length ≤ 1000 ∧ (ns.Pairwise (· < ·) → ∀ H', Same H H' → Q (.bl true) H') ∧ (¬ ns.Pairwise (· < ·) → ∀ H', Same H H' → Q (.bl false) H')
def spRiseS : Sp := fun vs H Q _ => ∃ (r : Addr) (zs : List Str), vs = [.ref r] ∧ H r = some (.lst (zs.map V.str)) ∧ zs.length ≤ 1000 ∧ zs.Pairwise (fun x y => x.cps.toList < y.cps.toList) ∧ ∀ H', Same H H' → Q (.bl true) H'
def NatsV (H : Hp) (x : V) (ns : List Nat) : Prop := ∃ a, x = .ref a ∧ H a = some (.tup (ns.map nV))
def spAreInts : Sp := fun vs H Q _ => ∃ (x : V) (B : Nat), vs = [x] ∧ DatT B H x ∧ B ≤ 1000 ∧ (∀ ns, NatsV H x ns → ∀ H', Same H H' → Q (.bl true) H') ∧ ((∀ ns, ¬ NatsV H x ns) → ∀ H', Same H H' → Q (.bl false) H')
def spRisingInts : Sp := fun vs H Q _ => ∃ (x : V) (B : Nat), vs = [x] ∧ DatT B H x ∧ B ≤ 1000 ∧ (∀ ns, NatsV H x ns → ns.Pairwise (· < ·) → ∀ H', Same H H' → Q (.bl true) H') ∧ ((∀ ns, NatsV H x ns → ¬ ns.Pairwise (· < ·)) → ∀ H', Same H H' → Q (.bl false) H')
def spAreRows : Sp := fun vs H Q _ => ∃ (r : Addr) (rows : List Str), vs = [.ref r] ∧ RwAt H r rows ∧ rows.length ≤ 40 ∧ (∀ z ∈ rows, LineOk z) ∧ ∀ H', Same H H' → Q (.bl true) H'
theorem nV_inj : ∀ {xs ys : List Nat}, xs.map nV = ys.map nV → xs = ys
  | [], [], _ => rfl
  | [], _ :: _, h => by simp at h
  | _ :: _, [], h => by simp at h
  | x :: xs, y :: ys, h => by
    rw [List.map_cons, List.map_cons, List.cons.injEq] at h
    have e : (x : Int) = y := V.int.inj h.1
    rw [show x = y by omega, nV_inj h.2]
theorem nats_of : ∀ {ys : List V}, (∀ y ∈ ys, ∃ n : Nat, y = nV n) → ∃ ns : List Nat, ys = ns.map nV
  | [], _ => ⟨[], rfl⟩
  | y :: ys, h => by
    obtain ⟨n, rfl⟩ := h y (by simp)
    obtain ⟨ns, rfl⟩ := nats_of (ys := ys) fun z hz => h z (by simp [hz])
    exact ⟨n :: ns, rfl⟩
theorem bls_of {C : Nat → Bool → Prop} {vs : List V} (h : ∀ (i : Nat) (y : V), vs[i]? = some y → ∃ b : Bool, y = .bl b ∧ C i b) : ∃ bs : List Bool, vs = bs.map V.bl ∧ ∀ (i : Nat) (b : Bool), bs[i]? = some b → C i b := by
  induction vs generalizing C with
  | nil => exact ⟨[], rfl, by simp⟩
  | cons v vs ih =>
    obtain ⟨b, rfl, hb⟩ := h 0 v rfl
    obtain ⟨bs, rfl, hbs⟩ := ih (C := fun i => C (i + 1)) fun i y hy => h (i + 1) y (by simpa using hy)
    refine ⟨b :: bs, rfl, fun i b' hb' => ?_⟩
    cases i with
    | zero =>
      have : b = b' := by simpa using hb'
      subst this
      exact hb
    | succ i => exact hbs i b' (by simpa using hb')
theorem pw_adj {α : Type} {R : α → α → Prop} (tr : ∀ a b c, R a b → R b c → R a c) : ∀ {l : List α}, (∀ (i : Nat) (x y : α), l[i]? = some x → l[i + 1]? = some y → R x y) → l.Pairwise R
  | [], _ => .nil
  | [x], _ => List.pairwise_singleton _ _
  | x :: y :: r, h => by
    have ih := pw_adj tr (l := y :: r) fun i a b ha hb => h (i + 1) a b (by simpa using ha) (by simpa using hb)
    refine List.pairwise_cons.mpr ⟨fun z hz => ?_, ih⟩
    have h0 := h 0 x y rfl rfl
    rcases List.mem_cons.mp hz with rfl | hz
    · exact h0
    · exact tr _ _ _ h0 ((List.pairwise_cons.mp ih).1 z hz)
theorem adj_pw {α : Type} {R : α → α → Prop} {l : List α} (h : l.Pairwise R) {i : Nat} {x y : α} (hx : l[i]? = some x) (hy : l[i + 1]? = some y) : R x y := by
  obtain ⟨h1, e1⟩ := List.getElem?_eq_some_iff.mp hx
  obtain ⟨h2, e2⟩ := List.getElem?_eq_some_iff.mp hy
  have := List.pairwise_iff_getElem.mp h i (i + 1) h1 h2 (by omega)
  rw [e1, e2] at this
  exact this
theorem nV_at {ns : List Nat} {i : Nat} (h : i < ns.length) : (ns.map nV)[i]? = some (nV (ns[i])) := by rw [List.getElem?_map, List.getElem?_eq_getElem h]; rfl
section
variable {P : Program} {w : World} {K : PySem.W.Frag} {mg : Str → Option Value} {base : Heap}
theorem ok_islabel {f : Addr} {fd : FuncData} (T : Txt K mg) (F : Fun K "is_label" "is_label" s_is_label f fd) : FnOk P w K mg base CX0 1 f fd ["thing"] spIsLabel := by
  obtain ⟨tk_LETTERS, g_LETTERS⟩ := T.g_LETTERS
  refine F.ok sc_is_label (fun vs H Q E h => ?_) (fun cdv A outer s H vs Q E hr h => ?_)
  · obtain ⟨z, rfl, _⟩ := h
    rfl
  · obtain ⟨z, rfl, ⟨l1, l8, hz⟩, q⟩ := h
    refine ⟨_,
      (pss_one
        (ps_ret (pe_and (pe_callB (r := rIsi K) call_isi (by rfl) T.n_isinstance (by decide +kernel) (pa_cons (pv 0) (pa_cons (pe_bltn (v := .ty "str") (u := .type "str") (by rfl) T.n_str (by decide +kernel) rfl) pa_nil))) (pe_and (pe_chain op_le op_le pe_int (pe_callB c_lenS (by rfl) T.n_len (by decide +kernel) (pa_cons (pv 0) pa_nil)) pe_int) (pe_one (pe_callB (r := rAll K) (cr_all rfl) (by rfl) T.n_all (by decide +kernel) (pa_cons (pe_lc (own := [("sign", 1)]) (g := (gName 1)) rfl sc_is_label.nd (pi_str (pv 0)) (blkOk_by (own := [("sign", 1)]) (N := N_is_label) (sc := defScope s_is_label) (by decide +kernel)) (fun _ _ _ _ _ => (pg_name (i := 1) sc_is_label.nd rfl (.inl rfl))) (fun _ _ _ _ _ => pts_nil) (fun _ _ _ _ _ => (pe_cmpR o_inS (pv 1) (pe_glob (v := .str "abcdefghijklmnopqrstuvwxyz") rfl g_LETTERS ⟨_, rfl⟩) rfl))) pa_nil)))))))
      , ?_⟩
    rw [show L2.start N_is_label [V.str z] = [some (.str z), none] from rfl]
    walk_at "x"
    refine w_lenS (Nat.le_trans l8 (by decide)) ?_
    walk_at "g"
    refine w_yes (by omega) ?_
    walk_at "g"
    refine w_yes (by omega) ?_
    walk_at "g"
    refine lcp_map (walk_str z) [] ((z.cps.toList.map fun c => true).map V.bl) (by simp) (by show z.length ≤ 1000000; omega) (fun _ _ => trivial) ?_ (by simp) ?_
    · rintro i x H1 H2 R hi k1 ⟨rfl, c, hc, rfl⟩ hR
      have hc' : z.cps.toList[i]? = some c := by rw [Array.getElem?_toList]; exact hc
      refine w_name ⟨rfl, ?_⟩
      walk_at "g"
      refine hR _ _ ?_ Kp.refl
      rw [List.getElem?_map, List.getElem?_map, hc', decide_eq_true (hz c (List.mem_of_getElem? hc'))]
      rfl
    · intro L H1 hL k1 eL
      walk_at "g"
      rw [show (z.cps.toList.map fun c => true).all id = true by simp]
      exact q _ k1.same
theorem ok_riseT {f : Addr} {fd : FuncData} (T : Txt K mg) (F : Fun K "rise" "rise" s_rise f fd) : FnOk P w K mg base CX0 1 f fd ["row"] spRiseT := by
  refine F.ok sc_rise (fun vs H Q E h => ?_) (fun cdv A outer s H vs Q E hr h => ?_)
  · obtain ⟨r, ns, rfl, _⟩ := h
    rfl
  · obtain ⟨r, ns, rfl, hr', hl, q1, q2⟩ := h
    refine ⟨_,
      (pss_one
        (ps_ret (pe_callB (r := rAll K) (cr_all rfl) (by rfl) T.n_all (by decide +kernel) (pa_cons (pe_lc (own := [("k", 1)]) (g := (gName 1)) rfl sc_rise.nd (pi_range2 (by rfl) T.n_range (pa_cons pe_int (pa_cons (pe_callB (r := rLen K) c_len (by rfl) T.n_len (by decide +kernel) (pa_cons (pv 0) pa_nil)) pa_nil))) (blkOk_by (own := [("k", 1)]) (N := N_rise) (sc := defScope s_rise) (by decide +kernel)) (fun _ _ _ _ _ => (pg_name (i := 1) sc_rise.nd rfl (.inl rfl))) (fun _ _ _ _ _ => pts_nil) (fun _ _ _ _ _ => (pe_cmpR op_lt (pe_ix (r := rIxT K) ix_tup (pv 0) (pe_op op_sub (pv 1) pe_int) (fun _ _ => rfl)) (pe_ix (r := rIxT K) ix_tup (pv 0) (pv 1) (fun _ _ => rfl)) (nomark _)))) pa_nil))))
      , ?_⟩
    rw [show L2.start N_rise [V.ref r] = [some (.ref r), none] from rfl]
    walk_at "x"
    try refine w_rng2' (by simp only [List.length_map]; omega) ?_
    refine lcp_map (walk_range (lo := 1) (n := ((((ns.map nV).length : Nat) : Int) - 1).toNat)) [] (((List.range (ns.length - 1)).map fun i => decide (ns.getD i 0 < ns.getD (i + 1) 0)).map V.bl) (by simp only [List.length_map, List.length_range]; omega) (by simp only [List.length_map]; omega) (fun _ _ => trivial) ?_ (by simp) ?_
    · rintro i x H1 H2 R hi k1 ⟨rfl, rfl⟩ hR
      have hi' : i + 1 < ns.length := by
        simp only [List.length_map] at hi
        omega
      have hr1 := k1.same _ _ hr'
      have at1 : atI (ns.map nV) (1 + (i : Int) - 1) = some (.int ((ns.getD i 0 : Nat) : Int)) := by
        rw [show (1 : Int) + (i : Int) - 1 = ((i : Nat) : Int) by omega]
        refine atI_nat ?_
        rw [nV_at (by omega), List.getD_eq_getElem?_getD, List.getElem?_eq_getElem (by omega)]
        rfl
      have at2 : atI (ns.map nV) (1 + (i : Int)) = some (.int ((ns.getD (i + 1) 0 : Nat) : Int)) := by
        rw [show (1 : Int) + (i : Int) = ((i + 1 : Nat) : Int) by omega]
        refine atI_nat ?_
        rw [nV_at hi', List.getD_eq_getElem?_getD, List.getElem?_eq_getElem hi']
        rfl
      refine w_name ⟨rfl, ?_⟩
      walk_at "g"
      refine hR _ _ ?_ Kp.refl
      rw [List.getElem?_map, List.getElem?_map, List.getElem?_range (by omega)]
      show some (V.bl (decide (ns.getD i 0 < ns.getD (i + 1) 0))) = some (V.bl (decide (((ns.getD i 0 : Nat) : Int) < ((ns.getD (i + 1) 0 : Nat) : Int))))
      congr 2
      rw [Bool.eq_iff_iff, decide_eq_true_iff, decide_eq_true_iff]
      omega
    · intro L H1 hL k1 eL
      walk_at "g"
      have gd : ∀ {i : Nat} {x : Nat}, ns[i]? = some x → ns.getD i 0 = x := fun {i x} h => by rw [List.getD_eq_getElem?_getD, h]; rfl
      by_cases h : ns.Pairwise (· < ·)
      · have e : ((List.range (ns.length - 1)).map fun i => decide (ns.getD i 0 < ns.getD (i + 1) 0)).all id = true := by
          rw [List.all_eq_true]
          intro b hb
          obtain ⟨i, hi, rfl⟩ := List.mem_map.mp hb
          rw [List.mem_range] at hi
          refine decide_eq_true ?_
          have h1 := List.getElem?_eq_getElem (show i < ns.length by omega)
          have h2 := List.getElem?_eq_getElem (show i + 1 < ns.length by omega)
          rw [gd h1, gd h2]
          exact adj_pw h h1 h2
        rw [e]
        exact q1 h _ k1.same
      · have e : ((List.range (ns.length - 1)).map fun i => decide (ns.getD i 0 < ns.getD (i + 1) 0)).all id = false := by
          rw [Bool.eq_false_iff]
          intro hall
          rw [List.all_eq_true] at hall
          refine h (pw_adj (R := (· < ·)) (fun a b c h1 h2 => Nat.lt_trans h1 h2) fun i x y hx hy => ?_)
          have hi : i < ns.length - 1 := by have := (List.getElem?_eq_some_iff.mp hy).1; omega
          have := of_decide_eq_true (hall _ (List.mem_map.mpr ⟨i, List.mem_range.mpr hi, rfl⟩))
          rwa [gd hx, gd hy] at this
        rw [e]
        exact q2 h _ k1.same
theorem ok_riseS {f : Addr} {fd : FuncData} (T : Txt K mg) (F : Fun K "rise" "rise" s_rise f fd) : FnOk P w K mg base CX0 1 f fd ["row"] spRiseS := by
  refine F.ok sc_rise (fun vs H Q E h => ?_) (fun cdv A outer s H vs Q E hr h => ?_)
  · obtain ⟨r, zs, rfl, _⟩ := h
    rfl
  · obtain ⟨r, zs, rfl, hr', hl, hp, q⟩ := h
    refine ⟨_,
      (pss_one
        (ps_ret (pe_callB (r := rAll K) (cr_all rfl) (by rfl) T.n_all (by decide +kernel) (pa_cons (pe_lc (own := [("k", 1)]) (g := (gName 1)) rfl sc_rise.nd (pi_range2 (by rfl) T.n_range (pa_cons pe_int (pa_cons (pe_callB (r := rLen K) c_len (by rfl) T.n_len (by decide +kernel) (pa_cons (pv 0) pa_nil)) pa_nil))) (blkOk_by (own := [("k", 1)]) (N := N_rise) (sc := defScope s_rise) (by decide +kernel)) (fun _ _ _ _ _ => (pg_name (i := 1) sc_rise.nd rfl (.inl rfl))) (fun _ _ _ _ _ => pts_nil) (fun _ _ _ _ _ => (pe_cmpR o_ltS (pe_ix (r := rIxL K) ix_list (pv 0) (pe_op op_sub (pv 1) pe_int) (fun _ _ => rfl)) (pe_ix (r := rIxL K) ix_list (pv 0) (pv 1) (fun _ _ => rfl)) (nomark _)))) pa_nil))))
      , ?_⟩
    rw [show L2.start N_rise [V.ref r] = [some (.ref r), none] from rfl]
    walk_at "x"
    try refine w_rng2' (by simp only [List.length_map]; omega) ?_
    refine lcp_map (walk_range (lo := 1) (n := ((((zs.map V.str).length : Nat) : Int) - 1).toNat)) [] (((List.range (zs.length - 1)).map fun i => true).map V.bl) (by simp only [List.length_map, List.length_range]; omega) (by simp only [List.length_map]; omega) (fun _ _ => trivial) ?_ (by simp) ?_
    · rintro i x H1 H2 R hi k1 ⟨rfl, rfl⟩ hR
      have hi' : i + 1 < zs.length := by
        simp only [List.length_map] at hi
        omega
      have hr1 := k1.same _ _ hr'
      have g1 := List.getElem?_eq_getElem (show i < zs.length by omega)
      have g2 := List.getElem?_eq_getElem hi'
      have at1 : atI (zs.map V.str) (1 + (i : Int) - 1) = some (.str zs[i]) := by
        rw [show (1 : Int) + (i : Int) - 1 = ((i : Nat) : Int) by omega]
        exact atI_nat (by rw [List.getElem?_map, g1]; rfl)
      have at2 : atI (zs.map V.str) (1 + (i : Int)) = some (.str zs[i + 1]) := by
        rw [show (1 : Int) + (i : Int) = ((i + 1 : Nat) : Int) by omega]
        exact atI_nat (by rw [List.getElem?_map, g2]; rfl)
      refine w_name ⟨rfl, ?_⟩
      walk_at "g"
      refine hR _ _ ?_ Kp.refl
      rw [List.getElem?_map, List.getElem?_map, List.getElem?_range (by omega), decide_eq_true (adj_pw hp g1 g2)]
      rfl
    · intro L H1 hL k1 eL
      walk_at "g"
      rw [show ((List.range (zs.length - 1)).map fun i => true).all id = true by simp]
      exact q _ k1.same
theorem ok_areints {f fI : Addr} {fd fdI : FuncData} (T : Txt K mg) (F : Fun K "are_ints" "are_ints" s_are_ints f fd) (D_is_int : DfD K mg "is_int" s_is_int ["thing", "least"] [.int 0] fI fdI) : FnOk P w K mg base CX0 2 f fd ["thing"] spAreInts := by
  obtain ⟨ds_is_int, V_is_int, B_is_int⟩ := D_is_int.b
  have G_is_int : FnOk P w K mg base CX0 1 fI fdI ["thing", "least"] spIsInt := ok_isint T D_is_int
  refine F.ok sc_are_ints (fun vs H Q E h => ?_) (fun cdv A outer s H vs Q E hr h => ?_)
  · obtain ⟨x, B, rfl, _⟩ := h
    rfl
  · obtain ⟨x, B, rfl, hd, hB, q1, q2⟩ := h
    refine ⟨_,
      (pss_one
        (ps_ret (pe_and (pe_callB (r := rIsi K) call_isi (by rfl) T.n_isinstance (by decide +kernel) (pa_cons (pv 0) (pa_cons (pe_bltn (v := .ty "tuple") (u := .type "tuple") (by rfl) T.n_tuple (by decide +kernel) rfl) pa_nil))) (pe_one (pe_callB (r := rAll K) (cr_all rfl) (by rfl) T.n_all (by decide +kernel) (pa_cons (pe_lc (own := [("part", 1)]) (g := (gName 1)) rfl sc_are_ints.nd (pi_tup (pv 0)) (blkOk_by (own := [("part", 1)]) (N := N_are_ints) (sc := defScope s_are_ints) (by decide +kernel)) (fun _ _ _ _ _ => (pg_name (i := 1) sc_are_ints.nd rfl (.inl rfl))) (fun _ _ _ _ _ => pts_nil) (fun _ _ _ _ _ => (pe_call G_is_int (hr.mono (by omega)) (by rfl) D_is_int.g D_is_int.kp B_is_int V_is_int pass0 (pa_cons (pv 1) pa_nil)))) pa_nil))))))
      , ?_⟩
    rw [show L2.start N_are_ints [x] = [some x, none] from rfl]
    walk_at "x"
    rcases hd.cases with ⟨ay, ty, hne⟩ | ⟨a, xs, rfl, ea, hxB, hxs⟩
    · refine w_isTup ty ?_
      rw [decide_eq_false hne]
      walk_at "g"
      refine q2 ?_ _ (fun _ _ z => z)
      rintro ns ⟨a, rfl, h⟩
      exact hne (ty.ofTup h)
    walk_at "g"
    refine lcp_gen (walk_tup (K := K) (a := a) (xs := xs)) [] (fun i y _ => ∃ bb : Bool, y = .bl bb ∧ ∀ z, xs[i]? = some z → (bb = true ↔ ∃ n : Nat, z = nV n)) (fun _ _ => True) (by omega) (fun _ _ _ _ _ h => h) (fun _ _ _ _ _ _ => trivial) (fun _ H1 k _ => .of (k _ _ (by simp) ea)) trivial ?_ (by simp) ?_
    · rintro i y H2 H3 R hi k2 t2 _ ⟨rfl, hy⟩ hR
      obtain ⟨a1, t1⟩ := ((hxs y (List.mem_of_getElem? hy)).kd (KD.of k2.same)).ty
      refine w_name ⟨rfl, ?_⟩
      walk_at "g"
      refine ⟨y, a1, rfl, t1, fun n hn => ?_, fun hn => ?_⟩
      · refine hR _ _ ⟨true, rfl, fun z hz => ⟨fun _ => ⟨n, ?_⟩, fun _ => rfl⟩⟩ Kp.refl KT.refl trivial
        rw [hy] at hz
        cases hz
        exact hn
      · refine hR _ _ ⟨false, rfl, fun z hz => ⟨fun h => Bool.noConfusion h, fun ⟨n, e⟩ => ?_⟩⟩ Kp.refl KT.refl trivial
        rw [hy] at hz
        cases hz
        exact absurd e (hn n)
    · intro L H2 vs hvl hvp hL k2' t2 _ eL
      have k2 := k2'.same
      obtain ⟨bs, rfl, hbs⟩ := bls_of hvp
      rw [List.length_map] at hvl
      walk_at "g"
      by_cases hall : ∀ y ∈ xs, ∃ n : Nat, y = nV n
      · have e : bs.all id = true := by
          rw [List.all_eq_true]
          intro b hb
          obtain ⟨i, hi, rfl⟩ := List.getElem_of_mem hb
          have hi2 : i < xs.length := by omega
          exact ((hbs i bs[i] (List.getElem?_eq_getElem hi)) xs[i] (List.getElem?_eq_getElem hi2)).mpr (hall _ (List.getElem_mem hi2))
        rw [e]
        obtain ⟨ns, rfl⟩ := nats_of hall
        exact q1 ns ⟨a, rfl, ea⟩ _ k2
      · have e : bs.all id = false := by
          rw [Bool.eq_false_iff]
          intro h
          rw [List.all_eq_true] at h
          refine hall fun y hy => ?_
          obtain ⟨i, hi, rfl⟩ := List.getElem_of_mem hy
          have hi2 : i < bs.length := by omega
          exact ((hbs i bs[i] (List.getElem?_eq_getElem hi2)) xs[i] (List.getElem?_eq_getElem hi)).mp (h _ (List.getElem_mem hi2))
        rw [e]
        refine q2 ?_ _ k2
        rintro ns ⟨a', e', h⟩
        cases e'
        rw [ea] at h
        cases h
        exact hall fun y hy => by
          obtain ⟨n, _, rfl⟩ := List.mem_map.mp hy
          exact ⟨n, rfl⟩
theorem ok_risingints {f fA fR fI : Addr} {fd fdA fdR fdI : FuncData} (T : Txt K mg) (F : Fun K "rising_ints" "rising_ints" s_rising_ints f fd) (D_are_ints : Df K mg "are_ints" s_are_ints ["thing"] fA fdA) (D_rise : Df K mg "rise" s_rise ["row"] fR fdR) (D_is_int : DfD K mg "is_int" s_is_int ["thing", "least"] [.int 0] fI fdI) : FnOk P w K mg base CX0 3 f fd ["thing"] spRisingInts := by
  have G_are_ints : FnOk P w K mg base CX0 2 fA fdA ["thing"] spAreInts := ok_areints T D_are_ints.fn D_is_int
  have G_rise : FnOk P w K mg base CX0 1 fR fdR ["row"] spRiseT := ok_riseT T D_rise.fn
  refine F.ok sc_rising_ints (fun vs H Q E h => ?_) (fun cdv A outer s H vs Q E hr h => ?_)
  · obtain ⟨x, B, rfl, _⟩ := h
    rfl
  · obtain ⟨x, B, rfl, hd, hB, q1, q2⟩ := h
    refine ⟨_,
      (pss_one
        (ps_ret (pe_and (pe_call G_are_ints (hr.mono (by omega)) (by rfl) D_are_ints.g D_are_ints.fn.kp D_are_ints.b .nil pass0 (pa_cons (pv 0) pa_nil)) (pe_one (pe_call G_rise (hr.mono (by omega)) (by rfl) D_rise.g D_rise.fn.kp D_rise.b .nil pass0 (pa_cons (pv 0) pa_nil))))))
      , ?_⟩
    rw [show L2.start N_rising_ints [x] = [some x] from rfl]
    walk_at "x"
    refine ⟨x, B, rfl, hd, hB, fun ns hns H1 k1 => ?_, fun hn H1 k1 => ?_⟩
    · walk_at "g"
      have hns' := hns
      obtain ⟨a, rfl, ea⟩ := hns
      have hlen : ns.length ≤ 1000 := by
        have := (hd.elem ea).1
        rw [List.length_map] at this
        omega
      refine ⟨a, ns, rfl, k1 _ _ ea, hlen, fun hp H2 k2 => ?_, fun hp H2 k2 => ?_⟩
      · exact q1 ns hns' hp _ (Same.trans k1 k2)
      · refine q2 ?_ _ (Same.trans k1 k2)
        rintro ns' ⟨a', e, h⟩
        cases e
        rw [ea] at h
        have e2 := Option.some.inj h
        injection e2 with e2
        rw [← nV_inj e2]
        exact hp
    · walk_at "g"
      exact q2 (fun ns h => absurd h (hn ns)) _ k1
theorem ok_arerows {f fT : Addr} {fd fdT : FuncData} (T : Txt K mg) (F : Fun K "are_rows" "are_rows" s_are_rows f fd) (D_is_text : DfD K mg "is_text" s_is_text ["thing", "most"] [.int 40] fT fdT) : FnOk P w K mg base CX0 2 f fd ["thing"] spAreRows := by
  obtain ⟨ds_is_text, V_is_text, B_is_text⟩ := D_is_text.b
  have G_is_text : FnOk P w K mg base CX0 1 fT fdT ["thing", "most"] spIsText := ok_istext T D_is_text
  refine F.ok sc_are_rows (fun vs H Q E h => ?_) (fun cdv A outer s H vs Q E hr h => ?_)
  · obtain ⟨r, rows, rfl, _⟩ := h
    rfl
  · obtain ⟨r, rows, rfl, hr', hl, hz, q⟩ := h
    have hr0 : H r = some (.tup (rows.map V.str)) := hr'
    refine ⟨_,
      (pss_one
        (ps_ret (pe_and (pe_callB (r := rIsi K) call_isi (by rfl) T.n_isinstance (by decide +kernel) (pa_cons (pv 0) (pa_cons (pe_bltn (v := .ty "tuple") (u := .type "tuple") (by rfl) T.n_tuple (by decide +kernel) rfl) pa_nil))) (pe_and (pe_cmpR op_le (pe_callB (r := rLen K) c_len (by rfl) T.n_len (by decide +kernel) (pa_cons (pv 0) pa_nil)) pe_int (nomark _)) (pe_one (pe_callB (r := rAll K) (cr_all rfl) (by rfl) T.n_all (by decide +kernel) (pa_cons (pe_lc (own := [("row", 1)]) (g := (gName 1)) rfl sc_are_rows.nd (pi_tup (pv 0)) (blkOk_by (own := [("row", 1)]) (N := N_are_rows) (sc := defScope s_are_rows) (by decide +kernel)) (fun _ _ _ _ _ => (pg_name (i := 1) sc_are_rows.nd rfl (.inl rfl))) (fun _ _ _ _ _ => pts_nil) (fun _ _ _ _ _ => (pe_call G_is_text (hr.mono (by omega)) (by rfl) D_is_text.g D_is_text.kp B_is_text V_is_text pass0 (pa_cons (pv 1) pa_nil)))) pa_nil)))))))
      , ?_⟩
    rw [show L2.start N_are_rows [V.ref r] = [some (.ref r), none] from rfl]
    walk_at "x"
    refine w_yes (by rw [List.length_map]; omega) ?_
    walk_at "g"
    refine lcp_map (walk_tup (K := K) (a := r) (xs := rows.map V.str)) [] ((rows.map fun _ => true).map V.bl) (by simp) (by rw [List.length_map]; omega) (fun H' k => .of (k _ _ (by simp) hr0)) ?_ (by simp) ?_
    · rintro i x H1 H2 R hi k1 ⟨rfl, hx⟩ hR
      obtain ⟨z, hz', rfl⟩ := map_at hx
      have hzo := hz z (List.mem_of_getElem? hz')
      refine w_name ⟨rfl, ?_⟩
      walk_at "g"
      refine ⟨.str z, 40, rfl, .leaf (.str z) (by decide) (fun z' e => by cases e; exact hzo.1), by omega, fun _ _ _ H3 k3 => ?_, fun hn => absurd hzo (hn z rfl)⟩
      refine hR _ _ ?_ (Kp.of k3)
      rw [List.getElem?_map, List.getElem?_map, hz']
      rfl
    · intro L H1 hL k1 eL
      walk_at "g"
      rw [show (rows.map fun _ => true).all id = true by simp]
      exact q _ k1.same
end
/-! ### a book's own defs -/
def spIsName (P : Program) (w : World) (C : Addr) : Sp := fun vs H Q _ => ∃ (p dx lc ld lg : Addr) (cs : List (Addr × Ct)) (ds : List Nat) (x : V) (a : String), vs = [.ref p, x] ∧ BookAt P w C H p dx lc ld lg cs ds ∧ Ty H x a ∧ (∀ n : Nat, x = nV n → n < cs.length → Q (.bl true) H) ∧ ((∀ n : Nat, x = nV n → ¬ n < cs.length) → Q (.bl false) H)
def spIsKind (P : Program) (w : World) (C : Addr) : Sp := fun vs H Q _ => ∃ (p dx lc ld lg : Addr) (cs : List (Addr × Ct)) (ds : List Nat) (x : V) (a : String) (k : Str), vs = [.ref p, x, .str k] ∧ BookAt P w C H p dx lc ld lg cs ds ∧ Ty H x a ∧ (∀ (n : Nat) (q : Addr × Ct), x = nV n → cs[n]? = some q → Q (.bl (decide (q.2.word = k))) H) ∧ ((∀ n : Nat, x = nV n → ¬ n < cs.length) → Q (.bl false) H)
def spIsPair2 : Sp := fun vs H Q _ => ∃ (a : Addr) (x y : V), vs = [.ref a] ∧ H a = some (.tup [x, y]) ∧ Q (.bl true) H
def spIsEntry (P : Program) (w : World) (C : Addr) : Sp := fun vs H Q _ => ∃ (p dx lc ld lg e : Addr) (cs : List (Addr × Ct)) (ds : List Nat) (z : Str) (n : Nat) (q : Addr × Ct), vs = [.ref p, .ref e] ∧ BookAt P w C H p dx lc ld lg cs ds ∧ H e = some (.tup [.str z, nV n]) ∧ LabOk z ∧ cs[n]? = some q ∧ q.2.word ≠ "version" ∧ ∀ H', Same H H' → Q (.bl true) H'
def spDepth (C : Addr) : Sp := fun vs H Q _ => ∃ (p dx lc ld lg a : Addr) (ds : List Nat) (c : Ct), vs = [.ref p, .ref a] ∧ H p = some (.ins C dx [("contents", .ref lc), ("depths", .ref ld), ("given", .ref lg)]) ∧ H ld = some (.lst (ds.map nV)) ∧ CtAt H a c ∧ (∀ es, c = .tree es → es.length ≤ 20 ∧ ∀ e ∈ es, e.2 < ds.length) ∧ ∀ H', Same H H' → Q (nV (depOf ds c)) H'
def spIsTree (P : Program) (w : World) (C : Addr) : Sp := fun vs H Q _ => ∃ (p dx lc ld lg r : Addr) (cs : List (Addr × Ct)) (ds : List Nat) (qs : List (Addr × Str × Nat)), vs = [.ref p, .ref r] ∧ BookAt P w C H p dx lc ld lg cs ds ∧ H r = some (.tup (qs.map fun q => .ref q.1)) ∧ (∀ q ∈ qs, H q.1 = some (.tup [.str q.2.1, nV q.2.2])) ∧ CtOk (cs.map (·.2)) ds (.tree (qs.map (·.2))) ∧ ∀ H', Same H H' → Q (.bl true) H'
def spIsContent (P : Program) (w : World) (C : Addr) : Sp := fun vs H Q _ => ∃ (p dx lc ld lg a : Addr) (cs : List (Addr × Ct)) (ds : List Nat) (c : Ct), vs = [.ref p, .ref a] ∧ BookAt P w C H p dx lc ld lg cs ds ∧ CtAt H a c ∧ CtOk (cs.map (·.2)) ds c ∧ ∀ H', Same H H' → Q (.bl true) H'
def spIsVersion (P : Program) (w : World) (C : Addr) : Sp := fun vs H Q _ => ∃ (p dx lc ld lg a : Addr) (cs : List (Addr × Ct)) (ds : List Nat) (ps : List Nat) (root stamp : Nat), vs = [.ref p, .ref a] ∧ BookAt P w C H p dx lc ld lg cs ds ∧ CtAt H a (.ver ps root stamp) ∧ CtOk (cs.map (·.2)) ds (.ver ps root stamp) ∧ ∀ H', Same H H' → Q (.bl true) H'
def spBookInit (P : Program) (w : World) (C : Addr) : Sp := fun vs H Q _ => ∃ (p dx : Addr), vs = [.ref p] ∧ H p = some (.ins C dx []) ∧ ∀ (lc ld lg : Addr) (H' : Hp), H lc = none → H ld = none → H lg = none → BookAt P w C H' p dx lc ld lg [] [] → Kp [p] H H' → Q .non H'
/-- what naming a content makes of a book -/
def spNamed (P : Program) (w : World) (C : Addr) : Sp := fun vs H Q _ => ∃ (p dx lc ld lg a : Addr) (cs : List (Addr × Ct)) (ds : List Nat) (c : Ct), vs = [.ref p, .ref a] ∧ BookAt P w C H p dx lc ld lg cs ds ∧ CtAt H a c ∧ CtOk (cs.map (·.2)) ds c ∧ cs.length < 400 ∧
  (∀ (j : Nat) (b : Addr) (H' : Hp), cs[j]? = some (b, c) → Same H H' → Q (nV j) H') ∧ ((∀ q ∈ cs, q.2 ≠ c) → ∀ H', BookAt P w C H' p dx lc ld lg (cs ++ [(a, c)]) (ds ++ [depOf ds c]) → Kp [lc, ld, lg] H H' → KT H H' → Q (nV cs.length) H')
def spThing (P : Program) (w : World) (C : Addr) : Sp := fun vs H Q _ => ∃ (p dx lc ld lg : Addr) (cs : List (Addr × Ct)) (ds : List Nat) (n : Nat) (q : Addr × Ct), vs = [.ref p, nV n] ∧ BookAt P w C H p dx lc ld lg cs ds ∧ cs[n]? = some q ∧ Q (.ref q.1) H
def spKind (P : Program) (w : World) (C : Addr) : Sp := fun vs H Q _ => ∃ (p dx lc ld lg : Addr) (cs : List (Addr × Ct)) (ds : List Nat) (n : Nat) (q : Addr × Ct), vs = [.ref p, nV n] ∧ BookAt P w C H p dx lc ld lg cs ds ∧ cs[n]? = some q ∧ Q (.str q.2.word) H
def spPartsV (P : Program) (w : World) (C : Addr) : Sp := fun vs H Q _ => ∃ (p dx lc ld lg : Addr) (cs : List (Addr × Ct)) (ds : List Nat) (n : Nat) (a : Addr) (ps : List Nat) (root stamp : Nat), vs = [.ref p, nV n] ∧ BookAt P w C H p dx lc ld lg cs ds ∧ cs[n]? = some (a, .ver ps root stamp) ∧ ps.length ≤ 900 ∧ ∀ H' r, Same H H' → H' r = some (.tup ((ps ++ [root]).map nV)) → Q (.ref r) H'
theorem CtAt.head {H : Hp} {a : Addr} {c : Ct} (h : CtAt H a c) : ∃ xs, H a = some (.tup (.str c.word :: xs)) := by
  cases c with
  | leaf rows => obtain ⟨r, h1, _⟩ := h; exact ⟨_, h1⟩
  | tree es => obtain ⟨r, qs, h1, _⟩ := h; exact ⟨_, h1⟩
  | ver ps root stamp => obtain ⟨r, h1, _⟩ := h; exact ⟨_, h1⟩
theorem fold_max (m : Nat) : ∀ (ns : List Nat) (b : Nat), (m = b ∨ m ∈ ns) → b ≤ m → (∀ y ∈ ns, y ≤ m) → ns.foldl max b = m
  | [], b, h, _, _ => by
    rcases h with h | h
    · exact h.symm
    · cases h
  | n :: ns, b, h, hb, hall => by
    show ns.foldl max (max b n) = m
    have hn := hall n (by simp)
    refine fold_max m ns (max b n) ?_ (by omega) fun y hy => hall y (by simp [hy])
    rcases h with h | h
    · exact .inl (by omega)
    · rcases List.mem_cons.mp h with h | h
      · exact .inl (by omega)
      · exact .inr h
theorem small1kl {n : Nat} (h : n ≤ 1000) : n < sizeLine := Nat.lt_of_le_of_lt h (by decide)
section
variable {P : Program} {w : World} {K : PySem.W.Frag} {mg : Str → Option Value} {base : Heap} {C : Addr}
theorem ok_isname {f fI : Addr} {fd fdI : FuncData} (T : Txt K mg) (F : Fun K "is_name" "is_name" s_is_name f fd) (K_Book : Kl K mg "Book" C ["contents", "depths", "given"]) (D_is_int : DfD K mg "is_int" s_is_int ["thing", "least"] [.int 0] fI fdI) : FnOk P w K mg base CX0 2 f fd ["book", "thing"] (spIsName P w C) := by
  obtain ⟨ds_is_int, V_is_int, B_is_int⟩ := D_is_int.b
  have G_is_int : FnOk P w K mg base CX0 1 fI fdI ["thing", "least"] spIsInt := ok_isint T D_is_int
  have cl := K_Book.cl
  have n1 := K_Book.na "contents" (by simp)
  refine F.ok sc_is_name (fun vs H Q E h => ?_) (fun cdv A outer s H vs Q E hr h => ?_)
  · obtain ⟨p, dx, lc, ld, lg, cs, ds, x, a, rfl, _⟩ := h
    rfl
  · obtain ⟨p, dx, lc, ld, lg, cs, ds, x, a, rfl, B, t, q1, q2⟩ := h
    have ob := B.ob
    have co := B.co
    refine ⟨_,
      (pss_one
        (ps_ret (pe_and (pe_call G_is_int (hr.mono (by omega)) (by rfl) D_is_int.g D_is_int.kp B_is_int V_is_int pass0 (pa_cons (pv 1) pa_nil)) (pe_one (pe_cmpR op_lt (pv 1) (pe_callB (r := rLen K) c_len (by rfl) T.n_len (by decide +kernel) (pa_cons (pe_fldK (K := K) rfl (pv 0) rfl) pa_nil)) (nomark _))))))
      , ?_⟩
    rw [show L2.start N_is_name [V.ref p, x] = [some (.ref p), some x] from rfl]
    walk_at "x"
    refine ⟨x, a, rfl, t, fun n hn => ?_, fun hn => ?_⟩
    · subst hn
      walk_at "g"
      by_cases h : n < cs.length
      · rw [decide_eq_true (by rw [List.length_map]; omega)]
        exact q1 n rfl h
      · rw [decide_eq_false (by rw [List.length_map]; omega)]
        exact q2 fun m e => by
          have : (n : Int) = m := V.int.inj e
          omega
    · walk_at "g"
      exact q2 fun n e => absurd e (hn n)
theorem ok_iskind {f fN fI : Addr} {fd fdN fdI : FuncData} (T : Txt K mg) (F : Fun K "is_kind" "is_kind" s_is_kind f fd) (K_Book : Kl K mg "Book" C ["contents", "depths", "given"]) (D_is_name : Df K mg "is_name" s_is_name ["book", "thing"] fN fdN) (D_is_int : DfD K mg "is_int" s_is_int ["thing", "least"] [.int 0] fI fdI) : FnOk P w K mg base CX0 3 f fd ["book", "thing", "kind"] (spIsKind P w C) := by
  have G_is_name : FnOk P w K mg base CX0 2 fN fdN ["book", "thing"] (spIsName P w C) := ok_isname T D_is_name.fn K_Book D_is_int
  have cl := K_Book.cl
  have n1 := K_Book.na "contents" (by simp)
  refine F.ok sc_is_kind (fun vs H Q E h => ?_) (fun cdv A outer s H vs Q E hr h => ?_)
  · obtain ⟨p, dx, lc, ld, lg, cs, ds, x, a, k, rfl, _⟩ := h
    rfl
  · obtain ⟨p, dx, lc, ld, lg, cs, ds, x, a, k, rfl, B, t, q1, q2⟩ := h
    have ob := B.ob
    have co := B.co
    refine ⟨_,
      (pss_one
        (ps_ret (pe_and (pe_call G_is_name (hr.mono (by omega)) (by rfl) D_is_name.g D_is_name.fn.kp D_is_name.b .nil pass0 (pa_cons (pv 0) (pa_cons (pv 1) pa_nil))) (pe_one (pe_cmpR op_eq (pe_ix (r := rIxT K) ix_tup (pe_ix (r := rIxL K) ix_list (pe_fldK (K := K) rfl (pv 0) rfl) (pv 1) (fun _ _ => rfl)) pe_int (fun _ _ => rfl)) (pv 2) (nomark _))))))
      , ?_⟩
    rw [show L2.start N_is_kind [V.ref p, x, V.str k] = [some (.ref p), some x, some (.str k)] from rfl]
    walk_at "x"
    refine ⟨p, dx, lc, ld, lg, cs, ds, x, a, rfl, B, t, fun n hn hl => ?_, fun hn => ?_⟩
    · subst hn
      have hq := List.getElem?_eq_getElem hl
      generalize cs[n] = q at hq
      obtain ⟨xs, hh⟩ := (B.ct q (List.mem_of_getElem? hq)).head
      have at1 : atI (cs.map fun q => V.ref q.1) (n : Int) = some (.ref q.1) := atI_nat (by rw [List.getElem?_map, hq]; rfl)
      have at0 : atI (V.str q.2.word :: xs) 0 = some (.str q.2.word) := atI_nat (j := 0) rfl
      walk_at "g"
      exact q1 n q rfl hq
    · walk_at "g"
      exact q2 hn
theorem ok_ispair2 {f : Addr} {fd : FuncData} (T : Txt K mg) (F : Fun K "is_pair" "is_pair" s_is_pair f fd) : FnOk P w K mg base CX0 1 f fd ["thing"] spIsPair2 := by
  refine F.ok sc_is_pair (fun vs H Q E h => ?_) (fun cdv A outer s H vs Q E hr h => ?_)
  · obtain ⟨a, x, y, rfl, _⟩ := h
    rfl
  · obtain ⟨a, x, y, rfl, ha, q⟩ := h
    refine ⟨_,
      (pss_one
        (ps_ret (pe_and (pe_callB (r := rIsi K) call_isi (by rfl) T.n_isinstance (by decide +kernel) (pa_cons (pv 0) (pa_cons (pe_bltn (v := .ty "tuple") (u := .type "tuple") (by rfl) T.n_tuple (by decide +kernel) rfl) pa_nil))) (pe_one (pe_cmpR op_eq (pe_callB (r := rLen K) c_len (by rfl) T.n_len (by decide +kernel) (pa_cons (pv 0) pa_nil)) pe_int (nomark _))))))
      , ?_⟩
    rw [show L2.start N_is_pair [V.ref a] = [some (.ref a)] from rfl]
    walk_at "x"
    exact q
theorem ok_isentry {f fN fI fP fL : Addr} {fd fdN fdI fdP fdL : FuncData} (T : Txt K mg) (F : Fun K "is_entry" "is_entry" s_is_entry f fd) (K_Book : Kl K mg "Book" C ["contents", "depths", "given"]) (D_is_name : Df K mg "is_name" s_is_name ["book", "thing"] fN fdN) (D_is_int : DfD K mg "is_int" s_is_int ["thing", "least"] [.int 0] fI fdI) (D_is_pair : Df K mg "is_pair" s_is_pair ["thing"] fP fdP) (D_is_label : Df K mg "is_label" s_is_label ["thing"] fL fdL) : FnOk P w K mg base CX0 3 f fd ["book", "thing"] (spIsEntry P w C) := by
  have G_is_name : FnOk P w K mg base CX0 2 fN fdN ["book", "thing"] (spIsName P w C) := ok_isname T D_is_name.fn K_Book D_is_int
  have G_is_pair : FnOk P w K mg base CX0 1 fP fdP ["thing"] spIsPair2 := ok_ispair2 T D_is_pair.fn
  have G_is_label : FnOk P w K mg base CX0 1 fL fdL ["thing"] spIsLabel := ok_islabel T D_is_label.fn
  have cl := K_Book.cl
  have n1 := K_Book.na "contents" (by simp)
  refine F.ok sc_is_entry (fun vs H Q E h => ?_) (fun cdv A outer s H vs Q E hr h => ?_)
  · obtain ⟨p, dx, lc, ld, lg, e, cs, ds, z, n, q, rfl, _⟩ := h
    rfl
  · obtain ⟨p, dx, lc, ld, lg, e, cs, ds, z, n, q, rfl, B, he, hz, hq, hw, qq⟩ := h
    have he' : H e = some (.tup [.str z, .int (n : Int)]) := he
    refine ⟨_,
      (pss_cons
        (ps_if (PW.pt (pw_or (pt_not (pt_val (pe_call G_is_pair (hr.mono (by omega)) (by rfl) D_is_pair.g D_is_pair.fn.kp D_is_pair.b .nil pass0 (pa_cons (pv 1) pa_nil)))) (pw_or1 (pt_not (pt_val (pe_call G_is_label (hr.mono (by omega)) (by rfl) D_is_label.g D_is_label.fn.kp D_is_label.b .nil pass0 (pa_cons (pe_ix (r := rIxT K) ix_tup (pv 1) pe_int (fun _ _ => rfl)) pa_nil)))))))
          (pss_one
            (ps_ret pe_bl))
          pss_nil)
      (pss_one
        (ps_ret (pe_and (pe_call G_is_name (hr.mono (by omega)) (by rfl) D_is_name.g D_is_name.fn.kp D_is_name.b .nil pass0 (pa_cons (pv 0) (pa_cons (pe_ix (r := rIxT K) ix_tup (pv 1) pe_int (fun _ _ => rfl)) pa_nil))) (pe_one (pe_cmpR op_ne (pe_ix (r := rIxT K) ix_tup (pe_ix (r := rIxL K) ix_list (pe_fldK (K := K) rfl (pv 0) rfl) (pe_ix (r := rIxT K) ix_tup (pv 1) pe_int (fun _ _ => rfl)) (fun _ _ => rfl)) pe_int (fun _ _ => rfl)) pe_str (nomark _)))))))
      , ?_⟩
    rw [show L2.start N_is_entry [V.ref p, V.ref e] = [some (.ref p), some (.ref e)] from rfl]
    refine w_seq ?_
    walk_at "x"
    refine ⟨e, _, _, rfl, he', ?_⟩
    walk_at "g"
    refine ⟨z, rfl, hz, fun H1 k1 => ?_⟩
    have B1 := B.same k1
    have ob1 := B1.ob
    have co1 := B1.co
    have he1 := k1 _ _ he'
    have hl : n < cs.length := (List.getElem?_eq_some_iff.mp hq).1
    obtain ⟨xs, hh⟩ := (B1.ct q (List.mem_of_getElem? hq)).head
    have at1 : atI (cs.map fun q => V.ref q.1) (n : Int) = some (.ref q.1) := atI_nat (by rw [List.getElem?_map, hq]; rfl)
    have at0 : atI (V.str q.2.word :: xs) 0 = some (.str q.2.word) := atI_nat (j := 0) rfl
    walk_at "g"
    refine ⟨p, dx, lc, ld, lg, cs, ds, .int (n : Int), "int", rfl, B1, .int _, fun m hm hml => ?_, fun hm => absurd hl (hm n rfl)⟩
    walk_at "g"
    rw [decide_eq_false hw]
    exact qq _ k1
theorem ok_depth {f : Addr} {fd : FuncData} (T : Txt K mg) (F : Fun K "depth_of" "depth_of" s_depth_of f fd) (K_Book : Kl K mg "Book" C ["contents", "depths", "given"]) : FnOk P w K mg base CX0 1 f fd ["book", "content"] (spDepth C) := by
  have cl := K_Book.cl
  have n2 := K_Book.na "depths" (by simp)
  refine F.ok sc_depth_of (fun vs H Q E h => ?_) (fun cdv A outer s H vs Q E hr h => ?_)
  · obtain ⟨p, dx, lc, ld, lg, a, ds, c, rfl, _⟩ := h
    rfl
  · obtain ⟨p, dx, lc, ld, lg, a, ds, c, rfl, ob, de, hc, ht, q⟩ := h
    refine ⟨_,
      (pss_cons
        (ps_if (pt_cmpR op_ne (pe_ix (r := rIxT K) ix_tup (pv 1) pe_int (fun _ _ => rfl)) pe_str (nomark _))
          (pss_one
            (ps_ret pe_int))
          pss_nil)
      (pss_one
        (ps_ret (pe_op op_add pe_int (pe_callBK (r := rMaxD K) (c_maxD rfl hr.units) (by rfl) T.n_max (by decide +kernel) (pa_cons (pe_lc (own := [("label", 2), ("name", 3)]) (g := (gTup K 2 (gCons (gName 2) (gCons (gName 3) gNil)))) rfl sc_depth_of.nd (pi_tup (pe_ix (r := rIxT K) ix_tup (pv 1) pe_int (fun _ _ => rfl))) (blkOk_by (own := [("label", 2), ("name", 3)]) (N := N_depth_of) (sc := defScope s_depth_of) (by decide +kernel)) (fun _ _ _ _ _ => (pg_tup rfl (pgs_cons (pg_name (i := 2) sc_depth_of.nd rfl (.inl rfl)) (pgs_cons (pg_name (i := 3) sc_depth_of.nd rfl (.inl rfl)) pgs_nil)))) (fun _ _ _ _ _ => pts_nil) (fun _ _ _ _ _ => (pe_ix (r := rIxL K) ix_list (pe_fldK (K := K) rfl (pv 0) rfl) (pv 3) (fun _ _ => rfl)))) pa_nil) (pk_cons pe_int pk_nil))))))
      , ?_⟩
    rw [show L2.start N_depth_of [V.ref p, V.ref a] = [some (.ref p), some (.ref a), none, none] from rfl]
    refine w_seq ?_
    have sm : Same H H := fun _ _ z => z
    cases c with
    | leaf rows =>
      obtain ⟨r, h1, _⟩ := hc
      walk_at "x"
      refine w_nno lit_ne1 ?_
      walk_at "g"
      exact q _ sm
    | ver ps root stamp =>
      obtain ⟨r, h1, _⟩ := hc
      walk_at "x"
      refine w_nno lit_ne6 ?_
      walk_at "g"
      exact q _ sm
    | tree es =>
      obtain ⟨r, qs, h1, h2, rfl, h4⟩ := hc
      obtain ⟨hl20, hin⟩ := ht _ rfl
      rw [List.length_map] at hl20
      walk_at "x"
      refine w_nyes rfl ?_
      walk_at "g"
      refine lcp_map (walk_tup (K := K) (a := r) (xs := qs.map fun q => V.ref q.1)) [] ((qs.map fun q => ds.getD q.2.2 0).map nV) (by simp) (by rw [List.length_map]; omega) (fun H' k => .of (k _ _ (by simp) h2)) ?_ (by simp) ?_
      · rintro i x H1 H2 R hi k1 ⟨rfl, hx⟩ hR
        obtain ⟨z, hz, rfl⟩ := map_at hx
        have hzm := List.mem_of_getElem? hz
        have e1 : H2 z.1 = some (.tup [.str z.2.1, .int (z.2.2 : Int)]) := k1.same _ _ (h4 z hzm)
        have ob1 := k1.same _ _ ob
        have de1 := k1.same _ _ de
        have hlt : z.2.2 < ds.length := hin z.2 (List.mem_map_of_mem hzm)
        have at1 : atI (ds.map nV) (z.2.2 : Int) = some (nV (ds.getD z.2.2 0)) := by
          refine atI_nat ?_
          rw [nV_at hlt, List.getD_eq_getElem?_getD, List.getElem?_eq_getElem hlt]
          rfl
        refine w_gtup (.of e1) rfl (w_gcons (w_name (w_gcons (w_name (w_gnil ⟨rfl, ?_⟩)))))
        walk_at "g"
        refine hR _ _ ?_ Kp.refl
        rw [List.getElem?_map, List.getElem?_map, hz]
        rfl
      · intro L H1 hL k1 eL
        have eL' : H1 L = some (.lst (((qs.map fun q => ds.getD q.2.2 0).map fun n : Nat => (n : Int)).map V.int)) := by rw [List.map_map]; exact eL
        walk_at "g"
        refine w_maxD' (.of eL') (fun e0 => ?_) fun m hm hall => ?_
        · have e1 : qs = [] := by simpa using e0
          subst e1
          walk_at "g"
          exact q _ k1.same
        · obtain ⟨n, hn, rfl⟩ := List.mem_map.mp hm
          walk_at "g"
          have e : depOf ds (.tree (qs.map (·.2))) = 1 + n := by
            show 1 + ((qs.map (·.2)).map fun e => ds.getD e.2 0).foldl max 0 = 1 + n
            rw [List.map_map]
            rw [fold_max n (qs.map ((fun e : Str × Nat => ds.getD e.2 0) ∘ fun q : Addr × Str × Nat => q.2)) 0 (.inr hn) (Nat.zero_le _) fun y hy => by
              have := hall (y : Int) (List.mem_map.mpr ⟨y, hy, rfl⟩)
              omega]
          have := q _ k1.same
          rw [e] at this
          rw [show nV (1 + n) = V.int (1 + (n : Int)) from congrArg V.int (by omega)] at this
          exact this
theorem ok_istree {f fE fR fO fN fI fP fL : Addr} {fd fdE fdR fdO fdN fdI fdP fdL : FuncData} (T : Txt K mg) (F : Fun K "is_tree" "is_tree" s_is_tree f fd) (K_Book : Kl K mg "Book" C ["contents", "depths", "given"]) (D_is_entry : Df K mg "is_entry" s_is_entry ["book", "thing"] fE fdE) (D_rise : Df K mg "rise" s_rise ["row"] fR fdR) (D_depth_of : Df K mg "depth_of" s_depth_of ["book", "content"] fO fdO) (D_is_name : Df K mg "is_name" s_is_name ["book", "thing"] fN fdN) (D_is_int : DfD K mg "is_int" s_is_int ["thing", "least"] [.int 0] fI fdI) (D_is_pair : Df K mg "is_pair" s_is_pair ["thing"] fP fdP) (D_is_label : Df K mg "is_label" s_is_label ["thing"] fL fdL) : FnOk P w K mg base CX0 4 f fd ["book", "entries"] (spIsTree P w C) := by
  have G_is_entry : FnOk P w K mg base CX0 3 fE fdE ["book", "thing"] (spIsEntry P w C) := ok_isentry T D_is_entry.fn K_Book D_is_name D_is_int D_is_pair D_is_label
  have G_rise : FnOk P w K mg base CX0 1 fR fdR ["row"] spRiseS := ok_riseS T D_rise.fn
  have G_depth_of : FnOk P w K mg base CX0 1 fO fdO ["book", "content"] (spDepth C) := ok_depth T D_depth_of.fn K_Book
  obtain ⟨tk_DEEP, g_DEEP⟩ := T.g_DEEP
  refine F.ok sc_is_tree (fun vs H Q E h => ?_) (fun cdv A outer s H vs Q E hr h => ?_)
  · obtain ⟨p, dx, lc, ld, lg, r, cs, ds, qs, rfl, _⟩ := h
    rfl
  · obtain ⟨p, dx, lc, ld, lg, r, cs, ds, qs, rfl, B, hr', hqs, ⟨c1, c2, c3, c4⟩, q⟩ := h
    rw [List.length_map] at c1
    refine ⟨_,
      (pss_cons
        (ps_if (PW.pt (pw_or (pt_not (pt_val (pe_callB (r := rIsi K) call_isi (by rfl) T.n_isinstance (by decide +kernel) (pa_cons (pv 1) (pa_cons (pe_bltn (v := .ty "tuple") (u := .type "tuple") (by rfl) T.n_tuple (by decide +kernel) rfl) pa_nil))))) (pw_or1 (pt_cmpR op_gt (pe_callB (r := rLen K) c_len (by rfl) T.n_len (by decide +kernel) (pa_cons (pv 1) pa_nil)) pe_int (nomark _)))))
          (pss_one
            (ps_ret pe_bl))
          pss_nil)
      (pss_cons
        (ps_if (PW.pt (pw_or (pt_not (pt_val (pe_callB (r := rAll K) (cr_all rfl) (by rfl) T.n_all (by decide +kernel) (pa_cons (pe_lc (own := [("entry", 2)]) (g := (gName 2)) rfl sc_is_tree.nd (pi_tup (pv 1)) (blkOk_by (own := [("entry", 2)]) (N := N_is_tree) (sc := defScope s_is_tree) (by decide +kernel)) (fun _ _ _ _ _ => (pg_name (i := 2) sc_is_tree.nd rfl (.inl rfl))) (fun _ _ _ _ _ => pts_nil) (fun _ _ _ _ _ => (pe_call G_is_entry (hr.mono (by omega)) (by rfl) D_is_entry.g D_is_entry.fn.kp D_is_entry.b .nil pass0 (pa_cons (pv 0) (pa_cons (pv 2) pa_nil))))) pa_nil)))) (pw_or1 (pt_not (pt_val (pe_call G_rise (hr.mono (by omega)) (by rfl) D_rise.g D_rise.fn.kp D_rise.b .nil pass0 (pa_cons (pe_lc (own := [("entry", 2)]) (g := (gName 2)) rfl sc_is_tree.nd (pi_tup (pv 1)) (blkOk_by (own := [("entry", 2)]) (N := N_is_tree) (sc := defScope s_is_tree) (by decide +kernel)) (fun _ _ _ _ _ => (pg_name (i := 2) sc_is_tree.nd rfl (.inl rfl))) (fun _ _ _ _ _ => pts_nil) (fun _ _ _ _ _ => (pe_ix (r := rIxT K) ix_tup (pv 2) pe_int (fun _ _ => rfl)))) pa_nil)))))))
          (pss_one
            (ps_ret pe_bl))
          pss_nil)
      (pss_one
        (ps_ret (pe_cmpR op_le (pe_call G_depth_of (hr.mono (by omega)) (by rfl) D_depth_of.g D_depth_of.fn.kp D_depth_of.b .nil pass0 (pa_cons (pv 0) (pa_cons (pe_tup (pa_cons pe_str (pa_cons (pv 1) pa_nil))) pa_nil))) (pe_glob (v := .int 8) rfl g_DEEP ⟨_, rfl⟩) (nomark _))))))
      , ?_⟩
    rw [show L2.start N_is_tree [V.ref p, V.ref r] = [some (.ref p), some (.ref r), none] from rfl]
    refine w_seq ?_
    walk_at "x"
    refine w_no (by rw [List.length_map]; omega) ?_
    walk_at "g"
    refine w_seq ?_
    walk_at "g"
    refine lcp_map (walk_tup (K := K) (a := r) (xs := qs.map fun q => V.ref q.1)) [] ((qs.map fun _ => true).map V.bl) (by simp) (by rw [List.length_map]; omega) (fun H' k => .of (k _ _ (by simp) hr')) ?_ (by simp) ?_
    · rintro i x H1 H2 R hi k1 ⟨rfl, hx⟩ hR
      obtain ⟨z, hz, rfl⟩ := map_at hx
      have hzm := List.mem_of_getElem? hz
      obtain ⟨g1, c, g2, g3⟩ := c2 z.2 (List.mem_map_of_mem hzm)
      rw [List.getElem?_map] at g2
      obtain ⟨q', hq', rfl⟩ := Option.map_eq_some_iff.mp g2
      refine w_name ⟨rfl, ?_⟩
      walk_at "g"
      refine ⟨p, dx, lc, ld, lg, z.1, cs, ds, z.2.1, z.2.2, q', rfl, B.same k1.same, k1.same _ _ (hqs z hzm), g1, hq', g3, fun H3 k3 => ?_⟩
      refine hR _ _ ?_ (Kp.of k3)
      rw [List.getElem?_map, List.getElem?_map, hz]
      rfl
    · intro L H1 hL k1' eL
      have k1 := k1'.same
      have hr1 := k1 _ _ hr'
      walk_at "g"
      rw [show (qs.map fun _ => true).all id = true by simp]
      walk_at "g"
      refine lcp_map (walk_tup (K := K) (a := r) (xs := qs.map fun q => V.ref q.1)) [] ((qs.map fun q => q.2.1).map V.str) (by simp) (by rw [List.length_map]; omega) (fun H' k => .of (k _ _ (by simp) hr1)) ?_ (by simp) ?_
      · rintro i x H2 H3 R hi k2 ⟨rfl, hx⟩ hR
        obtain ⟨z, hz, rfl⟩ := map_at hx
        have hzm := List.mem_of_getElem? hz
        have e1 : H3 z.1 = some (.tup [.str z.2.1, .int (z.2.2 : Int)]) := k2.same _ _ (k1 _ _ (hqs z hzm))
        refine w_name ⟨rfl, ?_⟩
        walk_at "g"
        refine hR _ _ ?_ Kp.refl
        rw [List.getElem?_map, List.getElem?_map, hz]
        rfl
      · intro L2' H2 hL2 k2' eL2
        have k2 := k2'.same
        walk_at "g"
        refine ⟨L2', qs.map fun q => q.2.1, rfl, eL2, by rw [List.length_map]; omega, ?_, fun H3 k3 => ?_⟩
        · rw [List.pairwise_map] at c3 ⊢
          exact c3
        walk_at "g"
        refine w_new fun t H4 ht e4 k4 => ?_
        have k04 : Same H H4 := Same.trans k1 (Same.trans k2 (Same.trans k3 k4))
        walk_at "g"
        refine ⟨p, dx, lc, ld, lg, t, ds, .tree (qs.map (·.2)), rfl, k04 _ _ B.ob, k04 _ _ B.de, ⟨r, qs, e4, k04 _ _ hr', rfl, fun z hz => k04 _ _ (hqs z hz)⟩, fun es e => ?_, fun H5 k5 => ?_⟩
        · cases e
          refine ⟨by rw [List.length_map]; exact c1, fun z hz => ?_⟩
          obtain ⟨_, c, g2, _⟩ := c2 z hz
          have := (List.getElem?_eq_some_iff.mp g2).1
          rw [B.dl]
          rwa [List.length_map] at this
        walk_at "g"
        rw [decide_eq_true (by omega)]
        exact q _ (Same.trans k04 k5)
theorem ok_isversion {f fG fA fR fK fN fI : Addr} {fd fdG fdA fdR fdK fdN fdI : FuncData} (T : Txt K mg) (F : Fun K "is_version" "is_version" s_is_version f fd) (K_Book : Kl K mg "Book" C ["contents", "depths", "given"]) (D_rising_ints : Df K mg "rising_ints" s_rising_ints ["thing"] fG fdG) (D_are_ints : Df K mg "are_ints" s_are_ints ["thing"] fA fdA) (D_rise : Df K mg "rise" s_rise ["row"] fR fdR) (D_is_kind : Df K mg "is_kind" s_is_kind ["book", "thing", "kind"] fK fdK) (D_is_name : Df K mg "is_name" s_is_name ["book", "thing"] fN fdN) (D_is_int : DfD K mg "is_int" s_is_int ["thing", "least"] [.int 0] fI fdI) : FnOk P w K mg base CX0 4 f fd ["book", "content"] (spIsVersion P w C) := by
  obtain ⟨ds_is_int, V_is_int, B_is_int⟩ := D_is_int.b
  have G_is_int : FnOk P w K mg base CX0 1 fI fdI ["thing", "least"] spIsInt := ok_isint T D_is_int
  have G_rising_ints : FnOk P w K mg base CX0 3 fG fdG ["thing"] spRisingInts := ok_risingints T D_rising_ints.fn D_are_ints D_rise D_is_int
  have G_is_kind : FnOk P w K mg base CX0 3 fK fdK ["book", "thing", "kind"] (spIsKind P w C) := ok_iskind T D_is_kind.fn K_Book D_is_name D_is_int
  refine F.ok sc_is_version (fun vs H Q E h => ?_) (fun cdv A outer s H vs Q E hr h => ?_)
  · obtain ⟨p, dx, lc, ld, lg, a, cs, ds, ps, root, stamp, rfl, _⟩ := h
    rfl
  · obtain ⟨p, dx, lc, ld, lg, a, cs, ds, ps, root, stamp, rfl, B, ⟨r, h1, h2⟩, ⟨c1, c2, c3, ⟨cr, c4, c5⟩, c6⟩, q⟩ := h
    refine ⟨_,
      (pss_cons
        (ps_set (i := 2) sc_is_version.nd rfl (.inl rfl) (pe_ix (r := rIxT K) ix_tup (pv 1) pe_int (fun _ _ => rfl)))
      (pss_cons
        (ps_if (PW.pt (pw_or (pt_not (pt_val (pe_call G_rising_ints (hr.mono (by omega)) (by rfl) D_rising_ints.g D_rising_ints.fn.kp D_rising_ints.b .nil pass0 (pa_cons (pv 2) pa_nil)))) (pw_or1 (pt_cmpR op_gt (pe_callB (r := rLen K) c_len (by rfl) T.n_len (by decide +kernel) (pa_cons (pv 2) pa_nil)) pe_int (nomark _)))))
          (pss_one
            (ps_ret pe_bl))
          pss_nil)
      (pss_cons
        (ps_if (PW.pt (pw_or (pt_not (pt_val (pe_callB (r := rAll K) (cr_all rfl) (by rfl) T.n_all (by decide +kernel) (pa_cons (pe_lc (own := [("parent", 3)]) (g := (gName 3)) rfl sc_is_version.nd (pi_tup (pv 2)) (blkOk_by (own := [("parent", 3)]) (N := N_is_version) (sc := defScope s_is_version) (by decide +kernel)) (fun _ _ _ _ _ => (pg_name (i := 3) sc_is_version.nd rfl (.inl rfl))) (fun _ _ _ _ _ => pts_nil) (fun _ _ _ _ _ => (pe_call G_is_kind (hr.mono (by omega)) (by rfl) D_is_kind.g D_is_kind.fn.kp D_is_kind.b .nil pass0 (pa_cons (pv 0) (pa_cons (pv 3) (pa_cons pe_str pa_nil)))))) pa_nil)))) (pw_or1 (pt_not (pt_val (pe_call G_is_kind (hr.mono (by omega)) (by rfl) D_is_kind.g D_is_kind.fn.kp D_is_kind.b .nil pass0 (pa_cons (pv 0) (pa_cons (pe_ix (r := rIxT K) ix_tup (pv 1) pe_int (fun _ _ => rfl)) (pa_cons pe_str pa_nil)))))))))
          (pss_one
            (ps_ret pe_bl))
          pss_nil)
      (pss_one
        (ps_ret (pe_and (pe_call G_is_int (hr.mono (by omega)) (by rfl) D_is_int.g D_is_int.kp B_is_int V_is_int pass0 (pa_cons (pe_ix (r := rIxT K) ix_tup (pv 1) pe_int (fun _ _ => rfl)) pa_nil)) (pe_one (pe_cmpR op_le (pe_ix (r := rIxT K) ix_tup (pv 1) pe_int (fun _ _ => rfl)) (pe_op op_pow pe_int pe_int) (nomark _)))))))))
      , ?_⟩
    rw [show L2.start N_is_version [V.ref p, V.ref a] = [some (.ref p), some (.ref a), none, none] from rfl]
    walk_at "x"
    refine w_seq ?_
    walk_at "g"
    have dat : DatT 10 H (.ref r) := .tup h2 (by rw [List.length_map]; omega) fun y hy => by
      obtain ⟨n, _, rfl⟩ := List.mem_map.mp hy
      exact .leaf (.int _) (by decide) fun z e => by cases e
    refine ⟨.ref r, 10, rfl, dat, by decide, fun ns hns hp H1 k1 => ?_, fun hn => absurd c1 (hn ps ⟨r, rfl, h2⟩)⟩
    have h11 := k1 _ _ h1
    have h21 := k1 _ _ h2
    walk_at "g"
    refine w_no (by rw [List.length_map]; omega) ?_
    walk_at "g"
    refine w_seq ?_
    walk_at "g"
    refine lcp_map (walk_tup (K := K) (a := r) (xs := ps.map nV)) [] ((ps.map fun _ => true).map V.bl) (by simp) (by rw [List.length_map]; omega) (fun H' k => .of (k _ _ (by simp) h21)) ?_ (by simp) ?_
    · rintro i x H2 H3 R hi k2 ⟨rfl, hx⟩ hR
      obtain ⟨n, hn, rfl⟩ := map_at hx
      obtain ⟨c, g2, g3⟩ := c3 n (List.mem_of_getElem? hn)
      rw [List.getElem?_map] at g2
      obtain ⟨q', hq', rfl⟩ := Option.map_eq_some_iff.mp g2
      have hl : n < cs.length := (List.getElem?_eq_some_iff.mp hq').1
      refine w_name ⟨rfl, ?_⟩
      walk_at "g"
      refine ⟨p, dx, lc, ld, lg, cs, ds, nV n, "int", "version", rfl, (B.same k1).same k2.same, .int _, fun m qm em hm => ?_, fun hm => absurd hl (hm n rfl)⟩
      have en : n = m := by have : (n : Int) = m := V.int.inj em; omega
      subst en
      rw [hq'] at hm
      cases hm
      rw [decide_eq_true g3]
      refine hR _ _ ?_ Kp.refl
      rw [List.getElem?_map, List.getElem?_map, hn]
      rfl
    · intro L H2 hL k2' eL
      have k2 := k2'.same
      have h12 := k2 _ _ h11
      rw [List.getElem?_map] at c4
      obtain ⟨q', hq', rfl⟩ := Option.map_eq_some_iff.mp c4
      have hl : root < cs.length := (List.getElem?_eq_some_iff.mp hq').1
      walk_at "g"
      rw [show (ps.map fun _ => true).all id = true by simp]
      walk_at "g"
      refine ⟨p, dx, lc, ld, lg, cs, ds, nV root, "int", "tree", rfl, (B.same k1).same k2, .int _, fun m qm em hm => ?_, fun hm => absurd hl (hm root rfl)⟩
      have en : root = m := by have : (root : Int) = m := V.int.inj em; omega
      subst en
      rw [hq'] at hm
      cases hm
      rw [decide_eq_true c5]
      walk_at "g"
      refine ⟨nV stamp, "int", rfl, .int _, fun m em => ?_, fun hm => absurd rfl (hm stamp)⟩
      walk_at "g"
      rw [decide_eq_true (by rw [show (10 : Int) ^ Int.toNat 18 = 1000000000000000000 by decide]; omega)]
      exact q _ (Same.trans k1 k2)
end
section
variable {P : Program} {w : World} {K : PySem.W.Frag} {mg : Str → Option Value} {base : Heap} {C : Addr}
theorem ok_iscontent {f fT fV fO fW fE fR fP fL fG fA fK fN fI fX : Addr} {fd fdT fdV fdO fdW fdE fdR fdP fdL fdG fdA fdK fdN fdI fdX : FuncData} (T : Txt K mg) (F : Fun K "is_content" "is_content" s_is_content f fd) (K_Book : Kl K mg "Book" C ["contents", "depths", "given"]) (D_is_tree : Df K mg "is_tree" s_is_tree ["book", "entries"] fT fdT) (D_is_version : Df K mg "is_version" s_is_version ["book", "content"] fV fdV) (D_depth_of : Df K mg "depth_of" s_depth_of ["book", "content"] fO fdO) (D_are_rows : Df K mg "are_rows" s_are_rows ["thing"] fW fdW) (D_is_entry : Df K mg "is_entry" s_is_entry ["book", "thing"] fE fdE) (D_rise : Df K mg "rise" s_rise ["row"] fR fdR) (D_is_pair : Df K mg "is_pair" s_is_pair ["thing"] fP fdP) (D_is_label : Df K mg "is_label" s_is_label ["thing"] fL fdL) (D_rising_ints : Df K mg "rising_ints" s_rising_ints ["thing"] fG fdG) (D_are_ints : Df K mg "are_ints" s_are_ints ["thing"] fA fdA) (D_is_kind : Df K mg "is_kind" s_is_kind ["book", "thing", "kind"] fK fdK) (D_is_name : Df K mg "is_name" s_is_name ["book", "thing"] fN fdN) (D_is_int : DfD K mg "is_int" s_is_int ["thing", "least"] [.int 0] fI fdI) (D_is_text : DfD K mg "is_text" s_is_text ["thing", "most"] [.int 40] fX fdX) : FnOk P w K mg base CX0 5 f fd ["book", "thing"] (spIsContent P w C) := by
  have G_is_tree : FnOk P w K mg base CX0 4 fT fdT ["book", "entries"] (spIsTree P w C) := ok_istree T D_is_tree.fn K_Book D_is_entry D_rise D_depth_of D_is_name D_is_int D_is_pair D_is_label
  have G_is_version : FnOk P w K mg base CX0 4 fV fdV ["book", "content"] (spIsVersion P w C) := ok_isversion T D_is_version.fn K_Book D_rising_ints D_are_ints D_rise D_is_kind D_is_name D_is_int
  have G_are_rows : FnOk P w K mg base CX0 2 fW fdW ["thing"] spAreRows := ok_arerows T D_are_rows.fn D_is_text
  refine F.ok sc_is_content (fun vs H Q E h => ?_) (fun cdv A outer s H vs Q E hr h => ?_)
  · obtain ⟨p, dx, lc, ld, lg, a, cs, ds, c, rfl, _⟩ := h
    rfl
  · obtain ⟨p, dx, lc, ld, lg, a, cs, ds, c, rfl, B, hc, ok, q⟩ := h
    refine ⟨_,
      (pss_cons
        (ps_if (PW.pt (pw_or (pt_not (pt_val (pe_callB (r := rIsi K) call_isi (by rfl) T.n_isinstance (by decide +kernel) (pa_cons (pv 1) (pa_cons (pe_bltn (v := .ty "tuple") (u := .type "tuple") (by rfl) T.n_tuple (by decide +kernel) rfl) pa_nil))))) (pw_or (pt_cmpR op_lt (pe_callB (r := rLen K) c_len (by rfl) T.n_len (by decide +kernel) (pa_cons (pv 1) pa_nil)) pe_int (nomark _)) (pw_or1 (pt_not (pt_val (pe_callB (r := rIsi K) call_isi (by rfl) T.n_isinstance (by decide +kernel) (pa_cons (pe_ix (r := rIxT K) ix_tup (pv 1) pe_int (fun _ _ => rfl)) (pa_cons (pe_bltn (v := .ty "str") (u := .type "str") (by rfl) T.n_str (by decide +kernel) rfl) pa_nil)))))))))
          (pss_one
            (ps_ret pe_bl))
          pss_nil)
      (pss_cons
        (ps_if (pt_cmpR op_eq (pe_ix (r := rIxT K) ix_tup (pv 1) pe_int (fun _ _ => rfl)) pe_str (nomark _))
          (pss_one
            (ps_ret (pe_and (pe_cmpR op_eq (pe_callB (r := rLen K) c_len (by rfl) T.n_len (by decide +kernel) (pa_cons (pv 1) pa_nil)) pe_int (nomark _)) (pe_one (pe_call G_are_rows (hr.mono (by omega)) (by rfl) D_are_rows.g D_are_rows.fn.kp D_are_rows.b .nil pass0 (pa_cons (pe_ix (r := rIxT K) ix_tup (pv 1) pe_int (fun _ _ => rfl)) pa_nil))))))
          pss_nil)
      (pss_cons
        (ps_if (pt_cmpR op_eq (pe_ix (r := rIxT K) ix_tup (pv 1) pe_int (fun _ _ => rfl)) pe_str (nomark _))
          (pss_one
            (ps_ret (pe_and (pe_cmpR op_eq (pe_callB (r := rLen K) c_len (by rfl) T.n_len (by decide +kernel) (pa_cons (pv 1) pa_nil)) pe_int (nomark _)) (pe_one (pe_call G_is_tree (hr.mono (by omega)) (by rfl) D_is_tree.g D_is_tree.fn.kp D_is_tree.b .nil pass0 (pa_cons (pv 0) (pa_cons (pe_ix (r := rIxT K) ix_tup (pv 1) pe_int (fun _ _ => rfl)) pa_nil)))))))
          pss_nil)
      (pss_one
        (ps_ret (pe_and (pe_cmpR op_eq (pe_ix (r := rIxT K) ix_tup (pv 1) pe_int (fun _ _ => rfl)) pe_str (nomark _)) (pe_and (pe_cmpR op_eq (pe_callB (r := rLen K) c_len (by rfl) T.n_len (by decide +kernel) (pa_cons (pv 1) pa_nil)) pe_int (nomark _)) (pe_one (pe_call G_is_version (hr.mono (by omega)) (by rfl) D_is_version.g D_is_version.fn.kp D_is_version.b .nil pass0 (pa_cons (pv 0) (pa_cons (pv 1) pa_nil)))))))))))
      , ?_⟩
    rw [show L2.start N_is_content [V.ref p, V.ref a] = [some (.ref p), some (.ref a)] from rfl]
    refine w_seq ?_
    cases c with
    | leaf rows =>
      obtain ⟨r, h1, h2⟩ := hc
      walk_at "x"
      refine w_no (by simp only [List.length_cons, List.length_nil]; omega) ?_
      walk_at "g"
      refine w_seq ?_
      walk_at "g"
      refine w_yes rfl ?_
      walk_at "g"
      refine w_yes rfl ?_
      walk_at "g"
      refine ⟨r, rows, rfl, h2, ok.1, ok.2, q⟩
    | tree es =>
      obtain ⟨r, qs, h1, h2, rfl, h4⟩ := hc
      walk_at "x"
      refine w_no (by simp only [List.length_cons, List.length_nil]; omega) ?_
      walk_at "g"
      refine w_seq ?_
      walk_at "g"
      refine w_no lit_ne4 ?_
      walk_at "g"
      refine w_seq ?_
      walk_at "g"
      refine w_yes rfl ?_
      walk_at "g"
      refine w_yes rfl ?_
      walk_at "g"
      refine ⟨p, dx, lc, ld, lg, r, cs, ds, qs, rfl, B, h2, h4, ok, q⟩
    | ver ps root stamp =>
      have hc' := hc
      obtain ⟨r, h1, h2⟩ := hc
      walk_at "x"
      refine w_no (by simp only [List.length_cons, List.length_nil]; omega) ?_
      walk_at "g"
      refine w_seq ?_
      walk_at "g"
      refine w_no lit_ne5 ?_
      walk_at "g"
      refine w_seq ?_
      walk_at "g"
      refine w_no lit_ne6 ?_
      walk_at "g"
      refine w_yes rfl ?_
      walk_at "g"
      refine w_yes rfl ?_
      walk_at "g"
      refine ⟨p, dx, lc, ld, lg, a, cs, ds, ps, root, stamp, rfl, B, hc', ok, q⟩
theorem ok_bookinit {f : Addr} {fd : FuncData} (T : Txt K mg) (F : Fun K "__init__" "Book.__init__" s_Book___init__ f fd) (K_Book : Kl K mg "Book" C ["contents", "depths", "given"]) : FnOk P w K mg base CX0 1 f fd ["self"] (spBookInit P w C) := by
  have cl := K_Book.cl
  have n1 := K_Book.na "contents" (by simp)
  have n2 := K_Book.na "depths" (by simp)
  have n3 := K_Book.na "given" (by simp)
  refine F.ok sc_Book___init__ (fun vs H Q E h => ?_) (fun cdv A outer s H vs Q E hr h => ?_)
  · obtain ⟨p, dx, rfl, _⟩ := h
    rfl
  · obtain ⟨p, dx, rfl, hp, q⟩ := h
    refine ⟨_,
      (pss_cons
        (ps_fld (pv 0) (pe_lst pa_nil) rfl)
      (pss_cons
        (ps_fld (pv 0) (pe_lst pa_nil) rfl)
      (pss_one
        (ps_fld (pv 0) pe_nnew rfl))))
      , ?_⟩
    rw [show L2.start N_Book___init__ [V.ref p] = [some (.ref p)] from rfl]
    walk_at "x"
    refine w_new fun lc H1 hlc e1 k1 => ?_
    have hp1 := k1 _ _ hp
    walk_at "g"
    refine w_fldS' hp1 cl n1 (by decide) fun H2 o2 f2 => ?_
    have nlc : lc ≠ p := (ne_of_none hp hlc).symm
    walk_at "g"
    refine w_new fun ld H3 hld e3 k3 => ?_
    have o3 := k3 _ _ o2
    have nld : ld ≠ p := (ne_of_none o2 hld).symm
    have hld1 : H1 ld = none := by rw [← f2 ld nld]; exact hld
    walk_at "g"
    refine w_fldS' o3 cl n2 (show (1 : Nat) < 1000 by decide) fun H4 o4 f4 => ?_
    walk_at "g"
    refine w_nnew fun lg H5 hlg d5 k5 => ?_
    have o5 := k5 _ _ o4
    have nlg : lg ≠ p := (ne_of_none o4 hlg).symm
    have hlg3 : H3 lg = none := by rw [← f4 lg nlg]; exact hlg
    walk_at "g"
    refine w_fldS' o5 cl n3 (show (2 : Nat) < 1000 by decide) fun H6 o6 f6 => ?_
    have e2 := f2.get nlc e1
    have ndc : lc ≠ ld := ne_of_none e2 hld
    have e6 : H6 lc = some (.lst []) := f6.get nlc (k5 _ _ (f4.get nlc (k3 _ _ e2)))
    have e6d : H6 ld = some (.lst []) := f6.get nld (k5 _ _ (f4.get nld e3))
    have d6 : NDict P w H6 lg [] := ⟨f6.get nlg d5.at', fun q hq => by cases hq⟩
    have hld0 : H ld = none := by
      cases e : H ld with
      | none => rfl
      | some o => rw [k1 _ _ e] at hld1; cases hld1
    have hlg0 : H lg = none := by
      cases e : H lg with
      | none => rfl
      | some o =>
        have := k3 _ _ (f2.get nlg (k1 _ _ e))
        rw [this] at hlg3
        cases hlg3
    refine q lc ld lg H6 hlc hld0 hlg0 ⟨o6, e6, e6d, d6, by simp, by simp, rfl, ndc, by simp⟩ fun b o hb e => ?_
    have hb' : b ≠ p := by simpa using hb
    exact f6.get hb' (k5 _ _ (f4.get hb' (k3 _ _ (f2.get hb' (k1 _ _ e)))))
theorem ok_thing {f fN fI : Addr} {fd fdN fdI : FuncData} (T : Txt K mg) (F : Fun K "thing" "Book.thing" s_Book_thing f fd) (K_Book : Kl K mg "Book" C ["contents", "depths", "given"]) (D_is_name : Df K mg "is_name" s_is_name ["book", "thing"] fN fdN) (D_is_int : DfD K mg "is_int" s_is_int ["thing", "least"] [.int 0] fI fdI) : FnOk P w K mg base CX0 3 f fd ["self", "name"] (spThing P w C) := by
  have G_is_name : FnOk P w K mg base CX0 2 fN fdN ["book", "thing"] (spIsName P w C) := ok_isname T D_is_name.fn K_Book D_is_int
  have cl := K_Book.cl
  have n1 := K_Book.na "contents" (by simp)
  refine F.ok sc_Book_thing (fun vs H Q E h => ?_) (fun cdv A outer s H vs Q E hr h => ?_)
  · obtain ⟨p, dx, lc, ld, lg, cs, ds, n, q, rfl, _⟩ := h
    rfl
  · obtain ⟨p, dx, lc, ld, lg, cs, ds, n, qc, rfl, B, hq, q⟩ := h
    have ob := B.ob
    have co := B.co
    have hl : n < cs.length := (List.getElem?_eq_some_iff.mp hq).1
    have at1 : atI (cs.map fun q => V.ref q.1) (n : Int) = some (.ref qc.1) := atI_nat (by rw [List.getElem?_map, hq]; rfl)
    refine ⟨_,
      (pss_cons
        (ps_if (pt_not (pt_val (pe_call G_is_name (hr.mono (by omega)) (by rfl) D_is_name.g D_is_name.fn.kp D_is_name.b .nil pass0 (pa_cons (pv 0) (pa_cons (pv 1) pa_nil)))))
          pss_never
          pss_nil)
      (pss_one
        (ps_ret (pe_ix (r := rIxL K) ix_list (pe_fldK (K := K) rfl (pv 0) rfl) (pv 1) (fun _ _ => rfl)))))
      , ?_⟩
    rw [show L2.start N_Book_thing [V.ref p, nV n] = [some (.ref p), some (.int (n : Int))] from rfl]
    refine w_seq ?_
    walk_at "x"
    refine ⟨p, dx, lc, ld, lg, cs, ds, nV n, "int", rfl, B, .int _, fun m _ _ => ?_, fun hm => absurd hl (hm n rfl)⟩
    walk_at "g"
    exact q
theorem ok_kind {f fG fN fI : Addr} {fd fdG fdN fdI : FuncData} (T : Txt K mg) (F : Fun K "kind" "Book.kind" s_Book_kind f fd) (K_Book : Kl K mg "Book" C ["contents", "depths", "given"]) (D_Book_thing : DfM K C "thing" "Book.thing" s_Book_thing ["self", "name"] fG fdG) (D_is_name : Df K mg "is_name" s_is_name ["book", "thing"] fN fdN) (D_is_int : DfD K mg "is_int" s_is_int ["thing", "least"] [.int 0] fI fdI) : FnOk P w K mg base CX0 4 f fd ["self", "name"] (spKind P w C) := by
  have G_Book_thing : FnOk P w K mg base CX0 3 fG fdG ["self", "name"] (spThing P w C) := ok_thing T D_Book_thing.fn K_Book D_is_name D_is_int
  refine F.ok sc_Book_kind (fun vs H Q E h => ?_) (fun cdv A outer s H vs Q E hr h => ?_)
  · obtain ⟨p, dx, lc, ld, lg, cs, ds, n, q, rfl, _⟩ := h
    rfl
  · obtain ⟨p, dx, lc, ld, lg, cs, ds, n, qc, rfl, B, hq, q⟩ := h
    have ob := B.ob
    obtain ⟨xs, hh⟩ := (B.ct qc (List.mem_of_getElem? hq)).head
    have at0 : atI (V.str qc.2.word :: xs) 0 = some (.str qc.2.word) := atI_nat (j := 0) rfl
    refine ⟨_,
      (pss_one
        (ps_ret (pe_ix (r := rIxT K) ix_tup (pe_meth (pv 0) K_Book.cl D_Book_thing.m G_Book_thing (hr.mono (by omega)) D_Book_thing.b .nil pass0 (pa_cons (pv 1) pa_nil)) pe_int (fun _ _ => rfl))))
      , ?_⟩
    rw [show L2.start N_Book_kind [V.ref p, nV n] = [some (.ref p), some (.int (n : Int))] from rfl]
    walk_at "x"
    refine ⟨p, dx, lc, ld, lg, cs, ds, n, qc, rfl, B, hq, ?_⟩
    walk_at "g"
    exact q
theorem ok_named {f fC fO : Addr} {fd fdC fdO : FuncData} (T : Txt K mg) (F : Fun K "named" "Book.named" s_Book_named f fd) (K_Book : Kl K mg "Book" C ["contents", "depths", "given"]) (D_is_content : Df K mg "is_content" s_is_content ["book", "thing"] fC fdC) (D_depth_of : Df K mg "depth_of" s_depth_of ["book", "content"] fO fdO) (G_is_content : FnOk P w K mg base CX0 5 fC fdC ["book", "thing"] (spIsContent P w C)) : FnOk P w K mg base CX0 6 f fd ["self", "content"] (spNamed P w C) := by
  have G_depth_of : FnOk P w K mg base CX0 1 fO fdO ["book", "content"] (spDepth C) := ok_depth T D_depth_of.fn K_Book
  obtain ⟨tk_MOST, g_MOST⟩ := T.g_MOST
  have cl := K_Book.cl
  have n1 := K_Book.na "contents" (by simp)
  have n2 := K_Book.na "depths" (by simp)
  have n3 := K_Book.na "given" (by simp)
  refine F.ok sc_Book_named (fun vs H Q E h => ?_) (fun cdv A outer s H vs Q E hr h => ?_)
  · obtain ⟨p, dx, lc, ld, lg, a, cs, ds, c, rfl, _⟩ := h
    rfl
  · obtain ⟨p, dx, lc, ld, lg, a, cs, ds, c, rfl, B, hc, ok, hlt, q1, q2⟩ := h
    refine ⟨_,
      (pss_cons
        (ps_if (pt_not (pt_val (pe_call G_is_content (hr.mono (by omega)) (by rfl) D_is_content.g D_is_content.fn.kp D_is_content.b .nil pass0 (pa_cons (pv 0) (pa_cons (pv 1) pa_nil)))))
          pss_never
          pss_nil)
      (pss_cons
        (ps_if (pt_cmp (pc_nin hr.units (pv 1) (pe_fldK (K := K) rfl (pv 0) rfl)))
          (pss_one
            (ps_ret (pe_nget hr.units (pe_fldK (K := K) rfl (pv 0) rfl) (pv 1) (fun _ _ => rfl))))
          pss_nil)
      (pss_cons
        (ps_if (pt_cmpR op_ge (pe_callB (r := rLen K) c_len (by rfl) T.n_len (by decide +kernel) (pa_cons (pe_fldK (K := K) rfl (pv 0) rfl) pa_nil)) (pe_glob (v := .int 400) rfl g_MOST ⟨_, rfl⟩) (nomark _))
          pss_never
          pss_nil)
      (pss_cons
        (ps_nput hr.units (pe_fldK (K := K) rfl (pv 0) rfl) (pv 1) (pe_callB (r := rLen K) c_len (by rfl) T.n_len (by decide +kernel) (pa_cons (pe_fldK (K := K) rfl (pv 0) rfl) pa_nil)) rfl)
      (pss_cons
        (ps_expr (pe_bm PySem.F.plainAttrs_list PySem.F.slot_list_append PySem.F.type_list_append mt_append (pe_fldK (K := K) rfl (pv 0) rfl) (pa_cons (pv 1) pa_nil)))
      (pss_cons
        (ps_expr (pe_bm PySem.F.plainAttrs_list PySem.F.slot_list_append PySem.F.type_list_append mt_append (pe_fldK (K := K) rfl (pv 0) rfl) (pa_cons (pe_call G_depth_of (hr.mono (by omega)) (by rfl) D_depth_of.g D_depth_of.fn.kp D_depth_of.b .nil pass0 (pa_cons (pv 0) (pa_cons (pv 1) pa_nil))) pa_nil)))
      (pss_one
        (ps_ret (pe_op op_sub (pe_callB (r := rLen K) c_len (by rfl) T.n_len (by decide +kernel) (pa_cons (pe_fldK (K := K) rfl (pv 0) rfl) pa_nil)) pe_int)))))))))
      , ?_⟩
    rw [show L2.start N_Book_named [V.ref p, V.ref a] = [some (.ref p), some (.ref a)] from rfl]
    refine w_seq ?_
    walk_at "x"
    refine ⟨p, dx, lc, ld, lg, a, cs, ds, c, rfl, B, hc, ok, fun H1 k1 => ?_⟩
    have B1 := B.same k1
    have hc1 := hc.kt (KT.of k1)
    have ob1 := B1.ob
    have co1 := B1.co
    have de1 := B1.de
    walk_at "g"
    refine w_seq ?_
    walk_at "g"
    refine w_nin' B1.gi hc1.nk c.key_depth ?_
    walk_at "g"
    by_cases hin : ∀ q ∈ cs, q.2 ≠ c
    · rw [ents_none cs 0 hin, Option.isSome_none]
      walk_at "g"
      refine w_seq ?_
      walk_at "g"
      refine w_no (by rw [List.length_map]; omega) ?_
      walk_at "g"
      refine w_nput' B1.gi hc1.nk c.key_depth (by rw [entsF_len]; exact small1kl (by omega)) fun H2 d2 o2 => ?_
      have t2 : KT H1 H2 := ⟨fun b ys e => o2.get (ne_of e B1.gi.at' (fun z => nomatch z)) e, fun b _ ys e => o2.get (ne_of e B1.gi.at' (fun z => nomatch z)) e⟩
      have nlc : lc ≠ lg := ne_of co1 B1.gi.at' (fun z => nomatch z)
      have nld : ld ≠ lg := ne_of de1 B1.gi.at' (fun z => nomatch z)
      have npg : p ≠ lg := ne_of ob1 B1.gi.at' (fun z => nomatch z)
      have npc : p ≠ lc := ne_of ob1 co1 (fun z => nomatch z)
      have npd : p ≠ ld := ne_of ob1 de1 (fun z => nomatch z)
      have co2 := o2.get nlc co1
      have de2 := o2.get nld de1
      have ob2 := o2.get npg ob1
      have ep : NPut (entsF 0 cs) c.key a (V.int ((cs.map fun q => V.ref q.1).length : Int)) = entsF 0 (cs ++ [(a, c)]) := by
        unfold NPut
        rw [ents_none cs 0 hin, entsF_snoc, List.length_map, Nat.zero_add]
        rfl
      rw [ep] at d2
      walk_at "g"
      refine w_app co2 (by rw [List.length_map]; exact small1kl (by omega)) fun H3 e3 o3 => ?_
      have t3 : KT H2 H3 := KT.off o3 co2
      have de3 := o3.get B1.ne.symm de2
      have ob3 := o3.get npc ob2
      walk_at "g"
      have kt13 := t2.trans t3
      have ct3 : ∀ q ∈ cs ++ [(a, c)], CtAt H3 q.1 q.2 := fun q hq => by
        rcases List.mem_append.mp hq with h | h
        · exact (B1.ct q h).kt kt13
        · have e : q = (a, c) := by simpa using h
          subst e
          exact hc1.kt kt13
      refine ⟨p, dx, lc, ld, lg, a, ds, c, rfl, ob3, de3, hc1.kt kt13, fun es e => ?_, fun H4 k4 => ?_⟩
      · subst e
        refine ⟨ok.1, fun z hz => ?_⟩
        obtain ⟨_, c', g2, _⟩ := ok.2.1 z hz
        have := (List.getElem?_eq_some_iff.mp g2).1
        rw [B.dl]
        rwa [List.length_map] at this
      have de4 := k4 _ _ de3
      walk_at "g"
      refine w_app de4 (by rw [List.length_map, B.dl]; exact small1kl (by omega)) fun H5 e5 o5 => ?_
      have t5 : KT H4 H5 := KT.off o5 de4
      have ob5 := o5.get npd (k4 _ _ ob3)
      have co5 := o5.get B1.ne (k4 _ _ e3)
      have d5 : NDict P w H5 lg (entsF 0 (cs ++ [(a, c)])) := ((d2.kp (M := [lc]) (o3.kp (by simp)) t3 (by simpa using nlc.symm)).kp (M := []) (Kp.of k4) (KT.of k4) (by simp)).kp (M := [ld]) (o5.kp (by simp)) t5 (by simpa using nld.symm)
      have kt15 : KT H1 H5 := kt13.trans ((KT.of k4).trans t5)
      walk_at "g"
      have hlen : ((cs.map fun q => V.ref q.1) ++ [V.ref a]).length = cs.length + 1 := by rw [List.length_append, List.length_map]; rfl
      rw [hlen, show (((cs.length + 1 : Nat) : Int) - 1) = (cs.length : Int) by omega]
      refine q2 hin H5 ⟨ob5, by rw [co5, List.map_append]; rfl, by rw [e5, List.map_append]; rfl, d5, fun q hq => (ct3 q hq).kt ((KT.of k4).trans t5), ?_, by rw [List.length_append, List.length_append, B.dl]; rfl, B.ne, by rw [List.length_append]; simp only [List.length_cons, List.length_nil]; omega⟩ ?_ ((KT.of k1).trans kt15)
      · rw [List.map_append, List.nodup_append]
        refine ⟨B.nd, by simp, fun x hx y hy e => ?_⟩
        obtain ⟨z, hz, rfl⟩ := List.mem_map.mp hx
        have e' : y = c := by simpa using hy
        rw [e'] at e
        exact hin z hz e
      · intro b o hb e
        simp only [List.mem_cons, List.not_mem_nil, or_false, not_or] at hb
        exact o5.get hb.2.1 (k4 _ _ (o3.get hb.1 (o2.get hb.2.2 (k1 _ _ e))))
    · obtain ⟨z, hz, ez⟩ : ∃ q ∈ cs, q.2 = c := by
        refine Classical.byContradiction fun h => hin fun q hq e => h ⟨q, hq, e⟩
      obtain ⟨j, hj, ej⟩ := List.getElem_of_mem hz
      have hj' : cs[j]? = some (z.1, c) := by rw [List.getElem?_eq_getElem hj, ej, ← ez]
      have ev := ents_some cs 0 j B.nd hj'
      rw [Nat.zero_add] at ev
      rw [ev, Option.isSome_some]
      walk_at "g"
      refine w_nget' B1.gi hc1.nk c.key_depth ev ?_
      exact q1 j z.1 H1 hj' k1
end
def addK (ks : List Int) (x : Int) : List Int := if x ∈ ks then ks else ks ++ [x]
theorem mem_addK {ks : List Int} {x y : Int} : y ∈ addK ks x ↔ y ∈ ks ∨ y = x := by
  unfold addK
  by_cases h : x ∈ ks
  · rw [if_pos h]
    constructor
    · exact .inl
    · rintro (a | rfl)
      · exact a
      · exact h
  · rw [if_neg h]
    simp
theorem nd_addK {ks : List Int} {x : Int} (h : ks.Nodup) : (addK ks x).Nodup := by
  unfold addK
  by_cases e : x ∈ ks
  · rw [if_pos e]; exact h
  · rw [if_neg e]
    exact List.nodup_append.mpr ⟨h, by simp, fun a ha b hb => by
      have : b = x := by simpa using hb
      subst this
      exact fun z => e (z ▸ ha)⟩
theorem putK_keys {fk : List (Key × V)} {ks : List Int} {x : Int} {v : V} (h : fk.map (·.1) = ks.map (Sum.inl : Int → Key)) : (putK fk (Sum.inl x) v).map (·.1) = (addK ks x).map (Sum.inl : Int → Key) := by
  have he : (fk.any fun kv => decide (kv.1 = (Sum.inl x : Key))) = true ↔ x ∈ ks := by
    rw [List.any_eq_true]
    constructor
    · rintro ⟨kv, hk, e⟩
      have m : (Sum.inl x : Key) ∈ ks.map Sum.inl := by
        rw [← h, ← of_decide_eq_true e]
        exact List.mem_map_of_mem hk
      obtain ⟨y, hy, e2⟩ := List.mem_map.mp m
      exact Sum.inl.inj e2 ▸ hy
    · intro hx
      have m : (Sum.inl x : Key) ∈ fk.map (·.1) := by
        rw [h]
        exact List.mem_map_of_mem hx
      obtain ⟨kv, hk, e⟩ := List.mem_map.mp m
      exact ⟨kv, hk, decide_eq_true e⟩
  unfold putK addK
  by_cases e : x ∈ ks
  · rw [if_pos (he.mpr e), if_pos e, ← h, List.map_map]
    apply List.map_congr_left
    intro kv _
    show (if kv.1 = Sum.inl x then (kv.1, v) else kv).1 = kv.1
    by_cases q : kv.1 = (Sum.inl x : Key)
    · rw [if_pos q]
    · rw [if_neg q]
  · rw [if_neg (fun z => e (he.mp z)), if_neg e, List.map_append, List.map_append, h]
    rfl
theorem nodup_le : ∀ (ks vs : List Int), ks.Nodup → (∀ x ∈ ks, x ∈ vs) → ks.length ≤ vs.length
  | [], _, _, _ => Nat.zero_le _
  | k :: ks, vs, h, hs => by
    rw [List.nodup_cons] at h
    have hk := hs k (by simp)
    have ih := nodup_le ks (vs.erase k) h.2 fun x hx => (List.mem_erase_of_ne (fun z => h.1 (by rw [← z]; exact hx))).mpr (hs x (by simp [hx]))
    rw [List.length_erase_of_mem hk] at ih
    have : 0 < vs.length := List.length_pos_of_mem hk
    rw [List.length_cons]
    omega
structure FoundAt (H : Hp) (f : Addr) (ks : List Int) : Prop where
  at' : ∃ fk, H f = some (.dK fk) ∧ fk.map (·.1) = ks.map (Sum.inl : Int → Key)
  nd : ks.Nodup
theorem FoundAt.put {H1 : Hp} {f : Addr} {ks : List Int} {fk : List (Key × V)} {x : Int} {v : V} (hk : fk.map (·.1) = ks.map (Sum.inl : Int → Key)) (nd : ks.Nodup) (e : H1 f = some (.dK (putK fk (Sum.inl x) v))) : FoundAt H1 f (addK ks x) := ⟨⟨_, e, putK_keys hk⟩, nd_addK nd⟩
theorem val_keys {kvs : List (Key × V)} {ks : List Int} (h : kvs.map (·.1) = ks.map (Sum.inl : Int → Key)) (x : Int) : (valV kvs (Sum.inl x)).isSome = decide (x ∈ ks) := by
  rw [Bool.eq_iff_iff, decide_eq_true_iff]
  constructor
  · intro z
    obtain ⟨v, e⟩ := Option.isSome_iff_exists.mp z
    have m := valV_in e
    rw [h] at m
    obtain ⟨y, hy, e2⟩ := List.mem_map.mp m
    exact Sum.inl.inj e2 ▸ hy
  · intro z
    cases e : valV kvs (Sum.inl x) with
    | some v => rfl
    | none => exact absurd (by rw [h]; exact List.mem_map_of_mem z) (valV_not e)
theorem Deck.kxK {H H' : Hp} {d c : Addr} {n m : Nat} (D : Deck H d c n) (D' : Deck H' d c m) (k : Kp [d] H H') : KX d H H' := by
  obtain ⟨⟨xs, e⟩, _⟩ := D.at
  obtain ⟨⟨xs', e'⟩, _⟩ := D'.at
  refine ⟨⟨KT.kp k (by simp [e]), fun b ys h => ?_, fun b ys h => ?_⟩, k⟩
  · by_cases hb : b = d
    · subst hb
      exact ⟨_, e'⟩
    · exact ⟨_, k _ _ (by simpa using hb) h⟩
  · exact ⟨_, k _ _ (by simpa using ne_of h e (fun z => nomatch z)) h⟩
def spLabel : Sp := fun vs H Q _ => ∃ (d c : Addr) (n : Nat), vs = [.ref d] ∧ Deck H d c n ∧ n + 12 ≤ MOSTD ∧ ∀ H' z, Deck H' d c (n + 12) → Kp [d] H H' → KT H H' → LabOk z → Q (.str z) H'
theorem chs_of {S : List Nat} {ys : List V} (h : ∀ y ∈ ys, ∃ ch : Nat, y = .str ⟨#[ch]⟩ ∧ ch ∈ S) : ∃ zs : List Nat, ys = (zs.map fun ch => (⟨#[ch]⟩ : Str)).map V.str ∧ ∀ ch ∈ zs, ch ∈ S := by
  induction ys with
  | nil => exact ⟨[], rfl, by simp⟩
  | cons y ys ih =>
    obtain ⟨ch, rfl, hch⟩ := h y (by simp)
    obtain ⟨zs, rfl, hz⟩ := ih fun y hy => h y (by simp [hy])
    exact ⟨ch :: zs, rfl, fun c hc => by
      rcases List.mem_cons.mp hc with rfl | hc
      · exact hch
      · exact hz c hc⟩
theorem chs_sum (l : List Nat) : (l.map fun ch => ((⟨#[ch]⟩ : Str)).length).sum = l.length := by
  induction l with
  | nil => rfl
  | cons x l ih =>
    rw [List.map_cons, List.sum_cons, ih, List.length_cons]
    show 1 + l.length = _
    omega
theorem chs_flat (l : List Nat) : ((l.map fun ch => (⟨#[ch]⟩ : Str)).map fun y => y.cps.toList).flatten = l := by
  induction l with
  | nil => rfl
  | cons x l ih =>
    rw [List.map_cons, List.map_cons, List.flatten_cons, ih]
    rfl
abbrev LTR : Str := Str.ofString "abcdefghijklmnopqrstuvwxyz"
theorem w_dputS {H : Hp} {a : Addr} {kvs : List (Key × V)} {z : Str} {v : V} {R : Hp → Prop} (e : H a = some (.dK kvs)) (hl : kvs.length < sizeLine) (h : ∀ H1, H1 a = some (.dK (putK kvs (Sum.inr z) v)) → Off a H H1 → R H1) : rDPut (.ref a) (.str z) v H R :=
  ⟨a, _, rfl, DPut.k (k := Sum.inr z) e hl, h _ upd_same fun x hx => upd_ne hx⟩
section
variable {P : Program} {w : World} {K : PySem.W.Frag} {mg : Str → Option Value} {base : Heap}
theorem ok_label {f fM fD : Addr} {fd fdM fdD : FuncData} (T : Txt K mg) (F : Fun K "_law_label" "_law_label" s_law_label f fd) (D_law_mixed : Df K mg "_law_mixed" s_law_mixed ["_law_cell", "_law_turn"] fM fdM) (D_law_draw : Df K mg "_law_draw" s_law_draw ["_law_deck_here", "_law_many"] fD fdD) : FnOk P w K mg base CX0 3 f fd ["_law_deck_here"] spLabel := by
  have G_law_draw : FnOk P w K mg base CX0 2 fD fdD ["_law_deck_here", "_law_many"] spDraw := ok_draw T D_law_draw.fn D_law_mixed
  refine F.ok sc_law_label (fun vs H Q E h => ?_) (fun cdv A outer s H vs Q E hr h => ?_)
  · obtain ⟨d, c, n, rfl, _⟩ := h
    rfl
  · obtain ⟨d, c, n, rfl, D0, hn, q⟩ := h
    refine ⟨_,
      (pss_cons
        (ps_if (pt_cmpR op_gt (pe_call G_law_draw (hr.mono (by omega)) (by rfl) D_law_draw.g D_law_draw.fn.kp D_law_draw.b .nil pass0 (pa_cons (pv 0) (pa_cons pe_int pa_nil))) pe_int (nomark _))
          (pss_one
            (ps_ret (pe_ix ix_str pe_str (pe_call G_law_draw (hr.mono (by omega)) (by rfl) D_law_draw.g D_law_draw.fn.kp D_law_draw.b .nil pass0 (pa_cons (pv 0) (pa_cons pe_int pa_nil))) (fun _ _ => rfl))))
          pss_nil)
      (pss_cons
        (ps_set (i := 1) sc_law_label.nd rfl (.inr rfl) pe_str)
      (pss_one
        (ps_ret (p_join pe_str (pe_lc (own := [("_law_k", 2)]) (g := (gName 2)) rfl sc_law_label.nd (pi_range1 (by rfl) T.n_range (pa_cons (pe_op op_add pe_int (pe_call G_law_draw (hr.mono (by omega)) (by rfl) D_law_draw.g D_law_draw.fn.kp D_law_draw.b .nil pass0 (pa_cons (pv 0) (pa_cons pe_int pa_nil)))) pa_nil)) (blkOk_by (own := [("_law_k", 2)]) (N := N_law_label) (sc := defScope s_law_label) (by decide +kernel)) (fun _ _ _ _ _ => (pg_name (i := 2) sc_law_label.nd rfl (.inl rfl))) (fun _ _ _ _ _ => pts_nil) (fun _ _ _ _ _ => (pe_ix ix_str (pv 1) (pe_call G_law_draw (hr.mono (by omega)) (by rfl) D_law_draw.g D_law_draw.fn.kp D_law_draw.b .nil pass0 (pa_cons (pv 0) (pa_cons pe_int pa_nil))) (fun _ _ => rfl)))))))))
      , ?_⟩
    rw [show L2.start N_law_label [V.ref d] = [some (.ref d), none, none] from rfl]
    refine w_seq ?_
    walk_at "x"
    refine w_draw D0 (by omega) (by decide) (by decide) fun r H1 hr1 D1 o1 => ?_
    walk_at "g"
    refine w_ite (fun h => ?_) (fun h => ?_)
    · walk_at "g"
      refine w_draw D1 (by omega) (by decide) (by decide) fun r2 H2 hr2 D2 o2 => ?_
      have hl : r2 < (Str.ofString "abcd").cps.toList.length := by
        have : (Str.ofString "abcd").cps.toList.length = 4 := by decide +kernel
        omega
      have ech : atI (Str.ofString "abcd").cps.toList (r2 : Int) = some (Str.ofString "abcd").cps.toList[r2] := atI_nat (List.getElem?_eq_getElem hl)
      walk_at "g"
      refine w_ixS (by decide +kernel) ech ?_
      walk_at "g"
      have k2 : Kp [d] H H2 := (o1.kp (by simp)).trans (o2.kp (by simp))
      refine q H2 _ (D2.mono (by omega)) k2 ((D0.kx D1 o1).trans (D1.kx D2 o2)).t ⟨Nat.le_refl 1, (show (1 : Nat) ≤ 8 by decide), fun ch hch => ?_⟩
      have hm : (Str.ofString "abcd").cps.toList[r2] ∈ (Str.ofString "abcd").cps.toList := List.getElem_mem hl
      have e : ch = (Str.ofString "abcd").cps.toList[r2] := by simpa using hch
      rw [← e] at hm
      have hsub : ∀ x ∈ (Str.ofString "abcd").cps.toList, x ∈ LTR.cps.toList := by decide +kernel
      exact hsub ch hm
    · walk_at "g"
      refine w_draw D1 (by omega) (by decide) (by decide) fun r2 H2 hr2 D2 o2 => ?_
      obtain ⟨⟨dx2, ed2⟩, _⟩ := D2.at
      walk_at "g"
      refine lcp_gen (walk_range (lo := 0) (n := (1 + (r2 : Int)).toNat)) [d] (fun i y _ => ∃ ch : Nat, y = .str ⟨#[ch]⟩ ∧ ch ∈ LTR.cps.toList) (fun i H' => Deck H' d c (n + 2 + i)) (by omega) (fun _ _ _ _ _ h => h) (fun D hD i H1' o z => z.mut (D2.ne1 hD).1 (D2.ne1 hD).2) (fun _ _ _ _ => trivial) D2 ?_ (by intro b hb; have e : b = d := (by simpa using hb); subst e; exact ⟨_, ed2⟩) ?_
      · rintro i x H3 H4 R hi k3 t3 D3 ⟨rfl, rfl⟩ hR
        refine w_name ⟨rfl, ?_⟩
        walk_at "g"
        refine w_draw D3 (by unfold MOSTD at *; omega) (by decide) (by decide) fun r4 H5 hr4 D5 o5 => ?_
        obtain ⟨⟨dx3, ed3⟩, _⟩ := D3.at
        have hl : r4 < LTR.cps.toList.length := by
          have : LTR.cps.toList.length = 26 := by decide +kernel
          omega
        have ech : atI LTR.cps.toList (r4 : Int) = some LTR.cps.toList[r4] := atI_nat (List.getElem?_eq_getElem hl)
        walk_at "g"
        refine w_ixS (by decide +kernel) ech ?_
        exact hR _ _ ⟨_, rfl, List.getElem_mem hl⟩ (o5.kp (by simp)) (KT.off o5 ed3) D5
      · intro L H3 ys hyl hyp hL k3 t3 D3 eL
        obtain ⟨zs, hzs, hzc⟩ := chs_of (S := LTR.cps.toList) (ys := ys) fun y hy => by
          obtain ⟨i, hi, e⟩ := List.getElem_of_mem hy
          exact hyp i y (by rw [List.getElem?_eq_getElem hi, e])
        have hzl : zs.length = (1 + (r2 : Int)).toNat := by rw [← hyl, hzs]; simp
        subst hzs
        walk_at "g"
        refine w_joinL (.of eL) ?_ ?_
        · rw [List.map_map, List.length_map]
          have := chs_sum zs
          show (zs.map fun ch => ((⟨#[ch]⟩ : Str)).length).sum + zs.length * 0 ≤ _
          omega
        · have ec := join_cps (zs.map fun ch => (⟨#[ch]⟩ : Str))
          rw [chs_flat] at ec
          have hlen : (Txt.join (Str.ofString "") (zs.map fun ch => (⟨#[ch]⟩ : Str))).length = zs.length := by
            show (Txt.join (Str.ofString "") (zs.map fun ch => (⟨#[ch]⟩ : Str))).cps.size = _
            rw [← Array.length_toList, ec]
          have k03 := ((o1.kp (M := [d]) (by simp)).trans ((o2.kp (by simp)).trans k3))
          refine q H3 _ (D3.mono (by omega)) k03 (D0.kxK D3 k03).t ⟨by omega, by omega, fun ch hch => ?_⟩
          rw [ec] at hch
          exact hzc ch hch
end
/-! ### _law_alike, of data that are the same, kind for kind -/
def Sc : V → Prop
  | .non => True
  | .bl _ => True
  | .int _ => True
  | .str _ => True
  | _ => False
def SD : Nat → Hp → V → V → Prop
  | 0, _, x, y => x = y ∧ Sc x
  | n + 1, H, x, y => (x = y ∧ Sc x) ∨ ∃ p q xs ys, x = .ref p ∧ y = .ref q ∧ ((H p = some (.tup xs) ∧ H q = some (.tup ys)) ∨ (H p = some (.lst xs) ∧ H q = some (.lst ys))) ∧ xs.length = ys.length ∧ xs.length ≤ 100000 ∧
      ∀ (i : Nat) (a b : V), xs[i]? = some a → ys[i]? = some b → SD n H a b
theorem SD.same : ∀ {n : Nat} {H H' : Hp} {x y : V}, SD n H x y → Same H H' → SD n H' x y
  | 0, _, _, _, _, h, _ => h
  | n + 1, H, H', x, y, h, k => by
    rcases h with h | ⟨p, q, xs, ys, e1, e2, h, hl, hb, hs⟩
    · exact .inl h
    · refine .inr ⟨p, q, xs, ys, e1, e2, ?_, hl, hb, fun i a b ha hb => (hs i a b ha hb).same k⟩
      rcases h with ⟨h1, h2⟩ | ⟨h1, h2⟩
      · exact .inl ⟨k _ _ h1, k _ _ h2⟩
      · exact .inr ⟨k _ _ h1, k _ _ h2⟩
theorem SD.nats {H : Hp} {p q : Addr} {xs : List Nat} (h1 : H p = some (.lst (xs.map nV))) (h2 : H q = some (.lst (xs.map nV))) (hl : xs.length ≤ 100000) : SD 1 H (.ref p) (.ref q) :=
  Or.inr ⟨p, q, _, _, rfl, rfl, .inr ⟨h1, h2⟩, rfl, by simpa using hl, fun i a b ha hb => by
    rw [ha] at hb
    cases hb
    rw [List.getElem?_map] at ha
    obtain ⟨z, _, rfl⟩ := Option.map_eq_some_iff.mp ha
    exact ⟨rfl, trivial⟩⟩
theorem w_isiTa {K : PySem.W.Frag} {H : Hp} {Q : VK} {x : V} {tp : Addr} {a n m : String} (ty : TyX K H x (.type a)) (ht : H tp = some (.tup [.ty n, .ty m])) (h1 : kitB a n = some true) (h : Q (.bl true) H) : rIsiT K [x, .ref tp] H Q :=
  ⟨x, tp, _, _, [.type n, .type m], true, rfl, ht, .cons (.ty n) (.cons (.ty m) .nil), ty, kitAny_cons (kit_ty h1) (fun z => nomatch z) (fun _ => rfl), h⟩
theorem w_isiTb {K : PySem.W.Frag} {H : Hp} {Q : VK} {x : V} {tp : Addr} {a n m : String} (ty : TyX K H x (.type a)) (ht : H tp = some (.tup [.ty n, .ty m])) (h1 : kitB a n = some false) (h2 : kitB a m = some true) (h : Q (.bl true) H) : rIsiT K [x, .ref tp] H Q :=
  ⟨x, tp, _, _, [.type n, .type m], true, rfl, ht, .cons (.ty n) (.cons (.ty m) .nil), ty, kitAny_cons (kit_ty h1) (fun _ => kitAny_cons (kit_ty h2) (fun z => nomatch z) (fun _ => rfl)) (fun _ => rfl), h⟩
theorem w_isiTn {K : PySem.W.Frag} {H : Hp} {Q : VK} {x : V} {tp : Addr} {a n m : String} (ty : TyX K H x (.type a)) (ht : H tp = some (.tup [.ty n, .ty m])) (h1 : kitB a n = some false) (h2 : kitB a m = some false) (h : Q (.bl false) H) : rIsiT K [x, .ref tp] H Q :=
  ⟨x, tp, _, _, [.type n, .type m], false, rfl, ht, .cons (.ty n) (.cons (.ty m) .nil), ty, kitAny_cons (kit_ty h1) (fun _ => kitAny_cons (kit_ty h2) (fun _ => rfl) (fun z => nomatch z)) (fun z => nomatch z), h⟩
local macro_rules | `(tactic| walk_at "s") => `(tactic| first
  | ((with_reducible refine' w_isiTa ?ty ?ht ?h1 ?_); (case ty => walk_at "ty"); (case ht => assumption); (case h1 => walk_at "kb"))
  | ((with_reducible refine' w_isiTb ?ty ?ht ?h1 ?h2 ?_); (case ty => walk_at "ty"); (case ht => assumption); (case h1 => walk_at "kb"); (case h2 => walk_at "kb"))
  | ((with_reducible refine' w_isiTn ?ty ?ht ?h1 ?h2 ?_); (case ty => walk_at "ty"); (case ht => assumption); (case h1 => walk_at "kb"); (case h2 => walk_at "kb"))
  )
def spAlike (n : Nat) : Sp := fun vs H Q _ => ∃ (x y : V), vs = [x, y] ∧ SD n H x y ∧ ∀ H', Same H H' → Q (.bl true) H'
section
variable {P : Program} {w : World} {K : PySem.W.Frag} {mg : Str → Option Value} {base : Heap}
theorem ok_alike0 {f : Addr} {fd : FuncData} (T : Txt K mg) (D_law_alike : Df K mg "_law_alike" s_law_alike ["_law_found", "_law_due"] f fd) : FnOk P w K mg base CX0 1 f fd ["_law_found", "_law_due"] (spAlike 0) := by
  refine D_law_alike.fn.ok sc_law_alike (fun vs H Q E h => ?_) (fun cdv A outer s H vs Q E hr h => ?_)
  · obtain ⟨x, y, rfl, _⟩ := h
    rfl
  · obtain ⟨x, y, rfl, ⟨rfl, hx⟩, q⟩ := h
    refine ⟨_,
      (pss_cons
        (ps_if (pt_val (pe_callB (r := rIsiT K) call_isiT (by rfl) T.n_isinstance (by decide +kernel) (pa_cons (pv 1) (pa_cons (pe_tup (pa_cons (pe_bltn (v := .ty "tuple") (u := .type "tuple") (by rfl) T.n_tuple (by decide +kernel) rfl) (pa_cons (pe_bltn (v := .ty "list") (u := .type "list") (by rfl) T.n_list (by decide +kernel) rfl) pa_nil))) pa_nil))))
          pss_never
          pss_nil)
      (pss_cons
        (ps_if (PW.pt (pw_or (pt_val (pe_callB (r := rIsi K) call_isi (by rfl) T.n_isinstance (by decide +kernel) (pa_cons (pv 1) (pa_cons (pe_bltn (v := .ty "bool") (u := .type "bool") (by rfl) T.n_bool (by decide +kernel) rfl) pa_nil)))) (pw_or1 (pt_val (pe_callB (r := rIsi K) call_isi (by rfl) T.n_isinstance (by decide +kernel) (pa_cons (pv 0) (pa_cons (pe_bltn (v := .ty "bool") (u := .type "bool") (by rfl) T.n_bool (by decide +kernel) rfl) pa_nil)))))))
          (pss_one
            (ps_ret (pe_and (pe_callB (r := rIsi K) call_isi (by rfl) T.n_isinstance (by decide +kernel) (pa_cons (pv 1) (pa_cons (pe_bltn (v := .ty "bool") (u := .type "bool") (by rfl) T.n_bool (by decide +kernel) rfl) pa_nil))) (pe_and (pe_callB (r := rIsi K) call_isi (by rfl) T.n_isinstance (by decide +kernel) (pa_cons (pv 0) (pa_cons (pe_bltn (v := .ty "bool") (u := .type "bool") (by rfl) T.n_bool (by decide +kernel) rfl) pa_nil))) (pe_one (pe_cmpR op_eq (pv 0) (pv 1) (nomark _)))))))
          pss_nil)
      (pss_cons
        (ps_if (pt_val (pe_callB (r := rIsi K) call_isi (by rfl) T.n_isinstance (by decide +kernel) (pa_cons (pv 1) (pa_cons (pe_bltn (v := .ty "int") (u := .type "int") (by rfl) T.n_int (by decide +kernel) rfl) pa_nil))))
          (pss_one
            (ps_ret (pe_and (pe_callB (r := rIsi K) call_isi (by rfl) T.n_isinstance (by decide +kernel) (pa_cons (pv 0) (pa_cons (pe_bltn (v := .ty "int") (u := .type "int") (by rfl) T.n_int (by decide +kernel) rfl) pa_nil))) (pe_one (pe_cmpR op_eq (pv 0) (pv 1) (nomark _))))))
          pss_nil)
      (pss_cons
        (ps_if (pt_val (pe_callB (r := rIsi K) call_isi (by rfl) T.n_isinstance (by decide +kernel) (pa_cons (pv 1) (pa_cons (pe_bltn (v := .ty "str") (u := .type "str") (by rfl) T.n_str (by decide +kernel) rfl) pa_nil))))
          (pss_one
            (ps_ret (pe_and (pe_callB (r := rIsi K) call_isi (by rfl) T.n_isinstance (by decide +kernel) (pa_cons (pv 0) (pa_cons (pe_bltn (v := .ty "str") (u := .type "str") (by rfl) T.n_str (by decide +kernel) rfl) pa_nil))) (pe_one (pe_cmpR op_eq (pv 0) (pv 1) (nomark _))))))
          pss_nil)
      (pss_one
        (ps_ret (pe_and (pe_cmpR o_isN (pv 1) pe_non (nomark _)) (pe_one (pe_cmpR o_isN (pv 0) pe_non (nomark _))))))))))
      , ?_⟩
    rw [show L2.start N_law_alike [x, x] = [some x, some x, none] from rfl]
    cases x with
    | byt _ => exact hx.elim
    | flt _ => exact hx.elim
    | ref _ => exact hx.elim
    | ty _ => exact hx.elim
    | non =>
      refine w_seq ?_
      walk_at "x"
      refine w_new fun tp H1 htp e1 k1 => ?_
      walk_at "g"
      refine w_seq ?_
      walk_at "g"
      refine w_seq ?_
      walk_at "g"
      refine w_seq ?_
      walk_at "g"
      refine w_yes rfl ?_
      walk_at "g"
      exact q _ k1
    | bl b =>
      refine w_seq ?_
      walk_at "x"
      refine w_new fun tp H1 htp e1 k1 => ?_
      walk_at "g"
      refine w_seq ?_
      walk_at "g"
      rw [decide_eq_true rfl]
      exact q _ k1
    | int i =>
      refine w_seq ?_
      walk_at "x"
      refine w_new fun tp H1 htp e1 k1 => ?_
      walk_at "g"
      refine w_seq ?_
      walk_at "g"
      refine w_seq ?_
      walk_at "g"
      rw [decide_eq_true rfl]
      exact q _ k1
    | str z =>
      refine w_seq ?_
      walk_at "x"
      refine w_new fun tp H1 htp e1 k1 => ?_
      walk_at "g"
      refine w_seq ?_
      walk_at "g"
      refine w_seq ?_
      walk_at "g"
      refine w_seq ?_
      walk_at "g"
      rw [decide_eq_true rfl]
      exact q _ k1
theorem ok_alike {f : Addr} {fd : FuncData} (T : Txt K mg) (D_law_alike : Df K mg "_law_alike" s_law_alike ["_law_found", "_law_due"] f fd) : ∀ n : Nat, FnOk P w K mg base CX0 (n + 1) f fd ["_law_found", "_law_due"] (spAlike n)
  | 0 => ok_alike0 T D_law_alike
  | n + 1 => by
    have G_law_alike : FnOk P w K mg base CX0 (n + 1) f fd ["_law_found", "_law_due"] (spAlike n) := ok_alike T D_law_alike n
    refine D_law_alike.fn.ok sc_law_alike (fun vs H Q E h => ?_) (fun cdv A outer s H vs Q E hr h => ?_)
    · obtain ⟨x, y, rfl, _⟩ := h
      rfl
    · obtain ⟨x, y, rfl, hd, q⟩ := h
      refine ⟨_,
      (pss_cons
        (ps_if (pt_val (pe_callB (r := rIsiT K) call_isiT (by rfl) T.n_isinstance (by decide +kernel) (pa_cons (pv 1) (pa_cons (pe_tup (pa_cons (pe_bltn (v := .ty "tuple") (u := .type "tuple") (by rfl) T.n_tuple (by decide +kernel) rfl) (pa_cons (pe_bltn (v := .ty "list") (u := .type "list") (by rfl) T.n_list (by decide +kernel) rfl) pa_nil))) pa_nil))))
          (pss_cons
            (ps_if (PW.pt (pw_or (pt_cmpR op_ne (pe_callB (r := rIsi K) call_isi (by rfl) T.n_isinstance (by decide +kernel) (pa_cons (pv 1) (pa_cons (pe_bltn (v := .ty "tuple") (u := .type "tuple") (by rfl) T.n_tuple (by decide +kernel) rfl) pa_nil))) (pe_callB (r := rIsi K) call_isi (by rfl) T.n_isinstance (by decide +kernel) (pa_cons (pv 0) (pa_cons (pe_bltn (v := .ty "tuple") (u := .type "tuple") (by rfl) T.n_tuple (by decide +kernel) rfl) pa_nil))) (nomark _)) (pw_or1 (pt_not (pt_val (pe_callB (r := rIsiT K) call_isiT (by rfl) T.n_isinstance (by decide +kernel) (pa_cons (pv 0) (pa_cons (pe_tup (pa_cons (pe_bltn (v := .ty "tuple") (u := .type "tuple") (by rfl) T.n_tuple (by decide +kernel) rfl) (pa_cons (pe_bltn (v := .ty "list") (u := .type "list") (by rfl) T.n_list (by decide +kernel) rfl) pa_nil))) pa_nil))))))))
              (pss_one
                (ps_ret pe_bl))
              pss_nil)
          (pss_cons
            (ps_if (pt_cmpR op_ne (pe_callB (r := rLen K) c_len (by rfl) T.n_len (by decide +kernel) (pa_cons (pv 0) pa_nil)) (pe_callB (r := rLen K) c_len (by rfl) T.n_len (by decide +kernel) (pa_cons (pv 1) pa_nil)) (nomark _))
              (pss_one
                (ps_ret pe_bl))
              pss_nil)
          (pss_cons
            (ps_for PassesOwn.never rfl (pi_range1 (by rfl) T.n_range (pa_cons (pe_callB (r := rLen K) c_len (by rfl) T.n_len (by decide +kernel) (pa_cons (pv 1) pa_nil)) pa_nil)) (pg_name (i := 2) sc_law_alike.nd rfl (.inl rfl))
              (pss_one
                (ps_if (pt_not (pt_val (pe_call G_law_alike (hr.mono (by omega)) (by rfl) D_law_alike.g D_law_alike.fn.kp D_law_alike.b .nil pass0 (pa_cons (pe_ix (r := rIx K) ix_seq (pv 0) (pv 2) (fun _ _ => rfl)) (pa_cons (pe_ix (r := rIx K) ix_seq (pv 1) (pv 2) (fun _ _ => rfl)) pa_nil)))))
                  (pss_one
                    (ps_ret pe_bl))
                  pss_nil)))
          (pss_one
            (ps_ret pe_bl)))))
          pss_nil)
      (pss_cons
        (ps_if (PW.pt (pw_or (pt_val (pe_callB (r := rIsi K) call_isi (by rfl) T.n_isinstance (by decide +kernel) (pa_cons (pv 1) (pa_cons (pe_bltn (v := .ty "bool") (u := .type "bool") (by rfl) T.n_bool (by decide +kernel) rfl) pa_nil)))) (pw_or1 (pt_val (pe_callB (r := rIsi K) call_isi (by rfl) T.n_isinstance (by decide +kernel) (pa_cons (pv 0) (pa_cons (pe_bltn (v := .ty "bool") (u := .type "bool") (by rfl) T.n_bool (by decide +kernel) rfl) pa_nil)))))))
          (pss_one
            (ps_ret (pe_and (pe_callB (r := rIsi K) call_isi (by rfl) T.n_isinstance (by decide +kernel) (pa_cons (pv 1) (pa_cons (pe_bltn (v := .ty "bool") (u := .type "bool") (by rfl) T.n_bool (by decide +kernel) rfl) pa_nil))) (pe_and (pe_callB (r := rIsi K) call_isi (by rfl) T.n_isinstance (by decide +kernel) (pa_cons (pv 0) (pa_cons (pe_bltn (v := .ty "bool") (u := .type "bool") (by rfl) T.n_bool (by decide +kernel) rfl) pa_nil))) (pe_one (pe_cmpR op_eq (pv 0) (pv 1) (nomark _)))))))
          pss_nil)
      (pss_cons
        (ps_if (pt_val (pe_callB (r := rIsi K) call_isi (by rfl) T.n_isinstance (by decide +kernel) (pa_cons (pv 1) (pa_cons (pe_bltn (v := .ty "int") (u := .type "int") (by rfl) T.n_int (by decide +kernel) rfl) pa_nil))))
          (pss_one
            (ps_ret (pe_and (pe_callB (r := rIsi K) call_isi (by rfl) T.n_isinstance (by decide +kernel) (pa_cons (pv 0) (pa_cons (pe_bltn (v := .ty "int") (u := .type "int") (by rfl) T.n_int (by decide +kernel) rfl) pa_nil))) (pe_one (pe_cmpR op_eq (pv 0) (pv 1) (nomark _))))))
          pss_nil)
      (pss_cons
        (ps_if (pt_val (pe_callB (r := rIsi K) call_isi (by rfl) T.n_isinstance (by decide +kernel) (pa_cons (pv 1) (pa_cons (pe_bltn (v := .ty "str") (u := .type "str") (by rfl) T.n_str (by decide +kernel) rfl) pa_nil))))
          (pss_one
            (ps_ret (pe_and (pe_callB (r := rIsi K) call_isi (by rfl) T.n_isinstance (by decide +kernel) (pa_cons (pv 0) (pa_cons (pe_bltn (v := .ty "str") (u := .type "str") (by rfl) T.n_str (by decide +kernel) rfl) pa_nil))) (pe_one (pe_cmpR op_eq (pv 0) (pv 1) (nomark _))))))
          pss_nil)
      (pss_one
        (ps_ret (pe_and (pe_cmpR o_isN (pv 1) pe_non (nomark _)) (pe_one (pe_cmpR o_isN (pv 0) pe_non (nomark _))))))))))
        , ?_⟩
      rw [show L2.start N_law_alike [x, y] = [some x, some y, none] from rfl]
      rcases hd with ⟨rfl, hx⟩ | ⟨p, r, xs, ys, rfl, rfl, hk, hlen, hle, hd⟩
      · cases x with
        | byt _ => exact hx.elim
        | flt _ => exact hx.elim
        | ref _ => exact hx.elim
        | ty _ => exact hx.elim
        | non =>
          refine w_seq ?_
          walk_at "x"
          refine w_new fun tp H1 htp e1 k1 => ?_
          walk_at "g"
          refine w_seq ?_
          walk_at "g"
          refine w_seq ?_
          walk_at "g"
          refine w_seq ?_
          walk_at "g"
          refine w_yes rfl ?_
          walk_at "g"
          exact q _ k1
        | bl b =>
          refine w_seq ?_
          walk_at "x"
          refine w_new fun tp H1 htp e1 k1 => ?_
          walk_at "g"
          refine w_seq ?_
          walk_at "g"
          rw [decide_eq_true rfl]
          exact q _ k1
        | int i =>
          refine w_seq ?_
          walk_at "x"
          refine w_new fun tp H1 htp e1 k1 => ?_
          walk_at "g"
          refine w_seq ?_
          walk_at "g"
          refine w_seq ?_
          walk_at "g"
          rw [decide_eq_true rfl]
          exact q _ k1
        | str z =>
          refine w_seq ?_
          walk_at "x"
          refine w_new fun tp H1 htp e1 k1 => ?_
          walk_at "g"
          refine w_seq ?_
          walk_at "g"
          refine w_seq ?_
          walk_at "g"
          refine w_seq ?_
          walk_at "g"
          rw [decide_eq_true rfl]
          exact q _ k1
      · have turn : ∀ (i : Nat), i < ys.length → ∃ a b, atI xs (0 + (i : Int)) = some a ∧ atI ys (0 + (i : Int)) = some b ∧ SD n H a b := fun i hi => by
          have h1 : xs[i]? = some xs[i] := List.getElem?_eq_getElem (by omega)
          have h2 : ys[i]? = some ys[i] := List.getElem?_eq_getElem hi
          rw [show 0 + (i : Int) = (i : Int) by omega]
          exact ⟨_, _, atI_nat h1, atI_nat h2, hd i _ _ h1 h2⟩
        rcases hk with ⟨h1, h2⟩ | ⟨h1, h2⟩
        all_goals
          refine w_seq ?_
          walk_at "x"
          refine w_new fun tp H1 htp e1 k1 => ?_
          have h1' := k1 _ _ h1
          have h2' := k1 _ _ h2
          walk_at "g"
          refine w_seq ?_
          walk_at "g"
          walk_at "dg"
          refine w_new fun tp2 H2 htp2 e2 k2 => ?_
          have h1'' := k2 _ _ h1'
          have h2'' := k2 _ _ h2'
          have k02 := Same.trans k1 k2
          walk_at "g"
          refine w_seq ?_
          walk_at "g"
          walk_at "dg"
          refine lp_range (fun i σ H' => Same H H' ∧ ∃ y2, σ = [some (.ref p), some (.ref r), y2]) ⟨k02, _, rfl⟩ ?_ ?_
          · rintro i σ H3 hi ⟨k3, y2, rfl⟩
            have g1 := k3 _ _ h1
            have g2 := k3 _ _ h2
            obtain ⟨a, b, ha, hb, hab⟩ := turn i (by omega)
            walk_at "g"
            refine ⟨a, b, rfl, hab.same k3, fun H4 k4 => ?_⟩
            walk_at "g"
            exact ⟨Same.trans k3 k4, _, rfl⟩
          · rintro σ H3 ⟨k3, y2, rfl⟩
            walk_at "g"
            exact q _ k3
end
def dsOf (cs : List Ct) : List Nat := cs.foldl (fun ds c => ds ++ [depOf ds c]) []
theorem dsOf_snoc (cs : List Ct) (c : Ct) : dsOf (cs ++ [c]) = dsOf cs ++ [depOf (dsOf cs) c] := by
  unfold dsOf
  rw [List.foldl_append]
  rfl
/-- every content is good behind those ahead of it -/
def ScnOk (cs : List Ct) : Prop := ∀ i c, cs[i]? = some c → CtOk (cs.take i) (dsOf (cs.take i)) c
theorem nodup_at {α : Type} {l : List α} (nd : l.Nodup) {i j : Nat} {hi : i < l.length} {hj : j < l.length} (h : l[i] = l[j]) : i = j := by
  refine Classical.byContradiction fun hne => ?_
  rcases Nat.lt_or_gt_of_ne hne with g | g
  · exact List.pairwise_iff_getElem.mp nd i j hi hj g h
  · exact List.pairwise_iff_getElem.mp nd j i hj hi g h.symm
theorem ScnOk.nil : ScnOk [] := fun i c h => by simp at h
theorem ScnOk.snoc {cs : List Ct} {c : Ct} (h : ScnOk cs) (hc : CtOk cs (dsOf cs) c) : ScnOk (cs ++ [c]) := by
  intro i x hx
  by_cases hi : i < cs.length
  · rw [List.getElem?_append_left hi] at hx
    have e : (cs ++ [c]).take i = cs.take i := List.take_append_of_le_length (by omega)
    rw [e]
    exact h i x hx
  · have hi2 : i = cs.length := by
      have := (List.getElem?_eq_some_iff.mp hx).1
      rw [List.length_append] at this
      simp only [List.length_cons, List.length_nil] at this
      omega
    subst hi2
    have e : (cs ++ [c]).take cs.length = cs := by simp
    rw [e]
    have : x = c := by simpa using hx.symm
    rw [this]
    exact hc
/-! ### things and a book that grow alike -/
theorem dsl_foldl_len : ∀ (b : List Ct) (ds : List Nat), (b.foldl (fun ds c => ds ++ [depOf ds c]) ds).length = ds.length + b.length
  | [], ds => by simp
  | c :: b, ds => by
    rw [List.foldl_cons, dsl_foldl_len b, List.length_append]
    simp only [List.length_cons, List.length_nil]
    omega
theorem dsl_foldl : ∀ (b : List Ct) (ds : List Nat), ∃ t, b.foldl (fun ds c => ds ++ [depOf ds c]) ds = ds ++ t
  | [], ds => ⟨[], by simp⟩
  | c :: b, ds => by
    obtain ⟨t, e⟩ := dsl_foldl b (ds ++ [depOf ds c])
    exact ⟨depOf ds c :: t, by rw [List.foldl_cons, e, List.append_assoc]; rfl⟩
theorem dsl_len (a : List Ct) : (dsOf a).length = a.length := by
  unfold dsOf
  rw [dsl_foldl_len]
  simp
theorem dsl_pre (a b : List Ct) : ∃ t, dsOf (a ++ b) = dsOf a ++ t := by
  obtain ⟨t, e⟩ := dsl_foldl b (dsOf a)
  exact ⟨t, by unfold dsOf at *; rw [List.foldl_append, e]⟩
/-- how deep the name n is -/
def dpt (cs : List (Addr × Ct)) (n : Nat) : Nat := (dsOf (cs.map (·.2))).getD n 0
/-- naming (a, c) makes cs' of cs, c is at j -/
def Step (cs cs' : List (Addr × Ct)) (a : Addr) (c : Ct) (j : Nat) : Prop := (cs' = cs ∧ ∃ b, cs[j]? = some (b, c)) ∨ (cs' = cs ++ [(a, c)] ∧ j = cs.length ∧ ∀ q ∈ cs, q.2 ≠ c)
theorem step_ex (cs : List (Addr × Ct)) (a : Addr) (c : Ct) : ∃ cs' j, Step cs cs' a c j := by
  by_cases h : ∃ q ∈ cs, q.2 = c
  · obtain ⟨q, hq, e⟩ := h
    obtain ⟨j, hj, ej⟩ := List.getElem_of_mem hq
    exact ⟨cs, j, .inl ⟨rfl, q.1, by rw [List.getElem?_eq_getElem hj, ej, ← e]⟩⟩
  · exact ⟨_, _, .inr ⟨rfl, rfl, fun q hq e => h ⟨q, hq, e⟩⟩⟩
theorem Step.at {cs cs' : List (Addr × Ct)} {a : Addr} {c : Ct} {j : Nat} (s : Step cs cs' a c j) : ∃ b, cs'[j]? = some (b, c) := by
  rcases s with ⟨rfl, h⟩ | ⟨rfl, rfl, _⟩
  · exact h
  · exact ⟨a, by simp⟩
theorem Step.lt {cs cs' : List (Addr × Ct)} {a : Addr} {c : Ct} {j : Nat} (s : Step cs cs' a c j) : j < cs'.length := by
  obtain ⟨b, h⟩ := s.at
  exact (List.getElem?_eq_some_iff.mp h).1
theorem Step.len {cs cs' : List (Addr × Ct)} {a : Addr} {c : Ct} {j : Nat} (s : Step cs cs' a c j) : cs.length ≤ cs'.length ∧ cs'.length ≤ cs.length + 1 := by
  rcases s with ⟨rfl, h⟩ | ⟨rfl, rfl, _⟩
  · omega
  · simp
theorem Step.grow {cs cs' : List (Addr × Ct)} {a : Addr} {c : Ct} {j : Nat} (s : Step cs cs' a c j) {i : Nat} {x : Addr × Ct} (h : cs[i]? = some x) : cs'[i]? = some x := by
  rcases s with ⟨rfl, _⟩ | ⟨rfl, rfl, _⟩
  · exact h
  · rw [List.getElem?_append_left (List.getElem?_eq_some_iff.mp h).1]
    exact h
theorem Step.ok {cs cs' : List (Addr × Ct)} {a : Addr} {c : Ct} {j : Nat} (s : Step cs cs' a c j) (h : ScnOk (cs.map (·.2))) (hc : CtOk (cs.map (·.2)) (dsOf (cs.map (·.2))) c) : ScnOk (cs'.map (·.2)) := by
  rcases s with ⟨rfl, _⟩ | ⟨rfl, rfl, _⟩
  · exact h
  · rw [List.map_append]
    exact h.snoc hc
theorem Step.dpt {cs cs' : List (Addr × Ct)} {a : Addr} {c : Ct} {j : Nat} (s : Step cs cs' a c j) {n : Nat} (h : n < cs.length) : dpt cs' n = dpt cs n := by
  rcases s with ⟨rfl, _⟩ | ⟨rfl, rfl, _⟩
  · rfl
  · unfold FW.dpt
    obtain ⟨t, e⟩ := dsl_pre (cs.map (·.2)) ([(a, c)].map (·.2))
    rw [List.map_append, e, List.getD_eq_getElem?_getD, List.getD_eq_getElem?_getD, List.getElem?_append_left (by rw [dsl_len, List.length_map]; exact h)]
section
variable {P : Program} {w : World} {C : Addr}
theorem w_named3 {H : Hp} {Q : VK} {E : XK} {p dx lc ld lg a : Addr} {cs cs' : List (Addr × Ct)} {c : Ct} {j : Nat} (B : BookAt P w C H p dx lc ld lg cs (dsOf (cs.map (·.2)))) (hc : CtAt H a c) (ok : CtOk (cs.map (·.2)) (dsOf (cs.map (·.2))) c) (hl : cs.length < 400) (s : Step cs cs' a c j)
    (h : ∀ H', BookAt P w C H' p dx lc ld lg cs' (dsOf (cs'.map (·.2))) → Kp [lc, ld, lg] H H' → KT H H' → Q (nV j) H') : spNamed P w C ([V.ref p, V.ref a] ++ []) H Q E := by
  refine ⟨p, dx, lc, ld, lg, a, cs, _, c, rfl, B, hc, ok, hl, fun j' b H' hj' k => ?_, fun hno H' B' k t => ?_⟩
  · rcases s with ⟨rfl, b2, hj⟩ | ⟨rfl, rfl, hno⟩
    · have h1 : (cs'.map (·.2))[j']? = some c := by rw [List.getElem?_map, hj']; rfl
      have h2 : (cs'.map (·.2))[j]? = some c := by rw [List.getElem?_map, hj]; rfl
      obtain ⟨g1, g1'⟩ := List.getElem?_eq_some_iff.mp h1
      obtain ⟨g2, g2'⟩ := List.getElem?_eq_some_iff.mp h2
      have e := nodup_at B.nd (g1'.trans g2'.symm)
      subst e
      exact h H' (B.same k) (Kp.of k) (KT.of k)
    · exact absurd rfl (hno _ (List.mem_of_getElem? hj'))
  · rcases s with ⟨rfl, b2, hj⟩ | ⟨rfl, rfl, _⟩
    · exact absurd rfl (hno _ (List.mem_of_getElem? hj))
    · have e : dsOf ((cs ++ [(a, c)]).map (·.2)) = dsOf (cs.map (·.2)) ++ [depOf (dsOf (cs.map (·.2))) c] := by rw [List.map_append]; exact dsOf_snoc _ _
      exact h H' (by rw [e]; exact B') k t
end
theorem SD.sc {n : Nat} {H : Hp} {x : V} (h : Sc x) : SD n H x x := by
  cases n with
  | zero => exact ⟨rfl, h⟩
  | succ n => exact .inl ⟨rfl, h⟩
theorem SD.tup {n : Nat} {H : Hp} {p q : Addr} {xs : List V} (h1 : H p = some (.tup xs)) (h2 : H q = some (.tup xs)) (hl : xs.length ≤ 100000) (h : ∀ x ∈ xs, SD n H x x) : SD (n + 1) H (.ref p) (.ref q) :=
  .inr ⟨p, q, xs, xs, rfl, rfl, .inl ⟨h1, h2⟩, rfl, hl, fun i a b ha hb => by
    rw [ha] at hb
    cases hb
    exact h _ (List.mem_of_getElem? ha)⟩
def spBLen (P : Program) (w : World) (C : Addr) : Sp := fun vs H Q _ => ∃ (p dx lc ld lg : Addr) (cs : List (Addr × Ct)) (ds : List Nat), vs = [.ref p] ∧ BookAt P w C H p dx lc ld lg cs ds ∧ Q (.int (cs.length : Int)) H
section
variable {P : Program} {w : World} {K : PySem.W.Frag} {mg : Str → Option Value} {base : Heap} {C : Addr}
theorem ok_blen {f : Addr} {fd : FuncData} (T : Txt K mg) (F : Fun K "__len__" "Book.__len__" s_Book___len__ f fd) (K_Book : Kl K mg "Book" C ["contents", "depths", "given"]) : FnOk P w K mg base CX0 1 f fd ["self"] (spBLen P w C) := by
  have cl := K_Book.cl
  have n1 := K_Book.na "contents" (by simp)
  refine F.ok sc_Book___len__ (fun vs H Q E h => ?_) (fun cdv A outer s H vs Q E hr h => ?_)
  · obtain ⟨p, dx, lc, ld, lg, cs, ds, rfl, _⟩ := h
    rfl
  · obtain ⟨p, dx, lc, ld, lg, cs, ds, rfl, B, q⟩ := h
    have ob := B.ob
    have co := B.co
    refine ⟨_,
      (pss_one
        (ps_ret (pe_callB (r := rLen K) c_len (by rfl) T.n_len (by decide +kernel) (pa_cons (pe_fldK (K := K) rfl (pv 0) rfl) pa_nil))))
      , ?_⟩
    rw [show L2.start N_Book___len__ [V.ref p] = [some (.ref p)] from rfl]
    walk_at "x"
    rw [List.length_map]
    exact q
end
theorem nV_map (ns : List Nat) : ns.map nV = (ns.map fun n : Nat => (n : Int)).map V.int := by rw [List.map_map]; rfl
theorem int_mem {ns : List Nat} {n : Nat} : (n : Int) ∈ (ns.map fun n : Nat => (n : Int)) ↔ n ∈ ns := by
  constructor
  · intro h
    obtain ⟨m, hm, e⟩ := List.mem_map.mp h
    have : m = n := by omega
    rw [← this]
    exact hm
  · exact fun h => List.mem_map.mpr ⟨n, h, rfl⟩
def FAt (H : Hp) (f : Addr) (F : Nat → Prop) : Prop := ∃ (fk : List (Key × V)) (ks : List Int), H f = some (.dK fk) ∧ fk.map (·.1) = ks.map (Sum.inl : Int → Key) ∧ ks.Nodup ∧ (∀ k ∈ ks, 0 ≤ k ∧ k < 1000) ∧ ∀ n : Nat, (n : Int) ∈ ks ↔ F n
theorem FAt.kp {M : List Addr} {H H' : Hp} {f : Addr} {F : Nat → Prop} (h : FAt H f F) (k : Kp M H H') (n : f ∉ M) : FAt H' f F := by
  obtain ⟨fk, ks, h1, h2⟩ := h
  exact ⟨fk, ks, k _ _ n h1, h2⟩
theorem FAt.same {H H' : Hp} {f : Addr} {F : Nat → Prop} (h : FAt H f F) (k : Same H H') : FAt H' f F := h.kp (M := []) (Kp.of k) (by simp)
theorem FAt.iff {H : Hp} {f : Addr} {F G : Nat → Prop} (h : FAt H f F) (e : ∀ n, F n ↔ G n) : FAt H f G := by
  obtain ⟨fk, ks, h1, h2, h3, h4, h5⟩ := h
  exact ⟨fk, ks, h1, h2, h3, h4, fun n => (h5 n).trans (e n)⟩
theorem FAt.obj {H : Hp} {f : Addr} {F : Nat → Prop} (h : FAt H f F) : ∃ fk, H f = some (.dK fk) := by
  obtain ⟨fk, ks, h1, _⟩ := h
  exact ⟨fk, h1⟩
theorem few_keys {ks : List Int} (nd : ks.Nodup) (h : ∀ k ∈ ks, 0 ≤ k ∧ k < 1000) : ks.length ≤ 1000 := by
  have := nodup_le ks ((List.range 1000).map fun n : Nat => (n : Int)) nd fun k hk => by
    obtain ⟨h1, h2⟩ := h k hk
    exact List.mem_map.mpr ⟨k.toNat, List.mem_range.mpr (by omega), by omega⟩
  rwa [List.length_map, List.length_range] at this
theorem w_fput {H : Hp} {f : Addr} {F : Nat → Prop} {n : Nat} {v : V} {R : Hp → Prop} (h1 : FAt H f F) (hn : n < 1000) (h : ∀ H1, FAt H1 f (fun m => F m ∨ m = n) → Off f H H1 → R H1) : rDPut (.ref f) (nV n) v H R := by
  obtain ⟨fk, ks, e, hk, nd, hb, hm⟩ := h1
  have hfl : fk.length = ks.length := by rw [← List.length_map (f := (·.1)), hk, List.length_map]
  have := few_keys nd hb
  refine w_dputI e (by rw [hfl]; exact small1kl this) fun H1 e1 o1 => h H1 ⟨_, _, e1, putK_keys hk, nd_addK nd, fun k hk' => ?_, fun m => ?_⟩ o1
  · rcases mem_addK.mp hk' with h | h
    · exact hb k h
    · omega
  · rw [mem_addK, hm]
    constructor
    · rintro (h | h)
      · exact .inl h
      · exact .inr (by omega)
    · rintro (h | h)
      · exact .inl h
      · exact .inr (by omega)
theorem w_fin {H : Hp} {f : Addr} {F : Nat → Prop} {i : Int} {Q : VK} (h1 : FAt H f F) (hy : ∀ n : Nat, i = n → F n → Q (.bl true) H) (hn : (∀ n : Nat, i = n → ¬ F n) → Q (.bl false) H) : rDIn (.ref f) (.int i) H Q := by
  obtain ⟨fk, ks, e, hk, nd, hb, hm⟩ := h1
  refine w_dinI e ?_
  rw [val_keys hk]
  by_cases h : i ∈ ks
  · rw [decide_eq_true h]
    obtain ⟨g1, g2⟩ := hb i h
    have e1 : i = ((i.toNat : Nat) : Int) := by omega
    exact hy i.toNat e1 ((hm i.toNat).mp (by rw [← e1]; exact h))
  · rw [decide_eq_false h]
    exact hn fun n e hF => h (by rw [e]; exact (hm n).mpr hF)
theorem w_fin' {H : Hp} {f : Addr} {F : Nat → Prop} {n : Nat} {Q : VK} (h1 : FAt H f F) (hy : F n → Q (.bl true) H) (hn : ¬ F n → Q (.bl false) H) : rDIn (.ref f) (nV n) H Q :=
  w_fin h1 (fun m e h => hy (by rw [show n = m by omega]; exact h)) fun h => hn (h n rfl)
theorem ints_nats : ∀ {zs : List Int}, (∀ z ∈ zs, 0 ≤ z) → ∃ hs : List Nat, zs = hs.map fun n : Nat => (n : Int)
  | [], _ => ⟨[], rfl⟩
  | z :: zs, h => by
    obtain ⟨hs, rfl⟩ := ints_nats (zs := zs) fun y hy => h y (by simp [hy])
    exact ⟨z.toNat :: hs, by rw [List.map_cons, show ((z.toNat : Nat) : Int) = z by have := h z (by simp); omega]⟩
theorem lt_of_le_nd : ∀ {zs : List Int}, zs.Pairwise (· ≤ ·) → zs.Nodup → zs.Pairwise (· < ·)
  | [], _, _ => .nil
  | z :: zs, h, nd => by
    rw [List.pairwise_cons] at h ⊢
    rw [List.nodup_cons] at nd
    exact ⟨fun y hy => by
      have := h.1 y hy
      have : z ≠ y := fun e => nd.1 (by rw [e]; exact hy)
      omega, lt_of_le_nd h.2 nd.2⟩
theorem w_fsort {H : Hp} {f : Addr} {F : Nat → Prop} {Q : VK} (h1 : FAt H f F) (h : ∀ (ns : List Nat) p H1, ns.Pairwise (· < ·) → (∀ n, n ∈ ns ↔ F n) → ns.length ≤ 1000 → H p = none → H1 p = some (.lst (ns.map nV)) → Same H H1 → Q (.ref p) H1) : rSortA [.ref f] H Q := by
  obtain ⟨fk, ks, e, hk, nd, hb, hm⟩ := h1
  have fw := few_keys nd hb
  refine w_sortA e hk (by omega) fun ys p H1 hp hle hnone e1 k1 => ?_
  obtain ⟨ns, rfl⟩ := ints_nats (zs := ys) fun z hz => (hb z (hp.mem_iff.mp hz)).1
  have hlt := lt_of_le_nd hle (hp.nodup_iff.mpr nd)
  refine h ns p H1 ?_ (fun n => ?_) ?_ hnone (by rw [e1, nV_map]) k1
  · rw [List.pairwise_map] at hlt
    exact hlt.imp fun {a b} h => by omega
  · rw [← int_mem, hp.mem_iff, hm]
  · have := hp.length_eq
    rw [List.length_map] at this
    omega
structure StAt (CS : Addr) (H : Hp) (s dy p hd : Addr) (rs : List (Str × V)) (k : Nat) (F : Nat → Prop) : Prop where
  ob : H s = some (.ins CS dy (("book", .ref p) :: ("here", .ref hd) :: ("turns", nV k) :: rs))
  here : FAt H hd F
  ne : hd ≠ s
theorem StAt.kp {CS : Addr} {M : List Addr} {H H' : Hp} {s dy p hd : Addr} {rs : List (Str × V)} {k : Nat} {F : Nat → Prop} (h : StAt CS H s dy p hd rs k F) (kp : Kp M H H') (h1 : s ∉ M) (h2 : hd ∉ M) : StAt CS H' s dy p hd rs k F := ⟨kp _ _ h1 h.ob, h.here.kp kp h2, h.ne⟩
theorem StAt.same {CS : Addr} {H H' : Hp} {s dy p hd : Addr} {rs : List (Str × V)} {k : Nat} {F : Nat → Prop} (h : StAt CS H s dy p hd rs k F) (kp : Same H H') : StAt CS H' s dy p hd rs k F := h.kp (M := []) (Kp.of kp) (by simp) (by simp)
def spStoreInit (CS : Addr) : Sp := fun vs H Q _ => ∃ (s dy p : Addr), vs = [.ref s, .ref p] ∧ H s = some (.ins CS dy []) ∧ ∀ (hd : Addr) (H' : Hp), H hd = none → StAt CS H' s dy p hd [] 0 (fun _ => False) → Kp [s] H H' → Q .non H'
def spPut (P : Program) (w : World) (C CS : Addr) : Sp := fun vs H Q _ => ∃ (s dy p dx lc ld lg hd : Addr) (cs : List (Addr × Ct)) (ds : List Nat) (rs : List (Str × V)) (k n : Nat) (F : Nat → Prop), vs = [.ref s, nV n] ∧ rs.length ≤ 900 ∧ StAt CS H s dy p hd rs k F ∧ BookAt P w C H p dx lc ld lg cs ds ∧ n < cs.length ∧ (F n → Q (.bl false) H) ∧ (¬ F n → ∀ H', StAt CS H' s dy p hd rs (k + 1) (fun m => F m ∨ m = n) → Kp [s, hd] H H' → KT H H' → Q (.bl true) H')
def spHeld (CS : Addr) : Sp := fun vs H Q _ => ∃ (s dy p hd : Addr) (rs : List (Str × V)) (k : Nat) (F : Nat → Prop), vs = [.ref s] ∧ StAt CS H s dy p hd rs k F ∧ ∀ (ns : List Nat) (l : Addr) (H' : Hp), ns.Pairwise (· < ·) → (∀ n, n ∈ ns ↔ F n) → ns.length ≤ 1000 → H l = none → H' l = some (.lst (ns.map nV)) → Same H H' → Q (.ref l) H'
section
variable {P : Program} {w : World} {K : PySem.W.Frag} {mg : Str → Option Value} {base : Heap} {C CH CS : Addr}
theorem ok_storeinit {f : Addr} {fd : FuncData} (T : Txt K mg) (F : Fun K "__init__" "Store.__init__" s_Store___init__ f fd) (K_Store : Kf K CS ["book", "here", "turns"]) : FnOk P w K mg base CX0 1 f fd ["self", "book"] (spStoreInit CS) := by
  have cl := K_Store.cl
  have n1 := K_Store.na "book" (by simp)
  have n2 := K_Store.na "here" (by simp)
  have n3 := K_Store.na "turns" (by simp)
  refine F.ok sc_Store___init__ (fun vs H Q E h => ?_) (fun cdv A outer s H vs Q E hr h => ?_)
  · obtain ⟨s, dy, p, rfl, _⟩ := h
    rfl
  · obtain ⟨s, dy, p, rfl, hs, q⟩ := h
    refine ⟨_,
      (pss_cons
        (ps_fld (pv 0) (pv 1) rfl)
      (pss_cons
        (ps_fld (pv 0) pe_dnewK rfl)
      (pss_one
        (ps_fld (pv 0) pe_int rfl))))
      , ?_⟩
    rw [show L2.start N_Store___init__ [V.ref s, V.ref p] = [some (.ref s), some (.ref p)] from rfl]
    walk_at "x"
    refine w_fldS' hs cl n1 (by decide) fun H1 o1 f1 => ?_
    walk_at "g"
    refine w_new fun hd H2 hhd e2 k2 => ?_
    have o2 := k2 _ _ o1
    have nhd : hd ≠ s := (ne_of_none o1 hhd).symm
    have hhd0 : H hd = none := by rw [← f1 hd nhd]; exact hhd
    walk_at "g"
    refine w_fldS' o2 cl n2 (show (1 : Nat) < 1000 by decide) fun H3 o3 f3 => ?_
    walk_at "g"
    refine w_fldS' o3 cl n3 (show (2 : Nat) < 1000 by decide) fun H4 o4 f4 => ?_
    refine q hd H4 hhd0 ⟨o4, ⟨[], [], f4.get nhd (f3.get nhd e2), rfl, .nil, by simp, by simp⟩, nhd⟩ fun b o hb e => ?_
    have hb' : b ≠ s := by simpa using hb
    exact f4.get hb' (f3.get hb' (k2 _ _ (f1.get hb' e)))
theorem w_fldAug {σ : L2.St} {H : Hp} {nx bk ct : L2.St → Hp → Prop} {rt : VK} {ta tv : TE} {f : Str} {u : TS} {rd : V → V → Hp → VK → Prop} (h : sFldAug K ta tv rd f ⟨u ⟨nx, rt, bk, ct⟩, rt, bk, ct⟩ σ H) : tSeq (sFldAug K ta tv rd f) u ⟨nx, rt, bk, ct⟩ σ H := h
theorem ok_put {f fN fI : Addr} {fd fdN fdI : FuncData} (T : Txt K mg) (F : Fun K "put" "Store.put" s_Store_put f fd) (K_Book : Kl K mg "Book" C ["contents", "depths", "given"]) (K_Store : Kf K CS ["book", "here", "turns"]) (D_is_name : Df K mg "is_name" s_is_name ["book", "thing"] fN fdN) (D_is_int : DfD K mg "is_int" s_is_int ["thing", "least"] [.int 0] fI fdI) : FnOk P w K mg base CX0 3 f fd ["self", "name"] (spPut P w C CS) := by
  have G_is_name : FnOk P w K mg base CX0 2 fN fdN ["book", "thing"] (spIsName P w C) := ok_isname T D_is_name.fn K_Book D_is_int
  have cl := K_Store.cl
  have n1 := K_Store.na "book" (by simp)
  have n2 := K_Store.na "here" (by simp)
  have n3 := K_Store.na "turns" (by simp)
  refine F.ok sc_Store_put (fun vs H Q E h => ?_) (fun cdv A outer s H vs Q E hr h => ?_)
  · obtain ⟨s, dy, p, dx, lc, ld, lg, hd, cs, ds, rs, k, n, F, rfl, _⟩ := h
    rfl
  · obtain ⟨s, dy, p, dx, lc, ld, lg, hd, cs, ds, rs, k, n, F, rfl, hrs, S, B, hn, q1, q2⟩ := h
    have hu := hu_of hr
    have ob := S.ob
    refine ⟨_,
      (pss_cons
        (ps_if (pt_not (pt_val (pe_call G_is_name (hr.mono (by omega)) (by rfl) D_is_name.g D_is_name.fn.kp D_is_name.b .nil pass0 (pa_cons (pe_fldK (K := K) rfl (pv 0) rfl) (pa_cons (pv 1) pa_nil)))))
          pss_never
          pss_nil)
      (pss_cons
        (ps_if (pt_cmp (pc_din hu (pv 1) (pe_fldK (K := K) rfl (pv 0) rfl)))
          (pss_one
            (ps_ret pe_bl))
          pss_nil)
      (pss_cons
        (ps_dput hu (pe_fldK (K := K) rfl (pv 0) rfl) (pv 1) pe_bl rfl)
      (pss_cons
        (ps_fldaug (pv 0) pe_int in_add)
      (pss_one
        (ps_ret pe_bl))))))
      , ?_⟩
    rw [show L2.start N_Store_put [V.ref s, nV n] = [some (.ref s), some (.int (n : Int))] from rfl]
    refine w_seq ?_
    walk_at "x"
    refine ⟨p, dx, lc, ld, lg, cs, ds, nV n, "int", rfl, B, .int _, fun m _ _ => ?_, fun hm => absurd hn (hm n rfl)⟩
    walk_at "g"
    refine w_seq ?_
    walk_at "g"
    have hcs : n < 1000 := by have := B.few; omega
    refine w_fin' S.here (fun hin => ?_) fun hno => ?_
    · walk_at "g"
      exact q1 hin
    · walk_at "g"
      refine w_fput S.here hcs fun H1 F1 o1 => ?_
      have ob1 := o1.get S.ne.symm ob
      walk_at "g"
      refine w_fldAug ?_
      unfold sFldAug
      walk_at "g"
      refine ⟨s, CS, dy, _, nV k, rfl, ob1, cl, n3, rfl, ?_⟩
      walk_at "g"
      refine ⟨(k : Int), 1, rfl, rfl, dy, _, ob1, by simp only [List.length_cons]; omega, ?_⟩
      walk_at "g"
      obtain ⟨fk, hfk⟩ := S.here.obj
      refine q2 hno _ ⟨upd_same, F1.kp (M := [s]) (Kp.mut (by simp)) (by simpa using S.ne), S.ne⟩ ((o1.kp (by simp)).trans (Kp.mut (by simp))) ⟨fun b xs e => ?_, fun b u xs e => ?_⟩ <;>
      (rw [upd_ne (ne_of e ob (fun z => nomatch z))]
       exact o1.get (ne_of e hfk (fun z => nomatch z)) e)
theorem ok_held {f : Addr} {fd : FuncData} (T : Txt K mg) (F : Fun K "held" "Store.held" s_Store_held f fd) (K_Store : Kf K CS ["book", "here", "turns"]) : FnOk P w K mg base CX0 1 f fd ["self"] (spHeld CS) := by
  have cl := K_Store.cl
  have n2 := K_Store.na "here" (by simp)
  refine F.ok sc_Store_held (fun vs H Q E h => ?_) (fun cdv A outer s H vs Q E hr h => ?_)
  · obtain ⟨s, dy, p, hd, rs, k, F, rfl, _⟩ := h
    rfl
  · obtain ⟨s, dy, p, hd, rs, k, F, rfl, S, q⟩ := h
    have ob := S.ob
    refine ⟨_,
      (pss_one
        (ps_ret (pe_callB (c_sortA rfl) (by rfl) T.n_sorted (by decide +kernel) (pa_cons (pe_fldK (K := K) rfl (pv 0) rfl) pa_nil))))
      , ?_⟩
    rw [show L2.start N_Store_held [V.ref s] = [some (.ref s)] from rfl]
    walk_at "x"
    refine w_fsort S.here fun ns l H1 hup hmem hnl hl e1 k1 => ?_
    exact q ns l H1 hup hmem hnl hl e1 k1
end
/-! ### houses -/
def hrs (a1 a2 a3 a4 : Addr) : List (Str × V) := [("stands", .ref a1), ("lately", .ref a2), ("others", .ref a3), ("pinned", .ref a4)]
structure HsAt (CU : Addr) (H : Hp) (s dy p hd a1 a2 a3 a4 : Addr) (k : Nat) (F : Nat → Prop) : Prop where
  st : StAt CU H s dy p hd (hrs a1 a2 a3 a4) k F
  h1 : H a1 = some (.dK [])
  h2 : H a2 = some (.lst [])
  h3 : H a3 = some (.dK [])
  h4 : H a4 = some (.lst [])
local macro_rules | `(tactic| walk_at "s") => `(tactic| first
  | with_reducible refine w_clsF ?_
  )
def spHouseInit (CU : Addr) : Sp := fun vs H Q _ => ∃ (s dy p : Addr), vs = [.ref s, .ref p] ∧ H s = some (.ins CU dy []) ∧ ∀ (hd a1 a2 a3 a4 : Addr) (H' : Hp), H hd = none → H a1 = none → H a2 = none → H a3 = none → H a4 = none → HsAt CU H' s dy p hd a1 a2 a3 a4 0 (fun _ => False) → (hd ≠ a1 ∧ hd ≠ a2 ∧ hd ≠ a3 ∧ hd ≠ a4) → (s ≠ a1 ∧ s ≠ a2 ∧ s ≠ a3 ∧ s ≠ a4) → Kp [s] H H' → Q .non H'
section
variable {P : Program} {w : World} {K : PySem.W.Frag} {mg : Str → Option Value} {base : Heap} {C CH CS CU : Addr}
theorem house_kf (K_House : Kl K mg "House" CU ["book", "here", "turns", "stands", "lately", "others", "pinned"]) : Kf K CU ["book", "here", "turns"] := ⟨K_House.cl, fun f hf => K_House.na f (by
  simp only [List.mem_cons, List.not_mem_nil, or_false] at hf ⊢
  rcases hf with h | h | h
  · exact .inl h
  · exact .inr (.inl h)
  · exact .inr (.inr (.inl h)))⟩
theorem ok_houseinit {f fS : Addr} {fd fdS : FuncData} (T : Txt K mg) (F : Fun K "__init__" "House.__init__" s_House___init__ f fd) (K_Store : Kl K mg "Store" CS ["book", "here", "turns"]) (K_House : Kl K mg "House" CU ["book", "here", "turns", "stands", "lately", "others", "pinned"]) (D_Store___init__ : DfM K CS "__init__" "Store.__init__" s_Store___init__ ["self", "book"] fS fdS)
    (R_Store : ClX.CRead K CS (.type "type")) (V_Store___init__ : ClX.CVal K CS (.type "type") "__init__" (.ref fS) (.ref fS)) : FnOk P w K mg base CX0 2 f fd ["self", "book"] (spHouseInit CU) := by
  have G_Store___init__ : FnOk P w K mg base CX0 1 fS fdS ["self", "book"] (spStoreInit CU) := ok_storeinit T D_Store___init__.fn (house_kf K_House)
  let C_Store := CS
  have cl := K_House.cl
  have n1 := K_House.na "stands" (by simp)
  have n2 := K_House.na "lately" (by simp)
  have n3 := K_House.na "others" (by simp)
  have n4 := K_House.na "pinned" (by simp)
  refine F.ok sc_House___init__ (fun vs H Q E h => ?_) (fun cdv A outer s H vs Q E hr h => ?_)
  · obtain ⟨s, dy, p, rfl, _⟩ := h
    rfl
  · obtain ⟨s, dy, p, rfl, hs, q⟩ := h
    refine ⟨_,
      (pss_cons
        (ps_expr (pe_clsF (pe_glob (v := .ref C_Store) rfl K_Store.g rfl) R_Store V_Store___init__ D_Store___init__.fn.kp G_Store___init__ (hr.mono (by omega)) D_Store___init__.b .nil pass0 (pa_cons (pv 0) (pa_cons (pv 1) pa_nil))))
      (pss_cons
        (ps_fld (pv 0) pe_dnewK rfl)
      (pss_cons
        (ps_fld (pv 0) (pe_lst pa_nil) rfl)
      (pss_cons
        (ps_fld (pv 0) pe_dnewK rfl)
      (pss_one
        (ps_fld (pv 0) (pe_lst pa_nil) rfl))))))
      , ?_⟩
    rw [show L2.start N_House___init__ [V.ref s, V.ref p] = [some (.ref s), some (.ref p)] from rfl]
    walk_at "x"
    refine ⟨s, dy, p, rfl, hs, fun hd H1 hhd S1 k1 => ?_⟩
    have o1 := S1.ob
    obtain ⟨fk, efk⟩ := S1.here.obj
    have nh := S1.ne
    walk_at "g"
    refine w_new fun a1 H2 ha1 e2 k2 => ?_
    have o2 := k2 _ _ o1
    have m1 : a1 ≠ s := (ne_of_none o1 ha1).symm
    have p1 : a1 ≠ hd := (ne_of_none efk ha1).symm
    walk_at "g"
    refine w_fldS' o2 cl n1 (show (3 : Nat) < 1000 by decide) fun H3 o3 f3 => ?_
    walk_at "g"
    refine w_new fun a2 H4 ha2 e4 k4 => ?_
    have o4 := k4 _ _ o3
    have m2 : a2 ≠ s := (ne_of_none o3 ha2).symm
    have p2 : a2 ≠ hd := (ne_of_none (f3.get nh (k2 _ _ efk)) ha2).symm
    walk_at "g"
    refine w_fldS' o4 cl n2 (show (4 : Nat) < 1000 by decide) fun H5 o5 f5 => ?_
    walk_at "g"
    refine w_new fun a3 H6 ha3 e6 k6 => ?_
    have o6 := k6 _ _ o5
    have m3 : a3 ≠ s := (ne_of_none o5 ha3).symm
    have p3 : a3 ≠ hd := (ne_of_none (f5.get nh (k4 _ _ (f3.get nh (k2 _ _ efk)))) ha3).symm
    walk_at "g"
    refine w_fldS' o6 cl n3 (show (5 : Nat) < 1000 by decide) fun H7 o7 f7 => ?_
    walk_at "g"
    refine w_new fun a4 H8 ha4 e8 k8 => ?_
    have o8 := k8 _ _ o7
    have m4 : a4 ≠ s := (ne_of_none o7 ha4).symm
    have p4 : a4 ≠ hd := (ne_of_none (f7.get nh (k6 _ _ (f5.get nh (k4 _ _ (f3.get nh (k2 _ _ efk)))))) ha4).symm
    walk_at "g"
    refine w_fldS' o8 cl n4 (show (6 : Nat) < 1000 by decide) fun H9 o9 f9 => ?_
    have t12 : ∀ b o, b ≠ s → H1 b = some o → H3 b = some o := fun b o hb e => f3.get hb (k2 _ _ e)
    have t15 : ∀ b o, b ≠ s → H1 b = some o → H5 b = some o := fun b o hb e => f5.get hb (k4 _ _ (t12 b o hb e))
    have t17 : ∀ b o, b ≠ s → H1 b = some o → H7 b = some o := fun b o hb e => f7.get hb (k6 _ _ (t15 b o hb e))
    have t19 : ∀ b o, b ≠ s → H1 b = some o → H9 b = some o := fun b o hb e => f9.get hb (k8 _ _ (t17 b o hb e))
    have free : ∀ {a : Addr} {H' : Hp}, a ≠ s → (∀ b o, b ≠ s → H1 b = some o → H' b = some o) → H' a = none → H a = none := fun {a H'} ha t hn => by
      cases e : H a with
      | none => rfl
      | some o =>
        rw [t a o ha (k1 _ _ (by simpa using ha) e)] at hn
        cases hn
    refine q hd a1 a2 a3 a4 H9 hhd (free m1 (fun _ _ _ e => e) ha1) (free m2 t12 ha2) (free m3 t15 ha3) (free m4 t17 ha4) ⟨⟨o9, ?_, nh⟩, ?_, ?_, ?_, ?_⟩ ⟨p1.symm, p2.symm, p3.symm, p4.symm⟩ ⟨m1.symm, m2.symm, m3.symm, m4.symm⟩ fun b o hb e => ?_
    · exact S1.here.kp (M := [s]) (fun b o hb e => t19 b o (by simpa using hb) e) (by simpa using nh)
    · exact f9.get m1 (k8 _ _ (f7.get m1 (k6 _ _ (f5.get m1 (k4 _ _ (f3.get m1 e2))))))
    · exact f9.get m2 (k8 _ _ (f7.get m2 (k6 _ _ (f5.get m2 e4))))
    · exact f9.get m3 (k8 _ _ (f7.get m3 e6))
    · exact f9.get m4 e8
    · have hb' : b ≠ s := by simpa using hb
      exact t19 b o hb' (k1 _ _ hb e)
end
def spSWrite (P : Program) (w : World) (C CS : Addr) : Sp := fun vs H Q _ => ∃ (s dy p dx lc ld lg hd a : Addr) (cs cs' : List (Addr × Ct)) (rs : List (Str × V)) (k j : Nat) (F : Nat → Prop) (c : Ct), vs = [.ref s, .ref a] ∧ StAt CS H s dy p hd rs k F ∧ BookAt P w C H p dx lc ld lg cs (dsOf (cs.map (·.2))) ∧ CtAt H a c ∧ CtOk (cs.map (·.2)) (dsOf (cs.map (·.2))) c ∧ cs.length < 400 ∧ Step cs cs' a c j ∧ (rs.length ≤ 900 ∧ rs.lookup (Str.ofString "put") = none) ∧ (s ≠ lc ∧ s ≠ ld ∧ s ≠ lg) ∧ (hd ≠ lc ∧ hd ≠ ld ∧ hd ≠ lg) ∧ (s ≠ p ∧ hd ≠ p) ∧
  ∀ (k' : Nat) (H' : Hp), BookAt P w C H' p dx lc ld lg cs' (dsOf (cs'.map (·.2))) → StAt CS H' s dy p hd rs k' (fun m => F m ∨ m = j) → (F j → k' = k) → (¬ F j → k' = k + 1) → Kp [lc, ld, lg, s, hd] H H' → KT H H' → Q (nV j) H'
section
variable {P : Program} {w : World} {K : PySem.W.Frag} {mg : Str → Option Value} {base : Heap} {C CS : Addr}
theorem ok_swrite {f fNm fPt fN fI : Addr} {fd fdNm fdPt fdN fdI : FuncData} (T : Txt K mg) (F : Fun K "write" "Store.write" s_Store_write f fd) (K_Book : Kl K mg "Book" C ["contents", "depths", "given"]) (K_Store : Kf K CS ["book", "here", "turns"]) (D_Book_named : DfM K C "named" "Book.named" s_Book_named ["self", "content"] fNm fdNm) (D_Store_put : DfM K CS "put" "Store.put" s_Store_put ["self", "name"] fPt fdPt)
    (G_Book_named : FnOk P w K mg base CX0 6 fNm fdNm ["self", "content"] (spNamed P w C)) (D_is_name : Df K mg "is_name" s_is_name ["book", "thing"] fN fdN) (D_is_int : DfD K mg "is_int" s_is_int ["thing", "least"] [.int 0] fI fdI) : FnOk P w K mg base CX0 7 f fd ["self", "content"] (spSWrite P w C CS) := by
  have G_Store_put : FnOk P w K mg base CX0 3 fPt fdPt ["self", "name"] (spPut P w C CS) := ok_put T D_Store_put.fn K_Book K_Store D_is_name D_is_int
  have cl := K_Store.cl
  have n1 := K_Store.na "book" (by simp)
  refine F.ok sc_Store_write (fun vs H Q E h => ?_) (fun cdv A outer s H vs Q E hr h => ?_)
  · obtain ⟨s, dy, p, dx, lc, ld, lg, hd, a, cs, cs', rs, k, j, F, c, rfl, _⟩ := h
    rfl
  · obtain ⟨s, dy, p, dx, lc, ld, lg, hd, a, cs, cs', rs, k, j, F, c, rfl, S, B, hc, ok, hlt, st, hrs, ns, nh, np, q⟩ := h
    have ob := S.ob
    have bob := B.ob
    refine ⟨_,
      (pss_cons
        (ps_set (i := 2) sc_Store_write.nd rfl (.inl rfl) (pe_meth (pe_fldK (K := K) rfl (pv 0) rfl) K_Book.cl D_Book_named.m G_Book_named (hr.mono (by omega)) D_Book_named.b .nil pass0 (pa_cons (pv 1) pa_nil)))
      (pss_cons
        (ps_expr (pe_meth (pv 0) K_Store.cl D_Store_put.m G_Store_put (hr.mono (by omega)) D_Store_put.b .nil pass0 (pa_cons (pv 2) pa_nil)))
      (pss_one
        (ps_ret (pv 2)))))
      , ?_⟩
    rw [show L2.start N_Store_write [V.ref s, V.ref a] = [some (.ref s), some (.ref a), none] from rfl]
    walk_at "x"
    refine w_named3 B hc ok hlt st fun H1 B1 k1 t1 => ?_
    have S1 : StAt CS H1 s dy p hd rs k F := S.kp k1 (by simp [ns.1, ns.2.1, ns.2.2]) (by simp [nh.1, nh.2.1, nh.2.2])
    have ob1 := S1.ob
    have kw : Kp [lc, ld, lg, s, hd] H H1 := fun b o hb e => k1 _ _ (by
        simp only [List.mem_cons, List.not_mem_nil, or_false, not_or] at hb ⊢
        exact ⟨hb.1, hb.2.1, hb.2.2.1⟩) e
    walk_at "g"
    refine w_meth' ob1 hrs.2 ?_
    walk_at "g"
    refine ⟨s, dy, p, dx, lc, ld, lg, hd, cs', _, rs, k, j, F, rfl, hrs.1, S1, B1, st.lt, fun hF => ?_, fun hF H2 S2 k2 t2 => ?_⟩
    · walk_at "g"
      exact q k H1 B1 ⟨S1.ob, S1.here.iff fun n => ⟨.inl, fun z => z.elim id fun z => z ▸ hF⟩, S1.ne⟩ (fun _ => rfl) (fun z => absurd hF z) kw t1
    · walk_at "g"
      exact q (k + 1) H2 (B1.kp k2 t2 (by simp [Ne.symm np.1, Ne.symm np.2]) (by simp [Ne.symm ns.1, Ne.symm nh.1]) (by simp [Ne.symm ns.2.1, Ne.symm nh.2.1]) (by simp [Ne.symm ns.2.2, Ne.symm nh.2.2])) S2 (fun z => absurd z hF) (fun _ => rfl) (kw.trans (fun b o hb e => k2 _ _ (by
          simp only [List.mem_cons, List.not_mem_nil, or_false, not_or] at hb ⊢
          exact ⟨hb.2.2.2.1, hb.2.2.2.2⟩) e)) (t1.trans t2)
end
/-! ### towns -/
def kvH (rs : List (Str × Addr)) : List (Key × V) := rs.map fun q => ((Sum.inr q.1 : Key), V.ref q.2)
theorem kvH_keys (rs : List (Str × Addr)) : (kvH rs).map (·.1) = (rs.map (·.1)).map Sum.inr := by
  unfold kvH
  rw [List.map_map, List.map_map]
  rfl
theorem kvH_none {rs : List (Str × Addr)} {z : Str} (h : z ∉ rs.map (·.1)) : valV (kvH rs) (Sum.inr z) = none := by
  unfold valV
  rw [List.find?_eq_none.mpr fun kv hkv e => h ?_]
  · rfl
  · obtain ⟨q, hq, rfl⟩ := List.mem_map.mp hkv
    have e2 := Sum.inr.inj (of_decide_eq_true e)
    exact List.mem_map.mpr ⟨q, hq, e2⟩
theorem kvH_some : ∀ {rs : List (Str × Addr)} {z : Str} {a : Addr}, (rs.map (·.1)).Nodup → (z, a) ∈ rs → valV (kvH rs) (Sum.inr z) = some (.ref a)
  | q :: rs, z, a, nd, h => by
    rw [List.map_cons, List.nodup_cons] at nd
    by_cases e : q.1 = z
    · rcases List.mem_cons.mp h with g | g
      · subst g
        exact valV_pos rfl
      · exact absurd (List.mem_map.mpr ⟨_, g, e.symm⟩) nd.1
    · rcases List.mem_cons.mp h with g | g
      · subst g
        exact absurd rfl e
      · have := kvH_some nd.2 g
        unfold valV at this ⊢
        show (List.find? _ (((Sum.inr q.1 : Key), V.ref q.2) :: kvH rs)).map _ = _
        rw [List.find?_cons_of_neg (by simpa using e)]
        exact this
theorem kvH_put {rs : List (Str × Addr)} {z : Str} {a : Addr} (h : z ∉ rs.map (·.1)) : putK (kvH rs) (Sum.inr z) (.ref a) = kvH (rs ++ [(z, a)]) := by
  unfold putK
  rw [if_neg]
  · unfold kvH
    rw [List.map_append]
    rfl
  · intro e
    obtain ⟨kv, hkv, e1⟩ := List.any_eq_true.mp e
    obtain ⟨q, hq, rfl⟩ := List.mem_map.mp hkv
    exact h (List.mem_map.mpr ⟨q, hq, Sum.inr.inj (of_decide_eq_true e1)⟩)
theorem kvH_is {rs : List (Str × Addr)} (nd : (rs.map (·.1)).Nodup) (z : Str) : (valV (kvH rs) (Sum.inr z)).isSome = decide (z ∈ rs.map (·.1)) := by
  by_cases h : z ∈ rs.map (·.1)
  · obtain ⟨q, hq, rfl⟩ := List.mem_map.mp h
    rw [kvH_some nd (a := q.2) hq, decide_eq_true h]
    rfl
  · rw [kvH_none h, decide_eq_false h]
    rfl
theorem w_dinZ {H : Hp} {Q : VK} {a : Addr} {kvs : List (Key × V)} {z : Str} (e : H a = some (.dK kvs)) (h : Q (.bl (valV kvs (Sum.inr z)).isSome) H) : rDIn (.ref a) (.str z) H Q := ⟨a, _, rfl, DGet.k (k := Sum.inr z) e, h⟩
theorem w_dnotinZ {H : Hp} {Q : VK} {a : Addr} {kvs : List (Key × V)} {z : Str} (e : H a = some (.dK kvs)) (h : Q (.bl (!(valV kvs (Sum.inr z)).isSome)) H) : rDNotIn (.ref a) (.str z) H Q := ⟨a, _, rfl, DGet.k (k := Sum.inr z) e, h⟩
theorem w_dgetZ {H : Hp} {Q : VK} {a : Addr} {kvs : List (Key × V)} {z : Str} {v : V} (e : H a = some (.dK kvs)) (e2 : valV kvs (Sum.inr z) = some v) (h : Q v H) : rDGet (.ref a) (.str z) H Q := ⟨a, v, rfl, e2 ▸ DGet.k (k := Sum.inr z) e, h⟩
theorem w_dget2Z {H : Hp} {Q : VK} {a : Addr} {kvs : List (Key × V)} {z : Str} {y : V} (e : H a = some (.dK kvs)) (h : Q ((valV kvs (Sum.inr z)).getD y) H) : rDGet2 a (.str z) y H Q := ⟨_, DGet.k (k := Sum.inr z) e, h⟩
theorem KT.kpI {M : List Addr} {H H' : Hp} (k : Kp M H H') (h : ∀ b ∈ M, ∃ o, H b = some o ∧ (∀ xs, o ≠ .tup xs) ∧ ∀ u xs, o ≠ .frz u (.tup xs)) : KT H H' := ⟨fun b ys e => k b _ (fun z => by
  obtain ⟨o, e2, n, _⟩ := h b z
  rw [e] at e2
  cases e2
  exact n _ rfl) e, fun b o ys e => k b _ (fun z => by
  obtain ⟨o2, e2, _, n⟩ := h b z
  rw [e] at e2
  cases e2
  exact n _ _ rfl) e⟩
structure TnAt (CT : Addr) (H : Hp) (t tx p hm tk : Addr) (rs : List (Str × Addr)) : Prop where
  ob : H t = some (.ins CT tx [("book", .ref p), ("homes", .ref hm), ("talks", .ref tk)])
  ho : H hm = some (.dK (kvH rs))
  nd : (rs.map (·.1)).Nodup
  few : rs.length ≤ 40
theorem TnAt.kp {CT : Addr} {M : List Addr} {H H' : Hp} {t tx p hm tk : Addr} {rs : List (Str × Addr)} (h : TnAt CT H t tx p hm tk rs) (k : Kp M H H') (h1 : t ∉ M) (h2 : hm ∉ M) : TnAt CT H' t tx p hm tk rs := ⟨k _ _ h1 h.ob, k _ _ h2 h.ho, h.nd, h.few⟩
theorem mk1_sameR {K : PySem.W.Frag} {C : Addr} {f : Str} {x : V} {H : Hp} {Qx : XK} {a : Addr} (ha : H a = none) (h : ∀ d H', Same H H' → H d = none → H' d = some (.xd [(f, x)]) → Qx (.ref C) (some d) H') :
    spInit1 K C f [.ref a, x] (upd H a (exo a C none)) (fun v H2 => v = .non ∧ ∃ (d : Addr) (fs : List (Str × V)), H2 a = some (exo a C (some d)) ∧ H2 d = some (exd d fs) ∧ H d = none ∧ Qx (.ref C) (some d) (upd (del H2 a) d (.xd fs))) (fun _ _ _ => False) := by
  refine ⟨a, x, rfl, upd_same, fun dx hd hne => ⟨rfl, dx, _, upd_same, ?_, (upd_none hd).1, h dx _ (fun b o e => ?_) (upd_none hd).1 upd_same⟩⟩
  · rw [upd_ne hne, upd_same]
  · have n1 : b ≠ dx := ne_of_none e (upd_none hd).1
    have n2 : b ≠ a := ne_of_none e ha
    rw [upd_ne n1, del_ne n2, upd_ne n2, upd_ne n1, upd_ne n2]
    exact e
/-- a class with a field label is raised -/
def LbNm (C : Addr) (H : Hp) (E : XK) (x : V) : Prop := ∀ (d : Addr) (H' : Hp), Same H H' → H d = none → H' d = some (.xd [("label", x)]) → E (.ref C) (some d) H'
def spTownInit (P : Program) (w : World) (C CT : Addr) : Sp := fun vs H Q _ => ∃ (t tx : Addr), vs = [.ref t] ∧ H t = some (.ins CT tx []) ∧ ∀ (p dx lc ld lg hm tk : Addr) (H' : Hp), H p = none → H lc = none → H ld = none → H lg = none → H hm = none → BookAt P w C H' p dx lc ld lg [] [] → TnAt CT H' t tx p hm tk [] → [p, lc, ld, lg, hm].Nodup → Kp [t] H H' → Q .non H'
def spBuild (P : Program) (w : World) (CT CU : Addr) : Sp := fun vs H Q _ => ∃ (t tx p hm tk : Addr) (rs : List (Str × Addr)) (z : Str), vs = [.ref t, .str z] ∧ TnAt CT H t tx p hm tk rs ∧ z ∉ rs.map (·.1) ∧ rs.length < 40 ∧
  ∀ (s dy hd a1 a2 a3 a4 : Addr) (H' : Hp), H s = none → H hd = none → StAt CU H' s dy p hd (hrs a1 a2 a3 a4) 0 (fun _ => False) → TnAt CT H' t tx p hm tk (rs ++ [(z, s)]) → Kp [hm] H H' → Q (.ref s) H'
def spBuildX (CT CK : Addr) : Sp := fun vs H Q E => ∃ (t tx p hm tk : Addr) (rs : List (Str × Addr)) (z : Str), vs = [.ref t, .str z] ∧ TnAt CT H t tx p hm tk rs ∧ z ∈ rs.map (·.1) ∧ LbNm CK H E (.str z)
def spTHouse (CT : Addr) : Sp := fun vs H Q _ => ∃ (t tx p hm tk a : Addr) (rs : List (Str × Addr)) (z : Str), vs = [.ref t, .str z] ∧ TnAt CT H t tx p hm tk rs ∧ (z, a) ∈ rs ∧ Q (.ref a) H
def spTHouseX (CT CN : Addr) : Sp := fun vs H Q E => ∃ (t tx p hm tk : Addr) (rs : List (Str × Addr)) (z : Str), vs = [.ref t, .str z] ∧ TnAt CT H t tx p hm tk rs ∧ z ∉ rs.map (·.1) ∧ LbNm CN H E (.str z)
def spLabels (CT : Addr) : Sp := fun vs H Q _ => ∃ (t tx p hm tk : Addr) (rs : List (Str × Addr)), vs = [.ref t] ∧ TnAt CT H t tx p hm tk rs ∧ ∀ (ys : List Str) (l : Addr) (H' : Hp), ys.Perm (rs.map (·.1)) → ys.Pairwise (fun x y => x.cps.toList < y.cps.toList) → H l = none → H' l = some (.lst (ys.map V.str)) → Same H H' → Q (.ref l) H'
section
variable {P : Program} {w : World} {K : PySem.W.Frag} {mg : Str → Option Value} {base : Heap} {C CS CU CT : Addr}
theorem ok_nhinit {f C : Addr} {fd : FuncData} (F : Fun K "__init__" "NoHouse.__init__" s_NoHouse___init__ f fd) (XT : OexC K C) (n1 : PySem.W.findIn K (.ref C) "label" = some none) : FnOk P w K mg base CX0 1 f fd ["self", "label"] (spInit1 K C "label") := by
  refine F.ok sc_NoHouse___init__ (fun vs H Q E h => ?_) (fun cdv A outer s H vs Q E hr h => ?_)
  · obtain ⟨a, x, rfl, _⟩ := h
    rfl
  · obtain ⟨a, x, rfl, e, q⟩ := h
    refine ⟨_,
      (pss_one
        (ps_ost (pv 0) (pv 1)))
      , ?_⟩
    rw [show L2.start N_NoHouse___init__ [V.ref a, x] = [some (.ref a), some x] from rfl]
    refine w_ost ?_
    walk_at "x"
    exact ⟨a, C, rfl, XT, n1, .inl ⟨e, fun dx hd hne => q dx hd hne⟩⟩
theorem ok_tkinit {f C : Addr} {fd : FuncData} (F : Fun K "__init__" "Taken.__init__" s_Taken___init__ f fd) (XT : OexC K C) (n1 : PySem.W.findIn K (.ref C) "label" = some none) : FnOk P w K mg base CX0 1 f fd ["self", "label"] (spInit1 K C "label") := by
  refine F.ok sc_Taken___init__ (fun vs H Q E h => ?_) (fun cdv A outer s H vs Q E hr h => ?_)
  · obtain ⟨a, x, rfl, _⟩ := h
    rfl
  · obtain ⟨a, x, rfl, e, q⟩ := h
    refine ⟨_,
      (pss_one
        (ps_ost (pv 0) (pv 1)))
      , ?_⟩
    rw [show L2.start N_Taken___init__ [V.ref a, x] = [some (.ref a), some x] from rfl]
    refine w_ost ?_
    walk_at "x"
    exact ⟨a, C, rfl, XT, n1, .inl ⟨e, fun dx hd hne => q dx hd hne⟩⟩
theorem ok_towninit {f fB : Addr} {fd fdB : FuncData} (T : Txt K mg) (F : Fun K "__init__" "Town.__init__" s_Town___init__ f fd) (K_Book : Kl K mg "Book" C ["contents", "depths", "given"]) (K_Town : Kl K mg "Town" CT ["book", "homes", "talks"]) (M_Book : Mk K C fB) (D_Book___init__ : DfM K C "__init__" "Book.__init__" s_Book___init__ ["self"] fB fdB) : FnOk P w K mg base CX0 3 f fd ["self"] (spTownInit P w C CT) := by
  have G_Book___init__ : FnOk P w K mg base CX0 1 fB fdB ["self"] (spBookInit P w C) := ok_bookinit T D_Book___init__.fn K_Book
  have cl := K_Town.cl
  have n1 := K_Town.na "book" (by simp)
  have n2 := K_Town.na "homes" (by simp)
  have n3 := K_Town.na "talks" (by simp)
  refine F.ok sc_Town___init__ (fun vs H Q E h => ?_) (fun cdv A outer s H vs Q E hr h => ?_)
  · obtain ⟨t, tx, rfl, _⟩ := h
    rfl
  · obtain ⟨t, tx, rfl, ht, q⟩ := h
    refine ⟨_,
      (pss_cons
        (ps_fld (pv 0) (pe_make0 M_Book G_Book___init__ (hr.mono (by omega)) (by rfl) K_Book.g D_Book___init__.b .nil pass0) rfl)
      (pss_cons
        (ps_fld (pv 0) pe_dnewK rfl)
      (pss_one
        (ps_fld (pv 0) (pe_lst pa_nil) rfl))))
      , ?_⟩
    rw [show L2.start N_Town___init__ [V.ref t] = [some (.ref t)] from rfl]
    walk_at "x"
    refine w_make' fun p dx H1 hp hdx hne e1 k1 => ?_
    refine ⟨p, dx, rfl, e1, fun lc ld lg H2 h1 h2 h3 B2 k2 => ⟨rfl, ?_⟩⟩
    have tp : t ≠ p := ne_of_none ht hp
    have ht1 := k1 _ _ ht
    have ht2 := k2 _ _ (by simpa using tp) ht1
    walk_at "g"
    refine w_fldS' ht2 cl n1 (by decide) fun H3 o3 f3 => ?_
    walk_at "g"
    refine w_new fun hm H4 hhm ehm k4 => ?_
    have o4 := k4 _ _ o3
    walk_at "g"
    refine w_fldS' o4 cl n2 (show (1 : Nat) < 1000 by decide) fun H5 o5 f5 => ?_
    walk_at "g"
    refine w_new fun tk H6 htk etk k6 => ?_
    have o6 := k6 _ _ o5
    walk_at "g"
    refine w_fldS' o6 cl n3 (show (2 : Nat) < 1000 by decide) fun H7 o7 f7 => ?_
    have nt : hm ≠ t := (ne_of_none o3 hhm).symm
    have t27 : Kp [t] H2 H7 := fun b o hb e => by
      have hb' : b ≠ t := by simpa using hb
      exact f7.get hb' (k6 _ _ (f5.get hb' (k4 _ _ (f3.get hb' e))))
    have l1 : lc ≠ t := (ne_of_none ht1 h1).symm
    have l2 : ld ≠ t := (ne_of_none ht1 h2).symm
    have l3 : lg ≠ t := (ne_of_none ht1 h3).symm
    have m0 : p ≠ hm := ne_of_none (f3.get tp.symm B2.ob) hhm
    have m1 : lc ≠ hm := ne_of_none (f3.get l1 B2.co) hhm
    have m2 : ld ≠ hm := ne_of_none (f3.get l2 B2.de) hhm
    have m3 : lg ≠ hm := ne_of_none (f3.get l3 B2.gi.at') hhm
    have a1 : p ≠ lc := ne_of B2.ob B2.co (fun z => nomatch z)
    have a2 : p ≠ ld := ne_of B2.ob B2.de (fun z => nomatch z)
    have a3 : p ≠ lg := ne_of B2.ob B2.gi.at' (fun z => nomatch z)
    have a4 : lc ≠ lg := ne_of B2.co B2.gi.at' (fun z => nomatch z)
    have a5 : ld ≠ lg := ne_of B2.de B2.gi.at' (fun z => nomatch z)
    have hm0 : H hm = none := by
      cases e : H hm with
      | none => rfl
      | some o =>
        rw [f3.get nt (k2 _ _ (by simpa using ne_of_none e hp) (k1 _ _ e))] at hhm
        cases hhm
    refine q p dx lc ld lg hm tk H7 hp (k1.free h1) (k1.free h2) (k1.free h3) hm0 (B2.kp t27 (KT.kpI t27 (by simp [ht2])) (by simpa using tp.symm) (by simpa using l1) (by simpa using l2) (by simpa using l3)) ⟨o7, f7.get nt (k6 _ _ (f5.get nt ehm)), by simp, by simp⟩ (by simp [a1, a2, a3, a4, a5, B2.ne, m0, m1, m2, m3]) fun b o hb e => ?_
    exact t27 b o hb (k2 _ _ (by simpa using ne_of_none e hp) (k1 _ _ e))
theorem ok_build {f fS fU : Addr} {fd fdS fdU : FuncData} (T : Txt K mg) (F : Fun K "build" "Town.build" s_Town_build f fd) (K_Store : Kl K mg "Store" CS ["book", "here", "turns"]) (K_House : Kl K mg "House" CU ["book", "here", "turns", "stands", "lately", "others", "pinned"]) (K_Town : Kl K mg "Town" CT ["book", "homes", "talks"]) (M_House : Mk K CU fU) (D_Store___init__ : DfM K CS "__init__" "Store.__init__" s_Store___init__ ["self", "book"] fS fdS)
    (D_House___init__ : DfM K CU "__init__" "House.__init__" s_House___init__ ["self", "book"] fU fdU) (R_Store : ClX.CRead K CS (.type "type")) (V_Store___init__ : ClX.CVal K CS (.type "type") "__init__" (.ref fS) (.ref fS)) : FnOk P w K mg base CX0 5 f fd ["self", "label"] (spBuild P w CT CU) := by
  have G_House___init__ : FnOk P w K mg base CX0 2 fU fdU ["self", "book"] (spHouseInit CU) := ok_houseinit T D_House___init__.fn K_Store K_House D_Store___init__ R_Store V_Store___init__
  have cl := K_Town.cl
  have n1 := K_Town.na "book" (by simp)
  have n2 := K_Town.na "homes" (by simp)
  refine F.ok sc_Town_build (fun vs H Q E h => ?_) (fun cdv A outer s H vs Q E hr h => ?_)
  · obtain ⟨t, tx, p, hm, tk, rs, z, rfl, _⟩ := h
    rfl
  · obtain ⟨t, tx, p, hm, tk, rs, z, rfl, TN, hz, hlen, q⟩ := h
    have hu := hu_of hr
    have ob := TN.ob
    have eho := TN.ho
    refine ⟨_,
      (pss_cons
        (ps_if (pt_cmp (pc_din hu (pv 1) (pe_fldK (K := K) rfl (pv 0) rfl)))
          pss_never
          pss_nil)
      (pss_cons
        (ps_dput hu (pe_fldK (K := K) rfl (pv 0) rfl) (pv 1) (pe_make M_House G_House___init__ (hr.mono (by omega)) (by rfl) K_House.g D_House___init__.b .nil pass0 (pa_cons (pe_fldK (K := K) rfl (pv 0) rfl) pa_nil)) rfl)
      (pss_one
        (ps_ret (pe_dget hu (pe_fldK (K := K) rfl (pv 0) rfl) (pv 1) (fun _ _ => rfl))))))
      , ?_⟩
    rw [show L2.start N_Town_build [V.ref t, V.str z] = [some (.ref t), some (.str z)] from rfl]
    refine w_seq ?_
    walk_at "x"
    refine w_dinZ eho ?_
    rw [kvH_none hz]
    refine ⟨_, rfl, ?_⟩
    rw [if_neg (by simp)]
    walk_at "g"
    refine w_make' fun s dy H1 hs hdy hne e1 k1 => ?_
    refine ⟨s, dy, p, rfl, e1, fun hd a1 a2 a3 a4 H2 hhd h1 h2 h3 h4 S2 nh ns k2 => ⟨rfl, ?_⟩⟩
    have s2 : Same H H2 := fun b o e => k2 _ _ (by simpa using ne_of_none e hs) (k1 _ _ e)
    have ob2 := s2 _ _ ob
    have eho2 := s2 _ _ eho
    obtain ⟨fk, efk⟩ := S2.st.here.obj
    have n_s : hm ≠ s := ne_of_none eho hs
    have n_hd : hm ≠ hd := ne_of_none (k1 _ _ eho) hhd
    walk_at "g"
    refine w_dputS eho2 (by unfold kvH; rw [List.length_map, sizeLine_eq]; omega) fun H3 e3 o3 => ?_
    rw [kvH_put hz] at e3
    have n_t : t ≠ hm := ne_of ob eho (fun z => nomatch z)
    have ob3 := o3.get n_t ob2
    have nd3 : ((rs ++ [(z, s)]).map (·.1)).Nodup := by
      rw [List.map_append, List.nodup_append]
      refine ⟨TN.nd, by simp, fun a ha b hb e => hz ?_⟩
      have e2 : b = z := by simpa using hb
      rw [← e2, ← e]
      exact ha
    walk_at "g"
    refine w_dgetZ e3 (kvH_some nd3 (a := s) (by simp)) ?_
    walk_at "g"
    refine q s dy hd a1 a2 a3 a4 H3 hs (k1.free hhd) ?_ ⟨ob3, e3, nd3, by rw [List.length_append]; simp only [List.length_cons, List.length_nil]; omega⟩ fun b o hb e => ?_
    · exact S2.st.kp (M := [hm]) (o3.kp (by simp)) (by simpa using n_s.symm) (by simpa using n_hd.symm)
    · exact o3.get (by simpa using hb) (s2 _ _ e)
theorem ok_buildX {f fE CK : Addr} {fd fdE : FuncData} (T : Txt K mg) (F : Fun K "build" "Town.build" s_Town_build f fd) (K_Town : Kl K mg "Town" CT ["book", "homes", "talks"]) (FE : Fun K "__init__" "Taken.__init__" s_Taken___init__ fE fdE) (X_Taken : ExnI K mg "Taken" CK fE fdE ["self", "label"] ["label"]) : FnOk P w K mg base (L2.CX P w) 3 f fd ["self", "label"] (spBuildX CT CK) := by
  let C_Taken := CK
  have G_Taken___init__ : FnOk P w K mg base CX0 1 fE fdE ["self", "label"] (spInit1 K CK "label") := ok_tkinit FE X_Taken.T (X_Taken.nf "label" (by simp))
  have cl := K_Town.cl
  have n2 := K_Town.na "homes" (by simp)
  refine F.okX sc_Town_build (fun vs H Q E h => ?_) (fun cdv A outer s H vs Q E hr h => ?_)
  · obtain ⟨t, tx, p, hm, tk, rs, z, rfl, _⟩ := h
    rfl
  · obtain ⟨t, tx, p, hm, tk, rs, z, rfl, TN, hz, qe⟩ := h
    have hu := hu_of hr
    have ob := TN.ob
    have eho := TN.ho
    refine ⟨_,
      (pss_cons
        (ps_if (pt_cmp (pc_din hu (pv 1) (pe_fldK (K := K) rfl (pv 0) rfl)))
          (pss_one
            (ps_raise rfl (takes_of rfl rfl rfl rfl) (pmk_oex X_Taken.T X_Taken.i X_Taken.t G_Taken___init__ (hr.mono (by omega)) X_Taken.b .nil pass0 (by rfl) X_Taken.g (pa_cons (pv 1) pa_nil))))
          pss_nil)
      pss_never)
      , ?_⟩
    rw [show L2.start N_Town_build [V.ref t, V.str z] = [some (.ref t), some (.str z)] from rfl]
    refine w_seq ?_
    walk_at "x"
    refine w_dinZ eho ?_
    rw [kvH_is TN.nd]
    refine ⟨_, rfl, ?_⟩
    rw [if_pos (decide_eq_true hz)]
    walk_at "g"
    refine w_mkO ?_
    walk_at "g"
    exact ⟨by simp, fun a ha => mk1_sameR ha fun d H4 k4 hd e4 => qe d H4 k4 hd e4⟩
theorem ok_thouse {f : Addr} {fd : FuncData} (T : Txt K mg) (F : Fun K "house" "Town.house" s_Town_house f fd) (K_Town : Kl K mg "Town" CT ["book", "homes", "talks"]) : FnOk P w K mg base CX0 3 f fd ["self", "label"] (spTHouse CT) := by
  have cl := K_Town.cl
  have n2 := K_Town.na "homes" (by simp)
  refine F.ok sc_Town_house (fun vs H Q E h => ?_) (fun cdv A outer s H vs Q E hr h => ?_)
  · obtain ⟨t, tx, p, hm, tk, a, rs, z, rfl, _⟩ := h
    rfl
  · obtain ⟨t, tx, p, hm, tk, a, rs, z, rfl, TN, hz, q⟩ := h
    have hu := hu_of hr
    have ob := TN.ob
    have eho := TN.ho
    have ev := kvH_some TN.nd hz
    refine ⟨_,
      (pss_cons
        (ps_if (pt_cmp (pc_dnotin hu (pv 1) (pe_fldK (K := K) rfl (pv 0) rfl)))
          pss_never
          pss_nil)
      (pss_one
        (ps_ret (pe_dget hu (pe_fldK (K := K) rfl (pv 0) rfl) (pv 1) (fun _ _ => rfl)))))
      , ?_⟩
    rw [show L2.start N_Town_house [V.ref t, V.str z] = [some (.ref t), some (.str z)] from rfl]
    refine w_seq ?_
    walk_at "x"
    refine w_dnotinZ eho ?_
    rw [ev]
    refine ⟨_, rfl, ?_⟩
    rw [if_neg (by simp)]
    walk_at "g"
    refine w_dgetZ eho ev ?_
    walk_at "g"
    exact q
theorem ok_thouseX {f fE CN : Addr} {fd fdE : FuncData} (T : Txt K mg) (F : Fun K "house" "Town.house" s_Town_house f fd) (K_Town : Kl K mg "Town" CT ["book", "homes", "talks"]) (FE : Fun K "__init__" "NoHouse.__init__" s_NoHouse___init__ fE fdE) (X_NoHouse : ExnI K mg "NoHouse" CN fE fdE ["self", "label"] ["label"]) : FnOk P w K mg base (L2.CX P w) 3 f fd ["self", "label"] (spTHouseX CT CN) := by
  let C_NoHouse := CN
  have G_NoHouse___init__ : FnOk P w K mg base CX0 1 fE fdE ["self", "label"] (spInit1 K CN "label") := ok_nhinit FE X_NoHouse.T (X_NoHouse.nf "label" (by simp))
  have cl := K_Town.cl
  have n2 := K_Town.na "homes" (by simp)
  refine F.okX sc_Town_house (fun vs H Q E h => ?_) (fun cdv A outer s H vs Q E hr h => ?_)
  · obtain ⟨t, tx, p, hm, tk, rs, z, rfl, _⟩ := h
    rfl
  · obtain ⟨t, tx, p, hm, tk, rs, z, rfl, TN, hz, qe⟩ := h
    have hu := hu_of hr
    have ob := TN.ob
    have eho := TN.ho
    refine ⟨_,
      (pss_cons
        (ps_if (pt_cmp (pc_dnotin hu (pv 1) (pe_fldK (K := K) rfl (pv 0) rfl)))
          (pss_one
            (ps_raise rfl (takes_of rfl rfl rfl rfl) (pmk_oex X_NoHouse.T X_NoHouse.i X_NoHouse.t G_NoHouse___init__ (hr.mono (by omega)) X_NoHouse.b .nil pass0 (by rfl) X_NoHouse.g (pa_cons (pv 1) pa_nil))))
          pss_nil)
      (pss_one
        (ps_ret (pe_dget hu (pe_fldK (K := K) rfl (pv 0) rfl) (pv 1) (fun _ _ => rfl)))))
      , ?_⟩
    rw [show L2.start N_Town_house [V.ref t, V.str z] = [some (.ref t), some (.str z)] from rfl]
    refine w_seq ?_
    walk_at "x"
    refine w_dnotinZ eho ?_
    rw [kvH_none hz]
    refine ⟨_, rfl, ?_⟩
    rw [if_pos (by simp)]
    walk_at "g"
    refine w_mkO ?_
    walk_at "g"
    exact ⟨by simp, fun a ha => mk1_sameR ha fun d H4 k4 hd e4 => qe d H4 k4 hd e4⟩
theorem ok_labels {f : Addr} {fd : FuncData} (T : Txt K mg) (F : Fun K "labels" "Town.labels" s_Town_labels f fd) (K_Town : Kl K mg "Town" CT ["book", "homes", "talks"]) : FnOk P w K mg base CX0 1 f fd ["self"] (spLabels CT) := by
  have cl := K_Town.cl
  have n2 := K_Town.na "homes" (by simp)
  refine F.ok sc_Town_labels (fun vs H Q E h => ?_) (fun cdv A outer s H vs Q E hr h => ?_)
  · obtain ⟨t, tx, p, hm, tk, rs, rfl, _⟩ := h
    rfl
  · obtain ⟨t, tx, p, hm, tk, rs, rfl, TN, q⟩ := h
    have ob := TN.ob
    have eho := TN.ho
    refine ⟨_,
      (pss_one
        (ps_ret (pe_callB (r := rSortDS) (c_sortDS rfl) (by rfl) T.n_sorted (by decide +kernel) (pa_cons (pe_fldK (K := K) rfl (pv 0) rfl) pa_nil))))
      , ?_⟩
    rw [show L2.start N_Town_labels [V.ref t] = [some (.ref t)] from rfl]
    walk_at "x"
    refine w_sortDS eho (kvH_keys rs) TN.nd (by have := TN.few; rw [List.length_map]; omega) fun ys l H1 hp hs hl e1 k1 => ?_
    exact q ys l H1 hp hs hl e1 k1
theorem ok_tsweepX {f fH fE CN : Addr} {fd fdH fdE : FuncData} (T : Txt K mg) (F : Fun K "sweep" "Town.sweep" s_Town_sweep f fd) (K_Town : Kl K mg "Town" CT ["book", "homes", "talks"]) (D_Town_house : DfM K CT "house" "Town.house" s_Town_house ["self", "label"] fH fdH) (FE : Fun K "__init__" "NoHouse.__init__" s_NoHouse___init__ fE fdE) (X_NoHouse : ExnI K mg "NoHouse" CN fE fdE ["self", "label"] ["label"]) : FnOk P w K mg base (L2.CX P w) 5 f fd ["self", "label"] (spTHouseX CT CN) := by
  have G_Town_house : FnOk P w K mg base (L2.CX P w) 3 fH fdH ["self", "label"] (spTHouseX CT CN) := ok_thouseX T D_Town_house.fn K_Town FE X_NoHouse
  have cl := K_Town.cl
  refine F.okX sc_Town_sweep (fun vs H Q E h => ?_) (fun cdv A outer s H vs Q E hr h => ?_)
  · obtain ⟨t, tx, p, hm, tk, rs, z, rfl, _⟩ := h
    rfl
  · obtain ⟨t, tx, p, hm, tk, rs, z, rfl, TN, hz, qe⟩ := h
    have ob := TN.ob
    refine ⟨_,
      (pss_one
        (ps_ret (pe_deadM (pe_meth (pv 0) K_Town.cl D_Town_house.m G_Town_house (hr.mono (by omega)) D_Town_house.b .nil (passes_call (takes_of rfl rfl rfl rfl) (fun _ _ _ _ h => h)) (pa_cons (pv 1) pa_nil)))))
      , ?_⟩
    rw [show L2.start N_Town_sweep [V.ref t, V.str z] = [some (.ref t), some (.str z)] from rfl]
    refine w_dead ?_
    walk_at "x"
    exact ⟨t, tx, p, hm, tk, rs, z, rfl, TN, hz, qe⟩
end
/-- what _law_town_why asks of it -/
def TWhyL (C : Addr) (nm : Str) : (XK → Hp → VK → Prop) → Hp → VK → Prop := fun tl H Q => ∀ (H1 : Hp) (Q0 : VK), Same H H1 → tl (fun cls d H' => cls = .ref C ∧ ∃ (dd : Addr) (x : V), d = some dd ∧ H' dd = some (.xd [("label", x)]) ∧ ∀ (t2 : Addr) (H2 : Hp), Same H' H2 → H2 t2 = some (.tup [.str nm, x]) → Q (.ref t2) H2) H1 Q0
local macro_rules | `(tactic| walk_at "s") => `(tactic| first
  | with_reducible refine w_xf ?_
  )
/-- pe_bm, the facts told by their name (within `except .. as e` the reading may not name the suite) -/
theorem pe_bmK {X : Cx} {K : PySem.W.Frag} {T id : String} {name : Str} {o e : Expr} {es : List Expr} {to : TE} {t : TA} {r : V → List V → Hp → VK → Prop} {apos cpos : Pos} (hK : X.K = K) (pa : PySem.PlainAttrs T) (slot : PySem.Slot T name id) (hty : typeOf (.builtin id) = pure (.type "method_descriptor")) (hm : MtR X id r) (ho : PE X o to) (ha : PA X (e :: es) t)
    (hbase : attributeBase o name X.env (eval o X.env) = eval o X.env := by rfl)
    (hfew : ((backTo cpos (starEach (e :: es) X.env)).all (fun x => !x.1) && (backToKw cpos (keywordEach [] X.env)).all (fun x => x.1.isSome)
      && decide ((e :: es).length + ([] : List Keyword).length + (if ([] : List Keyword).isEmpty then 0 else 1) < 30)) = true := by rfl)
    (hline : (apos.endLine == cpos.line) = true := by rfl) (hs : starEach (e :: es) X.env = (false, eval e X.env) :: starEach es X.env := by rfl) (hplain : (backTo cpos (starEach es X.env)).any (·.1) = false := by rfl) :
    PE X (.Call (.Attribute o name apos) (e :: es) [] cpos) (tBM K T r to t) := by
  subst hK
  exact pe_bm pa slot hty hm ho ha hbase hfew hline hs hplain
theorem pe_deedN {X : Cx} {n : Nat} {W : WX} {e : Expr} {R : XK → TE} (hn : X.N.length = n) (tk : Takes X W) (h : ∀ (W' : WX) (E : XK), Takes X W' → (∀ cls d σ' H', E cls d H' → W' cls d σ' H') → PE X e (R E)) : PE X e (tDeed n W R) := by
  subst hn
  exact pe_deed tk h
/-! ### _law_town_why of a deed that is refused with NoHouse -/
section
variable {P : Program} {w : World} {K : PySem.W.Frag} {mg : Str → Option Value} {base : Heap}
theorem why_gives_NoHouse {Nx : List Str} {qx : Str} {scx : Scope} {fx : Addr} {cdx : Value} {Ax : Around} {ox : List Env} {sx : Shared} {Hx : Hp} {Ex : XK} {q : Str} {fE C_HouseError C_NoHouse C_Taken C_NoTalk C_TooMany C_NoMark C_Broken C_Lack C_NoName g : Addr} {fdE : FuncData} {cdg : Value} (T : Txt K mg) (X_NoHouse : ExnI K mg "NoHouse" C_NoHouse fE fdE ["self", "label"] ["label"])
    (g_HouseError : mg "HouseError" = some (.ref C_HouseError)) (g_NoHouse : mg "NoHouse" = some (.ref C_NoHouse)) (g_Taken : mg "Taken" = some (.ref C_Taken)) (g_NoTalk : mg "NoTalk" = some (.ref C_NoTalk)) (g_TooMany : mg "TooMany" = some (.ref C_TooMany)) (g_NoMark : mg "NoMark" = some (.ref C_NoMark)) (g_Broken : mg "Broken" = some (.ref C_Broken)) (g_Lack : mg "Lack" = some (.ref C_Lack)) (g_NoName : mg "NoName" = some (.ref C_NoName))
    (xm_NoHouse_HouseError : PySem.W.exmOne K (.ref C_NoHouse) (.ref C_HouseError) = some true)
    (kq_NoHouse_NoHouse : PySem.W.kitOne K (.ref C_NoHouse) (.ref C_NoHouse) = some true)
    (kq_NoHouse_Taken : PySem.W.kitOne K (.ref C_NoHouse) (.ref C_Taken) = some false)
    (kq_NoHouse_NoTalk : PySem.W.kitOne K (.ref C_NoHouse) (.ref C_NoTalk) = some false)
    (kq_NoHouse_TooMany : PySem.W.kitOne K (.ref C_NoHouse) (.ref C_TooMany) = some false)
    (kq_NoHouse_NoMark : PySem.W.kitOne K (.ref C_NoHouse) (.ref C_NoMark) = some false)
    (kq_NoHouse_Broken : PySem.W.kitOne K (.ref C_NoHouse) (.ref C_Broken) = some false)
    (kq_NoHouse_Lack : PySem.W.kitOne K (.ref C_NoHouse) (.ref C_Lack) = some false)
    (kq_NoHouse_NoName : PySem.W.kitOne K (.ref C_NoHouse) (.ref C_NoName) = some false)
    (kq_NoHouse_ValueError : PySem.W.kitOne K (.ref C_NoHouse) (.type "ValueError") = some true) :
    LamX.GivesTo (cxOf CX0 P w K mg base Nx qx scx fx cdx Ax ox sx Hx Ex).nox N_law_town_why "_law_town_why" (defScope s_law_town_why) g cdg (defBody s_law_town_why) "_law_deed" q (TWhyL C_NoHouse (Str.ofString "NoHouse")) := by
  intro f c' s H Q tl act hc h
  refine ⟨_,
      (pss_cons
        (ps_set (i := 1) sc_law_town_why.nd rfl (.inl rfl) (pe_tup (pa_cons pe_str (pa_cons pe_non pa_nil))))
      (pss_cons
        (p_tryAs (i := 2) rfl rfl sc_law_town_why.nd rfl rfl ⟨rfl, by decide, .inl g_HouseError⟩ (fun W pn xe tk po =>
          (pss_one
            (ps_expr (pe_deedN (n := 4) (by rfl) tk fun W1 E1 tk1 hW1 => act W1 _ _ E1 _ _ tk1 hW1))))
        (fun a oe cls d pn hz hf => pss_guard (P := cls = .ref C_NoHouse) (fun hg =>
          (pss_cons
            (ps_set (i := 3) sc_law_town_why.nd rfl (.inl rfl) (pe_lst (pa_cons (pe_callB (r := rIsF K C_NoHouse a d) (call_isF X_NoHouse.ec hg hz hf) (by rfl) T.n_isinstance (by decide +kernel) (pa_cons (pv 2) (pa_cons (pe_glob (v := .ref C_NoHouse) rfl g_NoHouse rfl) pa_nil))) (pa_cons (pe_callB (r := rIsF K C_NoHouse a d) (call_isF X_NoHouse.ec hg hz hf) (by rfl) T.n_isinstance (by decide +kernel) (pa_cons (pv 2) (pa_cons (pe_glob (v := .ref C_Taken) rfl g_Taken rfl) pa_nil))) (pa_cons (pe_callB (r := rIsF K C_NoHouse a d) (call_isF X_NoHouse.ec hg hz hf) (by rfl) T.n_isinstance (by decide +kernel) (pa_cons (pv 2) (pa_cons (pe_glob (v := .ref C_NoTalk) rfl g_NoTalk rfl) pa_nil))) (pa_cons (pe_callB (r := rIsF K C_NoHouse a d) (call_isF X_NoHouse.ec hg hz hf) (by rfl) T.n_isinstance (by decide +kernel) (pa_cons (pv 2) (pa_cons (pe_glob (v := .ref C_TooMany) rfl g_TooMany rfl) pa_nil))) pa_nil))))))
          (pss_cons
            (ps_set (i := 3) sc_law_town_why.nd rfl (.inl rfl) (pe_op op_cat (pv 3) (pe_lst (pa_cons (pe_callB (r := rIsF K C_NoHouse a d) (call_isF X_NoHouse.ec hg hz hf) (by rfl) T.n_isinstance (by decide +kernel) (pa_cons (pv 2) (pa_cons (pe_glob (v := .ref C_NoMark) rfl g_NoMark rfl) pa_nil))) (pa_cons (pe_callB (r := rIsF K C_NoHouse a d) (call_isF X_NoHouse.ec hg hz hf) (by rfl) T.n_isinstance (by decide +kernel) (pa_cons (pv 2) (pa_cons (pe_glob (v := .ref C_Broken) rfl g_Broken rfl) pa_nil))) (pa_cons (pe_callB (r := rIsF K C_NoHouse a d) (call_isF X_NoHouse.ec hg hz hf) (by rfl) T.n_isinstance (by decide +kernel) (pa_cons (pv 2) (pa_cons (pe_glob (v := .ref C_Lack) rfl g_Lack rfl) pa_nil))) (pa_cons (pe_callB (r := rIsF K C_NoHouse a d) (call_isF X_NoHouse.ec hg hz hf) (by rfl) T.n_isinstance (by decide +kernel) (pa_cons (pv 2) (pa_cons (pe_glob (v := .ref C_NoName) rfl g_NoName rfl) pa_nil))) pa_nil)))))))
          (pss_cons
            (ps_set (i := 1) sc_law_town_why.nd rfl (.inl rfl) (pe_tup (pa_cons pe_str (pa_cons pe_non pa_nil))))
          (pss_one
            (ps_if (PW.pt (pw_and (pt_val (pe_callB (r := rIsF K C_NoHouse a d) (call_isF X_NoHouse.ec hg hz hf) (by rfl) T.n_isinstance (by decide +kernel) (pa_cons (pv 2) (pa_cons (pe_bltn (v := .ty "ValueError") (u := .type "ValueError") (by rfl) T.n_ValueError (by decide +kernel) rfl) pa_nil)))) (pw_and1 (pt_cmpR op_eq (pe_bmK (K := K) rfl (r := rCount K) PySem.F.plainAttrs_list PySem.F.slot_list_count PySem.F.type_list_count mt_countF (pv 3) (pa_cons pe_bl pa_nil)) pe_int (nomark _)))))
              (pss_cons
                (ps_set (i := 1) sc_law_town_why.nd rfl (.inl rfl) (pe_tup (pa_cons pe_str (pa_cons pe_non pa_nil))))
              (pss_cons
                (ps_if (PW.pt (pw_or (pt_val (pe_callB (r := rIsF K C_NoHouse a d) (call_isF X_NoHouse.ec hg hz hf) (by rfl) T.n_isinstance (by decide +kernel) (pa_cons (pv 2) (pa_cons (pe_glob (v := .ref C_NoHouse) rfl g_NoHouse rfl) pa_nil)))) (pw_or1 (pt_val (pe_callB (r := rIsF K C_NoHouse a d) (call_isF X_NoHouse.ec hg hz hf) (by rfl) T.n_isinstance (by decide +kernel) (pa_cons (pv 2) (pa_cons (pe_glob (v := .ref C_Taken) rfl g_Taken rfl) pa_nil)))))))
                  (pss_one
                    (ps_set (i := 1) sc_law_town_why.nd rfl (.inl rfl) (pe_tup (pa_cons (pe_ix (r := rIxL K) ix_list (pe_lst (pa_cons pe_str (pa_cons pe_str pa_nil))) (pe_bmK (K := K) rfl (r := rIndex K) PySem.F.plainAttrs_list PySem.F.slot_list_index PySem.F.type_list_index mt_index (pv 3) (pa_cons pe_bl pa_nil)) (fun _ _ => rfl)) (pa_cons (pe_xf X_NoHouse.f (X_NoHouse.nf "label" (by simp)) hz hf (pv 2)) pa_nil)))))
                  pss_nil)
              (pss_cons
                (ps_if (pt_val (pe_callB (r := rIsF K C_NoHouse a d) (call_isF X_NoHouse.ec hg hz hf) (by rfl) T.n_isinstance (by decide +kernel) (pa_cons (pv 2) (pa_cons (pe_glob (v := .ref C_NoTalk) rfl g_NoTalk rfl) pa_nil))))
                  pss_never
                  pss_nil)
              (pss_cons
                (ps_if (pt_val (pe_callB (r := rIsF K C_NoHouse a d) (call_isF X_NoHouse.ec hg hz hf) (by rfl) T.n_isinstance (by decide +kernel) (pa_cons (pv 2) (pa_cons (pe_glob (v := .ref C_NoMark) rfl g_NoMark rfl) pa_nil))))
                  pss_never
                  pss_nil)
              (pss_cons
                (ps_if (pt_val (pe_callB (r := rIsF K C_NoHouse a d) (call_isF X_NoHouse.ec hg hz hf) (by rfl) T.n_isinstance (by decide +kernel) (pa_cons (pv 2) (pa_cons (pe_glob (v := .ref C_Broken) rfl g_Broken rfl) pa_nil))))
                  pss_never
                  pss_nil)
              (pss_one
                (ps_if (PW.pt (pw_or (pt_val (pe_callB (r := rIsF K C_NoHouse a d) (call_isF X_NoHouse.ec hg hz hf) (by rfl) T.n_isinstance (by decide +kernel) (pa_cons (pv 2) (pa_cons (pe_glob (v := .ref C_Lack) rfl g_Lack rfl) pa_nil)))) (pw_or1 (pt_val (pe_callB (r := rIsF K C_NoHouse a d) (call_isF X_NoHouse.ec hg hz hf) (by rfl) T.n_isinstance (by decide +kernel) (pa_cons (pv 2) (pa_cons (pe_glob (v := .ref C_NoName) rfl g_NoName rfl) pa_nil)))))))
                  pss_never
                  pss_nil)))))))
              pss_nil))))))))
      (pss_one
        (ps_ret (pv 1)))))
    , ?_⟩
  rw [show L2.start N_law_town_why [V.ref f] = [some (.ref f), none, none, none] from rfl]
  walk_at "x"
  refine w_new fun t1 H1 ht1 e1 k1 => ?_
  walk_at "g"
  refine w_seq ?_
  refine w_tryA ?_
  walk_at "g"
  refine w_deed _ (fun cls d σ' H' hE hl => ?_) ⟨rfl, k1 _ _ hc, h H1 _ k1⟩
  obtain ⟨rfl, dd, x, rfl, edd, q2⟩ := hE
  have hl' : σ'.length = 4 := hl
  obtain ⟨y0, y1, y2, y3, rfl⟩ : ∃ y0 y1 y2 y3, σ' = [y0, y1, y2, y3] := by
    match σ', hl' with
    | [a, b, c, d], _ => exact ⟨a, b, c, d, rfl⟩
  refine ⟨true, xm_NoHouse_HouseError, fun _ ea hea => ?_, fun z => nomatch z⟩
  refine w_guard rfl ?_
  walk_at "g"
  refine w_isF edd kq_NoHouse_NoHouse ?_
  walk_at "g"
  refine w_isF edd kq_NoHouse_Taken ?_
  walk_at "g"
  refine w_isF edd kq_NoHouse_NoTalk ?_
  walk_at "g"
  refine w_isF edd kq_NoHouse_TooMany ?_
  walk_at "g"
  refine w_new fun kl H3 hkl e3 k3 => ?_
  walk_at "g"
  refine w_isF (k3 _ _ edd) kq_NoHouse_NoMark ?_
  walk_at "g"
  refine w_isF (k3 _ _ edd) kq_NoHouse_Broken ?_
  walk_at "g"
  refine w_isF (k3 _ _ edd) kq_NoHouse_Lack ?_
  walk_at "g"
  refine w_isF (k3 _ _ edd) kq_NoHouse_NoName ?_
  walk_at "g"
  refine w_new fun kl2 H4 hkl2 e4 k4 => ?_
  walk_at "g"
  have k34 := Same.trans k3 k4
  refine w_cat (k4 _ _ e3) e4 (by decide) fun kk H5 hkk e5 k5 => ?_
  have k35 := Same.trans k34 k5
  walk_at "g"
  refine w_new fun t6 H6 ht6 e6 k6 => ?_
  have k36 := Same.trans k35 k6
  have e56 := k6 _ _ e5
  walk_at "g"
  refine w_isFt (k36 _ _ edd) kq_NoHouse_ValueError ?_
  walk_at "g"
  refine w_count (.of e56) rfl rfl ?_
  walk_at "g"
  rw [if_pos (by rfl)]
  walk_at "g"
  refine w_new fun t7 H7 ht7 e7 k7 => ?_
  have k37 := Same.trans k36 k7
  have e57 := k7 _ _ e56
  walk_at "g"
  refine w_seq ?_
  walk_at "g"
  refine w_isF (k37 _ _ edd) kq_NoHouse_NoHouse ?_
  walk_at "g"
  refine w_new fun ll H8 hll e8 k8 => ?_
  have k38 := Same.trans k37 k8
  have e58 := k8 _ _ e57
  walk_at "g"
  refine w_indexF 0 (.of e58) rfl rfl rfl rfl (fun m z' hm hz => ?_) ?_
  · exact absurd hm (Nat.not_lt_zero _)
  walk_at "g"
  refine ⟨rfl, rfl, dd, _, x, rfl, k38 _ _ edd, rfl, ?_⟩
  walk_at "g"
  refine w_new fun t9 H9 ht9 e9 k9 => ?_
  have k39 := Same.trans k38 k9
  walk_at "g"
  refine w_seq ?_
  walk_at "g"
  refine w_isF (k39 _ _ edd) kq_NoHouse_NoTalk ?_
  walk_at "g"
  refine w_seq ?_
  walk_at "g"
  refine w_isF (k39 _ _ edd) kq_NoHouse_NoMark ?_
  walk_at "g"
  refine w_seq ?_
  walk_at "g"
  refine w_isF (k39 _ _ edd) kq_NoHouse_Broken ?_
  walk_at "g"
  refine w_isF (k39 _ _ edd) kq_NoHouse_Lack ?_
  walk_at "g"
  refine w_isF (k39 _ _ edd) kq_NoHouse_NoName ?_
  walk_at "g"
  exact q2 t9 H9 k39 e9
end
/-! ### _law_town_why of a deed that is refused with Taken -/
section
variable {P : Program} {w : World} {K : PySem.W.Frag} {mg : Str → Option Value} {base : Heap}
theorem why_gives_Taken {Nx : List Str} {qx : Str} {scx : Scope} {fx : Addr} {cdx : Value} {Ax : Around} {ox : List Env} {sx : Shared} {Hx : Hp} {Ex : XK} {q : Str} {fE C_HouseError C_NoHouse C_Taken C_NoTalk C_TooMany C_NoMark C_Broken C_Lack C_NoName g : Addr} {fdE : FuncData} {cdg : Value} (T : Txt K mg) (X_Taken : ExnI K mg "Taken" C_Taken fE fdE ["self", "label"] ["label"])
    (g_HouseError : mg "HouseError" = some (.ref C_HouseError)) (g_NoHouse : mg "NoHouse" = some (.ref C_NoHouse)) (g_Taken : mg "Taken" = some (.ref C_Taken)) (g_NoTalk : mg "NoTalk" = some (.ref C_NoTalk)) (g_TooMany : mg "TooMany" = some (.ref C_TooMany)) (g_NoMark : mg "NoMark" = some (.ref C_NoMark)) (g_Broken : mg "Broken" = some (.ref C_Broken)) (g_Lack : mg "Lack" = some (.ref C_Lack)) (g_NoName : mg "NoName" = some (.ref C_NoName))
    (xm_Taken_HouseError : PySem.W.exmOne K (.ref C_Taken) (.ref C_HouseError) = some true)
    (kq_Taken_NoHouse : PySem.W.kitOne K (.ref C_Taken) (.ref C_NoHouse) = some false)
    (kq_Taken_Taken : PySem.W.kitOne K (.ref C_Taken) (.ref C_Taken) = some true)
    (kq_Taken_NoTalk : PySem.W.kitOne K (.ref C_Taken) (.ref C_NoTalk) = some false)
    (kq_Taken_TooMany : PySem.W.kitOne K (.ref C_Taken) (.ref C_TooMany) = some false)
    (kq_Taken_NoMark : PySem.W.kitOne K (.ref C_Taken) (.ref C_NoMark) = some false)
    (kq_Taken_Broken : PySem.W.kitOne K (.ref C_Taken) (.ref C_Broken) = some false)
    (kq_Taken_Lack : PySem.W.kitOne K (.ref C_Taken) (.ref C_Lack) = some false)
    (kq_Taken_NoName : PySem.W.kitOne K (.ref C_Taken) (.ref C_NoName) = some false)
    (kq_Taken_ValueError : PySem.W.kitOne K (.ref C_Taken) (.type "ValueError") = some true) :
    LamX.GivesTo (cxOf CX0 P w K mg base Nx qx scx fx cdx Ax ox sx Hx Ex).nox N_law_town_why "_law_town_why" (defScope s_law_town_why) g cdg (defBody s_law_town_why) "_law_deed" q (TWhyL C_Taken (Str.ofString "Taken")) := by
  intro f c' s H Q tl act hc h
  refine ⟨_,
      (pss_cons
        (ps_set (i := 1) sc_law_town_why.nd rfl (.inl rfl) (pe_tup (pa_cons pe_str (pa_cons pe_non pa_nil))))
      (pss_cons
        (p_tryAs (i := 2) rfl rfl sc_law_town_why.nd rfl rfl ⟨rfl, by decide, .inl g_HouseError⟩ (fun W pn xe tk po =>
          (pss_one
            (ps_expr (pe_deedN (n := 4) (by rfl) tk fun W1 E1 tk1 hW1 => act W1 _ _ E1 _ _ tk1 hW1))))
        (fun a oe cls d pn hz hf => pss_guard (P := cls = .ref C_Taken) (fun hg =>
          (pss_cons
            (ps_set (i := 3) sc_law_town_why.nd rfl (.inl rfl) (pe_lst (pa_cons (pe_callB (r := rIsF K C_Taken a d) (call_isF X_Taken.ec hg hz hf) (by rfl) T.n_isinstance (by decide +kernel) (pa_cons (pv 2) (pa_cons (pe_glob (v := .ref C_NoHouse) rfl g_NoHouse rfl) pa_nil))) (pa_cons (pe_callB (r := rIsF K C_Taken a d) (call_isF X_Taken.ec hg hz hf) (by rfl) T.n_isinstance (by decide +kernel) (pa_cons (pv 2) (pa_cons (pe_glob (v := .ref C_Taken) rfl g_Taken rfl) pa_nil))) (pa_cons (pe_callB (r := rIsF K C_Taken a d) (call_isF X_Taken.ec hg hz hf) (by rfl) T.n_isinstance (by decide +kernel) (pa_cons (pv 2) (pa_cons (pe_glob (v := .ref C_NoTalk) rfl g_NoTalk rfl) pa_nil))) (pa_cons (pe_callB (r := rIsF K C_Taken a d) (call_isF X_Taken.ec hg hz hf) (by rfl) T.n_isinstance (by decide +kernel) (pa_cons (pv 2) (pa_cons (pe_glob (v := .ref C_TooMany) rfl g_TooMany rfl) pa_nil))) pa_nil))))))
          (pss_cons
            (ps_set (i := 3) sc_law_town_why.nd rfl (.inl rfl) (pe_op op_cat (pv 3) (pe_lst (pa_cons (pe_callB (r := rIsF K C_Taken a d) (call_isF X_Taken.ec hg hz hf) (by rfl) T.n_isinstance (by decide +kernel) (pa_cons (pv 2) (pa_cons (pe_glob (v := .ref C_NoMark) rfl g_NoMark rfl) pa_nil))) (pa_cons (pe_callB (r := rIsF K C_Taken a d) (call_isF X_Taken.ec hg hz hf) (by rfl) T.n_isinstance (by decide +kernel) (pa_cons (pv 2) (pa_cons (pe_glob (v := .ref C_Broken) rfl g_Broken rfl) pa_nil))) (pa_cons (pe_callB (r := rIsF K C_Taken a d) (call_isF X_Taken.ec hg hz hf) (by rfl) T.n_isinstance (by decide +kernel) (pa_cons (pv 2) (pa_cons (pe_glob (v := .ref C_Lack) rfl g_Lack rfl) pa_nil))) (pa_cons (pe_callB (r := rIsF K C_Taken a d) (call_isF X_Taken.ec hg hz hf) (by rfl) T.n_isinstance (by decide +kernel) (pa_cons (pv 2) (pa_cons (pe_glob (v := .ref C_NoName) rfl g_NoName rfl) pa_nil))) pa_nil)))))))
          (pss_cons
            (ps_set (i := 1) sc_law_town_why.nd rfl (.inl rfl) (pe_tup (pa_cons pe_str (pa_cons pe_non pa_nil))))
          (pss_one
            (ps_if (PW.pt (pw_and (pt_val (pe_callB (r := rIsF K C_Taken a d) (call_isF X_Taken.ec hg hz hf) (by rfl) T.n_isinstance (by decide +kernel) (pa_cons (pv 2) (pa_cons (pe_bltn (v := .ty "ValueError") (u := .type "ValueError") (by rfl) T.n_ValueError (by decide +kernel) rfl) pa_nil)))) (pw_and1 (pt_cmpR op_eq (pe_bmK (K := K) rfl (r := rCount K) PySem.F.plainAttrs_list PySem.F.slot_list_count PySem.F.type_list_count mt_countF (pv 3) (pa_cons pe_bl pa_nil)) pe_int (nomark _)))))
              (pss_cons
                (ps_set (i := 1) sc_law_town_why.nd rfl (.inl rfl) (pe_tup (pa_cons pe_str (pa_cons pe_non pa_nil))))
              (pss_cons
                (ps_if (PW.pt (pw_or (pt_val (pe_callB (r := rIsF K C_Taken a d) (call_isF X_Taken.ec hg hz hf) (by rfl) T.n_isinstance (by decide +kernel) (pa_cons (pv 2) (pa_cons (pe_glob (v := .ref C_NoHouse) rfl g_NoHouse rfl) pa_nil)))) (pw_or1 (pt_val (pe_callB (r := rIsF K C_Taken a d) (call_isF X_Taken.ec hg hz hf) (by rfl) T.n_isinstance (by decide +kernel) (pa_cons (pv 2) (pa_cons (pe_glob (v := .ref C_Taken) rfl g_Taken rfl) pa_nil)))))))
                  (pss_one
                    (ps_set (i := 1) sc_law_town_why.nd rfl (.inl rfl) (pe_tup (pa_cons (pe_ix (r := rIxL K) ix_list (pe_lst (pa_cons pe_str (pa_cons pe_str pa_nil))) (pe_bmK (K := K) rfl (r := rIndex K) PySem.F.plainAttrs_list PySem.F.slot_list_index PySem.F.type_list_index mt_index (pv 3) (pa_cons pe_bl pa_nil)) (fun _ _ => rfl)) (pa_cons (pe_xf X_Taken.f (X_Taken.nf "label" (by simp)) hz hf (pv 2)) pa_nil)))))
                  pss_nil)
              (pss_cons
                (ps_if (pt_val (pe_callB (r := rIsF K C_Taken a d) (call_isF X_Taken.ec hg hz hf) (by rfl) T.n_isinstance (by decide +kernel) (pa_cons (pv 2) (pa_cons (pe_glob (v := .ref C_NoTalk) rfl g_NoTalk rfl) pa_nil))))
                  pss_never
                  pss_nil)
              (pss_cons
                (ps_if (pt_val (pe_callB (r := rIsF K C_Taken a d) (call_isF X_Taken.ec hg hz hf) (by rfl) T.n_isinstance (by decide +kernel) (pa_cons (pv 2) (pa_cons (pe_glob (v := .ref C_NoMark) rfl g_NoMark rfl) pa_nil))))
                  pss_never
                  pss_nil)
              (pss_cons
                (ps_if (pt_val (pe_callB (r := rIsF K C_Taken a d) (call_isF X_Taken.ec hg hz hf) (by rfl) T.n_isinstance (by decide +kernel) (pa_cons (pv 2) (pa_cons (pe_glob (v := .ref C_Broken) rfl g_Broken rfl) pa_nil))))
                  pss_never
                  pss_nil)
              (pss_one
                (ps_if (PW.pt (pw_or (pt_val (pe_callB (r := rIsF K C_Taken a d) (call_isF X_Taken.ec hg hz hf) (by rfl) T.n_isinstance (by decide +kernel) (pa_cons (pv 2) (pa_cons (pe_glob (v := .ref C_Lack) rfl g_Lack rfl) pa_nil)))) (pw_or1 (pt_val (pe_callB (r := rIsF K C_Taken a d) (call_isF X_Taken.ec hg hz hf) (by rfl) T.n_isinstance (by decide +kernel) (pa_cons (pv 2) (pa_cons (pe_glob (v := .ref C_NoName) rfl g_NoName rfl) pa_nil)))))))
                  pss_never
                  pss_nil)))))))
              pss_nil))))))))
      (pss_one
        (ps_ret (pv 1)))))
    , ?_⟩
  rw [show L2.start N_law_town_why [V.ref f] = [some (.ref f), none, none, none] from rfl]
  walk_at "x"
  refine w_new fun t1 H1 ht1 e1 k1 => ?_
  walk_at "g"
  refine w_seq ?_
  refine w_tryA ?_
  walk_at "g"
  refine w_deed _ (fun cls d σ' H' hE hl => ?_) ⟨rfl, k1 _ _ hc, h H1 _ k1⟩
  obtain ⟨rfl, dd, x, rfl, edd, q2⟩ := hE
  have hl' : σ'.length = 4 := hl
  obtain ⟨y0, y1, y2, y3, rfl⟩ : ∃ y0 y1 y2 y3, σ' = [y0, y1, y2, y3] := by
    match σ', hl' with
    | [a, b, c, d], _ => exact ⟨a, b, c, d, rfl⟩
  refine ⟨true, xm_Taken_HouseError, fun _ ea hea => ?_, fun z => nomatch z⟩
  refine w_guard rfl ?_
  walk_at "g"
  refine w_isF edd kq_Taken_NoHouse ?_
  walk_at "g"
  refine w_isF edd kq_Taken_Taken ?_
  walk_at "g"
  refine w_isF edd kq_Taken_NoTalk ?_
  walk_at "g"
  refine w_isF edd kq_Taken_TooMany ?_
  walk_at "g"
  refine w_new fun kl H3 hkl e3 k3 => ?_
  walk_at "g"
  refine w_isF (k3 _ _ edd) kq_Taken_NoMark ?_
  walk_at "g"
  refine w_isF (k3 _ _ edd) kq_Taken_Broken ?_
  walk_at "g"
  refine w_isF (k3 _ _ edd) kq_Taken_Lack ?_
  walk_at "g"
  refine w_isF (k3 _ _ edd) kq_Taken_NoName ?_
  walk_at "g"
  refine w_new fun kl2 H4 hkl2 e4 k4 => ?_
  walk_at "g"
  have k34 := Same.trans k3 k4
  refine w_cat (k4 _ _ e3) e4 (by decide) fun kk H5 hkk e5 k5 => ?_
  have k35 := Same.trans k34 k5
  walk_at "g"
  refine w_new fun t6 H6 ht6 e6 k6 => ?_
  have k36 := Same.trans k35 k6
  have e56 := k6 _ _ e5
  walk_at "g"
  refine w_isFt (k36 _ _ edd) kq_Taken_ValueError ?_
  walk_at "g"
  refine w_count (.of e56) rfl rfl ?_
  walk_at "g"
  rw [if_pos (by rfl)]
  walk_at "g"
  refine w_new fun t7 H7 ht7 e7 k7 => ?_
  have k37 := Same.trans k36 k7
  have e57 := k7 _ _ e56
  walk_at "g"
  refine w_seq ?_
  walk_at "g"
  refine w_isF (k37 _ _ edd) kq_Taken_NoHouse ?_
  walk_at "g"
  refine w_isF (k37 _ _ edd) kq_Taken_Taken ?_
  walk_at "g"
  refine w_new fun ll H8 hll e8 k8 => ?_
  have k38 := Same.trans k37 k8
  have e58 := k8 _ _ e57
  walk_at "g"
  refine w_indexF 1 (.of e58) rfl rfl rfl rfl (fun m z' hm hz => ?_) ?_
  · obtain rfl : m = 0 := by omega
    cases hz
    rfl
  walk_at "g"
  refine ⟨rfl, rfl, dd, _, x, rfl, k38 _ _ edd, rfl, ?_⟩
  walk_at "g"
  refine w_new fun t9 H9 ht9 e9 k9 => ?_
  have k39 := Same.trans k38 k9
  walk_at "g"
  refine w_seq ?_
  walk_at "g"
  refine w_isF (k39 _ _ edd) kq_Taken_NoTalk ?_
  walk_at "g"
  refine w_seq ?_
  walk_at "g"
  refine w_isF (k39 _ _ edd) kq_Taken_NoMark ?_
  walk_at "g"
  refine w_seq ?_
  walk_at "g"
  refine w_isF (k39 _ _ edd) kq_Taken_Broken ?_
  walk_at "g"
  refine w_isF (k39 _ _ edd) kq_Taken_Lack ?_
  walk_at "g"
  refine w_isF (k39 _ _ edd) kq_Taken_NoName ?_
  walk_at "g"
  exact q2 t9 H9 k39 e9
end
/-! ### what stands in a town -/
theorem strs_uniq : ∀ {a b : List Str}, a.Pairwise (fun x y => x.cps.toList < y.cps.toList) → b.Pairwise (fun x y => x.cps.toList < y.cps.toList) → (∀ x, x ∈ a ↔ x ∈ b) → a = b
  | [], [], _, _, _ => rfl
  | [], y :: b, _, _, h => by have := (h y).mpr (by simp); cases this
  | x :: a, [], _, _, h => by have := (h x).mp (by simp); cases this
  | x :: a, y :: b, ha, hb, h => by
    rw [List.pairwise_cons] at ha hb
    have irr : ∀ z : Str, ¬ z.cps.toList < z.cps.toList := fun z => List.lt_irrefl _
    have e : x = y := by
      rcases List.mem_cons.mp ((h x).mp (by simp)) with e | e
      · exact e
      rcases List.mem_cons.mp ((h y).mpr (by simp)) with e2 | e2
      · exact e2.symm
      exact absurd (List.lt_trans (ha.1 y e2) (hb.1 x e)) (irr x)
    subst e
    rw [strs_uniq ha.2 hb.2 fun z => ?_]
    constructor
    · intro hz
      rcases List.mem_cons.mp ((h z).mp (by simp [hz])) with e | e
      · subst e
        exact absurd (ha.1 _ hz) (irr _)
      · exact e
    · intro hz
      rcases List.mem_cons.mp ((h z).mpr (by simp [hz])) with e | e
      · subst e
        exact absurd (hb.1 _ hz) (irr _)
      · exact e
theorem rise_extN : ∀ {a b : List Nat}, a.Pairwise (· < ·) → b.Pairwise (· < ·) → (∀ x, x ∈ a ↔ x ∈ b) → a = b
  | [], [], _, _, _ => rfl
  | [], y :: b, _, _, h => by have := (h y).mpr (by simp); cases this
  | x :: a, [], _, _, h => by have := (h x).mp (by simp); cases this
  | x :: a, y :: b, ha, hb, h => by
    rw [List.pairwise_cons] at ha hb
    have e : x = y := by
      rcases List.mem_cons.mp ((h x).mp (by simp)) with e | e
      · exact e
      rcases List.mem_cons.mp ((h y).mpr (by simp)) with e2 | e2
      · exact e2.symm
      have := ha.1 y e2
      have := hb.1 x e
      omega
    subst e
    rw [rise_extN ha.2 hb.2 fun z => ?_]
    constructor
    · intro hz
      rcases List.mem_cons.mp ((h z).mp (by simp [hz])) with e | e
      · have := ha.1 z hz
        omega
      · exact e
    · intro hz
      rcases List.mem_cons.mp ((h z).mpr (by simp [hz])) with e | e
      · have := hb.1 z hz
        omega
      · exact e
theorem SD.strsL {n : Nat} {H : Hp} {p q : Addr} {zs : List Str} (h1 : H p = some (.lst (zs.map V.str))) (h2 : H q = some (.lst (zs.map V.str))) (hl : zs.length ≤ 100000) : SD (n + 1) H (.ref p) (.ref q) :=
  .inr ⟨p, q, _, _, rfl, rfl, .inr ⟨h1, h2⟩, rfl, by simpa using hl, fun i a b ha hb => by
    rw [ha] at hb
    cases hb
    rw [List.getElem?_map] at ha
    obtain ⟨z, _, rfl⟩ := Option.map_eq_some_iff.mp ha
    exact SD.sc trivial⟩
structure HR where
  z : Str
  s : Addr
  dy : Addr
  hd : Addr
  fs : List (Str × V)
  k : Nat
  hs : List Nat
def HR.kv (rs : List HR) : List (Str × Addr) := rs.map fun r => (r.z, r.s)
structure HrAt (CU : Addr) (H : Hp) (p : Addr) (r : HR) : Prop where
  st : StAt CU H r.s r.dy p r.hd r.fs r.k (fun n => n ∈ r.hs)
  up : r.hs.Pairwise (· < ·)
  few : r.hs.length ≤ 1000
  fl : ∃ a1 a2 a3 a4, r.fs = hrs a1 a2 a3 a4
structure TwAt (CT CU : Addr) (H : Hp) (t tx p hm tk lh : Addr) (rs : List HR) : Prop where
  tn : TnAt CT H t tx p hm tk (HR.kv rs)
  lh' : H lh = some (.dK (kvH (HR.kv rs)))
  ho : ∀ r ∈ rs, HrAt CU H p r
/-- what the law has noted of what is held -/
def HvAt (H : Hp) (hl : Addr) (hv : Str → Option Addr) (rs : List HR) : Prop := (∃ kvs, H hl = some (.dK kvs) ∧ True ∧ ∀ z, valV kvs (Sum.inr z) = (hv z).map V.ref) ∧ ∀ r ∈ rs, (hv r.z = none → r.hs = []) ∧ ∀ a, hv r.z = some a → H a = some (.lst (r.hs.map nV))
theorem HrAt.kp {CU : Addr} {M : List Addr} {H H' : Hp} {p : Addr} {r : HR} (h : HrAt CU H p r) (k : Kp M H H') (h1 : r.s ∉ M) (h2 : r.hd ∉ M) : HrAt CU H' p r := ⟨h.st.kp k h1 h2, h.up, h.few, h.fl⟩
theorem TwAt.kp {CT CU : Addr} {M : List Addr} {H H' : Hp} {t tx p hm tk lh : Addr} {rs : List HR} (h : TwAt CT CU H t tx p hm tk lh rs) (k : Kp M H H') (h1 : t ∉ M) (h2 : hm ∉ M) (h3 : lh ∉ M) (h4 : ∀ r ∈ rs, r.s ∉ M ∧ r.hd ∉ M) : TwAt CT CU H' t tx p hm tk lh rs := ⟨h.tn.kp k h1 h2, k _ _ h3 h.lh', fun r hr => (h.ho r hr).kp k (h4 r hr).1 (h4 r hr).2⟩
theorem TwAt.same {CT CU : Addr} {H H' : Hp} {t tx p hm tk lh : Addr} {rs : List HR} (h : TwAt CT CU H t tx p hm tk lh rs) (k : Same H H') : TwAt CT CU H' t tx p hm tk lh rs := h.kp (M := []) (Kp.of k) (by simp) (by simp) (by simp) (by simp)
theorem HvAt.same {H H' : Hp} {hl : Addr} {hv : Str → Option Addr} {rs : List HR} (h : HvAt H hl hv rs) (k : Same H H') : HvAt H' hl hv rs := by
  obtain ⟨⟨kvs, e1, e2, e3⟩, g⟩ := h
  exact ⟨⟨kvs, k _ _ e1, e2, e3⟩, fun r hr => ⟨(g r hr).1, fun a ha => k _ _ ((g r hr).2 a ha)⟩⟩
def spTStands (C CT CU : Addr) : Sp := fun vs H Q _ => ∃ (t tx p hm tk lh hl : Addr) (rs : List HR) (hv : Str → Option Addr), vs = [.ref t, .ref lh, .ref hl] ∧ (∃ dx fs, H p = some (.ins C dx fs)) ∧ TwAt CT CU H t tx p hm tk lh rs ∧ HvAt H hl hv rs ∧ ∀ H', Same H H' → Q (.bl true) H'
section
variable {P : Program} {w : World} {K : PySem.W.Frag} {mg : Str → Option Value} {base : Heap} {C CS CU CT : Addr}
theorem ok_tstands {f fA fB fL fH : Addr} {fd fdA fdB fdL fdH : FuncData} (T : Txt K mg) (F : Fun K "_law_stands" "_law_stands" s_law_stands f fd) (D_law_alike : Df K mg "_law_alike" s_law_alike ["_law_found", "_law_due"] fA fdA) (K_Store : Kl K mg "Store" CS ["book", "here", "turns"]) (K_House : Kl K mg "House" CU ["book", "here", "turns", "stands", "lately", "others", "pinned"]) (K_Town : Kl K mg "Town" CT ["book", "homes", "talks"]) (K_Book : Kl K mg "Book" C ["contents", "depths", "given"]) (EQ_Book : EqI K C) (EQ_House : EqI K CU)
    (D_Store_held : DfM K CS "held" "Store.held" s_Store_held ["self"] fH fdH) (I_House_held : Meth K CU "held" fH) (D_Town_labels : DfM K CT "labels" "Town.labels" s_Town_labels ["self"] fL fdL) (D_Town_house : DfM K CT "house" "Town.house" s_Town_house ["self", "label"] fB fdB) : FnOk P w K mg base CX0 5 f fd ["_law_town", "_law_homes", "_law_held"] (spTStands C CT CU) := by
  have G_law_alike : FnOk P w K mg base CX0 2 fA fdA ["_law_found", "_law_due"] (spAlike 1) := ok_alike T D_law_alike 1
  have G_Town_labels : FnOk P w K mg base CX0 1 fL fdL ["self"] (spLabels CT) := ok_labels T D_Town_labels.fn K_Town
  have G_Town_house : FnOk P w K mg base CX0 3 fB fdB ["self", "label"] (spTHouse CT) := ok_thouse T D_Town_house.fn K_Town
  have G_House_held : FnOk P w K mg base CX0 1 fH fdH ["self"] (spHeld CU) := ok_held T D_Store_held.fn (house_kf K_House)
  have cl := K_Town.cl
  have clH := K_House.cl
  have n1 := K_Town.na "book" (by simp)
  have n2 := K_House.na "book" (by simp)
  refine F.ok sc_law_stands (fun vs H Q E h => ?_) (fun cdv A outer s H vs Q E hr h => ?_)
  · obtain ⟨t, tx, p, hm, tk, lh, hl, rs, hv, rfl, _⟩ := h
    rfl
  · obtain ⟨t, tx, p, hm, tk, lh, hl, rs, hv, rfl, ⟨bdx, bfs, eb⟩, W, V0, q⟩ := h
    have hu := hu_of hr
    have ob := W.tn.ob
    refine ⟨_,
      (pss_cons
        (ps_if (pt_not (pt_val (pe_call G_law_alike (hr.mono (by omega)) (by rfl) D_law_alike.g D_law_alike.fn.kp D_law_alike.b .nil pass0 (pa_cons (pe_meth0 (pv 0) K_Town.cl D_Town_labels.m G_Town_labels (hr.mono (by omega)) D_Town_labels.b .nil pass0) (pa_cons (pe_callB (r := rSortDS) (c_sortDS rfl) (by rfl) T.n_sorted (by decide +kernel) (pa_cons (pv 1) pa_nil)) pa_nil)))))
          (pss_one
            (ps_ret pe_bl))
          pss_nil)
      (pss_cons
        (ps_for PassesOwn.never rfl (pi_list (pe_callB (r := rSortDS) (c_sortDS rfl) (by rfl) T.n_sorted (by decide +kernel) (pa_cons (pv 1) pa_nil))) (pg_name (i := 3) sc_law_stands.nd rfl (.inl rfl))
          (pss_cons
            (ps_if (PW.pt (pw_or (pt_cmpR (r := rNeS K) (op_neS (Nat.lt_of_le_of_lt (Nat.add_le_add_left (show 1 ≤ 64 by decide) _) hr.units)) (pe_meth (pv 0) K_Town.cl D_Town_house.m G_Town_house (hr.mono (by omega)) D_Town_house.b .nil pass0 (pa_cons (pv 3) pa_nil)) (pe_dget hu (pv 1) (pv 3) (fun _ _ => rfl)) (nomark _)) (pw_or1 (pt_cmpR (r := rNeS K) (op_neS (Nat.lt_of_le_of_lt (Nat.add_le_add_left (show 1 ≤ 64 by decide) _) hr.units)) (pe_fldK (K := K) rfl (pe_dget hu (pv 1) (pv 3) (fun _ _ => rfl)) rfl) (pe_fldK (K := K) rfl (pv 0) rfl) (nomark _)))))
              (pss_one
                (ps_ret pe_bl))
              pss_nil)
          (pss_one
            (ps_if (pt_not (pt_val (pe_call G_law_alike (hr.mono (by omega)) (by rfl) D_law_alike.g D_law_alike.fn.kp D_law_alike.b .nil pass0 (pa_cons (pe_meth0 (pe_meth (pv 0) K_Town.cl D_Town_house.m G_Town_house (hr.mono (by omega)) D_Town_house.b .nil pass0 (pa_cons (pv 3) pa_nil)) K_House.cl I_House_held G_House_held (hr.mono (by omega)) D_Store_held.b .nil pass0) (pa_cons (pe_dget2 hu (pv 2) (pv 3) (pe_lst pa_nil) ⟨rfl, rfl, rfl, rfl⟩) pa_nil)))))
              (pss_one
                (ps_ret pe_bl))
              pss_nil))))
      (pss_one
        (ps_ret pe_bl))))
      , ?_⟩
    rw [show L2.start N_law_stands [V.ref t, V.ref lh, V.ref hl] = [some (.ref t), some (.ref lh), some (.ref hl), none] from rfl]
    refine w_seq ?_
    walk_at "x"
    refine ⟨t, tx, p, hm, tk, _, rfl, W.tn, fun ys l1 H1 hp1 hs1 hl1 e1 k1 => ?_⟩
    have W1 := W.same k1
    walk_at "g"
    refine w_sortDS W1.lh' (kvH_keys _) W1.tn.nd (by have := W1.tn.few; rw [List.length_map]; omega) fun ys2 l2 H2 hp2 hs2 hl2 e2 k2 => ?_
    have ey : ys = ys2 := strs_uniq hs1 hs2 fun x => by rw [hp1.mem_iff, hp2.mem_iff]
    subst ey
    have yl : ys.length ≤ 40 := by rw [hp1.length_eq, List.length_map]; exact W.tn.few
    walk_at "g"
    refine ⟨_, _, rfl, SD.strsL (k2 _ _ e1) e2 (by omega), fun H3 k3 => ?_⟩
    have k03 := Same.trans k1 (Same.trans k2 k3)
    have W3 := W.same k03
    walk_at "g"
    refine w_sortDS W3.lh' (kvH_keys _) W3.tn.nd (by have := W3.tn.few; rw [List.length_map]; omega) fun ys3 l3 H4 hp3 hs3 hl3 e3 k4 => ?_
    have y3l : ys3.length ≤ 40 := by rw [hp3.length_eq, List.length_map]; exact W.tn.few
    have k04 := Same.trans k03 k4
    walk_at "g"
    refine lp_list (xs := ys3.map V.str) (fun i σ H' => ∃ (y3 : Option V), σ = [some (.ref t), some (.ref lh), some (.ref hl), y3] ∧ Same H4 H') ⟨_, rfl, fun _ _ z => z⟩ ?_ ?_ ?_
    · rintro i σ H' _ ⟨_, _, k⟩
      exact .of (k _ _ e3)
    · rintro i y σ H5 hy ⟨y3, rfl, k5⟩
      obtain ⟨z, hz, rfl⟩ := map_at hy
      have hzm := hp3.mem_iff.mp (List.mem_of_getElem? hz)
      obtain ⟨qz, hq, ez⟩ := List.mem_map.mp hzm
      obtain ⟨r, hr0, rfl⟩ := List.mem_map.mp hq
      have ez' : r.z = z := ez
      subst ez'
      have k05 := Same.trans k04 k5
      have W5 := W.same k05
      have V5 := V0.same k05
      have R5 := W5.ho r hr0
      have ob5 := W5.tn.ob
      have es5 := R5.st.ob
      have elh5 := W5.lh'
      have ev := kvH_some W5.tn.nd hq
      have eb5 := k05 _ _ eb
      obtain ⟨⟨kvs, ehl5, hkl, hkv⟩, g5⟩ := id V5
      obtain ⟨a1, a2, a3, a4, efs⟩ := R5.fl
      walk_at "g"
      refine w_seq ?_
      walk_at "g"
      refine ⟨t, tx, p, hm, tk, r.s, _, r.z, rfl, W5.tn, hq, ?_⟩
      walk_at "g"
      refine w_dgetZ elh5 ev ?_
      refine ⟨_, _, _, _, rfl, rfl, es5, EQ_House, ?_⟩
      walk_at "g"
      refine w_dgetZ elh5 ev ?_
      walk_at "g"
      refine ⟨_, _, _, _, rfl, rfl, eb5, EQ_Book, ?_⟩
      walk_at "g"
      refine ⟨t, tx, p, hm, tk, r.s, _, r.z, rfl, W5.tn, hq, ?_⟩
      walk_at "g"
      refine w_meth' es5 (by rw [efs]; rfl) ?_
      walk_at "g"
      refine ⟨r.s, r.dy, p, r.hd, r.fs, r.k, _, rfl, R5.st, fun ns l6 H6 hup hmem hnl hl6 e6 k6 => ?_⟩
      have en : ns = r.hs := rise_extN hup R5.up hmem
      subst en
      walk_at "g"
      have ehl6 := k6 _ _ ehl5
      refine w_isD ehl6 ?_
      walk_at "g"
      refine w_new fun le H7 hle ele k7 => ?_
      refine w_dget2Z (k7 _ _ ehl6) ?_
      rw [hkv]
      have done : ∀ u, H7 u = some (.lst (r.hs.map nV)) → SD 1 H7 (.ref l6) (.ref u) := fun u hu => SD.nats (k7 _ _ e6) hu (by have := R5.few; omega)
      have hsd : SD 1 H7 (.ref l6) (((hv r.z).map V.ref).getD (.ref le)) := by
        cases e : hv r.z with
        | none =>
          refine done le ?_
          rw [(g5 r hr0).1 e]
          exact ele
        | some a => exact done a (k7 _ _ (k6 _ _ ((g5 r hr0).2 a e)))
      walk_at "g"
      refine ⟨_, _, rfl, hsd, fun H8 k8 => ?_⟩
      walk_at "g"
      exact ⟨_, rfl, Same.trans k5 (Same.trans k6 (Same.trans k7 k8))⟩
    · rintro σ H5 ⟨y3, rfl, k5⟩
      walk_at "g"
      exact q H5 (Same.trans k04 k5)
end
/-- tables of code objects over what changes lists, dicts and things alone -/
theorem tabs_kp {T : List (Addr × Str)} {M : List Addr} {H H' : Hp} (t : LamX.Tabs T H) (k : Kp M H H') (hM : ∀ b ∈ M, ∃ o, H b = some o ∧ (∀ ps, o ≠ .tbl ps) ∧ ∀ c q, o ≠ LamX.CodeO c q) : LamX.Tabs T H' := fun p hp => by
  obtain ⟨ps, h1, h2, h3⟩ := t p hp
  refine ⟨ps, k _ _ (fun z => ?_) h1, h2, fun pos cv hc => ?_⟩
  · obtain ⟨o, e, n, _⟩ := hM _ z
    rw [h1] at e
    exact n ps (Option.some.inj e).symm
  · obtain ⟨c, e1, e2⟩ := h3 pos cv hc
    refine ⟨c, e1, k _ _ (fun z => ?_) e2⟩
    obtain ⟨o, e, _, n⟩ := hM _ z
    rw [e2] at e
    exact n c p.2 (Option.some.inj e).symm
theorem lst_notab (xs : List V) : (∀ ps, (HO.lst xs) ≠ .tbl ps) ∧ ∀ c q, (HO.lst xs) ≠ LamX.CodeO c q := by
  constructor
  · intro ps z
    cases z
  · intro c q z
    unfold LamX.CodeO at z
    cases z
theorem BookAt.extN {P : Program} {w : World} {C : Addr} {H H' : Hp} {p dx lc ld lg : Addr} {cs : List (Addr × Ct)} {ds : List Nat} (B : BookAt P w C H p dx lc ld lg cs ds) (k : LamX.ExtN H H') : BookAt P w C H' p dx lc ld lg cs ds := by
  have t : KT H H' := ⟨fun b xs e => k b _ e (fun ps z => nomatch z), fun b _ xs e => k b _ e (fun ps z => nomatch z)⟩
  exact ⟨k _ _ B.ob (fun ps z => nomatch z), k _ _ B.co (fun ps z => nomatch z), k _ _ B.de (fun ps z => nomatch z), ⟨k _ _ B.gi.at' (fun ps z => nomatch z), fun q hq => ⟨NAt.kt t _ _ (B.gi.keys q hq).1, (B.gi.keys q hq).2⟩⟩, fun q hq => (B.ct q hq).kt t, B.nd, B.dl, B.ne, B.few⟩
theorem Deck.extN {H H' : Hp} {d c : Addr} {n : Nat} (D : Deck H d c n) (k : LamX.ExtN H H') : Deck H' d c n := by
  obtain ⟨⟨ns, a, b, t, e1, e2, h⟩, ne⟩ := D
  exact ⟨⟨ns, a, b, t, k _ _ e1 (fun ps z => nomatch z), k _ _ e2 (fun ps z => nomatch z), h⟩, ne⟩
theorem KT.extN {H H' : Hp} (k : LamX.ExtN H H') : KT H H' := ⟨fun b xs e => k b _ e (fun ps z => nomatch z), fun b _ xs e => k b _ e (fun ps z => nomatch z)⟩
theorem nd_notab {P : Program} {w : World} {a : Addr} {xs : List NEnt} : (∀ ps, (NO P w a xs) ≠ .tbl ps) ∧ ∀ c q, (NO P w a xs) ≠ LamX.CodeO c q := by
  refine ⟨fun ps z => ?_, fun c q z => ?_⟩
  · unfold NO at z
    cases z
  · unfold NO LamX.CodeO at z
    injection z with z
    obtain ⟨ob, hob⟩ : ∃ ob : Obj, ob = { cls := .none, data := .fields #[.none, .str q default] } := ⟨_, rfl⟩
    have hd : ob.data = .fields #[.none, .str q default] := by rw [hob]
    have hget : ∀ (n : Nat) (o : Obj), (Heap.mk (Array.replicate (c + 1) ob) {}).get? n = some o → o = ob := fun n o e => by
      unfold Heap.get? at e
      by_cases hn : n < c + 1
      · have e1 : (Array.replicate (c + 1) ob)[n]? = some ob := by simp [hn]
        simp only [e1] at e
        rw [hob] at e ⊢
        exact (Option.some.inj e).symm
      · have e1 : (Array.replicate (c + 1) ob)[n]? = none := by simp; omega
        simp only [e1] at e
        cases e
    have hc : (Heap.mk (Array.replicate (c + 1) ob) {}).get? c = some ob := by
      unfold Heap.get?
      have e1 : (Array.replicate (c + 1) ob)[c]? = some ob := by simp
      simp only [e1]
      rw [hob]
    have r : ∃ (oc : Obj) (vs : Array Value) (t : Tok), (Heap.mk (Array.replicate (c + 1) ob) {}).get? c = some oc ∧ oc.data = .fields vs ∧ vs[1]? = some (.str q t) := ⟨ob, _, default, hc, hd, rfl⟩
    have e := congrFun z (Heap.mk (Array.replicate (c + 1) ob) {})
    rw [← e] at r
    obtain ⟨_, _, ys, _, o, es, ep, e1, _, e2, _⟩ := r
    rw [hget _ _ e1, hd] at e2
    cases e2
/-! ### a house more in a town -/
def KpN (M : List Addr) (H H' : Hp) : Prop := ∀ b o, b ∉ M → H b = some o → (∀ ps, o ≠ .tbl ps) → H' b = some o
theorem KpN.refl {M : List Addr} {H : Hp} : KpN M H H := fun _ _ _ e _ => e
theorem KpN.trans {M : List Addr} {H H1 H2 : Hp} (a : KpN M H H1) (b : KpN M H1 H2) : KpN M H H2 := fun c o n e t => b c o n (a c o n e t) t
theorem KpN.mono {M N : List Addr} {H H' : Hp} (a : KpN M H H') (s : ∀ x ∈ M, x ∈ N) : KpN N H H' := fun c o n e t => a c o (fun z => n (s c z)) e t
theorem KpN.of {M : List Addr} {H H' : Hp} (a : LamX.ExtN H H') : KpN M H H' := fun b o _ e t => a b o e t
theorem KpN.ofK {M : List Addr} {H H' : Hp} (a : Kp M H H') : KpN M H H' := fun b o n e _ => a b o n e
theorem BookAt.kpN {P : Program} {w : World} {C : Addr} {M : List Addr} {H H' : Hp} {p dx lc ld lg : Addr} {cs : List (Addr × Ct)} {ds : List Nat} (B : BookAt P w C H p dx lc ld lg cs ds) (k : KpN M H H') (t : KT H H') (h1 : p ∉ M) (h2 : lc ∉ M) (h3 : ld ∉ M) (h4 : lg ∉ M) : BookAt P w C H' p dx lc ld lg cs ds :=
  ⟨k _ _ h1 B.ob (fun ps z => nomatch z), k _ _ h2 B.co (fun ps z => nomatch z), k _ _ h3 B.de (fun ps z => nomatch z), ⟨k _ _ h4 B.gi.at' (fun ps z => nomatch z), fun q hq => ⟨NAt.kt t _ _ (B.gi.keys q hq).1, (B.gi.keys q hq).2⟩⟩, fun q hq => (B.ct q hq).kt t, B.nd, B.dl, B.ne, B.few⟩
theorem StAt.kpN {CS : Addr} {M : List Addr} {H H' : Hp} {s dy p hd : Addr} {rs : List (Str × V)} {k : Nat} {F : Nat → Prop} (h : StAt CS H s dy p hd rs k F) (kp : KpN M H H') (h1 : s ∉ M) (h2 : hd ∉ M) : StAt CS H' s dy p hd rs k F := by
  obtain ⟨fk, ks, e, g⟩ := h.here
  exact ⟨kp _ _ h1 h.ob (fun ps z => nomatch z), ⟨fk, ks, kp _ _ h2 e (fun ps z => nomatch z), g⟩, h.ne⟩
/-- what was read at the last, all told -/
def Fr (H : Hp) (a : Addr) : Prop := ∀ o, H a = some o → ∃ ps, o = .tbl ps
theorem Fr.ne {H : Hp} {a b : Addr} {o : HO} (f : Fr H a) (e : H b = some o) (n : ∀ ps, o ≠ .tbl ps) : a ≠ b := fun z => by
  subst z
  obtain ⟨ps, h⟩ := f _ e
  exact n ps h
theorem Fr.of {H H' : Hp} {M : List Addr} {a : Addr} (k : KpN M H H') (h : a ∉ M) (e : H' a = none) : Fr H a := fun o ho => by
  by_cases t : ∃ ps, o = .tbl ps
  · exact t
  · rw [k _ _ h ho (fun ps z => t ⟨ps, z⟩)] at e
    cases e
theorem dk_notab (ks : List (Key × V)) : (∀ ps, (HO.dK ks) ≠ .tbl ps) ∧ ∀ c q, (HO.dK ks) ≠ LamX.CodeO c q := ⟨fun ps z => (by cases z), fun c q z => (by unfold LamX.CodeO at z; cases z)⟩
theorem ins_notab (C dx : Addr) (fs : List (Str × V)) : (∀ ps, (HO.ins C dx fs) ≠ .tbl ps) ∧ ∀ c q, (HO.ins C dx fs) ≠ LamX.CodeO c q := ⟨fun ps z => (by cases z), fun c q z => (by unfold LamX.CodeO at z; cases z)⟩
theorem TnAt.kpN {CT : Addr} {M : List Addr} {H H' : Hp} {t tx p hm tk : Addr} {rs : List (Str × Addr)} (h : TnAt CT H t tx p hm tk rs) (k : KpN M H H') (h1 : t ∉ M) (h2 : hm ∉ M) : TnAt CT H' t tx p hm tk rs := ⟨k _ _ h1 h.ob (fun ps z => nomatch z), k _ _ h2 h.ho (fun ps z => nomatch z), h.nd, h.few⟩
theorem HrAt.kpN {CU : Addr} {M : List Addr} {H H' : Hp} {p : Addr} {r : HR} (h : HrAt CU H p r) (k : KpN M H H') (h1 : r.s ∉ M) (h2 : r.hd ∉ M) : HrAt CU H' p r := ⟨h.st.kpN k h1 h2, h.up, h.few, h.fl⟩
theorem TwAt.kpN {CT CU : Addr} {M : List Addr} {H H' : Hp} {t tx p hm tk lh : Addr} {rs : List HR} (h : TwAt CT CU H t tx p hm tk lh rs) (k : KpN M H H') (h1 : t ∉ M) (h2 : hm ∉ M) (h3 : lh ∉ M) (h4 : ∀ r ∈ rs, r.s ∉ M ∧ r.hd ∉ M) : TwAt CT CU H' t tx p hm tk lh rs := ⟨h.tn.kpN k h1 h2, k _ _ h3 h.lh' (fun ps z => nomatch z), fun r hr => (h.ho r hr).kpN k (h4 r hr).1 (h4 r hr).2⟩
theorem TwAt.extN {CT CU : Addr} {H H' : Hp} {t tx p hm tk lh : Addr} {rs : List HR} (h : TwAt CT CU H t tx p hm tk lh rs) (k : LamX.ExtN H H') : TwAt CT CU H' t tx p hm tk lh rs := h.kpN (M := []) (.of k) (by simp) (by simp) (by simp) (by simp)
def QLL : Str := (PyProof.Rows.envOfC "law" (defScope s_law) 0 0 .none).qual ++ "<lambda>"
def QLB : Str := (PyProof.Rows.envOfC "_law_built" (defScope s_law_built) 0 0 .none).qual ++ "<lambda>"
def TLs (PK PL : Addr) : List (Addr × Str) := [(PK, QLL), (PL, QLB)]
def spTBuilt (CT CU PK PL : Addr) : Sp := fun vs H Q _ => ∃ (d c t tx p hm tk lh : Addr) (rs : List HR) (nn : Nat), vs = [.ref d, .ref t, .ref lh] ∧ Deck H d c nn ∧ nn + 12 ≤ MOSTD ∧ TwAt CT CU H t tx p hm tk lh rs ∧ rs.length < 39 ∧ hm ≠ lh ∧ (∀ r ∈ rs, r.hd ≠ hm ∧ r.hd ≠ lh) ∧ LamX.Tabs (TLs PK PL) H ∧
  ∀ (rs' : List HR) (H' : Hp), TwAt CT CU H' t tx p hm tk lh rs' → (rs' = rs ∨ ∃ r, rs' = rs ++ [r] ∧ r.hs = [] ∧ r.z ∉ rs.map (·.z) ∧ Fr H r.s ∧ Fr H r.hd) → rs' ≠ [] → Deck H' d c (nn + 12) → KpN [d, hm, lh] H H' → KT H H' → LamX.Tabs (TLs PK PL) H' → Q (.bl true) H'
theorem HR.kv_z (rs : List HR) : (HR.kv rs).map (·.1) = rs.map (·.z) := by
  unfold HR.kv
  rw [List.map_map]
  rfl
section
variable {P : Program} {w : World} {K : PySem.W.Frag} {mg : Str → Option Value} {base : Heap} {C CS CU CT : Addr}
theorem ok_tbuilt {f fA fW fM fD fLb fB fH fS fU fN fT C_HouseError C_NoHouse C_Taken C_NoTalk C_TooMany C_NoMark C_Broken C_Lack C_NoName cL PK PL : Addr} {fd fdA fdW fdM fdD fdLb fdB fdH fdS fdU fdN fdT : FuncData} (T : Txt K mg) (D_law_built : Df K mg "_law_built" s_law_built ["_law_deck_here", "_law_town", "_law_homes"] f fd) (D_law_alike : Df K mg "_law_alike" s_law_alike ["_law_found", "_law_due"] fA fdA) (D_law_town_why : Df K mg "_law_town_why" s_law_town_why ["_law_deed"] fW fdW) (D_law_mixed : Df K mg "_law_mixed" s_law_mixed ["_law_cell", "_law_turn"] fM fdM) (D_law_draw : Df K mg "_law_draw" s_law_draw ["_law_deck_here", "_law_many"] fD fdD) (D_law_label : Df K mg "_law_label" s_law_label ["_law_deck_here"] fLb fdLb)
    (K_Store : Kl K mg "Store" CS ["book", "here", "turns"]) (K_House : Kl K mg "House" CU ["book", "here", "turns", "stands", "lately", "others", "pinned"]) (K_Town : Kl K mg "Town" CT ["book", "homes", "talks"]) (M_House : Mk K CU fU) (D_Store___init__ : DfM K CS "__init__" "Store.__init__" s_Store___init__ ["self", "book"] fS fdS) (D_House___init__ : DfM K CU "__init__" "House.__init__" s_House___init__ ["self", "book"] fU fdU) (R_Store : ClX.CRead K CS (.type "type")) (V_Store___init__ : ClX.CVal K CS (.type "type") "__init__" (.ref fS) (.ref fS))
    (D_Town_build : DfM K CT "build" "Town.build" s_Town_build ["self", "label"] fB fdB) (D_Town_house : DfM K CT "house" "Town.house" s_Town_house ["self", "label"] fH fdH) (EQ_House : EqI K CU) (OK_House : OwnK K CU)
    (F_NoHouse___init__ : Fun K "__init__" "NoHouse.__init__" s_NoHouse___init__ fN fdN) (X_NoHouse : ExnI K mg "NoHouse" C_NoHouse fN fdN ["self", "label"] ["label"]) (F_Taken___init__ : Fun K "__init__" "Taken.__init__" s_Taken___init__ fT fdT) (X_Taken : ExnI K mg "Taken" C_Taken fT fdT ["self", "label"] ["label"])
    (g_HouseError : mg "HouseError" = some (.ref C_HouseError)) (g_NoTalk : mg "NoTalk" = some (.ref C_NoTalk)) (g_TooMany : mg "TooMany" = some (.ref C_TooMany)) (g_NoMark : mg "NoMark" = some (.ref C_NoMark)) (g_Broken : mg "Broken" = some (.ref C_Broken)) (g_Lack : mg "Lack" = some (.ref C_Lack)) (g_NoName : mg "NoName" = some (.ref C_NoName))
    (xm_NoHouse_HouseError : PySem.W.exmOne K (.ref C_NoHouse) (.ref C_HouseError) = some true) (kq_NoHouse_NoHouse : PySem.W.kitOne K (.ref C_NoHouse) (.ref C_NoHouse) = some true) (kq_NoHouse_Taken : PySem.W.kitOne K (.ref C_NoHouse) (.ref C_Taken) = some false) (kq_NoHouse_NoTalk : PySem.W.kitOne K (.ref C_NoHouse) (.ref C_NoTalk) = some false) (kq_NoHouse_TooMany : PySem.W.kitOne K (.ref C_NoHouse) (.ref C_TooMany) = some false) (kq_NoHouse_NoMark : PySem.W.kitOne K (.ref C_NoHouse) (.ref C_NoMark) = some false) (kq_NoHouse_Broken : PySem.W.kitOne K (.ref C_NoHouse) (.ref C_Broken) = some false) (kq_NoHouse_Lack : PySem.W.kitOne K (.ref C_NoHouse) (.ref C_Lack) = some false) (kq_NoHouse_NoName : PySem.W.kitOne K (.ref C_NoHouse) (.ref C_NoName) = some false) (kq_NoHouse_ValueError : PySem.W.kitOne K (.ref C_NoHouse) (.type "ValueError") = some true)
    (xm_Taken_HouseError : PySem.W.exmOne K (.ref C_Taken) (.ref C_HouseError) = some true) (kq_Taken_NoHouse : PySem.W.kitOne K (.ref C_Taken) (.ref C_NoHouse) = some false) (kq_Taken_Taken : PySem.W.kitOne K (.ref C_Taken) (.ref C_Taken) = some true) (kq_Taken_NoTalk : PySem.W.kitOne K (.ref C_Taken) (.ref C_NoTalk) = some false) (kq_Taken_TooMany : PySem.W.kitOne K (.ref C_Taken) (.ref C_TooMany) = some false) (kq_Taken_NoMark : PySem.W.kitOne K (.ref C_Taken) (.ref C_NoMark) = some false) (kq_Taken_Broken : PySem.W.kitOne K (.ref C_Taken) (.ref C_Broken) = some false) (kq_Taken_Lack : PySem.W.kitOne K (.ref C_Taken) (.ref C_Lack) = some false) (kq_Taken_NoName : PySem.W.kitOne K (.ref C_Taken) (.ref C_NoName) = some false) (kq_Taken_ValueError : PySem.W.kitOne K (.ref C_Taken) (.type "ValueError") = some true)
    (TB : LamX.TabB base mg cL PL) (hcode : fd.code = .ref cL) (hPK : PK ≠ PL) : FnOk P w K mg base CX0 10 f fd ["_law_deck_here", "_law_town", "_law_homes"] (spTBuilt CT CU PK PL) := by
  let C_House := CU
  have g_House := K_House.g
  have g_NoHouse := X_NoHouse.g
  have g_Taken := X_Taken.g
  have G_law_label : FnOk P w K mg base CX0 3 fLb fdLb ["_law_deck_here"] spLabel := ok_label T D_law_label.fn D_law_mixed D_law_draw
  have G_law_alike : FnOk P w K mg base CX0 2 fA fdA ["_law_found", "_law_due"] (spAlike 1) := ok_alike T D_law_alike 1
  have G_Town_build : FnOk P w K mg base CX0 5 fB fdB ["self", "label"] (spBuild P w CT CU) := ok_build T D_Town_build.fn K_Store K_House K_Town M_House D_Store___init__ D_House___init__ R_Store V_Store___init__
  have GX_Town_build : FnOk P w K mg base (L2.CX P w) 3 fB fdB ["self", "label"] (spBuildX CT C_Taken) := ok_buildX T D_Town_build.fn K_Town F_Taken___init__ X_Taken
  have G_Town_house : FnOk P w K mg base CX0 3 fH fdH ["self", "label"] (spTHouse CT) := ok_thouse T D_Town_house.fn K_Town
  have GX_Town_house : FnOk P w K mg base (L2.CX P w) 3 fH fdH ["self", "label"] (spTHouseX CT C_NoHouse) := ok_thouseX T D_Town_house.fn K_Town F_NoHouse___init__ X_NoHouse
  have cl := K_Town.cl
  have clH := K_House.cl
  refine D_law_built.fn.okT sc_law_built (fun vs H Q E h => ?_) (fun cdv A outer s H vs Q E hcd hr h => ?_)
  · obtain ⟨d, c, t, tx, p, hm, tk, lh, rs, nn, rfl, _⟩ := h
    rfl
  · obtain ⟨d, c, t, tx, p, hm, tk, lh, rs, nn, rfl, D0, hnn, W, hlen, nhl, nhd, Tb, q⟩ := h
    obtain rfl : cdv = .ref cL := hcd.symm.trans hcode
    have hu := hu_of hr
    have ob := W.tn.ob
    refine ⟨_,
      (pss_cons
        (ps_set (i := 3) sc_law_built.nd rfl (.inr rfl) (pe_call G_law_label (hr.mono (by omega)) (by rfl) D_law_label.g D_law_label.fn.kp D_law_label.b .nil pass0 (pa_cons (pv 0) pa_nil)))
      (pss_cons
        (ps_if (pt_cmp (pc_din hu (pv 3) (pv 2)))
          (pss_one
            (ps_ret (pe_call G_law_alike (hr.mono (by omega)) (by rfl) D_law_alike.g D_law_alike.fn.kp D_law_alike.b .nil pass0 (pa_cons (pe_lamT (TLs PK PL) (k := 7) (Ng := N_law_town_why) D_law_town_why.fn D_law_town_why.b D_law_town_why.g (by rfl) (by rfl) sc_law_town_why (.inl rfl) (fun cdg => (why_gives_Taken T X_Taken g_HouseError g_NoHouse g_Taken g_NoTalk g_TooMany g_NoMark g_Broken g_Lack g_NoName xm_Taken_HouseError kq_Taken_NoHouse kq_Taken_Taken kq_Taken_NoTalk kq_Taken_TooMany kq_Taken_NoMark kq_Taken_Broken kq_Taken_Lack kq_Taken_NoName kq_Taken_ValueError)) TB rfl (.tail _ (.head _)) (twoT hPK) (hr.mono (by omega)) (LamX.lamS_by (by rfl)) rfl (fun _ _ _ _ _ => rfl) (fun A2 outer2 s2 H2 E2 f2 c2 hr => (pe_meth (pv 1) K_Town.cl D_Town_build.m GX_Town_build (hr.mono (by omega)) D_Town_build.b .nil (passes_call (takes_of rfl rfl rfl rfl) (fun _ _ _ _ h => h)) (pa_cons (pv 3) pa_nil)))) (pa_cons (pe_tup (pa_cons pe_str (pa_cons (pv 3) pa_nil))) pa_nil)))))
          pss_nil)
      (pss_cons
        (ps_if (pt_not (pt_val (pe_call G_law_alike (hr.mono (by omega)) (by rfl) D_law_alike.g D_law_alike.fn.kp D_law_alike.b .nil pass0 (pa_cons (pe_lamT (TLs PK PL) (k := 7) (Ng := N_law_town_why) D_law_town_why.fn D_law_town_why.b D_law_town_why.g (by rfl) (by rfl) sc_law_town_why (.inl rfl) (fun cdg => (why_gives_NoHouse T X_NoHouse g_HouseError g_NoHouse g_Taken g_NoTalk g_TooMany g_NoMark g_Broken g_Lack g_NoName xm_NoHouse_HouseError kq_NoHouse_NoHouse kq_NoHouse_Taken kq_NoHouse_NoTalk kq_NoHouse_TooMany kq_NoHouse_NoMark kq_NoHouse_Broken kq_NoHouse_Lack kq_NoHouse_NoName kq_NoHouse_ValueError)) TB rfl (.tail _ (.head _)) (twoT hPK) (hr.mono (by omega)) (LamX.lamS_by (by rfl)) rfl (fun _ _ _ _ _ => rfl) (fun A2 outer2 s2 H2 E2 f2 c2 hr => (pe_meth (pv 1) K_Town.cl D_Town_house.m GX_Town_house (hr.mono (by omega)) D_Town_house.b .nil (passes_call (takes_of rfl rfl rfl rfl) (fun _ _ _ _ h => h)) (pa_cons (pv 3) pa_nil)))) (pa_cons (pe_tup (pa_cons pe_str (pa_cons (pv 3) pa_nil))) pa_nil)))))
          (pss_one
            (ps_ret pe_bl))
          pss_nil)
      (pss_cons
        (ps_dput hu (pv 2) (pv 3) (pe_meth (pv 1) K_Town.cl D_Town_build.m G_Town_build (hr.mono (by omega)) D_Town_build.b .nil pass0 (pa_cons (pv 3) pa_nil)) rfl)
      (pss_one
        (ps_ret (pe_and (pe_callB (r := rIsi K) call_isi (by rfl) T.n_isinstance (by decide +kernel) (pa_cons (pe_dget hu (pv 2) (pv 3) (fun _ _ => rfl)) (pa_cons (pe_glob (v := .ref C_House) rfl g_House rfl) pa_nil))) (pe_one (pe_cmpR (r := rEqI K) (op_eqI (Nat.lt_of_le_of_lt (Nat.le_add_right _ _) hr.units)) (pe_meth (pv 1) K_Town.cl D_Town_house.m G_Town_house (hr.mono (by omega)) D_Town_house.b .nil pass0 (pa_cons (pv 3) pa_nil)) (pe_dget hu (pv 2) (pv 3) (fun _ _ => rfl)) (nomark _))))))))))
      , ?_⟩
    rw [show L2.start N_law_built [V.ref d, V.ref t, V.ref lh] = [some (.ref d), some (.ref t), some (.ref lh), none] from rfl]
    walk_at "x"
    refine ⟨d, c, nn, rfl, D0, by omega, fun H1 z D1 kp1 kt1 hz => ?_⟩
    obtain ⟨⟨xd0, exd0⟩, _⟩ := D0.at
    have n1 : t ≠ d := ne_of ob exd0 (fun z => nomatch z)
    have n2 : hm ≠ d := ne_of W.tn.ho exd0 (fun z => nomatch z)
    have n3 : lh ≠ d := ne_of W.lh' exd0 (fun z => nomatch z)
    have n4 : ∀ r ∈ rs, r.s ∉ [d] ∧ r.hd ∉ [d] := fun r hr => by
      obtain ⟨fk, efk⟩ := (W.ho r hr).st.here.obj
      exact ⟨by simpa using ne_of (W.ho r hr).st.ob exd0 (fun z => nomatch z), by simpa using ne_of efk exd0 (fun z => nomatch z)⟩
    have W1 := W.kp kp1 (by simpa using n1) (by simpa using n2) (by simpa using n3) n4
    have Tb1 := tabs_kp Tb kp1 fun b hb => by
      obtain rfl := List.mem_singleton.mp hb
      exact ⟨_, exd0, lst_notab _⟩
    have elh1 := W1.lh'
    have ob1 := W1.tn.ob
    walk_at "g"
    refine w_seq ?_
    walk_at "g"
    refine w_dinZ elh1 ?_
    rw [kvH_is W1.tn.nd, HR.kv_z]
    by_cases hzm : z ∈ rs.map (·.z)
    · refine ⟨_, rfl, ?_⟩
      rw [if_pos (decide_eq_true hzm)]
      walk_at "g"
      refine w_lam Tb1 fun A0 eA0 TA0 => ?_
      intro C0 Q0 kc0
      have xc0 := eA0.trans (LamX.ExtN.of kc0)
      have Wc0 := W1.extN xc0
      have obc0 := Wc0.tn.ob
      walk_at "x"
      refine ⟨t, tx, p, hm, tk, _, z, rfl, Wc0.tn, by rw [HR.kv_z]; exact hzm, ?_⟩
      intro dd C2 kd hdd edd
      refine ⟨rfl, dd, .str z, rfl, edd, fun t2 D5 kt0 et2 => ?_⟩
      have xd0 := xc0.trans (LamX.ExtN.of (Same.trans kd kt0))
      have Td0 := TA0.ext (Same.trans kc0 (Same.trans kd kt0))
      walk_at "x"
      refine w_new fun tn H6 htn etn k6 => ?_
      walk_at "g"
      refine ⟨_, _, rfl, SD.tup (k6 _ _ et2) etn (by simp) (fun y hy => ?_), fun H7 k7 => ?_⟩
      · rcases List.mem_cons.mp hy with rfl | hy
        · exact SD.sc trivial
        · rw [List.mem_singleton.mp hy]
          exact SD.sc trivial
      have x7 := xd0.trans (LamX.ExtN.of (Same.trans k6 k7))
      have Tb7 := Td0.ext (Same.trans k6 k7)
      have kn7 : KpN [d] H H7 := (KpN.ofK kp1).trans (KpN.of x7)
      have W7 := W1.extN x7
      have D7 := D1.extN x7
      have kt7 := kt1.trans (KT.extN x7)
      exact q rs H7 W7 (.inl rfl) (fun e => by rw [e] at hzm; simp at hzm) D7 (kn7.mono (by simp)) kt7 Tb7
    · refine ⟨_, rfl, ?_⟩
      rw [if_neg (by simpa using hzm)]
      walk_at "g"
      refine w_seq ?_
      walk_at "g"
      refine w_lam Tb1 fun A0 eA0 TA0 => ?_
      intro C0 Q0 kc0
      have xc0 := eA0.trans (LamX.ExtN.of kc0)
      have Wc0 := W1.extN xc0
      have obc0 := Wc0.tn.ob
      walk_at "x"
      refine ⟨t, tx, p, hm, tk, _, z, rfl, Wc0.tn, by rw [HR.kv_z]; exact hzm, ?_⟩
      intro dd C2 kd hdd edd
      refine ⟨rfl, dd, .str z, rfl, edd, fun t2 D5 kt0 et2 => ?_⟩
      have xd0 := xc0.trans (LamX.ExtN.of (Same.trans kd kt0))
      have Td0 := TA0.ext (Same.trans kc0 (Same.trans kd kt0))
      walk_at "x"
      refine w_new fun tn H6 htn etn k6 => ?_
      walk_at "g"
      refine ⟨_, _, rfl, SD.tup (k6 _ _ et2) etn (by simp) (fun y hy => ?_), fun H7 k7 => ?_⟩
      · rcases List.mem_cons.mp hy with rfl | hy
        · exact SD.sc trivial
        · rw [List.mem_singleton.mp hy]
          exact SD.sc trivial
      have x7 := xd0.trans (LamX.ExtN.of (Same.trans k6 k7))
      have Tb7 := Td0.ext (Same.trans k6 k7)
      have kn7 : KpN [d] H H7 := (KpN.ofK kp1).trans (KpN.of x7)
      have W7 := W1.extN x7
      have D7 := D1.extN x7
      have kt7 := kt1.trans (KT.extN x7)
      have ob7 := W7.tn.ob
      have eho7 := W7.tn.ho
      have elh7 := W7.lh'
      walk_at "g"
      refine ⟨t, tx, p, hm, tk, _, z, rfl, W7.tn, by rw [HR.kv_z]; exact hzm, by unfold HR.kv; rw [List.length_map]; omega, fun s dy hd a1 a2 a3 a4 H8 hs hhd S8 TN8 k8 => ?_⟩
      have elh8 := k8 _ _ (by simpa using nhl.symm) elh7
      walk_at "g"
      refine w_dputS elh8 (by unfold kvH HR.kv; rw [List.length_map, List.length_map, sizeLine_eq]; omega) fun H9 e9 o9 => ?_
      rw [kvH_put (by rw [HR.kv_z]; exact hzm)] at e9
      have k9 : Kp [lh] H8 H9 := o9.kp (by simp)
      have tl : t ≠ lh := ne_of ob7 elh7 (fun z => nomatch z)
      have TN9 := TN8.kp k9 (by simpa using tl) (by simpa using nhl)
      have S9 := S8.kp k9 (by simpa using (ne_of_none elh7 hs).symm) (by simpa using (ne_of_none elh7 hhd).symm)
      have hin : (z, s) ∈ HR.kv rs ++ [(z, s)] := by simp
      have ev := kvH_some TN9.nd hin
      have ob9 := TN9.ob
      have es9 := S9.ob
      have W9 : TwAt CT CU H9 t tx p hm tk lh (rs ++ [⟨z, s, dy, hd, hrs a1 a2 a3 a4, 0, []⟩]) := by
        have ekv : HR.kv (rs ++ [⟨z, s, dy, hd, hrs a1 a2 a3 a4, 0, []⟩]) = HR.kv rs ++ [(z, s)] := by unfold HR.kv; rw [List.map_append]; rfl
        refine ⟨by rw [ekv]; exact TN9, by rw [ekv]; exact e9, fun r hr => ?_⟩
        rcases List.mem_append.mp hr with g | g
        · have R7 := W7.ho r g
          have m1 : r.s ≠ hm := ne_of R7.st.ob eho7 (fun z => nomatch z)
          have m2 : r.s ≠ lh := ne_of R7.st.ob elh7 (fun z => nomatch z)
          obtain ⟨m3, m4⟩ := nhd r g
          exact (R7.kp k8 (by simpa using m1) (by simpa using m3)).kp k9 (by simpa using m2) (by simpa using m4)
        · rw [List.mem_singleton.mp g]
          exact ⟨⟨S9.ob, S9.here.iff fun n => by simp, S9.ne⟩, .nil, by simp, a1, a2, a3, a4, rfl⟩
      walk_at "g"
      refine w_dgetZ e9 ev ?_
      walk_at "g"
      refine w_isO OK_House clH es9 ?_
      walk_at "g"
      refine ⟨t, tx, p, hm, tk, s, _, z, rfl, TN9, hin, ?_⟩
      walk_at "g"
      refine w_dgetZ e9 ev ?_
      refine ⟨_, _, _, _, _, _, _, rfl, rfl, es9, es9, EQ_House, ?_⟩
      rw [decide_eq_true rfl]
      walk_at "g"
      obtain ⟨⟨xd7, exd7⟩, xc7, exc7⟩ := D7.at
      have c1 : d ≠ hm := ne_of exd7 eho7 (fun z => nomatch z)
      have c2 : d ≠ lh := ne_of exd7 elh7 (fun z => nomatch z)
      have c3 : c ≠ hm := ne_of exc7 eho7 (fun z => nomatch z)
      have c4 : c ≠ lh := ne_of exc7 elh7 (fun z => nomatch z)
      have D9 := (D7.kp k8 (by simpa using c1) (by simpa using c3)).kp k9 (by simpa using c2) (by simpa using c4)
      have kt9 : KT H H9 := (kt7.trans (KT.kpI k8 (by simp [eho7]))).trans (KT.kpI k9 (by simp [elh8]))
      have Tb8 := tabs_kp Tb7 k8 fun b hb => by
        obtain rfl := List.mem_singleton.mp hb
        exact ⟨_, eho7, dk_notab _⟩
      have Tb9 := tabs_kp Tb8 k9 fun b hb => by
        obtain rfl := List.mem_singleton.mp hb
        exact ⟨_, elh8, dk_notab _⟩
      refine q _ H9 W9 (.inr ⟨_, rfl, rfl, hzm, Fr.of kn7 (by simpa using (ne_of_none exd7 hs).symm) hs, Fr.of kn7 (by simpa using (ne_of_none exd7 hhd).symm) hhd⟩) (by simp) D9 ?_ kt9 Tb9
      exact ((kn7.mono (by simp)).trans ((KpN.ofK k8).mono (by simp))).trans ((KpN.ofK k9).mono (by simp))
end
/-! ### both towns, as the law has them -/
theorem HvAt.kpN {M : List Addr} {H H' : Hp} {hl : Addr} {hv : Str → Option Addr} {rs : List HR} (h : HvAt H hl hv rs) (k : KpN M H H') (h1 : hl ∉ M) (h2 : ∀ z a, hv z = some a → a ∉ M) : HvAt H' hl hv rs := by
  obtain ⟨⟨kvs, e1, e2, e3⟩, g⟩ := h
  exact ⟨⟨kvs, k _ _ h1 e1 (fun ps z => nomatch z), e2, e3⟩, fun r hr => ⟨(g r hr).1, fun a ha => k _ _ (h2 _ a ha) ((g r hr).2 a ha) (fun ps z => nomatch z)⟩⟩
theorem town_ne {H : Hp} {t s CT tx CU dy p hm tk p' hd : Addr} {k : Nat} {fs : List (Str × V)} (h1 : H t = some (.ins CT tx [("book", .ref p), ("homes", .ref hm), ("talks", .ref tk)])) (h2 : H s = some (.ins CU dy (("book", .ref p') :: ("here", .ref hd) :: ("turns", nV k) :: fs))) : t ≠ s := ne_of h1 h2 fun z => by
  injection z with _ _ z
  have e := (List.cons.inj (List.cons.inj z).2).1
  have e2 : Str.ofString "homes" = Str.ofString "here" := congrArg Prod.fst e
  exact absurd e2 (by decide +kernel)
theorem book_ne {H : Hp} {b s C dx CU dy lc ld lg p' hd : Addr} {k : Nat} {fs : List (Str × V)} (h1 : H b = some (.ins C dx [("contents", .ref lc), ("depths", .ref ld), ("given", .ref lg)])) (h2 : H s = some (.ins CU dy (("book", .ref p') :: ("here", .ref hd) :: ("turns", nV k) :: fs))) : b ≠ s := ne_of h1 h2 fun z => by
  injection z with _ _ z
  have e := (List.cons.inj z).1
  have e2 : Str.ofString "contents" = Str.ofString "book" := congrArg Prod.fst e
  exact absurd e2 (by decide +kernel)
structure LWd (P : Program) (w : World) (C CT CU : Addr) (H : Hp) (d c t tx p dx lc ld lg hm tk lh t2 tx2 p2 dx2 lc2 ld2 lg2 hm2 tk2 lh2 hl : Addr) (cs : List (Addr × Ct)) (rs rs2 : List HR) (hv : Str → Option Addr) : Prop where
  w1 : TwAt CT CU H t tx p hm tk lh rs
  b1 : BookAt P w C H p dx lc ld lg cs (dsOf (cs.map (·.2)))
  w2 : TwAt CT CU H t2 tx2 p2 hm2 tk2 lh2 rs2
  b2 : BookAt P w C H p2 dx2 lc2 ld2 lg2 [] []
  v1 : HvAt H hl hv rs
  e2 : ∀ r ∈ rs2, r.hs = []
  hn : ∀ z, z ∉ rs.map (·.z) → hv z = none
  hvd : ∀ z a, hv z = some a → a ∉ [d, lc, ld]
  dc : ([hm, lh, hm2, lh2, hl] ++ (rs.map (·.hd) ++ rs2.map (·.hd))).Nodup
  sc : (rs.map (·.s) ++ rs2.map (·.s)).Nodup
  ls : (lc ≠ d ∧ ld ≠ d) ∧ (c ≠ lc ∧ c ≠ ld) ∧ (lc2 ≠ d ∧ ld2 ≠ d) ∧ (lc2 ≠ lc ∧ lc2 ≠ ld ∧ ld2 ≠ lc ∧ ld2 ≠ ld) ∧ lg2 ≠ lg ∧ p2 ≠ p
  sz : rs.length ≤ 8 ∧ rs2.length ≤ 8
section
variable {P : Program} {w : World} {C CT CU : Addr} {H H' : Hp} {d c t tx p dx lc ld lg hm tk lh t2 tx2 p2 dx2 lc2 ld2 lg2 hm2 tk2 lh2 hl : Addr} {cs : List (Addr × Ct)} {rs rs2 : List HR} {hv : Str → Option Addr}
/-- draws, lambdas, what is new -/
theorem LWd.dk {n : Nat} (L : LWd P w C CT CU H d c t tx p dx lc ld lg hm tk lh t2 tx2 p2 dx2 lc2 ld2 lg2 hm2 tk2 lh2 hl cs rs rs2 hv) (D : Deck H d c n) (k : KpN [d] H H') (kt : KT H H') : LWd P w C CT CU H' d c t tx p dx lc ld lg hm tk lh t2 tx2 p2 dx2 lc2 ld2 lg2 hm2 tk2 lh2 hl cs rs rs2 hv := by
  obtain ⟨⟨xd, exd⟩, _⟩ := D.at
  have hs : ∀ {p : Addr} {r : HR}, HrAt CU H p r → r.s ∉ [d] ∧ r.hd ∉ [d] := fun {p r} h => by
    obtain ⟨fk, efk⟩ := h.st.here.obj
    exact ⟨by simpa using ne_of h.st.ob exd (fun z => nomatch z), by simpa using ne_of efk exd (fun z => nomatch z)⟩
  obtain ⟨⟨kvs, e1, _⟩, _⟩ := L.v1
  obtain ⟨⟨g1, g2⟩, _, ⟨g5, g6⟩, _⟩ := L.ls
  exact ⟨L.w1.kpN k (by simpa using ne_of L.w1.tn.ob exd (fun z => nomatch z)) (by simpa using ne_of L.w1.tn.ho exd (fun z => nomatch z)) (by simpa using ne_of L.w1.lh' exd (fun z => nomatch z)) fun r hr => hs (L.w1.ho r hr),
    L.b1.kpN k kt (by simpa using ne_of L.b1.ob exd (fun z => nomatch z)) (by simpa using g1) (by simpa using g2) (by simpa using ne_of L.b1.gi.at' exd (fun z => nomatch z)),
    L.w2.kpN k (by simpa using ne_of L.w2.tn.ob exd (fun z => nomatch z)) (by simpa using ne_of L.w2.tn.ho exd (fun z => nomatch z)) (by simpa using ne_of L.w2.lh' exd (fun z => nomatch z)) fun r hr => hs (L.w2.ho r hr),
    L.b2.kpN k kt (by simpa using ne_of L.b2.ob exd (fun z => nomatch z)) (by simpa using g5) (by simpa using g6) (by simpa using ne_of L.b2.gi.at' exd (fun z => nomatch z)),
    L.v1.kpN k (by simpa using ne_of e1 exd (fun z => nomatch z)) fun z a h => (by have := L.hvd z a h; simp at this ⊢; exact this.1), L.e2, L.hn, L.hvd, L.dc, L.sc, L.ls, L.sz⟩
theorem LWd.same {n : Nat} (L : LWd P w C CT CU H d c t tx p dx lc ld lg hm tk lh t2 tx2 p2 dx2 lc2 ld2 lg2 hm2 tk2 lh2 hl cs rs rs2 hv) (D : Deck H d c n) (k : Same H H') : LWd P w C CT CU H' d c t tx p dx lc ld lg hm tk lh t2 tx2 p2 dx2 lc2 ld2 lg2 hm2 tk2 lh2 hl cs rs rs2 hv := L.dk D (KpN.ofK (Kp.of k)) (KT.of k)
/-- dicts apart from those of houses -/
theorem LWd.dn (L : LWd P w C CT CU H d c t tx p dx lc ld lg hm tk lh t2 tx2 p2 dx2 lc2 ld2 lg2 hm2 tk2 lh2 hl cs rs rs2 hv) : (hm ≠ lh ∧ hm ≠ hm2 ∧ hm ≠ lh2 ∧ hm ≠ hl ∧ lh ≠ hm2 ∧ lh ≠ lh2 ∧ lh ≠ hl ∧ hm2 ≠ lh2 ∧ hm2 ≠ hl ∧ lh2 ≠ hl) ∧ (∀ r, r ∈ rs ∨ r ∈ rs2 → r.hd ≠ hm ∧ r.hd ≠ lh ∧ r.hd ≠ hm2 ∧ r.hd ≠ lh2 ∧ r.hd ≠ hl) := by
  obtain ⟨h1, _, h3⟩ := List.nodup_append.mp L.dc
  refine ⟨?_, fun r hr => ?_⟩
  · simp only [List.nodup_cons, List.mem_cons, List.not_mem_nil, or_false, not_or] at h1
    obtain ⟨⟨a1, a2, a3, a4⟩, ⟨b1, b2, b3⟩, ⟨c1, c2⟩, d1, _⟩ := h1
    exact ⟨a1, a2, a3, a4, b1, b2, b3, c1, c2, d1⟩
  · have hm' : r.hd ∈ rs.map (·.hd) ++ rs2.map (·.hd) := by
      rcases hr with g | g
      · exact List.mem_append_left _ (List.mem_map_of_mem g)
      · exact List.mem_append_right _ (List.mem_map_of_mem g)
    have ne : ∀ x ∈ [hm, lh, hm2, lh2, hl], r.hd ≠ x := fun x hx e => h3 x hx _ hm' e.symm
    exact ⟨ne _ (by simp), ne _ (by simp), ne _ (by simp), ne _ (by simp), ne _ (by simp)⟩
theorem LWd.dl (L : LWd P w C CT CU H d c t tx p dx lc ld lg hm tk lh t2 tx2 p2 dx2 lc2 ld2 lg2 hm2 tk2 lh2 hl cs rs rs2 hv) : ∀ x ∈ [hm, lh, hm2, lh2, hl] ++ (rs.map (·.hd) ++ rs2.map (·.hd)), ∃ ks, H x = some (.dK ks) := fun x hx => by
  rcases List.mem_append.mp hx with h | h
  · simp only [List.mem_cons, List.not_mem_nil, or_false] at h
    obtain ⟨⟨kvs, e1, _⟩, _⟩ := L.v1
    rcases h with rfl | rfl | rfl | rfl | rfl
    · exact ⟨_, L.w1.tn.ho⟩
    · exact ⟨_, L.w1.lh'⟩
    · exact ⟨_, L.w2.tn.ho⟩
    · exact ⟨_, L.w2.lh'⟩
    · exact ⟨_, e1⟩
  · rcases List.mem_append.mp h with g | g
    · obtain ⟨r, hr, rfl⟩ := List.mem_map.mp g
      exact (L.w1.ho r hr).st.here.obj
    · obtain ⟨r, hr, rfl⟩ := List.mem_map.mp g
      exact (L.w2.ho r hr).st.here.obj
theorem LWd.sl (L : LWd P w C CT CU H d c t tx p dx lc ld lg hm tk lh t2 tx2 p2 dx2 lc2 ld2 lg2 hm2 tk2 lh2 hl cs rs rs2 hv) : ∀ x ∈ rs.map (·.s) ++ rs2.map (·.s), ∃ dy fs, H x = some (.ins CU dy fs) := fun x hx => by
  rcases List.mem_append.mp hx with g | g
  · obtain ⟨r, hr, rfl⟩ := List.mem_map.mp g
    exact ⟨_, _, (L.w1.ho r hr).st.ob⟩
  · obtain ⟨r, hr, rfl⟩ := List.mem_map.mp g
    exact ⟨_, _, (L.w2.ho r hr).st.ob⟩
theorem nodup_mid {A X Y : List Addr} {x : Addr} (h : (A ++ (X ++ Y)).Nodup) (hx : ∀ y ∈ A ++ (X ++ Y), x ≠ y) : (A ++ ((X ++ [x]) ++ Y)).Nodup := by
  have e : (A ++ ((X ++ [x]) ++ Y)).Perm (x :: (A ++ (X ++ Y))) := by
    have e1 : A ++ ((X ++ [x]) ++ Y) = (A ++ X) ++ x :: Y := by simp
    rw [e1, ← List.append_assoc]
    exact List.perm_middle
  rw [e.nodup_iff, List.nodup_cons]
  exact ⟨fun z => hx x z rfl, h⟩
/-- a house more in the first town -/
theorem LWd.add1 {n : Nat} {rs' : List HR} (L : LWd P w C CT CU H d c t tx p dx lc ld lg hm tk lh t2 tx2 p2 dx2 lc2 ld2 lg2 hm2 tk2 lh2 hl cs rs rs2 hv) (D : Deck H d c n) (k : KpN [d, hm, lh] H H') (kt : KT H H') (W : TwAt CT CU H' t tx p hm tk lh rs') (hr : rs' = rs ∨ ∃ r, rs' = rs ++ [r] ∧ r.hs = [] ∧ r.z ∉ rs.map (·.z) ∧ Fr H r.s ∧ Fr H r.hd) (h8 : rs'.length ≤ 8) : LWd P w C CT CU H' d c t tx p dx lc ld lg hm tk lh t2 tx2 p2 dx2 lc2 ld2 lg2 hm2 tk2 lh2 hl cs rs' rs2 hv := by
  obtain ⟨⟨xd, exd⟩, _⟩ := D.at
  obtain ⟨dn, dh⟩ := L.dn
  obtain ⟨⟨kvs, e1, e1l, e1v⟩, g1⟩ := id L.v1
  obtain ⟨⟨l1, l2⟩, _, ⟨l5, l6⟩, _⟩ := id L.ls
  have eho := L.w1.tn.ho
  have elh := L.w1.lh'
  have ni : ∀ {x C' dy : Addr} {fs : List (Str × V)}, H x = some (.ins C' dy fs) → x ∉ [d, hm, lh] := fun {x C' dy fs} e => by
    simp only [List.mem_cons, List.not_mem_nil, or_false, not_or]
    exact ⟨ne_of e exd (fun z => nomatch z), ne_of e eho (fun z => nomatch z), ne_of e elh (fun z => nomatch z)⟩
  have nl : ∀ {x : Addr} {xs : List V}, x ≠ d → H x = some (.lst xs) → x ∉ [d, hm, lh] := fun {x xs} h e => by
    simp only [List.mem_cons, List.not_mem_nil, or_false, not_or]
    exact ⟨h, ne_of e eho (fun z => nomatch z), ne_of e elh (fun z => nomatch z)⟩
  have nk : ∀ {x : Addr} {ks : List (Key × V)}, x ≠ hm → x ≠ lh → H x = some (.dK ks) → x ∉ [d, hm, lh] := fun {x ks} h h' e => by
    simp only [List.mem_cons, List.not_mem_nil, or_false, not_or]
    exact ⟨ne_of e exd (fun z => nomatch z), h, h'⟩
  have nn : ∀ {x : Addr} {xs : List NEnt}, H x = some (NO P w x xs) → x ∉ [d, hm, lh] := fun {x xs} e => by
    simp only [List.mem_cons, List.not_mem_nil, or_false, not_or]
    exact ⟨ne_of e exd (fun z => nomatch z), ne_of e eho (fun z => nomatch z), ne_of e elh (fun z => nomatch z)⟩
  have B1 := L.b1.kpN k kt (ni L.b1.ob) (nl l1 L.b1.co) (nl l2 L.b1.de) (nn L.b1.gi.at')
  have B2 := L.b2.kpN k kt (ni L.b2.ob) (nl l5 L.b2.co) (nl l6 L.b2.de) (nn L.b2.gi.at')
  have W2 := L.w2.kpN k (ni L.w2.tn.ob) (nk dn.2.1.symm dn.2.2.2.2.1.symm L.w2.tn.ho) (nk dn.2.2.1.symm dn.2.2.2.2.2.1.symm L.w2.lh') fun r hr => by
    obtain ⟨fk, efk⟩ := (L.w2.ho r hr).st.here.obj
    obtain ⟨d1, d2, _⟩ := dh r (.inr hr)
    exact ⟨ni (L.w2.ho r hr).st.ob, nk d1 d2 efk⟩
  have V1 := L.v1.kpN k (nk dn.2.2.2.1.symm dn.2.2.2.2.2.2.1.symm e1) fun z a h => by
    have n1 := L.hvd z a h
    by_cases hz : z ∈ rs.map (·.z)
    · obtain ⟨r, hr, rfl⟩ := List.mem_map.mp hz
      simp only [List.mem_cons, List.not_mem_nil, or_false, not_or] at n1
      exact nl n1.1 ((g1 r hr).2 a h)
    · rw [L.hn z hz] at h
      cases h
  rcases hr with rfl | ⟨r, rfl, hrs, hz, fs, fh⟩
  · exact ⟨W, B1, W2, B2, V1, L.e2, L.hn, L.hvd, L.dc, L.sc, L.ls, h8, L.sz.2⟩
  · refine ⟨W, B1, W2, B2, ⟨V1.1, fun q hq => ?_⟩, L.e2, fun z hz' => L.hn z fun h => hz' (by rw [List.map_append]; exact List.mem_append_left _ h), L.hvd, ?_, ?_, L.ls, h8, L.sz.2⟩
    · rcases List.mem_append.mp hq with g | g
      · exact V1.2 q g
      · rw [List.mem_singleton.mp g]
        refine ⟨fun _ => hrs, fun a ha => ?_⟩
        rw [L.hn r.z hz] at ha
        cases ha
    · rw [List.map_append]
      exact nodup_mid L.dc fun y hy => by
        obtain ⟨ks, e⟩ := L.dl y hy
        exact fh.ne e (fun ps z => nomatch z)
    · rw [List.map_append]
      have := nodup_mid (A := []) (X := rs.map (·.s)) (Y := rs2.map (·.s)) (x := r.s) (by rw [List.nil_append]; exact L.sc) fun y hy => by
        rw [List.nil_append] at hy
        obtain ⟨dy, fs', e⟩ := L.sl y hy
        exact fs.ne e (fun ps z => nomatch z)
      rw [List.nil_append] at this
      exact this
/-- a house more in the second town -/
theorem LWd.add2 {n : Nat} {rs' : List HR} (L : LWd P w C CT CU H d c t tx p dx lc ld lg hm tk lh t2 tx2 p2 dx2 lc2 ld2 lg2 hm2 tk2 lh2 hl cs rs rs2 hv) (D : Deck H d c n) (k : KpN [d, hm2, lh2] H H') (kt : KT H H') (W : TwAt CT CU H' t2 tx2 p2 hm2 tk2 lh2 rs') (hr : rs' = rs2 ∨ ∃ r, rs' = rs2 ++ [r] ∧ r.hs = [] ∧ r.z ∉ rs2.map (·.z) ∧ Fr H r.s ∧ Fr H r.hd) (h8 : rs'.length ≤ 8) : LWd P w C CT CU H' d c t tx p dx lc ld lg hm tk lh t2 tx2 p2 dx2 lc2 ld2 lg2 hm2 tk2 lh2 hl cs rs rs' hv := by
  obtain ⟨⟨xd, exd⟩, _⟩ := D.at
  obtain ⟨dn, dh⟩ := L.dn
  obtain ⟨⟨kvs, e1, e1l, e1v⟩, g1⟩ := id L.v1
  obtain ⟨⟨l1, l2⟩, _, ⟨l5, l6⟩, _⟩ := id L.ls
  have eho := L.w2.tn.ho
  have elh := L.w2.lh'
  have ni : ∀ {x C' dy : Addr} {fs : List (Str × V)}, H x = some (.ins C' dy fs) → x ∉ [d, hm2, lh2] := fun {x C' dy fs} e => by
    simp only [List.mem_cons, List.not_mem_nil, or_false, not_or]
    exact ⟨ne_of e exd (fun z => nomatch z), ne_of e eho (fun z => nomatch z), ne_of e elh (fun z => nomatch z)⟩
  have nl : ∀ {x : Addr} {xs : List V}, x ≠ d → H x = some (.lst xs) → x ∉ [d, hm2, lh2] := fun {x xs} h e => by
    simp only [List.mem_cons, List.not_mem_nil, or_false, not_or]
    exact ⟨h, ne_of e eho (fun z => nomatch z), ne_of e elh (fun z => nomatch z)⟩
  have nk : ∀ {x : Addr} {ks : List (Key × V)}, x ≠ hm2 → x ≠ lh2 → H x = some (.dK ks) → x ∉ [d, hm2, lh2] := fun {x ks} h h' e => by
    simp only [List.mem_cons, List.not_mem_nil, or_false, not_or]
    exact ⟨ne_of e exd (fun z => nomatch z), h, h'⟩
  have nn : ∀ {x : Addr} {xs : List NEnt}, H x = some (NO P w x xs) → x ∉ [d, hm2, lh2] := fun {x xs} e => by
    simp only [List.mem_cons, List.not_mem_nil, or_false, not_or]
    exact ⟨ne_of e exd (fun z => nomatch z), ne_of e eho (fun z => nomatch z), ne_of e elh (fun z => nomatch z)⟩
  have B1 := L.b1.kpN k kt (ni L.b1.ob) (nl l1 L.b1.co) (nl l2 L.b1.de) (nn L.b1.gi.at')
  have B2 := L.b2.kpN k kt (ni L.b2.ob) (nl l5 L.b2.co) (nl l6 L.b2.de) (nn L.b2.gi.at')
  have W1 := L.w1.kpN k (ni L.w1.tn.ob) (nk dn.2.1 dn.2.2.1 L.w1.tn.ho) (nk dn.2.2.2.2.1 dn.2.2.2.2.2.1 L.w1.lh') fun r hr => by
    obtain ⟨fk, efk⟩ := (L.w1.ho r hr).st.here.obj
    obtain ⟨_, _, d1, d2, _⟩ := dh r (.inl hr)
    exact ⟨ni (L.w1.ho r hr).st.ob, nk d1 d2 efk⟩
  have V1 := L.v1.kpN k (nk dn.2.2.2.2.2.2.2.2.1.symm dn.2.2.2.2.2.2.2.2.2.symm e1) fun z a h => by
    have n1 := L.hvd z a h
    by_cases hz : z ∈ rs.map (·.z)
    · obtain ⟨r, hr, rfl⟩ := List.mem_map.mp hz
      simp only [List.mem_cons, List.not_mem_nil, or_false, not_or] at n1
      exact nl n1.1 ((g1 r hr).2 a h)
    · rw [L.hn z hz] at h
      cases h
  rcases hr with rfl | ⟨r, rfl, hrs, hz, fs, fh⟩
  · exact ⟨W1, B1, W, B2, V1, L.e2, L.hn, L.hvd, L.dc, L.sc, L.ls, L.sz.1, h8⟩
  · refine ⟨W1, B1, W, B2, V1, fun q hq => ?_, L.hn, L.hvd, ?_, ?_, L.ls, L.sz.1, h8⟩
    · rcases List.mem_append.mp hq with g | g
      · exact L.e2 q g
      · rw [List.mem_singleton.mp g]
        exact hrs
    · rw [List.map_append]
      have := nodup_mid (A := [hm, lh, hm2, lh2, hl] ++ rs.map (·.hd)) (X := rs2.map (·.hd)) (Y := []) (x := r.hd) (by rw [List.append_nil, List.append_assoc]; exact L.dc) fun y hy => by
        rw [List.append_nil, List.append_assoc] at hy
        obtain ⟨ks, e⟩ := L.dl y hy
        exact fh.ne e (fun ps z => nomatch z)
      rw [List.append_nil, List.append_assoc] at this
      exact this
    · rw [List.map_append]
      have := nodup_mid (A := rs.map (·.s)) (X := rs2.map (·.s)) (Y := []) (x := r.s) (by rw [List.append_nil]; exact L.sc) fun y hy => by
        rw [List.append_nil] at hy
        obtain ⟨dy, fs', e⟩ := L.sl y hy
        exact fs.ne e (fun ps z => nomatch z)
      rw [List.append_nil] at this
      exact this
def HR.up (z : Str) (k : Nat) (hs : List Nat) (q : HR) : HR := if q.z = z then { q with k := k, hs := hs } else q
theorem HR.up_kv (z : Str) (k : Nat) (hs : List Nat) (rs : List HR) : HR.kv (rs.map (HR.up z k hs)) = HR.kv rs ∧ (rs.map (HR.up z k hs)).map (·.hd) = rs.map (·.hd) ∧ (rs.map (HR.up z k hs)).map (·.s) = rs.map (·.s) ∧ (rs.map (HR.up z k hs)).map (·.z) = rs.map (·.z) := by
  have h : ∀ q : HR, (HR.up z k hs q).z = q.z ∧ (HR.up z k hs q).s = q.s ∧ (HR.up z k hs q).hd = q.hd := fun q => by
    unfold HR.up
    split <;> exact ⟨rfl, rfl, rfl⟩
  refine ⟨?_, ?_, ?_, ?_⟩
  · unfold HR.kv
    rw [List.map_map]
    exact List.map_congr_left fun q _ => by show ((HR.up z k hs q).z, (HR.up z k hs q).s) = _; rw [(h q).1, (h q).2.1]
  · rw [List.map_map]
    exact List.map_congr_left fun q _ => (h q).2.2
  · rw [List.map_map]
    exact List.map_congr_left fun q _ => (h q).2.1
  · rw [List.map_map]
    exact List.map_congr_left fun q _ => (h q).1
theorem nodup_eq {α β : Type} {f : α → β} : ∀ {l : List α}, (l.map f).Nodup → ∀ {a b : α}, a ∈ l → b ∈ l → f a = f b → a = b
  | x :: l, h, a, b, ha, hb, e => by
    rw [List.map_cons, List.nodup_cons] at h
    rcases List.mem_cons.mp ha with e1 | ha' <;> rcases List.mem_cons.mp hb with e2 | hb'
    · rw [e1, e2]
    · exact absurd (by rw [← e1, e]; exact List.mem_map_of_mem hb') h.1
    · exact absurd (by rw [← e2, ← e]; exact List.mem_map_of_mem ha') h.1
    · exact nodup_eq h.2 ha' hb' e
/-- a thing is written into a house of the first town, and noted -/
theorem LWd.noted {n j k' : Nat} {r : HR} {cs' : List (Addr × Ct)} {hs' : List Nat} {a : Addr} {H1 H2 H3 : Hp} {kvs : List (Key × V)} (L : LWd P w C CT CU H d c t tx p dx lc ld lg hm tk lh t2 tx2 p2 dx2 lc2 ld2 lg2 hm2 tk2 lh2 hl cs rs rs2 hv) (D : Deck H d c n) (hr : r ∈ rs)
    (B1 : BookAt P w C H1 p dx lc ld lg cs' (dsOf (cs'.map (·.2)))) (S1 : StAt CU H1 r.s r.dy p r.hd r.fs k' (fun m => m ∈ r.hs ∨ m = j)) (k1 : Kp [lc, ld, lg, r.s, r.hd] H H1) (t1 : KT H H1) (k2 : Same H1 H2) (ha : H2 a = some (.lst (hs'.map nV))) (haN : a ∉ [d, lc, ld]) (hup : hs'.Pairwise (· < ·)) (hmem : ∀ m, m ∈ hs' ↔ m ∈ r.hs ∨ m = j) (hfew : hs'.length ≤ 1000)
    (ek : H hl = some (.dK kvs)) (e3 : H3 hl = some (.dK (putK kvs (Sum.inr r.z) (.ref a)))) (o3 : Off hl H2 H3) : LWd P w C CT CU H3 d c t tx p dx lc ld lg hm tk lh t2 tx2 p2 dx2 lc2 ld2 lg2 hm2 tk2 lh2 hl cs' (rs.map (HR.up r.z k' hs')) rs2 (fun z => if z = r.z then some a else hv z) ∧ Deck H3 d c n ∧ KT H H3 := by
  obtain ⟨⟨xd, exd⟩, xc, exc⟩ := id D.at
  obtain ⟨dn, dh⟩ := L.dn
  obtain ⟨⟨kvs0, e1, e1l, e1v⟩, g1⟩ := id L.v1
  have ekk : kvs0 = kvs := by
    rw [ek] at e1
    cases e1
    rfl
  subst ekk
  obtain ⟨⟨l1, l2⟩, ⟨lc1, lc2'⟩, ⟨l5, l6⟩, ⟨m1, m2, m3, m4⟩, m5, m6⟩ := id L.ls
  have R := L.w1.ho r hr
  have rs0 := R.st.ob
  obtain ⟨rk, rhd⟩ := R.st.here.obj
  have bco := L.b1.co
  have bde := L.b1.de
  have bgi := L.b1.gi.at'
  have nl : ∀ {x : Addr} {xs : List V}, x ≠ lc → x ≠ ld → H x = some (.lst xs) → x ∉ [lc, ld, lg, r.s, r.hd] := fun {x xs} h h' e => by
    simp only [List.mem_cons, List.not_mem_nil, or_false, not_or]
    exact ⟨h, h', ne_of e bgi (fun z => nomatch z), ne_of e rs0 (fun z => nomatch z), ne_of e rhd (fun z => nomatch z)⟩
  have nk : ∀ {x : Addr} {ks : List (Key × V)}, x ≠ r.hd → H x = some (.dK ks) → x ∉ [lc, ld, lg, r.s, r.hd] := fun {x ks} h e => by
    simp only [List.mem_cons, List.not_mem_nil, or_false, not_or]
    exact ⟨ne_of e bco (fun z => nomatch z), ne_of e bde (fun z => nomatch z), ne_of e bgi (fun z => nomatch z), ne_of e rs0 (fun z => nomatch z), h⟩
  have ni : ∀ {x C' dy : Addr} {fs : List (Str × V)}, x ≠ r.s → H x = some (.ins C' dy fs) → x ∉ [lc, ld, lg, r.s, r.hd] := fun {x C' dy fs} h e => by
    simp only [List.mem_cons, List.not_mem_nil, or_false, not_or]
    exact ⟨ne_of e bco (fun z => nomatch z), ne_of e bde (fun z => nomatch z), ne_of e bgi (fun z => nomatch z), h, ne_of e rhd (fun z => nomatch z)⟩
  have nn : ∀ {x : Addr} {xs : List NEnt}, x ≠ lg → H x = some (NO P w x xs) → x ∉ [lc, ld, lg, r.s, r.hd] := fun {x xs} h e => by
    simp only [List.mem_cons, List.not_mem_nil, or_false, not_or]
    exact ⟨ne_of e bco (fun z => nomatch z), ne_of e bde (fun z => nomatch z), h, ne_of e rs0 (fun z => nomatch z), ne_of e rhd (fun z => nomatch z)⟩
  have scA := List.nodup_append.mp L.sc
  have dcA := List.nodup_append.mp (List.nodup_append.mp L.dc).2.1
  have rd := dh r (.inl hr)
  have o1 : ∀ q ∈ rs, q ≠ r → HrAt CU H1 p q := fun q hq hne => by
    obtain ⟨qk, eqk⟩ := (L.w1.ho q hq).st.here.obj
    exact (L.w1.ho q hq).kp k1 (ni (fun e => hne (nodup_eq scA.1 hq hr e)) (L.w1.ho q hq).st.ob) (nk (fun e => hne (nodup_eq dcA.1 hq hr e)) eqk)
  have o2 : ∀ q ∈ rs2, HrAt CU H1 p2 q := fun q hq => by
    obtain ⟨qk, eqk⟩ := (L.w2.ho q hq).st.here.obj
    exact (L.w2.ho q hq).kp k1 (ni (fun e => scA.2.2 _ (List.mem_map_of_mem hr) _ (List.mem_map_of_mem hq) e.symm) (L.w2.ho q hq).st.ob) (nk (fun e => dcA.2.2 _ (List.mem_map_of_mem hr) _ (List.mem_map_of_mem hq) e.symm) eqk)
  have T1 := L.w1.tn.kp k1 (ni (town_ne L.w1.tn.ob rs0) L.w1.tn.ob) (nk rd.1.symm L.w1.tn.ho)
  have T2 := L.w2.tn.kp k1 (ni (town_ne L.w2.tn.ob rs0) L.w2.tn.ob) (nk rd.2.2.1.symm L.w2.tn.ho)
  have lh1 := k1 _ _ (nk rd.2.1.symm L.w1.lh') L.w1.lh'
  have lh2' := k1 _ _ (nk rd.2.2.2.1.symm L.w2.lh') L.w2.lh'
  have B2 := L.b2.kp k1 t1 (ni (book_ne L.b2.ob rs0) L.b2.ob) (nl m1 m2 L.b2.co) (nl m3 m4 L.b2.de) (nn m5 L.b2.gi.at')
  have ehl1 := k1 _ _ (nk rd.2.2.2.2.symm ek) ek
  have k3 : Kp [hl] H2 H3 := o3.kp (by simp)
  have ehl2 := k2 _ _ ehl1
  have t3 : KT H2 H3 := KT.kpI k3 (by simp [ehl2])
  have xi : ∀ {x C' dy : Addr} {fs : List (Str × V)}, H2 x = some (.ins C' dy fs) → x ∉ [hl] := fun {x C' dy fs} e => by simpa using ne_of e ehl2 (fun z => nomatch z)
  have xl : ∀ {x : Addr} {xs : List V}, H2 x = some (.lst xs) → x ∉ [hl] := fun {x xs} e => by simpa using ne_of e ehl2 (fun z => nomatch z)
  have xn : ∀ {x : Addr} {xs : List NEnt}, H2 x = some (NO P w x xs) → x ∉ [hl] := fun {x xs} e => by simpa using ne_of e ehl2 (fun z => nomatch z)
  have T1' := T1.kp (Kp.of k2 (M := [])) (by simp) (by simp)
  have T2' := T2.kp (Kp.of k2 (M := [])) (by simp) (by simp)
  have B1' := B1.same k2
  have B2' := B2.same k2
  obtain ⟨u1, u2, u3, u4⟩ := HR.up_kv r.z k' hs' rs
  have hz := L.w1.tn.nd
  rw [HR.kv_z] at hz
  refine ⟨⟨⟨by rw [u1]; exact T1'.kp k3 (xi T1'.ob) (by simpa using dn.2.2.2.1), by rw [u1]; exact k3 _ _ (by simpa using dn.2.2.2.2.2.2.1) (k2 _ _ lh1), fun q' hq' => ?_⟩, B1'.kp k3 t3 (xi B1'.ob) (xl B1'.co) (xl B1'.de) (xn B1'.gi.at'), ⟨T2'.kp k3 (xi T2'.ob) (by simpa using dn.2.2.2.2.2.2.2.2.1), k3 _ _ (by simpa using dn.2.2.2.2.2.2.2.2.2) (k2 _ _ lh2'), fun q hq => ?_⟩, B2'.kp k3 t3 (xi B2'.ob) (xl B2'.co) (xl B2'.de) (xn B2'.gi.at'), ⟨⟨_, e3, trivial, fun z => ?_⟩, fun q' hq' => ?_⟩, L.e2, fun z hz' => ?_, fun z b hb => ?_, by rw [u2]; exact L.dc, by rw [u3]; exact L.sc, L.ls, by rw [List.length_map]; exact L.sz⟩, ?_, ?_⟩
  · obtain ⟨q, hq, rfl⟩ := List.mem_map.mp hq'
    unfold HR.up
    by_cases e : q.z = r.z
    · have eq := nodup_eq hz hq hr e
      subst eq
      rw [if_pos rfl]
      have S3 := (S1.same k2).kp k3 (xi (S1.same k2).ob) (by simpa using rd.2.2.2.2)
      exact ⟨⟨S3.ob, S3.here.iff fun m => (hmem m).symm, S3.ne⟩, hup, hfew, R.fl⟩
    · rw [if_neg e]
      have Q1 := o1 q hq fun z => e (by rw [z])
      have Q2 := Q1.kp (Kp.of k2 (M := [])) (by simp) (by simp)
      exact Q2.kp k3 (xi Q2.st.ob) (by simpa using (dh q (.inl hq)).2.2.2.2)
  · have Q2 := (o2 q hq).kp (Kp.of k2 (M := [])) (by simp) (by simp)
    exact Q2.kp k3 (xi Q2.st.ob) (by simpa using (dh q (.inr hq)).2.2.2.2)
  · rw [valV_put, e1v]
    dsimp only
    by_cases e : z = r.z
    · rw [if_pos (by rw [e]), if_pos e]
      rfl
    · rw [if_neg (fun h => e (Sum.inr.inj h)), if_neg e]
  · obtain ⟨q, hq, rfl⟩ := List.mem_map.mp hq'
    have ez : (HR.up r.z k' hs' q).z = q.z := by unfold HR.up; split <;> rfl
    rw [ez]
    dsimp only
    by_cases e : q.z = r.z
    · rw [if_pos e]
      refine ⟨(fun h => by cases h), fun b hb => ?_⟩
      cases hb
      have eh : (HR.up r.z k' hs' q).hs = hs' := by unfold HR.up; rw [if_pos e]
      rw [eh]
      exact k3 _ _ (xl ha) ha
    · rw [if_neg e]
      have eh : HR.up r.z k' hs' q = q := by unfold HR.up; rw [if_neg e]
      rw [eh]
      refine ⟨(g1 q hq).1, fun b hb => ?_⟩
      have eb := (g1 q hq).2 b hb
      have nb := L.hvd _ b hb
      simp only [List.mem_cons, List.not_mem_nil, or_false, not_or] at nb
      have eb2 := k2 _ _ (k1 _ _ (nl nb.2.1 nb.2.2 eb) eb)
      exact k3 _ _ (xl eb2) eb2
  · rw [u4] at hz'
    have : z ≠ r.z := fun e => hz' (by rw [e]; exact List.mem_map_of_mem hr)
    rw [if_neg this]
    exact L.hn z hz'
  · by_cases e : z = r.z
    · rw [if_pos e] at hb
      cases hb
      exact haN
    · rw [if_neg e] at hb
      exact L.hvd z b hb
  · have D2 := (D.kp k1 (nl l1.symm l2.symm exd) (nl lc1 lc2' exc)).kp (M := []) (Kp.of k2) (by simp) (by simp)
    obtain ⟨⟨xd2, exd2⟩, xc2, exc2⟩ := id D2.at
    exact D2.kp k3 (xl exd2) (xl exc2)
  · exact (t1.trans (KT.of k2)).trans t3
end
def spLaw (K : PySem.W.Frag) (PL PL_law_built : Addr) : Sp := fun vs H Q _ => ∃ (a : Addr) (ns : List Int), vs = [.ref a] ∧ SqL K H a (ns.map V.int) ∧ ns.length ≤ 63 ∧ H PL = some (.tbl #[]) ∧ H PL_law_built = some (.tbl #[]) ∧ ∀ H', Q (.bl true) H'
theorem w_slS {H : Hp} {Q : VK} {z : Str} {lo hi : Option Int} (h1 : z.length ≤ sizeLine) (h : Q (.str (cutS z lo hi)) H) : rSlS (.str z) lo hi H Q := ⟨z, rfl, h1, h⟩
theorem w_clear {H : Hp} {Q : VK} {l : Addr} {xs : List V} (h1 : H l = some (.lst xs)) (h : ∀ H1, H1 l = some (.lst []) → Off l H H1 → Q .non H1) : rClear (.ref l) [] H Q := ⟨l, xs, rfl, rfl, h1, h _ upd_same fun x hx => upd_ne hx⟩
section
variable {P : Program} {w : World} {K : PySem.W.Frag} {mg : Str → Option Value} {base : Heap}
theorem ok_law {f_NoHouse___init__ f_Taken___init__ f_is_int f_is_text f_is_label f_rise f_are_ints f_rising_ints f_is_pair f_are_rows f_Book___init__ f_Book___len__ f_Book_named f_Book_thing f_Book_kind f_is_name f_is_kind f_is_entry f_is_tree f_depth_of f_is_version f_is_content f_Store___init__ f_Store_put f_Store_write f_Store_held f_House___init__ f_Town___init__ f_Town_build f_Town_house f_Town_labels f_Town_sweep f_law_deck f_law_mixed f_law_draw f_law_label f_law_alike f_law_town_why f_law_built f_law_stands f C_Book C_Store C_House C_Town C_NoHouse C_Taken C_HouseError C_NoTalk C_TooMany C_NoMark C_Broken C_Lack C_NoName cL PL cL_law_built PL_law_built : Addr} {fd_NoHouse___init__ fd_Taken___init__ fd_is_int fd_is_text fd_is_label fd_rise fd_are_ints fd_rising_ints fd_is_pair fd_are_rows fd_Book___init__ fd_Book___len__ fd_Book_named fd_Book_thing fd_Book_kind fd_is_name fd_is_kind fd_is_entry fd_is_tree fd_depth_of fd_is_version fd_is_content fd_Store___init__ fd_Store_put fd_Store_write fd_Store_held fd_House___init__ fd_Town___init__ fd_Town_build fd_Town_house fd_Town_labels fd_Town_sweep fd_law_deck fd_law_mixed fd_law_draw fd_law_label fd_law_alike fd_law_town_why fd_law_built fd_law_stands fd : FuncData} (T : Txt K mg)
    (F_NoHouse___init__ : Fun K "__init__" "NoHouse.__init__" s_NoHouse___init__ f_NoHouse___init__ fd_NoHouse___init__)
    (F_Taken___init__ : Fun K "__init__" "Taken.__init__" s_Taken___init__ f_Taken___init__ fd_Taken___init__)
    (D_is_int : DfD K mg "is_int" s_is_int ["thing", "least"] [.int 0] f_is_int fd_is_int)
    (D_is_text : DfD K mg "is_text" s_is_text ["thing", "most"] [.int 40] f_is_text fd_is_text)
    (D_is_label : Df K mg "is_label" s_is_label ["thing"] f_is_label fd_is_label)
    (D_rise : Df K mg "rise" s_rise ["row"] f_rise fd_rise)
    (D_are_ints : Df K mg "are_ints" s_are_ints ["thing"] f_are_ints fd_are_ints)
    (D_rising_ints : Df K mg "rising_ints" s_rising_ints ["thing"] f_rising_ints fd_rising_ints)
    (D_is_pair : Df K mg "is_pair" s_is_pair ["thing"] f_is_pair fd_is_pair)
    (D_are_rows : Df K mg "are_rows" s_are_rows ["thing"] f_are_rows fd_are_rows)
    (D_Book___init__ : DfM K C_Book "__init__" "Book.__init__" s_Book___init__ ["self"] f_Book___init__ fd_Book___init__)
    (D_Book___len__ : DfM K C_Book "__len__" "Book.__len__" s_Book___len__ ["self"] f_Book___len__ fd_Book___len__)
    (D_Book_named : DfM K C_Book "named" "Book.named" s_Book_named ["self", "content"] f_Book_named fd_Book_named)
    (D_Book_thing : DfM K C_Book "thing" "Book.thing" s_Book_thing ["self", "name"] f_Book_thing fd_Book_thing)
    (D_Book_kind : DfM K C_Book "kind" "Book.kind" s_Book_kind ["self", "name"] f_Book_kind fd_Book_kind)
    (D_is_name : Df K mg "is_name" s_is_name ["book", "thing"] f_is_name fd_is_name)
    (D_is_kind : Df K mg "is_kind" s_is_kind ["book", "thing", "kind"] f_is_kind fd_is_kind)
    (D_is_entry : Df K mg "is_entry" s_is_entry ["book", "thing"] f_is_entry fd_is_entry)
    (D_is_tree : Df K mg "is_tree" s_is_tree ["book", "entries"] f_is_tree fd_is_tree)
    (D_depth_of : Df K mg "depth_of" s_depth_of ["book", "content"] f_depth_of fd_depth_of)
    (D_is_version : Df K mg "is_version" s_is_version ["book", "content"] f_is_version fd_is_version)
    (D_is_content : Df K mg "is_content" s_is_content ["book", "thing"] f_is_content fd_is_content)
    (D_Store___init__ : DfM K C_Store "__init__" "Store.__init__" s_Store___init__ ["self", "book"] f_Store___init__ fd_Store___init__)
    (D_Store_put : DfM K C_Store "put" "Store.put" s_Store_put ["self", "name"] f_Store_put fd_Store_put)
    (D_Store_write : DfM K C_Store "write" "Store.write" s_Store_write ["self", "content"] f_Store_write fd_Store_write)
    (D_Store_held : DfM K C_Store "held" "Store.held" s_Store_held ["self"] f_Store_held fd_Store_held)
    (D_House___init__ : DfM K C_House "__init__" "House.__init__" s_House___init__ ["self", "book"] f_House___init__ fd_House___init__)
    (D_Town___init__ : DfM K C_Town "__init__" "Town.__init__" s_Town___init__ ["self"] f_Town___init__ fd_Town___init__)
    (D_Town_build : DfM K C_Town "build" "Town.build" s_Town_build ["self", "label"] f_Town_build fd_Town_build)
    (D_Town_house : DfM K C_Town "house" "Town.house" s_Town_house ["self", "label"] f_Town_house fd_Town_house)
    (D_Town_labels : DfM K C_Town "labels" "Town.labels" s_Town_labels ["self"] f_Town_labels fd_Town_labels)
    (D_Town_sweep : DfM K C_Town "sweep" "Town.sweep" s_Town_sweep ["self", "label"] f_Town_sweep fd_Town_sweep)
    (D_law_deck : Df K mg "_law_deck" s_law_deck ["_law_script"] f_law_deck fd_law_deck)
    (D_law_mixed : Df K mg "_law_mixed" s_law_mixed ["_law_cell", "_law_turn"] f_law_mixed fd_law_mixed)
    (D_law_draw : Df K mg "_law_draw" s_law_draw ["_law_deck_here", "_law_many"] f_law_draw fd_law_draw)
    (D_law_label : Df K mg "_law_label" s_law_label ["_law_deck_here"] f_law_label fd_law_label)
    (D_law_alike : Df K mg "_law_alike" s_law_alike ["_law_found", "_law_due"] f_law_alike fd_law_alike)
    (D_law_town_why : Df K mg "_law_town_why" s_law_town_why ["_law_deed"] f_law_town_why fd_law_town_why)
    (D_law_built : Df K mg "_law_built" s_law_built ["_law_deck_here", "_law_town", "_law_homes"] f_law_built fd_law_built)
    (D_law_stands : Df K mg "_law_stands" s_law_stands ["_law_town", "_law_homes", "_law_held"] f_law_stands fd_law_stands)
    (D_law : Df K mg "law" s_law ["_law_script"] f fd)
    (K_Book : Kl K mg "Book" C_Book ["contents", "depths", "given"]) (M_Book : Mk K C_Book f_Book___init__)
    (K_Store : Kl K mg "Store" C_Store ["book", "here", "turns"]) (M_Store : Mk K C_Store f_Store___init__)
    (K_House : Kl K mg "House" C_House ["book", "here", "turns", "stands", "lately", "others", "pinned"]) (M_House : Mk K C_House f_House___init__)
    (K_Town : Kl K mg "Town" C_Town ["book", "homes", "talks"]) (M_Town : Mk K C_Town f_Town___init__)
    (X_NoHouse : ExnI K mg "NoHouse" C_NoHouse f_NoHouse___init__ fd_NoHouse___init__ ["self", "label"] ["label"])
    (X_Taken : ExnI K mg "Taken" C_Taken f_Taken___init__ fd_Taken___init__ ["self", "label"] ["label"])
    (g_HouseError : mg "HouseError" = some (.ref C_HouseError))
    (g_NoTalk : mg "NoTalk" = some (.ref C_NoTalk))
    (g_TooMany : mg "TooMany" = some (.ref C_TooMany))
    (g_NoMark : mg "NoMark" = some (.ref C_NoMark))
    (g_Broken : mg "Broken" = some (.ref C_Broken))
    (g_Lack : mg "Lack" = some (.ref C_Lack))
    (g_NoName : mg "NoName" = some (.ref C_NoName))
    (xm_NoHouse_HouseError : PySem.W.exmOne K (.ref C_NoHouse) (.ref C_HouseError) = some true)
    (xm_Taken_HouseError : PySem.W.exmOne K (.ref C_Taken) (.ref C_HouseError) = some true)
    (kq_NoHouse_NoHouse : PySem.W.kitOne K (.ref C_NoHouse) (.ref C_NoHouse) = some true)
    (kq_NoHouse_Taken : PySem.W.kitOne K (.ref C_NoHouse) (.ref C_Taken) = some false)
    (kq_NoHouse_NoTalk : PySem.W.kitOne K (.ref C_NoHouse) (.ref C_NoTalk) = some false)
    (kq_NoHouse_TooMany : PySem.W.kitOne K (.ref C_NoHouse) (.ref C_TooMany) = some false)
    (kq_NoHouse_NoMark : PySem.W.kitOne K (.ref C_NoHouse) (.ref C_NoMark) = some false)
    (kq_NoHouse_Broken : PySem.W.kitOne K (.ref C_NoHouse) (.ref C_Broken) = some false)
    (kq_NoHouse_Lack : PySem.W.kitOne K (.ref C_NoHouse) (.ref C_Lack) = some false)
    (kq_NoHouse_NoName : PySem.W.kitOne K (.ref C_NoHouse) (.ref C_NoName) = some false)
    (kq_NoHouse_ValueError : PySem.W.kitOne K (.ref C_NoHouse) (.type "ValueError") = some true)
    (kq_Taken_NoHouse : PySem.W.kitOne K (.ref C_Taken) (.ref C_NoHouse) = some false)
    (kq_Taken_Taken : PySem.W.kitOne K (.ref C_Taken) (.ref C_Taken) = some true)
    (kq_Taken_NoTalk : PySem.W.kitOne K (.ref C_Taken) (.ref C_NoTalk) = some false)
    (kq_Taken_TooMany : PySem.W.kitOne K (.ref C_Taken) (.ref C_TooMany) = some false)
    (kq_Taken_NoMark : PySem.W.kitOne K (.ref C_Taken) (.ref C_NoMark) = some false)
    (kq_Taken_Broken : PySem.W.kitOne K (.ref C_Taken) (.ref C_Broken) = some false)
    (kq_Taken_Lack : PySem.W.kitOne K (.ref C_Taken) (.ref C_Lack) = some false)
    (kq_Taken_NoName : PySem.W.kitOne K (.ref C_Taken) (.ref C_NoName) = some false)
    (kq_Taken_ValueError : PySem.W.kitOne K (.ref C_Taken) (.type "ValueError") = some true)
    (I_House_put : Meth K C_House "put" f_Store_put)
    (I_House_held : Meth K C_House "held" f_Store_held)
    (I_House_write : Meth K C_House "write" f_Store_write)
    (R_Store : ClX.CRead K C_Store (.type "type"))
    (V_Store___init__ : ClX.CVal K C_Store (.type "type") "__init__" (.ref f_Store___init__) (.ref f_Store___init__))
    (EQ_Book : EqI K C_Book)
    (EQ_House : EqI K C_House)
    (OK_Book : OwnK K C_Book)
    (OK_House : OwnK K C_House)
    (TB : LamX.TabB base mg cL PL) (hcode : fd.code = .ref cL)
    (TB_law_built : LamX.TabB base mg cL_law_built PL_law_built) (hcode_law_built : fd_law_built.code = .ref cL_law_built)
    (hPP_law_built : PL ≠ PL_law_built)
    : FnOk P w K mg base CX0 11 f fd ["_law_script"] (spLaw K PL PL_law_built) := by
  obtain ⟨ds_is_int, V_is_int, B_is_int⟩ := D_is_int.b
  obtain ⟨ds_is_text, V_is_text, B_is_text⟩ := D_is_text.b
  obtain ⟨tk_SIGNS, g_SIGNS⟩ := T.g_SIGNS
  obtain ⟨tk_LETTERS, g_LETTERS⟩ := T.g_LETTERS
  obtain ⟨tk_MOST, g_MOST⟩ := T.g_MOST
  obtain ⟨tk_DEEP, g_DEEP⟩ := T.g_DEEP
  have g_NoHouse := X_NoHouse.g
  have g_Taken := X_Taken.g
  have g_NoHouse := X_NoHouse.g
  have g_Taken := X_Taken.g
  have G_law_deck : FnOk P w K mg base CX0 1 f_law_deck fd_law_deck ["_law_script"] (spDeck K) := ok_deck T D_law_deck.fn
  have G_law_draw : FnOk P w K mg base CX0 2 f_law_draw fd_law_draw ["_law_deck_here", "_law_many"] spDraw := ok_draw T D_law_draw.fn D_law_mixed
  have G_law_label : FnOk P w K mg base CX0 3 f_law_label fd_law_label ["_law_deck_here"] spLabel := ok_label T D_law_label.fn D_law_mixed D_law_draw
  have G_law_alike : FnOk P w K mg base CX0 2 f_law_alike fd_law_alike ["_law_found", "_law_due"] (spAlike 1) := ok_alike T D_law_alike 1
  have G_is_content : FnOk P w K mg base CX0 5 f_is_content fd_is_content ["book", "thing"] (spIsContent P w C_Book) := ok_iscontent T D_is_content.fn K_Book D_is_tree D_is_version D_depth_of D_are_rows D_is_entry D_rise D_is_pair D_is_label D_rising_ints D_are_ints D_is_kind D_is_name D_is_int D_is_text
  have G_Book_named : FnOk P w K mg base CX0 6 f_Book_named fd_Book_named ["self", "content"] (spNamed P w C_Book) := ok_named T D_Book_named.fn K_Book D_is_content D_depth_of G_is_content
  have G_Book___len__ : FnOk P w K mg base CX0 1 f_Book___len__ fd_Book___len__ ["self"] (spBLen P w C_Book) := ok_blen T D_Book___len__.fn K_Book
  have G_Book_kind : FnOk P w K mg base CX0 4 f_Book_kind fd_Book_kind ["self", "name"] (spKind P w C_Book) := ok_kind T D_Book_kind.fn K_Book D_Book_thing D_is_name D_is_int
  have G_House_write : FnOk P w K mg base CX0 7 f_Store_write fd_Store_write ["self", "content"] (spSWrite P w C_Book C_House) := ok_swrite T D_Store_write.fn K_Book (house_kf K_House) D_Book_named ⟨D_Store_put.fn, D_Store_put.b, I_House_put⟩ G_Book_named D_is_name D_is_int
  have G_Town___init__ : FnOk P w K mg base CX0 3 f_Town___init__ fd_Town___init__ ["self"] (spTownInit P w C_Book C_Town) := ok_towninit T D_Town___init__.fn K_Book K_Town M_Book D_Book___init__
  have G_Town_labels : FnOk P w K mg base CX0 1 f_Town_labels fd_Town_labels ["self"] (spLabels C_Town) := ok_labels T D_Town_labels.fn K_Town
  have GX_Town_sweep : FnOk P w K mg base (L2.CX P w) 5 f_Town_sweep fd_Town_sweep ["self", "label"] (spTHouseX C_Town C_NoHouse) := ok_tsweepX T D_Town_sweep.fn K_Town D_Town_house F_NoHouse___init__ X_NoHouse
  have G_law_stands : FnOk P w K mg base CX0 5 f_law_stands fd_law_stands ["_law_town", "_law_homes", "_law_held"] (spTStands C_Book C_Town C_House) := ok_tstands T D_law_stands.fn D_law_alike K_Store K_House K_Town K_Book EQ_Book EQ_House D_Store_held I_House_held D_Town_labels D_Town_house
  have G_law_built : FnOk P w K mg base CX0 10 f_law_built fd_law_built ["_law_deck_here", "_law_town", "_law_homes"] (spTBuilt C_Town C_House PL PL_law_built) := ok_tbuilt T D_law_built D_law_alike D_law_town_why D_law_mixed D_law_draw D_law_label K_Store K_House K_Town M_House D_Store___init__ D_House___init__ R_Store V_Store___init__ D_Town_build D_Town_house EQ_House OK_House F_NoHouse___init__ X_NoHouse F_Taken___init__ X_Taken g_HouseError g_NoTalk g_TooMany g_NoMark g_Broken g_Lack g_NoName xm_NoHouse_HouseError kq_NoHouse_NoHouse kq_NoHouse_Taken kq_NoHouse_NoTalk kq_NoHouse_TooMany kq_NoHouse_NoMark kq_NoHouse_Broken kq_NoHouse_Lack kq_NoHouse_NoName kq_NoHouse_ValueError xm_Taken_HouseError kq_Taken_NoHouse kq_Taken_Taken kq_Taken_NoTalk kq_Taken_TooMany kq_Taken_NoMark kq_Taken_Broken kq_Taken_Lack kq_Taken_NoName kq_Taken_ValueError TB_law_built hcode_law_built hPP_law_built
  have cl := K_Town.cl
  have clB := K_Book.cl
  have n1 := K_Town.na "book" (by simp)
  have g_Book := K_Book.g
  refine D_law.fn.okT sc_law (fun vs H Q E h => ?_) (fun cdv A0 outer s H vs Q E hcd hr h => ?_)
  · obtain ⟨a, ns, rfl, _⟩ := h
    rfl
  · obtain ⟨a0, ns0, rfl, hS0, hl0, hPL, hPB, qlaw⟩ := h
    obtain rfl : cdv = .ref cL := hcd.symm.trans hcode
    have hu := hu_of hr
    refine ⟨_,
      (pss_cons
        (ps_set (i := 1) sc_law.nd rfl (.inl rfl) (pe_call G_law_deck (hr.mono (by omega)) (by rfl) D_law_deck.g D_law_deck.fn.kp D_law_deck.b .nil pass0 (pa_cons (pv 0) pa_nil)))
      (pss_cons
        (ps_set (i := 2) sc_law.nd rfl (.inr rfl) (pe_make0 M_Town G_Town___init__ (hr.mono (by omega)) (by rfl) K_Town.g D_Town___init__.b .nil pass0))
      (pss_cons
        (ps_set (i := 3) sc_law.nd rfl (.inl rfl) (pe_make0 M_Town G_Town___init__ (hr.mono (by omega)) (by rfl) K_Town.g D_Town___init__.b .nil pass0))
      (pss_cons
        (ps_if (PW.pt (pw_or (pt_not (pt_val (pe_callB (r := rIsi K) call_isi (by rfl) T.n_isinstance (by decide +kernel) (pa_cons (pe_fldK (K := K) rfl (pv 2) rfl) (pa_cons (pe_glob (v := .ref C_Book) rfl g_Book rfl) pa_nil))))) (pw_or (pt_cmpR (r := rEqI K) (op_eqI (Nat.lt_of_le_of_lt (Nat.le_add_right _ _) hr.units)) (pe_fldK (K := K) rfl (pv 2) rfl) (pe_fldK (K := K) rfl (pv 3) rfl) (nomark _)) (pw_or1 (pt_not (pt_val (pe_call G_law_alike (hr.mono (by omega)) (by rfl) D_law_alike.g D_law_alike.fn.kp D_law_alike.b .nil pass0 (pa_cons (pe_meth0 (pv 2) K_Town.cl D_Town_labels.m G_Town_labels (hr.mono (by omega)) D_Town_labels.b .nil pass0) (pa_cons (pe_lst pa_nil) pa_nil)))))))))
          (pss_one
            (ps_ret pe_bl))
          pss_nil)
      (pss_cons
        (ps_set (i := 4) sc_law.nd rfl (.inl rfl) pe_dnewK)
      (pss_cons
        (ps_set (i := 5) sc_law.nd rfl (.inl rfl) pe_dnewK)
      (pss_cons
        (ps_set (i := 6) sc_law.nd rfl (.inl rfl) pe_dnewK)
      (pss_cons
        (ps_for PassesOwn.never rfl (pi_range1 (by rfl) T.n_range (pa_cons (pe_op op_add pe_int (pe_call G_law_draw (hr.mono (by omega)) (by rfl) D_law_draw.g D_law_draw.fn.kp D_law_draw.b .nil pass0 (pa_cons (pv 1) (pa_cons pe_int pa_nil)))) pa_nil)) (pg_name (i := 7) sc_law.nd rfl (.inl rfl))
          (pss_cons
            (ps_if (PW.pt (pw_or (pt_not (pt_val (pe_call G_law_built (hr.mono (by omega)) (by rfl) D_law_built.g D_law_built.fn.kp D_law_built.b .nil pass0 (pa_cons (pv 1) (pa_cons (pv 2) (pa_cons (pv 4) pa_nil)))))) (pw_or1 (pt_not (pt_val (pe_call G_law_built (hr.mono (by omega)) (by rfl) D_law_built.g D_law_built.fn.kp D_law_built.b .nil pass0 (pa_cons (pv 1) (pa_cons (pv 3) (pa_cons (pv 5) pa_nil)))))))))
              (pss_one
                (ps_ret pe_bl))
              pss_nil)
          (pss_cons
            (ps_set (i := 8) sc_law.nd rfl (.inr rfl) (pe_ix (r := rIxL K) ix_list (pe_callB (r := rSortDS) (c_sortDS rfl) (by rfl) T.n_sorted (by decide +kernel) (pa_cons (pv 4) pa_nil)) (pe_call G_law_draw (hr.mono (by omega)) (by rfl) D_law_draw.g D_law_draw.fn.kp D_law_draw.b .nil pass0 (pa_cons (pv 1) (pa_cons (pe_callB c_lenD (by rfl) T.n_len (by decide +kernel) (pa_cons (pv 4) pa_nil)) pa_nil))) (fun _ _ => rfl)))
          (pss_cons
            (ps_set (i := 9) sc_law.nd rfl (.inl rfl) (pe_meth (pe_dget hu (pv 4) (pv 8) (fun _ _ => rfl)) K_House.cl I_House_write G_House_write (hr.mono (by omega)) D_Store_write.b .nil pass0 (pa_cons (pe_tup (pa_cons pe_str (pa_cons (pe_tup (pa_cons pe_str (pa_cons (pe_callTy (r := rStrI) call_str_int (by rfl) T.n_str (by decide +kernel) (pa_cons (pe_call G_law_draw (hr.mono (by omega)) (by rfl) D_law_draw.g D_law_draw.fn.kp D_law_draw.b .nil pass0 (pa_cons (pv 1) (pa_cons pe_int pa_nil))) pa_nil)) pa_nil))) pa_nil))) pa_nil)))
          (pss_cons
            (ps_dput hu (pv 6) (pv 8) (pe_callB (r := rSortS w) (c_sortS rfl) (by rfl) T.n_sorted (by decide +kernel) (pa_cons (pe_callTy (r := rSetL K w) (c_setL rfl) (by rfl) T.n_set (by decide +kernel) (pa_cons (pe_op op_cat (pe_dget2 hu (pv 6) (pv 8) (pe_lst pa_nil) ⟨rfl, rfl, rfl, rfl⟩) (pe_lst (pa_cons (pv 9) pa_nil))) pa_nil)) pa_nil)) rfl)
          (pss_one
            (ps_expr (pe_bm0 PySem.F.plainAttrs_list PySem.F.slot_list_clear PySem.F.type_list_clear mt_clear (pe_meth0 (pv 2) K_Town.cl D_Town_labels.m G_Town_labels (hr.mono (by omega)) D_Town_labels.b .nil pass0)))))))))
      (pss_cons
        (ps_if (PW.pt (pw_or (pt_cmpR op_ne (pe_callB (c_lenO D_Book___len__.m G_Book___len__ (hr.mono (by omega)) D_Book___len__.b pass0) (by rfl) T.n_len (by decide +kernel) (pa_cons (pe_fldK (K := K) rfl (pv 3) rfl) pa_nil)) pe_int (nomark _)) (pw_or1 (pt_cmpR op_ne (pe_meth (pe_fldK (K := K) rfl (pv 2) rfl) K_Book.cl D_Book_kind.m G_Book_kind (hr.mono (by omega)) D_Book_kind.b .nil pass0 (pa_cons pe_int pa_nil)) pe_str (nomark _)))))
          (pss_one
            (ps_ret pe_bl))
          pss_nil)
      (pss_cons
        (ps_for PassesOwn.never rfl (pi_range1 (by rfl) T.n_range (pa_cons pe_int pa_nil)) (pg_name (i := 7) sc_law.nd rfl (.inl rfl))
          (pss_cons
            (ps_set (i := 8) sc_law.nd rfl (.inr rfl) (pe_op o_addS pe_str (pe_slice sl_str (pe_call G_law_label (hr.mono (by omega)) (by rfl) D_law_label.g D_law_label.fn.kp D_law_label.b .nil pass0 (pa_cons (pv 1) pa_nil)) po_none (po_some pe_int))))
          (pss_cons
            (ps_set (i := 10) sc_law.nd rfl (.inl rfl) (pe_tup (pa_cons pe_str (pa_cons (pv 8) pa_nil))))
          (pss_one
            (ps_if (PW.pt (pw_and (pt_cmp (pc_dnotin hu (pv 8) (pv 4))) (pw_and1 (pt_not (pt_val (pe_call G_law_alike (hr.mono (by omega)) (by rfl) D_law_alike.g D_law_alike.fn.kp D_law_alike.b .nil pass0 (pa_cons (pe_lamT (TLs PL PL_law_built) (k := 7) (Ng := N_law_town_why) D_law_town_why.fn D_law_town_why.b D_law_town_why.g (by rfl) (by rfl) sc_law_town_why (.inl rfl) (fun cdg => (why_gives_NoHouse T X_NoHouse g_HouseError g_NoHouse g_Taken g_NoTalk g_TooMany g_NoMark g_Broken g_Lack g_NoName xm_NoHouse_HouseError kq_NoHouse_NoHouse kq_NoHouse_Taken kq_NoHouse_NoTalk kq_NoHouse_TooMany kq_NoHouse_NoMark kq_NoHouse_Broken kq_NoHouse_Lack kq_NoHouse_NoName kq_NoHouse_ValueError)) TB rfl (.head _) (twoH hPP_law_built) (hr.mono (by omega)) (LamX.lamS_by (by rfl)) rfl (fun _ _ _ _ _ => rfl) (fun A2 outer2 s2 H2 E2 f2 c2 hr => (pe_meth (pv 2) K_Town.cl D_Town_sweep.m GX_Town_sweep (hr.mono (by omega)) D_Town_sweep.b .nil (passes_call (takes_of rfl rfl rfl rfl) (fun _ _ _ _ h => h)) (pa_cons (pv 8) pa_nil)))) (pa_cons (pv 10) pa_nil))))))))
              (pss_one
                (ps_ret pe_bl))
              pss_nil)))))
      (pss_one
        (ps_ret (pe_and (pe_call G_law_stands (hr.mono (by omega)) (by rfl) D_law_stands.g D_law_stands.fn.kp D_law_stands.b .nil pass0 (pa_cons (pv 2) (pa_cons (pv 4) (pa_cons (pv 6) pa_nil)))) (pe_one (pe_call G_law_stands (hr.mono (by omega)) (by rfl) D_law_stands.g D_law_stands.fn.kp D_law_stands.b .nil pass0 (pa_cons (pv 3) (pa_cons (pv 5) (pa_cons pe_dnewK pa_nil))))))))))))))))))
      , ?_⟩
    rw [show L2.start N_law [V.ref a0] = [some (.ref a0), none, none, none, none, none, none, none, none, none, none] from rfl]
    walk_at "x"
    refine w_deck hS0 fun H1 d c k1 hd0 hc0 D1 => ?_
    walk_at "g"
    refine w_make' fun t tx H2 ht htx hne e2 k2 => ?_
    refine ⟨t, tx, rfl, e2, fun p dx lc ld lg hm tk H3 hp hlc hld hlg hhm B3 T3 nd3 k3 => ⟨rfl, ?_⟩⟩
    walk_at "g"
    refine w_make' fun t2 tx2 H4 ht2 htx2 hne2 e4 k4 => ?_
    refine ⟨t2, tx2, rfl, e4, fun p2 dx2 lc2 ld2 lg2 hm2 tk2 H5 hp2 hlc2 hld2 hlg2 hhm2 B5 T5 nd5 k5 => ⟨rfl, ?_⟩⟩
    walk_at "g"
    have s13 : Same H1 H3 := fun b o e => k3 _ _ (by simpa using ne_of_none e ht) (k2 _ _ e)
    have s35 : Same H3 H5 := fun b o e => k5 _ _ (by simpa using ne_of_none e ht2) (k4 _ _ e)
    have s15 := Same.trans s13 s35
    have T3' := T3.kp (M := []) (Kp.of s35) (by simp) (by simp)
    have B3' := B3.same s35
    have D5 := D1.kp (M := []) (Kp.of s15) (by simp) (by simp)
    have Tb5 : LamX.Tabs (TLs PL PL_law_built) H5 := tabs2 (s15 _ _ (k1 _ _ hPL)) (s15 _ _ (k1 _ _ hPB))
    have ob5 := T3'.ob
    have ob5' := T5.ob
    have pp : p ≠ p2 := ne_of_none (k4 _ _ B3.ob) hp2
    refine w_seq ?_
    walk_at "g"
    refine w_isO OK_Book clB B3'.ob ?_
    walk_at "g"
    refine ⟨_, _, _, _, _, _, _, rfl, rfl, B3'.ob, B5.ob, EQ_Book, ?_⟩
    rw [decide_eq_false pp]
    walk_at "g"
    refine ⟨t, tx, p, hm, tk, [], rfl, T3', fun ys l6 H6 hpy hs6 hl6 el6 k6 => ?_⟩
    obtain rfl : ys = [] := by simpa using hpy
    walk_at "g"
    refine w_new fun l7 H7 hl7 el7 k7 => ?_
    walk_at "g"
    refine ⟨_, _, rfl, SD.strsL (zs := []) (k7 _ _ el6) el7 (by simp), fun H8 k8 => ?_⟩
    walk_at "g"
    refine w_new fun lh H9 hlh elh k9 => ?_
    walk_at "g"
    refine w_new fun lh2 H10 hlh2 elh2 k10 => ?_
    walk_at "g"
    refine w_new fun hl H11 hhl ehl k11 => ?_
    have s58 := Same.trans k6 (Same.trans k7 k8)
    have s511 := Same.trans s58 (Same.trans k9 (Same.trans k10 k11))
    have D11 := D5.kp (M := []) (Kp.of s511) (by simp) (by simp)
    have T11 := T3'.kp (M := []) (Kp.of s511) (by simp) (by simp)
    have T11' := T5.kp (M := []) (Kp.of s511) (by simp) (by simp)
    have B11 := B3'.same s511
    have B11' := B5.same s511
    have Tb11 := Tb5.ext s511
    walk_at "g"
    obtain ⟨⟨xd1, exd1⟩, xc1, exc1⟩ := id D1.at
    have exd2 := k2 _ _ exd1
    have exc2 := k2 _ _ exc1
    have s24 : Same H2 H4 → True := fun _ => trivial
    have exd4 := k4 _ _ (s13 _ _ exd1)
    have q8 := Same.trans s35 s58
    have eh8 := q8 _ _ T3.ho
    have eh8' := s58 _ _ T5.ho
    have h9 := k9 _ _ eh8
    have h9' := k9 _ _ eh8'
    have h10 := k10 _ _ h9
    have h10' := k10 _ _ h9'
    have e10 := k10 _ _ elh
    have L11 : LWd P w C_Book C_Town C_House H11 d c t tx p dx lc ld lg hm tk lh t2 tx2 p2 dx2 lc2 ld2 lg2 hm2 tk2 lh2 hl [] [] [] (fun _ => none) := by
      refine ⟨⟨T11, k11 _ _ e10, by simp⟩, B11, ⟨T11', k11 _ _ elh2, by simp⟩, B11', ⟨⟨[], ehl, trivial, fun z => rfl⟩, by simp⟩, by simp, fun _ _ => rfl, (fun z a h => by cases h), ?_, List.nodup_nil, ⟨⟨?_, ?_⟩, ⟨?_, ?_⟩, ⟨?_, ?_⟩, ⟨?_, ?_, ?_, ?_⟩, ?_, ?_⟩, by simp⟩
      · have a1 : hm ≠ lh := ne_of_none eh8 hlh
        have a2 : hm ≠ hm2 := ne_of_none (k4 _ _ T3.ho) hhm2
        have a3 : hm ≠ lh2 := ne_of_none h9 hlh2
        have a4 : hm ≠ hl := ne_of_none h10 hhl
        have a5 : hm2 ≠ lh := ne_of_none eh8' hlh
        have a6 : lh ≠ lh2 := ne_of_none elh hlh2
        have a7 : lh ≠ hl := ne_of_none e10 hhl
        have a8 : hm2 ≠ lh2 := ne_of_none h9' hlh2
        have a9 : hm2 ≠ hl := ne_of_none h10' hhl
        have a10 : lh2 ≠ hl := ne_of_none elh2 hhl
        simp [a1, a2, a3, a4, a5.symm, a6, a7, a8, a9, a10]
      · exact (ne_of_none exd2 hlc).symm
      · exact (ne_of_none exd2 hld).symm
      · exact ne_of_none exc2 hlc
      · exact ne_of_none exc2 hld
      · exact (ne_of_none exd4 hlc2).symm
      · exact (ne_of_none exd4 hld2).symm
      · exact (ne_of_none (k4 _ _ B3.co) hlc2).symm
      · exact (ne_of_none (k4 _ _ B3.de) hlc2).symm
      · exact (ne_of_none (k4 _ _ B3.co) hld2).symm
      · exact (ne_of_none (k4 _ _ B3.de) hld2).symm
      · exact (ne_of_none (k4 _ _ B3.gi.at') hlg2).symm
      · exact pp.symm
    clear T3 T3' B3 B3' T5 B5 T11 T11' B11 B11' eh8 eh8' h9 h9' h10 h10' e10 ob5 ob5' s24 q8
    have tbd : ∀ {H H' : Hp} {n : Nat}, Deck H d c n → LamX.Tabs (TLs PL PL_law_built) H → Kp [d] H H' → LamX.Tabs (TLs PL PL_law_built) H' := fun {H H' n} D Tb kp => by
      obtain ⟨⟨xd, exd⟩, _⟩ := D.at
      exact tabs_kp Tb kp fun b hb => by
        obtain rfl := List.mem_singleton.mp hb
        exact ⟨_, exd, lst_notab _⟩
    refine w_draw D11 (by decide) (by decide) (by decide) fun many H12 hmany D12 o12 => ?_
    have x12 := D11.kx D12 o12
    have L12 := L11.dk D11 (KpN.ofK x12.p) x12.t
    have Tb12 := tbd D11 Tb11 x12.p
    obtain ⟨⟨kv12, ek12, _, _⟩, _⟩ := id L12.v1
    walk_at "g"
    try refine w_rng1' (by omega) (by omega) ?_
    refine lp_range (fun i σ H' => ∃ (cs : List (Addr × Ct)) (rs rs2 : List HR) (hv : Str → Option Addr) (y7 y8 y9 y10 : Option V), σ = [some (.ref a0), some (.ref d), some (.ref t), some (.ref t2), some (.ref lh), some (.ref lh2), some (.ref hl), y7, y8, y9, y10] ∧ Deck H' d c (1 + 30 * i) ∧ LWd P w C_Book C_Town C_House H' d c t tx p dx lc ld lg hm tk lh t2 tx2 p2 dx2 lc2 ld2 lg2 hm2 tk2 lh2 hl cs rs rs2 hv ∧ LamX.Tabs (TLs PL PL_law_built) H' ∧ (rs.length ≤ i ∧ rs2.length ≤ i ∧ cs.length ≤ i) ∧ (∀ q ∈ cs, ∃ rows, q.2 = .leaf rows) ∧ (1 ≤ i → cs ≠ []) ∧ (∀ r ∈ rs, r.hs.length ≤ i) ∧ ∃ kvs, H' hl = some (.dK kvs) ∧ kvs.length ≤ i) ?_ ?_ ?_
    · refine ⟨[], [], [], fun _ => none, _, _, _, _, rfl, D12.mono (by omega), L12, Tb12, ⟨Nat.le_refl _, Nat.le_refl _, Nat.le_refl _⟩, by simp, by omega, by simp, [], x12.p _ _ ?_ ehl, Nat.le_refl _⟩
      obtain ⟨⟨xd, exd⟩, _⟩ := D11.at
      simpa using ne_of ehl exd (fun z => nomatch z)
    · rintro i σ H13 hi ⟨cs, rs, rs2, hv, y7, y8, y9, y10, rfl, D13, L13, Tb13, ⟨i1, i2, i3⟩, hleaf, hcne, hhs, kvs, ek13, kl⟩
      have hi8 : i < 8 := by omega
      obtain ⟨dn13, dh13⟩ := L13.dn
      obtain ⟨⟨xd13, exd13⟩, _⟩ := id D13.at
      walk_at "g"
      refine w_seq ?_
      walk_at "g"
      refine ⟨d, c, t, tx, p, hm, tk, lh, rs, 1 + 30 * i, rfl, D13, by unfold MOSTD; omega, L13.w1, by omega, dn13.1, fun r hr => ⟨(dh13 r (.inl hr)).1, (dh13 r (.inl hr)).2.1⟩, Tb13, fun rs' H14 W14 hr14 hne14 D14 kn14 kt14 Tb14 => ?_⟩
      have lr : rs'.length ≤ i + 1 := by
        rcases hr14 with e | ⟨r, e, _⟩
        · rw [e]; omega
        · rw [e, List.length_append]; simp only [List.length_cons, List.length_nil]; omega
      have hh14 : ∀ r ∈ rs', r.hs.length ≤ i := fun r hr => by
        rcases hr14 with e | ⟨q, e, e0, _⟩
        · rw [e] at hr; exact hhs r hr
        · rw [e] at hr
          rcases List.mem_append.mp hr with g | g
          · exact hhs r g
          · rw [List.mem_singleton.mp g, e0]; exact Nat.zero_le _
      have L14 := L13.add1 D13 kn14 kt14 W14 hr14 (by omega)
      have ek14 := kn14 _ _ (by simp only [List.mem_cons, List.not_mem_nil, or_false, not_or]; exact ⟨ne_of ek13 exd13 (fun z => nomatch z), dn13.2.2.2.1.symm, dn13.2.2.2.2.2.2.1.symm⟩) ek13 (fun ps z => nomatch z)
      obtain ⟨dn14, dh14⟩ := L14.dn
      obtain ⟨⟨xd14, exd14⟩, _⟩ := id D14.at
      walk_at "g"
      refine ⟨d, c, t2, tx2, p2, hm2, tk2, lh2, rs2, _, rfl, D14, by unfold MOSTD; omega, L14.w2, by omega, dn14.2.2.2.2.2.2.2.1, fun r hr => ⟨(dh14 r (.inr hr)).2.2.1, (dh14 r (.inr hr)).2.2.2.1⟩, Tb14, fun rs2' H15 W15 hr15 _ D15 kn15 kt15 Tb15 => ?_⟩
      have lr2 : rs2'.length ≤ i + 1 := by
        rcases hr15 with e | ⟨r, e, _⟩
        · rw [e]; omega
        · rw [e, List.length_append]; simp only [List.length_cons, List.length_nil]; omega
      have L15 := L14.add2 D14 kn15 kt15 W15 hr15 (by omega)
      have ek15 := kn15 _ _ (by simp only [List.mem_cons, List.not_mem_nil, or_false, not_or]; exact ⟨ne_of ek14 exd14 (fun z => nomatch z), dn14.2.2.2.2.2.2.2.2.1.symm, dn14.2.2.2.2.2.2.2.2.2.symm⟩) ek14 (fun ps z => nomatch z)
      clear L13 L14 kn14 kn15 kt14 kt15 W14 W15 hr14 hr15 D13 D14 Tb13 Tb14 dn13 dh13 dn14 dh14 exd13 exd14 ek13 ek14
      have elh15 := L15.w1.lh'
      walk_at "g"
      refine w_sortDS elh15 (kvH_keys _) L15.w1.tn.nd (by unfold HR.kv; rw [List.length_map, List.length_map]; omega) fun ys L16 H16 hp16 hs16 hL16 eL16 k16 => ?_
      have yl : ys.length = rs'.length := by rw [hp16.length_eq]; unfold HR.kv; rw [List.length_map, List.length_map]
      have D16 := D15.kp (M := []) (Kp.of k16) (by simp) (by simp)
      have L16' := L15.same D15 k16
      have Tb16 := Tb15.ext k16
      have ek16 := k16 _ _ ek15
      have elh16 := L16'.w1.lh'
      have rpos : 0 < rs'.length := List.length_pos_iff.mpr hne14
      walk_at "g"
      refine w_lenD elh16 ?_
      rw [show (kvH (HR.kv rs')).length = rs'.length by unfold kvH HR.kv; rw [List.length_map, List.length_map]]
      walk_at "g"
      refine w_draw D16 (by unfold MOSTD; omega) (by omega) (by omega) fun x H17 hx D17 o17 => ?_
      walk_at "g"
      have x17 := D16.kx D17 o17
      have L17 := L16'.dk D16 (KpN.ofK x17.p) x17.t
      have Tb17 := tbd D16 Tb16 x17.p
      obtain ⟨⟨xd16, exd16⟩, _⟩ := id D16.at
      have eL17 := o17.get (D15.ne1 hL16).1 eL16
      have ek17 := o17.get (ne_of ek16 exd16 (fun z => nomatch z)) ek16
      have hx' : x < ys.length := by omega
      have hzm : ys[x] ∈ (HR.kv rs').map (·.1) := hp16.mem_iff.mp (List.getElem_mem hx')
      obtain ⟨qz, hq, ez⟩ := List.mem_map.mp hzm
      obtain ⟨r, hr0, rfl⟩ := List.mem_map.mp hq
      have ez' : r.z = ys[x] := ez
      have atz : atI (ys.map V.str) (x : Int) = some (.str r.z) := atI_nat (by rw [List.getElem?_map, List.getElem?_eq_getElem hx', ez']; rfl)
      refine w_ixL (.of eL17) atz ?_
      have elh17 := L17.w1.lh'
      have R17 := L17.w1.ho r hr0
      have es17 := R17.st.ob
      obtain ⟨a1, a2, a3, a4, efs⟩ := id R17.fl
      walk_at "g"
      refine w_dgetZ elh17 (kvH_some L17.w1.tn.nd hq) ?_
      refine w_meth' es17 (by rw [efs]; rfl) ?_
      walk_at "g"
      refine w_draw D17 (by unfold MOSTD; omega) (by decide) (by decide) fun v H18 hv4 D18 o18 => ?_
      have x18 := D17.kx D18 o18
      have L18 := L17.dk D17 (KpN.ofK x18.p) x18.t
      have Tb18 := tbd D17 Tb17 x18.p
      obtain ⟨⟨xd17, exd17⟩, _⟩ := id D17.at
      have ek18 := o18.get (ne_of ek17 exd17 (fun z => nomatch z)) ek17
      walk_at "g"
      refine w_strI (by rcases (by omega : v = 0 ∨ v = 1 ∨ v = 2 ∨ v = 3) with rfl | rfl | rfl | rfl <;> decide) ?_
      obtain ⟨zt, hzt, hok⟩ : ∃ zt : Str, Str.ofString (toString (v : Int)) = zt ∧ LineOk zt := ⟨_, rfl, by rcases (by omega : v = 0 ∨ v = 1 ∨ v = 2 ∨ v = 3) with rfl | rfl | rfl | rfl <;> (unfold LineOk; decide +kernel)⟩
      rw [hzt]
      walk_at "g"
      refine w_new fun ti H19 hti eti k19 => ?_
      walk_at "g"
      refine w_new fun ta H20 hta eta k20 => ?_
      have s1820 := Same.trans k19 k20
      have D20 := D18.kp (M := []) (Kp.of s1820) (by simp) (by simp)
      have L20 := L18.same D18 s1820
      have Tb20 := Tb18.ext s1820
      have ek20 := s1820 _ _ ek18
      have R20 := L20.w1.ho r hr0
      obtain ⟨rk20, erk20⟩ := R20.st.here.obj
      have es20 := R20.st.ob
      have b20 := L20.b1
      obtain ⟨cs', j, st⟩ := step_ex cs ta (.leaf [Str.ofString "here", zt])
      walk_at "g"
      refine ⟨r.s, r.dy, p, dx, lc, ld, lg, r.hd, ta, cs, cs', r.fs, r.k, j, _, .leaf [Str.ofString "here", zt], rfl, R20.st, b20, ⟨ti, eta, k20 _ _ eti⟩, ⟨by simp, fun z hz => ?_⟩, by omega, st, ⟨by rw [efs]; simp [hrs], by rw [efs]; rfl⟩, ⟨ne_of es20 b20.co (fun z => nomatch z), ne_of es20 b20.de (fun z => nomatch z), ne_of es20 b20.gi.at' (fun z => nomatch z)⟩, ⟨ne_of erk20 b20.co (fun z => nomatch z), ne_of erk20 b20.de (fun z => nomatch z), ne_of erk20 b20.gi.at' (fun z => nomatch z)⟩, ⟨(book_ne b20.ob es20).symm, ne_of erk20 b20.ob (fun z => nomatch z)⟩, fun k' H21 B21 S21 hk1 hk2 kp21 kt21 => ?_⟩
      · rcases List.mem_cons.mp hz with rfl | hz
        · unfold LineOk; decide +kernel
        · rw [List.mem_singleton.mp hz]; exact hok
      walk_at "g"
      obtain ⟨dn20, dh20⟩ := L20.dn
      have rd20 := dh20 r (.inl hr0)
      obtain ⟨⟨kvs0, e0, _, e0v⟩, g0⟩ := id L20.v1
      have ekk : kvs0 = kvs := by
        rw [ek20] at e0
        cases e0
        rfl
      subst ekk
      have ek21 := kp21 _ _ (by
        simp only [List.mem_cons, List.not_mem_nil, or_false, not_or]
        exact ⟨ne_of ek20 b20.co (fun z => nomatch z), ne_of ek20 b20.de (fun z => nomatch z), ne_of ek20 b20.gi.at' (fun z => nomatch z), ne_of ek20 es20 (fun z => nomatch z), rd20.2.2.2.2.symm⟩) ek20
      refine w_isD ek21 ?_
      walk_at "g"
      refine w_new fun le H22 hle ele k22 => ?_
      have ek22 := k22 _ _ ek21
      refine w_dget2Z ek22 ?_
      rw [e0v]
      obtain ⟨u, hgu, eu⟩ : ∃ u, ((hv r.z).map V.ref).getD (V.ref le) = .ref u ∧ H22 u = some (.lst (r.hs.map nV)) := by
        cases e : hv r.z with
        | none => exact ⟨le, rfl, by rw [(g0 r hr0).1 e]; exact ele⟩
        | some a =>
          have ea := (g0 r hr0).2 a e
          have nb := L20.hvd _ a e
          simp only [List.mem_cons, List.not_mem_nil, or_false, not_or] at nb
          exact ⟨a, rfl, k22 _ _ (kp21 _ _ (by
            simp only [List.mem_cons, List.not_mem_nil, or_false, not_or]
            exact ⟨nb.2.1, nb.2.2, ne_of ea b20.gi.at' (fun z => nomatch z), ne_of ea es20 (fun z => nomatch z), ne_of ea erk20 (fun z => nomatch z)⟩) ea)⟩
      rw [hgu]
      walk_at "g"
      refine w_new fun ln H23 hln eln k23 => ?_
      have hrl := hh14 r hr0
      refine w_cat (k23 _ _ eu) eln (by rw [List.length_map, sizeLine_eq]; simp only [List.length_cons, List.length_nil]; omega) fun lx H24 hlx elx k24 => ?_
      have elx' : H24 lx = some (.lst (((r.hs ++ [j]).map fun n : Nat => (n : Int)).map V.int)) := by rw [← nV_map, List.map_append]; exact elx
      walk_at "g"
      refine w_setOf (.of elx') (by rw [List.length_map, List.length_append]; simp only [List.length_cons, List.length_nil]; omega) fun stt c3 H25 hst hc e25 k25 => ?_
      walk_at "g"
      refine w_sortS e25 (by rw [List.length_map, List.length_append] at hc; simp only [List.length_cons, List.length_nil] at hc; omega) fun zs so H26 hup hmem hso eso k26 => ?_
      obtain ⟨ns, rfl⟩ := ints_nats (zs := zs) fun z hz => by
        have := of_decide_eq_true ((hmem z).mp hz)
        obtain ⟨n, _, rfl⟩ := List.mem_map.mp this
        omega
      have hmem2 : ∀ m, m ∈ ns ↔ m ∈ r.hs ∨ m = j := fun m => by
        rw [← int_mem, hmem, decide_eq_true_iff, int_mem, List.mem_append, List.mem_singleton]
      have hlen := nodup_le (ns.map fun n : Nat => (n : Int)) ((r.hs ++ [j]).map fun n : Nat => (n : Int)) (hup.imp fun {a b} h => Int.ne_of_lt h) fun x hx => of_decide_eq_true ((hmem x).mp hx)
      rw [List.length_map, List.length_map, List.length_append] at hlen
      simp only [List.length_cons, List.length_nil] at hlen
      have hup2 : ns.Pairwise (· < ·) := by
        rw [List.pairwise_map] at hup
        exact hup.imp fun {a b} h => by omega
      have s2125 := Same.trans k22 (Same.trans k23 (Same.trans k24 k25))
      have s2126 := Same.trans s2125 k26
      have ek26 := s2126 _ _ ek21
      walk_at "g"
      refine w_dputS ek26 (by rw [sizeLine_eq]; omega) fun H27 e27 o27 => ?_
      obtain ⟨⟨xd20, exd20⟩, xc20, exc20⟩ := id D20.at
      obtain ⟨⟨l1, l2⟩, _⟩ := id L20.ls
      have exd21 := kp21 _ _ (by
        simp only [List.mem_cons, List.not_mem_nil, or_false, not_or]
        exact ⟨l1.symm, l2.symm, ne_of exd20 b20.gi.at' (fun z => nomatch z), ne_of exd20 es20 (fun z => nomatch z), ne_of exd20 erk20 (fun z => nomatch z)⟩) exd20
      obtain ⟨L27, D27, kt27⟩ := L20.noted D20 hr0 B21 S21 kp21 kt21 s2126 (a := so) (by rw [eso, nV_map]) (by
        simp only [List.mem_cons, List.not_mem_nil, or_false, not_or]
        exact ⟨(ne_of_none (s2125 _ _ exd21) hso).symm, (ne_of_none (s2125 _ _ B21.co) hso).symm, (ne_of_none (s2125 _ _ B21.de) hso).symm⟩) hup2 hmem2 (by omega) ek20 e27 o27
      have Tb21 := tabs_kp Tb20 kp21 fun b hb => by
        simp only [List.mem_cons, List.not_mem_nil, or_false] at hb
        rcases hb with rfl | rfl | rfl | rfl | rfl
        · exact ⟨_, b20.co, lst_notab _⟩
        · exact ⟨_, b20.de, lst_notab _⟩
        · exact ⟨_, b20.gi.at', nd_notab⟩
        · exact ⟨_, es20, ins_notab _ _ _⟩
        · exact ⟨_, erk20, dk_notab _⟩
      have Tb27 := tabs_kp (Tb21.ext s2126) (M := [hl]) (o27.kp (by simp)) fun b hb => by
        obtain rfl := List.mem_singleton.mp hb
        exact ⟨_, ek26, dk_notab _⟩
      have ob27 := L27.w1.tn.ob
      walk_at "g"
      refine ⟨t, tx, p, hm, tk, _, rfl, L27.w1.tn, fun ys2 l28 H28 _ _ hl28 el28 k28 => ?_⟩
      walk_at "g"
      refine w_clear el28 fun H29 e29 o29 => ?_
      have k2729 : Same H27 H29 := fun b o e => Off.keep (M := []) (Kp.of k28) o29 hl28 b o (by simp) e
      walk_at "g"
      have cl' : cs'.length ≤ i + 1 := by
        rcases st with ⟨rfl, _⟩ | ⟨rfl, _, _⟩
        · omega
        · rw [List.length_append]; simp only [List.length_cons, List.length_nil]; omega
      refine ⟨cs', _, rs2', _, _, _, _, _, rfl, (D27.kp (M := []) (Kp.of k2729) (by simp) (by simp)).mono (by omega), L27.same D27 k2729, Tb27.ext k2729, ⟨by rw [List.length_map]; exact lr, lr2, cl'⟩, fun q hq => ?_, fun _ e => ?_, fun q hq => ?_, _, k2729 _ _ e27, ?_⟩
      · rcases st with ⟨rfl, _⟩ | ⟨rfl, _, _⟩
        · exact hleaf q hq
        · rcases List.mem_append.mp hq with g | g
          · exact hleaf q g
          · rw [List.mem_singleton.mp g]; exact ⟨_, rfl⟩
      · have := st.lt
        rw [e] at this
        exact absurd this (Nat.not_lt_zero _)
      · obtain ⟨q0, hq0, rfl⟩ := List.mem_map.mp hq
        unfold HR.up
        split
        · show ns.length ≤ i + 1
          omega
        · have := hh14 q0 hq0
          omega
      · have := putK_len' kvs0 (Sum.inr r.z) (V.ref so)
        omega
    · rintro σ H13 ⟨cs, rs, rs2, hv, y7, y8, y9, y10, rfl, D13, L13, Tb13, ⟨i1, i2, i3⟩, hleaf, hcne, hhs, kvs, ek13, kl⟩
      have e1 : 1 ≤ (1 + (many : Int)).toNat := by omega
      obtain ⟨q0, cs0, ecs⟩ := List.exists_cons_of_ne_nil (hcne e1)
      obtain ⟨rows, erw⟩ := hleaf q0 (by rw [ecs]; simp)
      have ob13 := L13.w1.tn.ob
      have ob13' := L13.w2.tn.ob
      walk_at "g"
      refine w_seq ?_
      walk_at "g"
      refine w_lenO L13.b2.ob ?_
      refine ⟨p2, dx2, lc2, ld2, lg2, [], [], rfl, L13.b2, 0, rfl, by omega, ?_⟩
      walk_at "g"
      have obb := L13.b1.ob
      refine w_nyes (by simp) ?_
      walk_at "g"
      have ew : q0.2.word = Str.ofString "leaf" := by rw [erw]; rfl
      refine ⟨p, dx, lc, ld, lg, cs, _, 0, q0, rfl, L13.b1, by rw [ecs]; rfl, ?_⟩
      rw [ew]
      walk_at "g"
      refine w_nyes rfl ?_
      walk_at "g"
      try refine w_rng1' (by omega) (by omega) ?_
      refine lp_range (fun i σ H' => ∃ (y7 y8 y9 y10 : Option V), σ = [some (.ref a0), some (.ref d), some (.ref t), some (.ref t2), some (.ref lh), some (.ref lh2), some (.ref hl), y7, y8, y9, y10] ∧ Deck H' d c (300 + 20 * i) ∧ LWd P w C_Book C_Town C_House H' d c t tx p dx lc ld lg hm tk lh t2 tx2 p2 dx2 lc2 ld2 lg2 hm2 tk2 lh2 hl cs rs rs2 hv ∧ LamX.Tabs (TLs PL PL_law_built) H') ?_ ?_ ?_
      · exact ⟨_, _, _, _, rfl, D13.mono (by omega), L13, Tb13⟩
      · rintro i σ H14 hi ⟨y7, y8, y9, y10, rfl, D14, L14, Tb14⟩
        walk_at "g"
        refine ⟨d, c, _, rfl, D14, by unfold MOSTD; omega, fun H15 z D15 kp15 kt15 hz => ?_⟩
        have L15 := L14.dk D14 (KpN.ofK kp15) kt15
        have Tb15 := tbd D14 Tb14 kp15
        walk_at "g"
        refine w_slS (by have := hz.2.1; rw [sizeLine_eq]; omega) ?_
        have hcut : (cutS z none (some 6)).length ≤ 100 := by
          have h1 := cutS_length z none (some 6)
          have h2 := hz.2.1
          omega
        generalize cutS z none (some 6) = z6 at hcut
        walk_at "g"
        refine w_addS (by
          have h2 : (Str.ofString "zz").length = 2 := by decide +kernel
          rw [h2, sizeLine_eq]
          omega) ?_
        generalize (Str.ofString "zz" ++ z6 : Str) = zz
        walk_at "g"
        refine w_new fun td H16 htd etd k16 => ?_
        have D16 := D15.kp (M := []) (Kp.of k16) (by simp) (by simp)
        have L16 := L15.same D15 k16
        have Tb16 := Tb15.ext k16
        have elh16 := L16.w1.lh'
        walk_at "g"
        refine w_dnotinZ elh16 ?_
        rw [kvH_is L16.w1.tn.nd, HR.kv_z]
        by_cases hzm : zz ∈ rs.map (·.z)
        · refine ⟨_, rfl, ?_⟩
          rw [decide_eq_true hzm, if_neg (by simp)]
          walk_at "g"
          exact ⟨_, _, _, _, rfl, D16.mono (by omega), L16, Tb16⟩
        · refine ⟨_, rfl, ?_⟩
          rw [decide_eq_false hzm, if_pos (by rfl)]
          walk_at "g"
          refine w_lam Tb16 fun A1 eA1 TA1 => ?_
          intro C0 Q0 kc0
          have xc0 := eA1.trans (LamX.ExtN.of kc0)
          have Lc0 := L16.dk D16 (KpN.of xc0) (KT.extN xc0)
          have obc0 := Lc0.w1.tn.ob
          walk_at "x"
          refine ⟨t, tx, p, hm, tk, _, zz, rfl, Lc0.w1.tn, by rw [HR.kv_z]; exact hzm, ?_⟩
          intro dd C2 kd hdd edd
          refine ⟨rfl, dd, .str zz, rfl, edd, fun t3 H17 kt0 et3 => ?_⟩
          have xd0 := xc0.trans (LamX.ExtN.of (Same.trans kd kt0))
          have Td0 := TA1.ext (Same.trans kc0 (Same.trans kd kt0))
          have etd17 := xd0 _ _ etd (fun ps z => nomatch z)
          walk_at "x"
          refine ⟨_, _, rfl, SD.tup et3 etd17 (by simp) (fun y hy => ?_), fun H18 k18 => ?_⟩
          · rcases List.mem_cons.mp hy with rfl | hy
            · exact SD.sc trivial
            · rw [List.mem_singleton.mp hy]
              exact SD.sc trivial
          have x18 := xd0.trans (LamX.ExtN.of k18)
          walk_at "g"
          exact ⟨_, _, _, _, rfl, (D16.extN x18).mono (by omega), L16.dk D16 (KpN.of x18) (KT.extN x18), Td0.ext k18⟩
      · rintro σ H14 ⟨y7, y8, y9, y10, rfl, D14, L14, Tb14⟩
        walk_at "g"
        refine ⟨t, tx, p, hm, tk, lh, hl, rs, hv, rfl, ⟨_, _, L14.b1.ob⟩, L14.w1, L14.v1, fun H15 k15 => ?_⟩
        have L15 := L14.same D14 k15
        walk_at "g"
        refine w_new fun he H16 hhe ehe k16 => ?_
        have L16 := L15.same (D14.kp (M := []) (Kp.of k15) (by simp) (by simp)) k16
        walk_at "g"
        refine ⟨t2, tx2, p2, hm2, tk2, lh2, he, rs2, fun _ => none, rfl, ⟨_, _, L16.b2.ob⟩, L16.w2, ⟨⟨[], ehe, trivial, fun z => rfl⟩, fun r hr => ⟨fun _ => L16.e2 r hr, (fun a ha => by cases ha)⟩⟩, fun H17 k17 => ?_⟩
        walk_at "g"
        exact qlaw H17
end
theorem all_mk {l : PySem.W.OpenLaw} {w : World} {K : PySem.W.Frag} {h : Heap} {mg : Str → Option Value} {fa f_NoHouse___init__ f_Taken___init__ f_is_int f_is_text f_is_label f_rise f_are_ints f_rising_ints f_is_pair f_are_rows f_Book___init__ f_Book___len__ f_Book_named f_Book_thing f_Book_kind f_is_name f_is_kind f_is_entry f_is_tree f_depth_of f_is_version f_is_content f_Store___init__ f_Store_put f_Store_write f_Store_held f_House___init__ f_Town___init__ f_Town_build f_Town_house f_Town_labels f_Town_sweep f_law_deck f_law_mixed f_law_draw f_law_label f_law_alike f_law_town_why f_law_built f_law_stands f_law C_Book C_Store C_House C_Town cL PL cL_law_built PL_law_built : Addr} (X : K.In h) (G : h.Ns mainGlobals mg) (hfa : mg "law" = some (.ref fa))
    (own : LamX.OwnTab K fa h)
    {od_NoHouse___init__ an_NoHouse___init__ : Option Addr} {sl_NoHouse___init__ : Array (Option Value)} {oc_NoHouse___init__ kV_NoHouse___init__ dc_NoHouse___init__ pm_NoHouse___init__ cd_NoHouse___init__ ct_NoHouse___init__ : Value}
    (l_NoHouse___init__ : K.lookup f_NoHouse___init__ = some ⟨oc_NoHouse___init__, od_NoHouse___init__, .func (PySem.W.fnOf "__init__" "NoHouse.__init__" (defArgs s_NoHouse___init__) (defBody s_NoHouse___init__) (defScope s_NoHouse___init__) .none kV_NoHouse___init__ dc_NoHouse___init__ pm_NoHouse___init__ an_NoHouse___init__ cd_NoHouse___init__ ct_NoHouse___init__), sl_NoHouse___init__⟩) (c_NoHouse___init__ : PySem.W.codeIn K cd_NoHouse___init__ "NoHouse.__init__" = true) (k_NoHouse___init__ : PySem.W.keepIn K (.ref f_NoHouse___init__) = true)
    {od_Taken___init__ an_Taken___init__ : Option Addr} {sl_Taken___init__ : Array (Option Value)} {oc_Taken___init__ kV_Taken___init__ dc_Taken___init__ pm_Taken___init__ cd_Taken___init__ ct_Taken___init__ : Value}
    (l_Taken___init__ : K.lookup f_Taken___init__ = some ⟨oc_Taken___init__, od_Taken___init__, .func (PySem.W.fnOf "__init__" "Taken.__init__" (defArgs s_Taken___init__) (defBody s_Taken___init__) (defScope s_Taken___init__) .none kV_Taken___init__ dc_Taken___init__ pm_Taken___init__ an_Taken___init__ cd_Taken___init__ ct_Taken___init__), sl_Taken___init__⟩) (c_Taken___init__ : PySem.W.codeIn K cd_Taken___init__ "Taken.__init__" = true) (k_Taken___init__ : PySem.W.keepIn K (.ref f_Taken___init__) = true)
    {od_is_int an_is_int : Option Addr} {sl_is_int : Array (Option Value)} {oc_is_int kV_is_int dc_is_int pm_is_int cd_is_int ct_is_int : Value}
    (a_is_int : PySem.W.nsIn K mainGlobals "is_int" = some (some (.ref f_is_int)))
    {dt_is_int : Addr} {do_is_int : Value} {dd_is_int : Option Addr} {dn_is_int : Nat} {ds_is_int : Array (Option Value)} {dk_is_int_least : Tok}
    (l_is_int : K.lookup f_is_int = some ⟨oc_is_int, od_is_int, .func (PySem.W.fnOf "is_int" "is_int" (defArgs s_is_int) (defBody s_is_int) (defScope s_is_int) (.ref dt_is_int) kV_is_int dc_is_int pm_is_int an_is_int cd_is_int ct_is_int), sl_is_int⟩) (c_is_int : PySem.W.codeIn K cd_is_int "is_int" = true) (k_is_int : PySem.W.keepIn K (.ref f_is_int) = true)
    (dl_is_int : K.lookup dt_is_int = some ⟨do_is_int, dd_is_int, .seq #[.int 0 dk_is_int_least] dn_is_int, ds_is_int⟩)
    {od_is_text an_is_text : Option Addr} {sl_is_text : Array (Option Value)} {oc_is_text kV_is_text dc_is_text pm_is_text cd_is_text ct_is_text : Value}
    (a_is_text : PySem.W.nsIn K mainGlobals "is_text" = some (some (.ref f_is_text)))
    {dt_is_text : Addr} {do_is_text : Value} {dd_is_text : Option Addr} {dn_is_text : Nat} {ds_is_text : Array (Option Value)} {dk_is_text_most : Tok}
    (l_is_text : K.lookup f_is_text = some ⟨oc_is_text, od_is_text, .func (PySem.W.fnOf "is_text" "is_text" (defArgs s_is_text) (defBody s_is_text) (defScope s_is_text) (.ref dt_is_text) kV_is_text dc_is_text pm_is_text an_is_text cd_is_text ct_is_text), sl_is_text⟩) (c_is_text : PySem.W.codeIn K cd_is_text "is_text" = true) (k_is_text : PySem.W.keepIn K (.ref f_is_text) = true)
    (dl_is_text : K.lookup dt_is_text = some ⟨do_is_text, dd_is_text, .seq #[.int 40 dk_is_text_most] dn_is_text, ds_is_text⟩)
    {od_is_label an_is_label : Option Addr} {sl_is_label : Array (Option Value)} {oc_is_label kV_is_label dc_is_label pm_is_label cd_is_label ct_is_label : Value}
    (a_is_label : PySem.W.nsIn K mainGlobals "is_label" = some (some (.ref f_is_label)))
    (l_is_label : K.lookup f_is_label = some ⟨oc_is_label, od_is_label, .func (PySem.W.fnOf "is_label" "is_label" (defArgs s_is_label) (defBody s_is_label) (defScope s_is_label) .none kV_is_label dc_is_label pm_is_label an_is_label cd_is_label ct_is_label), sl_is_label⟩) (c_is_label : PySem.W.codeIn K cd_is_label "is_label" = true) (k_is_label : PySem.W.keepIn K (.ref f_is_label) = true)
    {od_rise an_rise : Option Addr} {sl_rise : Array (Option Value)} {oc_rise kV_rise dc_rise pm_rise cd_rise ct_rise : Value}
    (a_rise : PySem.W.nsIn K mainGlobals "rise" = some (some (.ref f_rise)))
    (l_rise : K.lookup f_rise = some ⟨oc_rise, od_rise, .func (PySem.W.fnOf "rise" "rise" (defArgs s_rise) (defBody s_rise) (defScope s_rise) .none kV_rise dc_rise pm_rise an_rise cd_rise ct_rise), sl_rise⟩) (c_rise : PySem.W.codeIn K cd_rise "rise" = true) (k_rise : PySem.W.keepIn K (.ref f_rise) = true)
    {od_are_ints an_are_ints : Option Addr} {sl_are_ints : Array (Option Value)} {oc_are_ints kV_are_ints dc_are_ints pm_are_ints cd_are_ints ct_are_ints : Value}
    (a_are_ints : PySem.W.nsIn K mainGlobals "are_ints" = some (some (.ref f_are_ints)))
    (l_are_ints : K.lookup f_are_ints = some ⟨oc_are_ints, od_are_ints, .func (PySem.W.fnOf "are_ints" "are_ints" (defArgs s_are_ints) (defBody s_are_ints) (defScope s_are_ints) .none kV_are_ints dc_are_ints pm_are_ints an_are_ints cd_are_ints ct_are_ints), sl_are_ints⟩) (c_are_ints : PySem.W.codeIn K cd_are_ints "are_ints" = true) (k_are_ints : PySem.W.keepIn K (.ref f_are_ints) = true)
    {od_rising_ints an_rising_ints : Option Addr} {sl_rising_ints : Array (Option Value)} {oc_rising_ints kV_rising_ints dc_rising_ints pm_rising_ints cd_rising_ints ct_rising_ints : Value}
    (a_rising_ints : PySem.W.nsIn K mainGlobals "rising_ints" = some (some (.ref f_rising_ints)))
    (l_rising_ints : K.lookup f_rising_ints = some ⟨oc_rising_ints, od_rising_ints, .func (PySem.W.fnOf "rising_ints" "rising_ints" (defArgs s_rising_ints) (defBody s_rising_ints) (defScope s_rising_ints) .none kV_rising_ints dc_rising_ints pm_rising_ints an_rising_ints cd_rising_ints ct_rising_ints), sl_rising_ints⟩) (c_rising_ints : PySem.W.codeIn K cd_rising_ints "rising_ints" = true) (k_rising_ints : PySem.W.keepIn K (.ref f_rising_ints) = true)
    {od_is_pair an_is_pair : Option Addr} {sl_is_pair : Array (Option Value)} {oc_is_pair kV_is_pair dc_is_pair pm_is_pair cd_is_pair ct_is_pair : Value}
    (a_is_pair : PySem.W.nsIn K mainGlobals "is_pair" = some (some (.ref f_is_pair)))
    (l_is_pair : K.lookup f_is_pair = some ⟨oc_is_pair, od_is_pair, .func (PySem.W.fnOf "is_pair" "is_pair" (defArgs s_is_pair) (defBody s_is_pair) (defScope s_is_pair) .none kV_is_pair dc_is_pair pm_is_pair an_is_pair cd_is_pair ct_is_pair), sl_is_pair⟩) (c_is_pair : PySem.W.codeIn K cd_is_pair "is_pair" = true) (k_is_pair : PySem.W.keepIn K (.ref f_is_pair) = true)
    {od_are_rows an_are_rows : Option Addr} {sl_are_rows : Array (Option Value)} {oc_are_rows kV_are_rows dc_are_rows pm_are_rows cd_are_rows ct_are_rows : Value}
    (a_are_rows : PySem.W.nsIn K mainGlobals "are_rows" = some (some (.ref f_are_rows)))
    (l_are_rows : K.lookup f_are_rows = some ⟨oc_are_rows, od_are_rows, .func (PySem.W.fnOf "are_rows" "are_rows" (defArgs s_are_rows) (defBody s_are_rows) (defScope s_are_rows) .none kV_are_rows dc_are_rows pm_are_rows an_are_rows cd_are_rows ct_are_rows), sl_are_rows⟩) (c_are_rows : PySem.W.codeIn K cd_are_rows "are_rows" = true) (k_are_rows : PySem.W.keepIn K (.ref f_are_rows) = true)
    {od_Book___init__ an_Book___init__ : Option Addr} {sl_Book___init__ : Array (Option Value)} {oc_Book___init__ kV_Book___init__ dc_Book___init__ pm_Book___init__ cd_Book___init__ ct_Book___init__ : Value}
    (a_Book___init__ : PySem.W.findIn K (.ref C_Book) "__init__" = some (some (.ref f_Book___init__))) (i_Book___init__ : PySem.W.isFn K (.ref f_Book___init__) = true)
    (l_Book___init__ : K.lookup f_Book___init__ = some ⟨oc_Book___init__, od_Book___init__, .func (PySem.W.fnOf "__init__" "Book.__init__" (defArgs s_Book___init__) (defBody s_Book___init__) (defScope s_Book___init__) .none kV_Book___init__ dc_Book___init__ pm_Book___init__ an_Book___init__ cd_Book___init__ ct_Book___init__), sl_Book___init__⟩) (c_Book___init__ : PySem.W.codeIn K cd_Book___init__ "Book.__init__" = true) (k_Book___init__ : PySem.W.keepIn K (.ref f_Book___init__) = true)
    {od_Book___len__ an_Book___len__ : Option Addr} {sl_Book___len__ : Array (Option Value)} {oc_Book___len__ kV_Book___len__ dc_Book___len__ pm_Book___len__ cd_Book___len__ ct_Book___len__ : Value}
    (a_Book___len__ : PySem.W.findIn K (.ref C_Book) "__len__" = some (some (.ref f_Book___len__))) (i_Book___len__ : PySem.W.isFn K (.ref f_Book___len__) = true)
    (l_Book___len__ : K.lookup f_Book___len__ = some ⟨oc_Book___len__, od_Book___len__, .func (PySem.W.fnOf "__len__" "Book.__len__" (defArgs s_Book___len__) (defBody s_Book___len__) (defScope s_Book___len__) .none kV_Book___len__ dc_Book___len__ pm_Book___len__ an_Book___len__ cd_Book___len__ ct_Book___len__), sl_Book___len__⟩) (c_Book___len__ : PySem.W.codeIn K cd_Book___len__ "Book.__len__" = true) (k_Book___len__ : PySem.W.keepIn K (.ref f_Book___len__) = true)
    {od_Book_named an_Book_named : Option Addr} {sl_Book_named : Array (Option Value)} {oc_Book_named kV_Book_named dc_Book_named pm_Book_named cd_Book_named ct_Book_named : Value}
    (a_Book_named : PySem.W.findIn K (.ref C_Book) "named" = some (some (.ref f_Book_named))) (i_Book_named : PySem.W.isFn K (.ref f_Book_named) = true)
    (l_Book_named : K.lookup f_Book_named = some ⟨oc_Book_named, od_Book_named, .func (PySem.W.fnOf "named" "Book.named" (defArgs s_Book_named) (defBody s_Book_named) (defScope s_Book_named) .none kV_Book_named dc_Book_named pm_Book_named an_Book_named cd_Book_named ct_Book_named), sl_Book_named⟩) (c_Book_named : PySem.W.codeIn K cd_Book_named "Book.named" = true) (k_Book_named : PySem.W.keepIn K (.ref f_Book_named) = true)
    {od_Book_thing an_Book_thing : Option Addr} {sl_Book_thing : Array (Option Value)} {oc_Book_thing kV_Book_thing dc_Book_thing pm_Book_thing cd_Book_thing ct_Book_thing : Value}
    (a_Book_thing : PySem.W.findIn K (.ref C_Book) "thing" = some (some (.ref f_Book_thing))) (i_Book_thing : PySem.W.isFn K (.ref f_Book_thing) = true)
    (l_Book_thing : K.lookup f_Book_thing = some ⟨oc_Book_thing, od_Book_thing, .func (PySem.W.fnOf "thing" "Book.thing" (defArgs s_Book_thing) (defBody s_Book_thing) (defScope s_Book_thing) .none kV_Book_thing dc_Book_thing pm_Book_thing an_Book_thing cd_Book_thing ct_Book_thing), sl_Book_thing⟩) (c_Book_thing : PySem.W.codeIn K cd_Book_thing "Book.thing" = true) (k_Book_thing : PySem.W.keepIn K (.ref f_Book_thing) = true)
    {od_Book_kind an_Book_kind : Option Addr} {sl_Book_kind : Array (Option Value)} {oc_Book_kind kV_Book_kind dc_Book_kind pm_Book_kind cd_Book_kind ct_Book_kind : Value}
    (a_Book_kind : PySem.W.findIn K (.ref C_Book) "kind" = some (some (.ref f_Book_kind))) (i_Book_kind : PySem.W.isFn K (.ref f_Book_kind) = true)
    (l_Book_kind : K.lookup f_Book_kind = some ⟨oc_Book_kind, od_Book_kind, .func (PySem.W.fnOf "kind" "Book.kind" (defArgs s_Book_kind) (defBody s_Book_kind) (defScope s_Book_kind) .none kV_Book_kind dc_Book_kind pm_Book_kind an_Book_kind cd_Book_kind ct_Book_kind), sl_Book_kind⟩) (c_Book_kind : PySem.W.codeIn K cd_Book_kind "Book.kind" = true) (k_Book_kind : PySem.W.keepIn K (.ref f_Book_kind) = true)
    {od_is_name an_is_name : Option Addr} {sl_is_name : Array (Option Value)} {oc_is_name kV_is_name dc_is_name pm_is_name cd_is_name ct_is_name : Value}
    (a_is_name : PySem.W.nsIn K mainGlobals "is_name" = some (some (.ref f_is_name)))
    (l_is_name : K.lookup f_is_name = some ⟨oc_is_name, od_is_name, .func (PySem.W.fnOf "is_name" "is_name" (defArgs s_is_name) (defBody s_is_name) (defScope s_is_name) .none kV_is_name dc_is_name pm_is_name an_is_name cd_is_name ct_is_name), sl_is_name⟩) (c_is_name : PySem.W.codeIn K cd_is_name "is_name" = true) (k_is_name : PySem.W.keepIn K (.ref f_is_name) = true)
    {od_is_kind an_is_kind : Option Addr} {sl_is_kind : Array (Option Value)} {oc_is_kind kV_is_kind dc_is_kind pm_is_kind cd_is_kind ct_is_kind : Value}
    (a_is_kind : PySem.W.nsIn K mainGlobals "is_kind" = some (some (.ref f_is_kind)))
    (l_is_kind : K.lookup f_is_kind = some ⟨oc_is_kind, od_is_kind, .func (PySem.W.fnOf "is_kind" "is_kind" (defArgs s_is_kind) (defBody s_is_kind) (defScope s_is_kind) .none kV_is_kind dc_is_kind pm_is_kind an_is_kind cd_is_kind ct_is_kind), sl_is_kind⟩) (c_is_kind : PySem.W.codeIn K cd_is_kind "is_kind" = true) (k_is_kind : PySem.W.keepIn K (.ref f_is_kind) = true)
    {od_is_entry an_is_entry : Option Addr} {sl_is_entry : Array (Option Value)} {oc_is_entry kV_is_entry dc_is_entry pm_is_entry cd_is_entry ct_is_entry : Value}
    (a_is_entry : PySem.W.nsIn K mainGlobals "is_entry" = some (some (.ref f_is_entry)))
    (l_is_entry : K.lookup f_is_entry = some ⟨oc_is_entry, od_is_entry, .func (PySem.W.fnOf "is_entry" "is_entry" (defArgs s_is_entry) (defBody s_is_entry) (defScope s_is_entry) .none kV_is_entry dc_is_entry pm_is_entry an_is_entry cd_is_entry ct_is_entry), sl_is_entry⟩) (c_is_entry : PySem.W.codeIn K cd_is_entry "is_entry" = true) (k_is_entry : PySem.W.keepIn K (.ref f_is_entry) = true)
    {od_is_tree an_is_tree : Option Addr} {sl_is_tree : Array (Option Value)} {oc_is_tree kV_is_tree dc_is_tree pm_is_tree cd_is_tree ct_is_tree : Value}
    (a_is_tree : PySem.W.nsIn K mainGlobals "is_tree" = some (some (.ref f_is_tree)))
    (l_is_tree : K.lookup f_is_tree = some ⟨oc_is_tree, od_is_tree, .func (PySem.W.fnOf "is_tree" "is_tree" (defArgs s_is_tree) (defBody s_is_tree) (defScope s_is_tree) .none kV_is_tree dc_is_tree pm_is_tree an_is_tree cd_is_tree ct_is_tree), sl_is_tree⟩) (c_is_tree : PySem.W.codeIn K cd_is_tree "is_tree" = true) (k_is_tree : PySem.W.keepIn K (.ref f_is_tree) = true)
    {od_depth_of an_depth_of : Option Addr} {sl_depth_of : Array (Option Value)} {oc_depth_of kV_depth_of dc_depth_of pm_depth_of cd_depth_of ct_depth_of : Value}
    (a_depth_of : PySem.W.nsIn K mainGlobals "depth_of" = some (some (.ref f_depth_of)))
    (l_depth_of : K.lookup f_depth_of = some ⟨oc_depth_of, od_depth_of, .func (PySem.W.fnOf "depth_of" "depth_of" (defArgs s_depth_of) (defBody s_depth_of) (defScope s_depth_of) .none kV_depth_of dc_depth_of pm_depth_of an_depth_of cd_depth_of ct_depth_of), sl_depth_of⟩) (c_depth_of : PySem.W.codeIn K cd_depth_of "depth_of" = true) (k_depth_of : PySem.W.keepIn K (.ref f_depth_of) = true)
    {od_is_version an_is_version : Option Addr} {sl_is_version : Array (Option Value)} {oc_is_version kV_is_version dc_is_version pm_is_version cd_is_version ct_is_version : Value}
    (a_is_version : PySem.W.nsIn K mainGlobals "is_version" = some (some (.ref f_is_version)))
    (l_is_version : K.lookup f_is_version = some ⟨oc_is_version, od_is_version, .func (PySem.W.fnOf "is_version" "is_version" (defArgs s_is_version) (defBody s_is_version) (defScope s_is_version) .none kV_is_version dc_is_version pm_is_version an_is_version cd_is_version ct_is_version), sl_is_version⟩) (c_is_version : PySem.W.codeIn K cd_is_version "is_version" = true) (k_is_version : PySem.W.keepIn K (.ref f_is_version) = true)
    {od_is_content an_is_content : Option Addr} {sl_is_content : Array (Option Value)} {oc_is_content kV_is_content dc_is_content pm_is_content cd_is_content ct_is_content : Value}
    (a_is_content : PySem.W.nsIn K mainGlobals "is_content" = some (some (.ref f_is_content)))
    (l_is_content : K.lookup f_is_content = some ⟨oc_is_content, od_is_content, .func (PySem.W.fnOf "is_content" "is_content" (defArgs s_is_content) (defBody s_is_content) (defScope s_is_content) .none kV_is_content dc_is_content pm_is_content an_is_content cd_is_content ct_is_content), sl_is_content⟩) (c_is_content : PySem.W.codeIn K cd_is_content "is_content" = true) (k_is_content : PySem.W.keepIn K (.ref f_is_content) = true)
    {od_Store___init__ an_Store___init__ : Option Addr} {sl_Store___init__ : Array (Option Value)} {oc_Store___init__ kV_Store___init__ dc_Store___init__ pm_Store___init__ cd_Store___init__ ct_Store___init__ : Value}
    (a_Store___init__ : PySem.W.findIn K (.ref C_Store) "__init__" = some (some (.ref f_Store___init__))) (i_Store___init__ : PySem.W.isFn K (.ref f_Store___init__) = true)
    (l_Store___init__ : K.lookup f_Store___init__ = some ⟨oc_Store___init__, od_Store___init__, .func (PySem.W.fnOf "__init__" "Store.__init__" (defArgs s_Store___init__) (defBody s_Store___init__) (defScope s_Store___init__) .none kV_Store___init__ dc_Store___init__ pm_Store___init__ an_Store___init__ cd_Store___init__ ct_Store___init__), sl_Store___init__⟩) (c_Store___init__ : PySem.W.codeIn K cd_Store___init__ "Store.__init__" = true) (k_Store___init__ : PySem.W.keepIn K (.ref f_Store___init__) = true)
    {od_Store_put an_Store_put : Option Addr} {sl_Store_put : Array (Option Value)} {oc_Store_put kV_Store_put dc_Store_put pm_Store_put cd_Store_put ct_Store_put : Value}
    (a_Store_put : PySem.W.findIn K (.ref C_Store) "put" = some (some (.ref f_Store_put))) (i_Store_put : PySem.W.isFn K (.ref f_Store_put) = true)
    (l_Store_put : K.lookup f_Store_put = some ⟨oc_Store_put, od_Store_put, .func (PySem.W.fnOf "put" "Store.put" (defArgs s_Store_put) (defBody s_Store_put) (defScope s_Store_put) .none kV_Store_put dc_Store_put pm_Store_put an_Store_put cd_Store_put ct_Store_put), sl_Store_put⟩) (c_Store_put : PySem.W.codeIn K cd_Store_put "Store.put" = true) (k_Store_put : PySem.W.keepIn K (.ref f_Store_put) = true)
    {od_Store_write an_Store_write : Option Addr} {sl_Store_write : Array (Option Value)} {oc_Store_write kV_Store_write dc_Store_write pm_Store_write cd_Store_write ct_Store_write : Value}
    (a_Store_write : PySem.W.findIn K (.ref C_Store) "write" = some (some (.ref f_Store_write))) (i_Store_write : PySem.W.isFn K (.ref f_Store_write) = true)
    (l_Store_write : K.lookup f_Store_write = some ⟨oc_Store_write, od_Store_write, .func (PySem.W.fnOf "write" "Store.write" (defArgs s_Store_write) (defBody s_Store_write) (defScope s_Store_write) .none kV_Store_write dc_Store_write pm_Store_write an_Store_write cd_Store_write ct_Store_write), sl_Store_write⟩) (c_Store_write : PySem.W.codeIn K cd_Store_write "Store.write" = true) (k_Store_write : PySem.W.keepIn K (.ref f_Store_write) = true)
    {od_Store_held an_Store_held : Option Addr} {sl_Store_held : Array (Option Value)} {oc_Store_held kV_Store_held dc_Store_held pm_Store_held cd_Store_held ct_Store_held : Value}
    (a_Store_held : PySem.W.findIn K (.ref C_Store) "held" = some (some (.ref f_Store_held))) (i_Store_held : PySem.W.isFn K (.ref f_Store_held) = true)
    (l_Store_held : K.lookup f_Store_held = some ⟨oc_Store_held, od_Store_held, .func (PySem.W.fnOf "held" "Store.held" (defArgs s_Store_held) (defBody s_Store_held) (defScope s_Store_held) .none kV_Store_held dc_Store_held pm_Store_held an_Store_held cd_Store_held ct_Store_held), sl_Store_held⟩) (c_Store_held : PySem.W.codeIn K cd_Store_held "Store.held" = true) (k_Store_held : PySem.W.keepIn K (.ref f_Store_held) = true)
    {od_House___init__ an_House___init__ : Option Addr} {sl_House___init__ : Array (Option Value)} {oc_House___init__ kV_House___init__ dc_House___init__ pm_House___init__ cd_House___init__ ct_House___init__ : Value}
    (a_House___init__ : PySem.W.findIn K (.ref C_House) "__init__" = some (some (.ref f_House___init__))) (i_House___init__ : PySem.W.isFn K (.ref f_House___init__) = true)
    (l_House___init__ : K.lookup f_House___init__ = some ⟨oc_House___init__, od_House___init__, .func (PySem.W.fnOf "__init__" "House.__init__" (defArgs s_House___init__) (defBody s_House___init__) (defScope s_House___init__) .none kV_House___init__ dc_House___init__ pm_House___init__ an_House___init__ cd_House___init__ ct_House___init__), sl_House___init__⟩) (c_House___init__ : PySem.W.codeIn K cd_House___init__ "House.__init__" = true) (k_House___init__ : PySem.W.keepIn K (.ref f_House___init__) = true)
    {od_Town___init__ an_Town___init__ : Option Addr} {sl_Town___init__ : Array (Option Value)} {oc_Town___init__ kV_Town___init__ dc_Town___init__ pm_Town___init__ cd_Town___init__ ct_Town___init__ : Value}
    (a_Town___init__ : PySem.W.findIn K (.ref C_Town) "__init__" = some (some (.ref f_Town___init__))) (i_Town___init__ : PySem.W.isFn K (.ref f_Town___init__) = true)
    (l_Town___init__ : K.lookup f_Town___init__ = some ⟨oc_Town___init__, od_Town___init__, .func (PySem.W.fnOf "__init__" "Town.__init__" (defArgs s_Town___init__) (defBody s_Town___init__) (defScope s_Town___init__) .none kV_Town___init__ dc_Town___init__ pm_Town___init__ an_Town___init__ cd_Town___init__ ct_Town___init__), sl_Town___init__⟩) (c_Town___init__ : PySem.W.codeIn K cd_Town___init__ "Town.__init__" = true) (k_Town___init__ : PySem.W.keepIn K (.ref f_Town___init__) = true)
    {od_Town_build an_Town_build : Option Addr} {sl_Town_build : Array (Option Value)} {oc_Town_build kV_Town_build dc_Town_build pm_Town_build cd_Town_build ct_Town_build : Value}
    (a_Town_build : PySem.W.findIn K (.ref C_Town) "build" = some (some (.ref f_Town_build))) (i_Town_build : PySem.W.isFn K (.ref f_Town_build) = true)
    (l_Town_build : K.lookup f_Town_build = some ⟨oc_Town_build, od_Town_build, .func (PySem.W.fnOf "build" "Town.build" (defArgs s_Town_build) (defBody s_Town_build) (defScope s_Town_build) .none kV_Town_build dc_Town_build pm_Town_build an_Town_build cd_Town_build ct_Town_build), sl_Town_build⟩) (c_Town_build : PySem.W.codeIn K cd_Town_build "Town.build" = true) (k_Town_build : PySem.W.keepIn K (.ref f_Town_build) = true)
    {od_Town_house an_Town_house : Option Addr} {sl_Town_house : Array (Option Value)} {oc_Town_house kV_Town_house dc_Town_house pm_Town_house cd_Town_house ct_Town_house : Value}
    (a_Town_house : PySem.W.findIn K (.ref C_Town) "house" = some (some (.ref f_Town_house))) (i_Town_house : PySem.W.isFn K (.ref f_Town_house) = true)
    (l_Town_house : K.lookup f_Town_house = some ⟨oc_Town_house, od_Town_house, .func (PySem.W.fnOf "house" "Town.house" (defArgs s_Town_house) (defBody s_Town_house) (defScope s_Town_house) .none kV_Town_house dc_Town_house pm_Town_house an_Town_house cd_Town_house ct_Town_house), sl_Town_house⟩) (c_Town_house : PySem.W.codeIn K cd_Town_house "Town.house" = true) (k_Town_house : PySem.W.keepIn K (.ref f_Town_house) = true)
    {od_Town_labels an_Town_labels : Option Addr} {sl_Town_labels : Array (Option Value)} {oc_Town_labels kV_Town_labels dc_Town_labels pm_Town_labels cd_Town_labels ct_Town_labels : Value}
    (a_Town_labels : PySem.W.findIn K (.ref C_Town) "labels" = some (some (.ref f_Town_labels))) (i_Town_labels : PySem.W.isFn K (.ref f_Town_labels) = true)
    (l_Town_labels : K.lookup f_Town_labels = some ⟨oc_Town_labels, od_Town_labels, .func (PySem.W.fnOf "labels" "Town.labels" (defArgs s_Town_labels) (defBody s_Town_labels) (defScope s_Town_labels) .none kV_Town_labels dc_Town_labels pm_Town_labels an_Town_labels cd_Town_labels ct_Town_labels), sl_Town_labels⟩) (c_Town_labels : PySem.W.codeIn K cd_Town_labels "Town.labels" = true) (k_Town_labels : PySem.W.keepIn K (.ref f_Town_labels) = true)
    {od_Town_sweep an_Town_sweep : Option Addr} {sl_Town_sweep : Array (Option Value)} {oc_Town_sweep kV_Town_sweep dc_Town_sweep pm_Town_sweep cd_Town_sweep ct_Town_sweep : Value}
    (a_Town_sweep : PySem.W.findIn K (.ref C_Town) "sweep" = some (some (.ref f_Town_sweep))) (i_Town_sweep : PySem.W.isFn K (.ref f_Town_sweep) = true)
    (l_Town_sweep : K.lookup f_Town_sweep = some ⟨oc_Town_sweep, od_Town_sweep, .func (PySem.W.fnOf "sweep" "Town.sweep" (defArgs s_Town_sweep) (defBody s_Town_sweep) (defScope s_Town_sweep) .none kV_Town_sweep dc_Town_sweep pm_Town_sweep an_Town_sweep cd_Town_sweep ct_Town_sweep), sl_Town_sweep⟩) (c_Town_sweep : PySem.W.codeIn K cd_Town_sweep "Town.sweep" = true) (k_Town_sweep : PySem.W.keepIn K (.ref f_Town_sweep) = true)
    {od_law_deck an_law_deck : Option Addr} {sl_law_deck : Array (Option Value)} {oc_law_deck kV_law_deck dc_law_deck pm_law_deck cd_law_deck ct_law_deck : Value}
    (a_law_deck : PySem.W.nsIn K mainGlobals "_law_deck" = some (some (.ref f_law_deck)))
    (l_law_deck : K.lookup f_law_deck = some ⟨oc_law_deck, od_law_deck, .func (PySem.W.fnOf "_law_deck" "_law_deck" (defArgs s_law_deck) (defBody s_law_deck) (defScope s_law_deck) .none kV_law_deck dc_law_deck pm_law_deck an_law_deck cd_law_deck ct_law_deck), sl_law_deck⟩) (c_law_deck : PySem.W.codeIn K cd_law_deck "_law_deck" = true) (k_law_deck : PySem.W.keepIn K (.ref f_law_deck) = true)
    {od_law_mixed an_law_mixed : Option Addr} {sl_law_mixed : Array (Option Value)} {oc_law_mixed kV_law_mixed dc_law_mixed pm_law_mixed cd_law_mixed ct_law_mixed : Value}
    (a_law_mixed : PySem.W.nsIn K mainGlobals "_law_mixed" = some (some (.ref f_law_mixed)))
    (l_law_mixed : K.lookup f_law_mixed = some ⟨oc_law_mixed, od_law_mixed, .func (PySem.W.fnOf "_law_mixed" "_law_mixed" (defArgs s_law_mixed) (defBody s_law_mixed) (defScope s_law_mixed) .none kV_law_mixed dc_law_mixed pm_law_mixed an_law_mixed cd_law_mixed ct_law_mixed), sl_law_mixed⟩) (c_law_mixed : PySem.W.codeIn K cd_law_mixed "_law_mixed" = true) (k_law_mixed : PySem.W.keepIn K (.ref f_law_mixed) = true)
    {od_law_draw an_law_draw : Option Addr} {sl_law_draw : Array (Option Value)} {oc_law_draw kV_law_draw dc_law_draw pm_law_draw cd_law_draw ct_law_draw : Value}
    (a_law_draw : PySem.W.nsIn K mainGlobals "_law_draw" = some (some (.ref f_law_draw)))
    (l_law_draw : K.lookup f_law_draw = some ⟨oc_law_draw, od_law_draw, .func (PySem.W.fnOf "_law_draw" "_law_draw" (defArgs s_law_draw) (defBody s_law_draw) (defScope s_law_draw) .none kV_law_draw dc_law_draw pm_law_draw an_law_draw cd_law_draw ct_law_draw), sl_law_draw⟩) (c_law_draw : PySem.W.codeIn K cd_law_draw "_law_draw" = true) (k_law_draw : PySem.W.keepIn K (.ref f_law_draw) = true)
    {od_law_label an_law_label : Option Addr} {sl_law_label : Array (Option Value)} {oc_law_label kV_law_label dc_law_label pm_law_label cd_law_label ct_law_label : Value}
    (a_law_label : PySem.W.nsIn K mainGlobals "_law_label" = some (some (.ref f_law_label)))
    (l_law_label : K.lookup f_law_label = some ⟨oc_law_label, od_law_label, .func (PySem.W.fnOf "_law_label" "_law_label" (defArgs s_law_label) (defBody s_law_label) (defScope s_law_label) .none kV_law_label dc_law_label pm_law_label an_law_label cd_law_label ct_law_label), sl_law_label⟩) (c_law_label : PySem.W.codeIn K cd_law_label "_law_label" = true) (k_law_label : PySem.W.keepIn K (.ref f_law_label) = true)
    {od_law_alike an_law_alike : Option Addr} {sl_law_alike : Array (Option Value)} {oc_law_alike kV_law_alike dc_law_alike pm_law_alike cd_law_alike ct_law_alike : Value}
    (a_law_alike : PySem.W.nsIn K mainGlobals "_law_alike" = some (some (.ref f_law_alike)))
    (l_law_alike : K.lookup f_law_alike = some ⟨oc_law_alike, od_law_alike, .func (PySem.W.fnOf "_law_alike" "_law_alike" (defArgs s_law_alike) (defBody s_law_alike) (defScope s_law_alike) .none kV_law_alike dc_law_alike pm_law_alike an_law_alike cd_law_alike ct_law_alike), sl_law_alike⟩) (c_law_alike : PySem.W.codeIn K cd_law_alike "_law_alike" = true) (k_law_alike : PySem.W.keepIn K (.ref f_law_alike) = true)
    {od_law_town_why an_law_town_why : Option Addr} {sl_law_town_why : Array (Option Value)} {oc_law_town_why kV_law_town_why dc_law_town_why pm_law_town_why cd_law_town_why ct_law_town_why : Value}
    (a_law_town_why : PySem.W.nsIn K mainGlobals "_law_town_why" = some (some (.ref f_law_town_why)))
    (l_law_town_why : K.lookup f_law_town_why = some ⟨oc_law_town_why, od_law_town_why, .func (PySem.W.fnOf "_law_town_why" "_law_town_why" (defArgs s_law_town_why) (defBody s_law_town_why) (defScope s_law_town_why) .none kV_law_town_why dc_law_town_why pm_law_town_why an_law_town_why cd_law_town_why ct_law_town_why), sl_law_town_why⟩) (c_law_town_why : PySem.W.codeIn K cd_law_town_why "_law_town_why" = true) (k_law_town_why : PySem.W.keepIn K (.ref f_law_town_why) = true)
    {od_law_built an_law_built : Option Addr} {sl_law_built : Array (Option Value)} {oc_law_built kV_law_built dc_law_built pm_law_built  ct_law_built : Value}
    (a_law_built : PySem.W.nsIn K mainGlobals "_law_built" = some (some (.ref f_law_built)))
    (l_law_built : K.lookup f_law_built = some ⟨oc_law_built, od_law_built, .func (PySem.W.fnOf "_law_built" "_law_built" (defArgs s_law_built) (defBody s_law_built) (defScope s_law_built) .none kV_law_built dc_law_built pm_law_built an_law_built (.ref cL_law_built) ct_law_built), sl_law_built⟩) (c_law_built : PySem.W.codeIn K (.ref cL_law_built) "_law_built" = true) (k_law_built : PySem.W.keepIn K (.ref f_law_built) = true)
    {od_law_stands an_law_stands : Option Addr} {sl_law_stands : Array (Option Value)} {oc_law_stands kV_law_stands dc_law_stands pm_law_stands cd_law_stands ct_law_stands : Value}
    (a_law_stands : PySem.W.nsIn K mainGlobals "_law_stands" = some (some (.ref f_law_stands)))
    (l_law_stands : K.lookup f_law_stands = some ⟨oc_law_stands, od_law_stands, .func (PySem.W.fnOf "_law_stands" "_law_stands" (defArgs s_law_stands) (defBody s_law_stands) (defScope s_law_stands) .none kV_law_stands dc_law_stands pm_law_stands an_law_stands cd_law_stands ct_law_stands), sl_law_stands⟩) (c_law_stands : PySem.W.codeIn K cd_law_stands "_law_stands" = true) (k_law_stands : PySem.W.keepIn K (.ref f_law_stands) = true)
    {od_law an_law : Option Addr} {sl_law : Array (Option Value)} {oc_law kV_law dc_law pm_law  ct_law : Value}
    (a_law : PySem.W.nsIn K mainGlobals "law" = some (some (.ref f_law)))
    (l_law : K.lookup f_law = some ⟨oc_law, od_law, .func (PySem.W.fnOf "law" "law" (defArgs s_law) (defBody s_law) (defScope s_law) .none kV_law dc_law pm_law an_law (.ref cL) ct_law), sl_law⟩) (c_law : PySem.W.codeIn K (.ref cL) "law" = true) (k_law : PySem.W.keepIn K (.ref f_law) = true)
    (kga_Book : PySem.W.nsIn K mainGlobals "Book" = some (some (.ref C_Book))) (kpg_Book : PySem.W.plainGet K C_Book Str.empty = true) (khd_Book : PySem.W.hasDictIn K C_Book = true) (kpo_Book : PySem.W.plainOver K C_Book = true) (ksa_Book : PySem.W.findIn K (.ref C_Book) "__setattr__" = some (some (.builtin "object.__setattr__"))) (kmk_Book : PySem.W.makesIn K C_Book = true) (kkc_Book : PySem.W.keepIn K (.ref C_Book) = true)
    (kna_Book_contents : PySem.W.findIn K (.ref C_Book) "contents" = some none)
    (kna_Book_depths : PySem.W.findIn K (.ref C_Book) "depths" = some none)
    (kna_Book_given : PySem.W.findIn K (.ref C_Book) "given" = some none)
    (kga_Store : PySem.W.nsIn K mainGlobals "Store" = some (some (.ref C_Store))) (kpg_Store : PySem.W.plainGet K C_Store Str.empty = true) (khd_Store : PySem.W.hasDictIn K C_Store = true) (kpo_Store : PySem.W.plainOver K C_Store = true) (ksa_Store : PySem.W.findIn K (.ref C_Store) "__setattr__" = some (some (.builtin "object.__setattr__"))) (kmk_Store : PySem.W.makesIn K C_Store = true) (kkc_Store : PySem.W.keepIn K (.ref C_Store) = true)
    (kna_Store_book : PySem.W.findIn K (.ref C_Store) "book" = some none)
    (kna_Store_here : PySem.W.findIn K (.ref C_Store) "here" = some none)
    (kna_Store_turns : PySem.W.findIn K (.ref C_Store) "turns" = some none)
    (kga_House : PySem.W.nsIn K mainGlobals "House" = some (some (.ref C_House))) (kpg_House : PySem.W.plainGet K C_House Str.empty = true) (khd_House : PySem.W.hasDictIn K C_House = true) (kpo_House : PySem.W.plainOver K C_House = true) (ksa_House : PySem.W.findIn K (.ref C_House) "__setattr__" = some (some (.builtin "object.__setattr__"))) (kmk_House : PySem.W.makesIn K C_House = true) (kkc_House : PySem.W.keepIn K (.ref C_House) = true)
    (kna_House_book : PySem.W.findIn K (.ref C_House) "book" = some none)
    (kna_House_here : PySem.W.findIn K (.ref C_House) "here" = some none)
    (kna_House_turns : PySem.W.findIn K (.ref C_House) "turns" = some none)
    (kna_House_stands : PySem.W.findIn K (.ref C_House) "stands" = some none)
    (kna_House_lately : PySem.W.findIn K (.ref C_House) "lately" = some none)
    (kna_House_others : PySem.W.findIn K (.ref C_House) "others" = some none)
    (kna_House_pinned : PySem.W.findIn K (.ref C_House) "pinned" = some none)
    (kga_Town : PySem.W.nsIn K mainGlobals "Town" = some (some (.ref C_Town))) (kpg_Town : PySem.W.plainGet K C_Town Str.empty = true) (khd_Town : PySem.W.hasDictIn K C_Town = true) (kpo_Town : PySem.W.plainOver K C_Town = true) (ksa_Town : PySem.W.findIn K (.ref C_Town) "__setattr__" = some (some (.builtin "object.__setattr__"))) (kmk_Town : PySem.W.makesIn K C_Town = true) (kkc_Town : PySem.W.keepIn K (.ref C_Town) = true)
    (kna_Town_book : PySem.W.findIn K (.ref C_Town) "book" = some none)
    (kna_Town_homes : PySem.W.findIn K (.ref C_Town) "homes" = some none)
    (kna_Town_talks : PySem.W.findIn K (.ref C_Town) "talks" = some none)
    (z_len : PySem.W.nsIn K mainGlobals "len" = some none)
    (z_list : PySem.W.nsIn K mainGlobals "list" = some none)
    (z_isinstance : PySem.W.nsIn K mainGlobals "isinstance" = some none)
    (z_int : PySem.W.nsIn K mainGlobals "int" = some none)
    (z_bool : PySem.W.nsIn K mainGlobals "bool" = some none)
    (z_str : PySem.W.nsIn K mainGlobals "str" = some none)
    (z_tuple : PySem.W.nsIn K mainGlobals "tuple" = some none)
    (z_dict : PySem.W.nsIn K mainGlobals "dict" = some none)
    (z_range : PySem.W.nsIn K mainGlobals "range" = some none)
    (z_all : PySem.W.nsIn K mainGlobals "all" = some none)
    (z_min : PySem.W.nsIn K mainGlobals "min" = some none)
    (z_max : PySem.W.nsIn K mainGlobals "max" = some none)
    (z_set : PySem.W.nsIn K mainGlobals "set" = some none)
    (z_sorted : PySem.W.nsIn K mainGlobals "sorted" = some none)
    (z_ValueError : PySem.W.nsIn K mainGlobals "ValueError" = some none)
    {t_SIGNS : Tok} (y_SIGNS : PySem.W.nsIn K mainGlobals "SIGNS" = some (some (.str " !\"#$&'()*+,-./0123456789:;<=>?@ABCDEFGHIJKLMNOPQRSTUVWXYZ[\\]^_`abcdefghijklmnopqrstuvwxyz{|}~" t_SIGNS)))
    {t_LETTERS : Tok} (y_LETTERS : PySem.W.nsIn K mainGlobals "LETTERS" = some (some (.str "abcdefghijklmnopqrstuvwxyz" t_LETTERS)))
    {t_MOST : Tok} (y_MOST : PySem.W.nsIn K mainGlobals "MOST" = some (some (.int 400 t_MOST)))
    {t_DEEP : Tok} (y_DEEP : PySem.W.nsIn K mainGlobals "DEEP" = some (some (.int 8 t_DEEP)))
    {C_HouseError : Addr} (ga_HouseError : PySem.W.nsIn K mainGlobals "HouseError" = some (some (.ref C_HouseError))) (hb_HouseError : PySem.W.subIn K (.ref C_HouseError) (.type "BaseException") = some true) (hi_HouseError : PySem.W.isClsIn K C_HouseError = true) (ht_HouseError : PySem.W.typeIn K (.ref C_HouseError) = some (.type "type"))
    {C_NoTalk : Addr} (ga_NoTalk : PySem.W.nsIn K mainGlobals "NoTalk" = some (some (.ref C_NoTalk))) (hb_NoTalk : PySem.W.subIn K (.ref C_NoTalk) (.type "BaseException") = some true) (hi_NoTalk : PySem.W.isClsIn K C_NoTalk = true) (ht_NoTalk : PySem.W.typeIn K (.ref C_NoTalk) = some (.type "type"))
    {C_TooMany : Addr} (ga_TooMany : PySem.W.nsIn K mainGlobals "TooMany" = some (some (.ref C_TooMany))) (hb_TooMany : PySem.W.subIn K (.ref C_TooMany) (.type "BaseException") = some true) (hi_TooMany : PySem.W.isClsIn K C_TooMany = true) (ht_TooMany : PySem.W.typeIn K (.ref C_TooMany) = some (.type "type"))
    {C_NoMark : Addr} (ga_NoMark : PySem.W.nsIn K mainGlobals "NoMark" = some (some (.ref C_NoMark))) (hb_NoMark : PySem.W.subIn K (.ref C_NoMark) (.type "BaseException") = some true) (hi_NoMark : PySem.W.isClsIn K C_NoMark = true) (ht_NoMark : PySem.W.typeIn K (.ref C_NoMark) = some (.type "type"))
    {C_Broken : Addr} (ga_Broken : PySem.W.nsIn K mainGlobals "Broken" = some (some (.ref C_Broken))) (hb_Broken : PySem.W.subIn K (.ref C_Broken) (.type "BaseException") = some true) (hi_Broken : PySem.W.isClsIn K C_Broken = true) (ht_Broken : PySem.W.typeIn K (.ref C_Broken) = some (.type "type"))
    {C_Lack : Addr} (ga_Lack : PySem.W.nsIn K mainGlobals "Lack" = some (some (.ref C_Lack))) (hb_Lack : PySem.W.subIn K (.ref C_Lack) (.type "BaseException") = some true) (hi_Lack : PySem.W.isClsIn K C_Lack = true) (ht_Lack : PySem.W.typeIn K (.ref C_Lack) = some (.type "type"))
    {C_NoName : Addr} (ga_NoName : PySem.W.nsIn K mainGlobals "NoName" = some (some (.ref C_NoName))) (hb_NoName : PySem.W.subIn K (.ref C_NoName) (.type "BaseException") = some true) (hi_NoName : PySem.W.isClsIn K C_NoName = true) (ht_NoName : PySem.W.typeIn K (.ref C_NoName) = some (.type "type"))
    {C_NoHouse : Addr} {nm_NoHouse q_NoHouse : Str} {N_NoHouse : Addr} {bs_NoHouse : List Value} {sn_NoHouse : List Str} {sub_NoHouse : List Value} {ab_NoHouse : Bool} {col_NoHouse : Option Bool} {dd_NoHouse : Option Addr} {m0_NoHouse m1_NoHouse m2_NoHouse m3_NoHouse m5_NoHouse : Option Value}
    (ga_NoHouse : PySem.W.nsIn K mainGlobals "NoHouse" = some (some (.ref C_NoHouse))) (xl_NoHouse : K.lookup C_NoHouse = some (excClassObj nm_NoHouse q_NoHouse C_NoHouse N_NoHouse bs_NoHouse [.ref C_HouseError, .type "ValueError", .type "Exception", .type "BaseException", .type "object"] true sn_NoHouse sub_NoHouse ab_NoHouse col_NoHouse dd_NoHouse m0_NoHouse m1_NoHouse m2_NoHouse m3_NoHouse m5_NoHouse "ValueError.__new__"))
    (hb_NoHouse : PySem.W.subIn K (.ref C_NoHouse) (.type "BaseException") = some true) (hi_NoHouse : PySem.W.isClsIn K C_NoHouse = true) (ht_NoHouse : PySem.W.typeIn K (.ref C_NoHouse) = some (.type "type")) (xk_NoHouse : PySem.W.keepIn K (.ref C_NoHouse) = true) (sa_NoHouse : PySem.W.findIn K (.ref C_NoHouse) "__setattr__" = some (some (.builtin "object.__setattr__")))
    (xg_NoHouse : PySem.W.findIn K (.ref C_NoHouse) "__getattribute__" = some (some (.builtin "BaseException.__getattribute__"))) (xh_NoHouse : PySem.W.findIn K (.ref C_NoHouse) "__getattr__" = some none) (xd_NoHouse : PySem.W.hasDictIn K C_NoHouse = true)
    (xo_NoHouse : PySem.W.findIn K (.ref C_NoHouse) "__class__" = some (some (.builtin "object.__class__"))) (xp_NoHouse : PySem.W.specialIn K (.builtin "object.__class__") "__get__" = some (some (.builtin "getset_descriptor.__get__"))) (xq_NoHouse : PySem.W.takesIn K (.builtin "object.__class__") = some true) (xr_NoHouse : PySem.W.mroIn K C_NoHouse (.type "object") = some true)
    (xi_NoHouse : PySem.W.findIn K (.ref C_NoHouse) "__init__" = some (some (.ref f_NoHouse___init__))) (xj_NoHouse : PySem.W.typeIn K (.ref f_NoHouse___init__) = some (.type "function"))
    (nf_NoHouse_label : PySem.W.findIn K (.ref C_NoHouse) "label" = some none)
    {C_Taken : Addr} {nm_Taken q_Taken : Str} {N_Taken : Addr} {bs_Taken : List Value} {sn_Taken : List Str} {sub_Taken : List Value} {ab_Taken : Bool} {col_Taken : Option Bool} {dd_Taken : Option Addr} {m0_Taken m1_Taken m2_Taken m3_Taken m5_Taken : Option Value}
    (ga_Taken : PySem.W.nsIn K mainGlobals "Taken" = some (some (.ref C_Taken))) (xl_Taken : K.lookup C_Taken = some (excClassObj nm_Taken q_Taken C_Taken N_Taken bs_Taken [.ref C_HouseError, .type "ValueError", .type "Exception", .type "BaseException", .type "object"] true sn_Taken sub_Taken ab_Taken col_Taken dd_Taken m0_Taken m1_Taken m2_Taken m3_Taken m5_Taken "ValueError.__new__"))
    (hb_Taken : PySem.W.subIn K (.ref C_Taken) (.type "BaseException") = some true) (hi_Taken : PySem.W.isClsIn K C_Taken = true) (ht_Taken : PySem.W.typeIn K (.ref C_Taken) = some (.type "type")) (xk_Taken : PySem.W.keepIn K (.ref C_Taken) = true) (sa_Taken : PySem.W.findIn K (.ref C_Taken) "__setattr__" = some (some (.builtin "object.__setattr__")))
    (xg_Taken : PySem.W.findIn K (.ref C_Taken) "__getattribute__" = some (some (.builtin "BaseException.__getattribute__"))) (xh_Taken : PySem.W.findIn K (.ref C_Taken) "__getattr__" = some none) (xd_Taken : PySem.W.hasDictIn K C_Taken = true)
    (xo_Taken : PySem.W.findIn K (.ref C_Taken) "__class__" = some (some (.builtin "object.__class__"))) (xp_Taken : PySem.W.specialIn K (.builtin "object.__class__") "__get__" = some (some (.builtin "getset_descriptor.__get__"))) (xq_Taken : PySem.W.takesIn K (.builtin "object.__class__") = some true) (xr_Taken : PySem.W.mroIn K C_Taken (.type "object") = some true)
    (xi_Taken : PySem.W.findIn K (.ref C_Taken) "__init__" = some (some (.ref f_Taken___init__))) (xj_Taken : PySem.W.typeIn K (.ref f_Taken___init__) = some (.type "function"))
    (nf_Taken_label : PySem.W.findIn K (.ref C_Taken) "label" = some none)
    (es_NoHouse_HouseError : PySem.W.subIn K (.ref C_NoHouse) (.ref C_HouseError) = some true)
    (es_Taken_HouseError : PySem.W.subIn K (.ref C_Taken) (.ref C_HouseError) = some true)
    (kq_NoHouse_NoHouse : PySem.W.kitOne K (.ref C_NoHouse) (.ref C_NoHouse) = some true)
    (kq_NoHouse_Taken : PySem.W.kitOne K (.ref C_NoHouse) (.ref C_Taken) = some false)
    (kq_NoHouse_NoTalk : PySem.W.kitOne K (.ref C_NoHouse) (.ref C_NoTalk) = some false)
    (kq_NoHouse_TooMany : PySem.W.kitOne K (.ref C_NoHouse) (.ref C_TooMany) = some false)
    (kq_NoHouse_NoMark : PySem.W.kitOne K (.ref C_NoHouse) (.ref C_NoMark) = some false)
    (kq_NoHouse_Broken : PySem.W.kitOne K (.ref C_NoHouse) (.ref C_Broken) = some false)
    (kq_NoHouse_Lack : PySem.W.kitOne K (.ref C_NoHouse) (.ref C_Lack) = some false)
    (kq_NoHouse_NoName : PySem.W.kitOne K (.ref C_NoHouse) (.ref C_NoName) = some false)
    (kq_NoHouse_ValueError : PySem.W.kitOne K (.ref C_NoHouse) (.type "ValueError") = some true)
    (kq_Taken_NoHouse : PySem.W.kitOne K (.ref C_Taken) (.ref C_NoHouse) = some false)
    (kq_Taken_Taken : PySem.W.kitOne K (.ref C_Taken) (.ref C_Taken) = some true)
    (kq_Taken_NoTalk : PySem.W.kitOne K (.ref C_Taken) (.ref C_NoTalk) = some false)
    (kq_Taken_TooMany : PySem.W.kitOne K (.ref C_Taken) (.ref C_TooMany) = some false)
    (kq_Taken_NoMark : PySem.W.kitOne K (.ref C_Taken) (.ref C_NoMark) = some false)
    (kq_Taken_Broken : PySem.W.kitOne K (.ref C_Taken) (.ref C_Broken) = some false)
    (kq_Taken_Lack : PySem.W.kitOne K (.ref C_Taken) (.ref C_Lack) = some false)
    (kq_Taken_NoName : PySem.W.kitOne K (.ref C_Taken) (.ref C_NoName) = some false)
    (kq_Taken_ValueError : PySem.W.kitOne K (.ref C_Taken) (.type "ValueError") = some true)
     (ia_House_put : PySem.W.findIn K (.ref C_House) "put" = some (some (.ref f_Store_put)))
     (ia_House_held : PySem.W.findIn K (.ref C_House) "held" = some (some (.ref f_Store_held)))
     (ia_House_write : PySem.W.findIn K (.ref C_House) "write" = some (some (.ref f_Store_write)))
     (cr1_Store : PySem.W.readsIn K C_Store (.type "type") = true)
     (cr2_Store : PySem.W.specialIn K (.ref C_Store) "__getattribute__" = some (some (.builtin "type.__getattribute__")))
     (cv_Store___init__ : PySem.W.findCls K (.ref C_Store) (.type "type") "__init__" = some (.val (.ref f_Store___init__)))
     (qm_Book : PySem.W.mroIn K C_Book (.type "object") = some true)
     (qe_Book : PySem.W.findIn K (.ref C_Book) "__eq__" = some (some (.builtin "object.__eq__")))
     (qn_Book : PySem.W.findIn K (.ref C_Book) "__ne__" = some (some (.builtin "object.__ne__")))
     (qm_House : PySem.W.mroIn K C_House (.type "object") = some true)
     (qe_House : PySem.W.findIn K (.ref C_House) "__eq__" = some (some (.builtin "object.__eq__")))
     (qn_House : PySem.W.findIn K (.ref C_House) "__ne__" = some (some (.builtin "object.__ne__")))
     (o_mr_Book : PySem.W.mroIn K C_Book (.type "object") = some true)
     (o_ha_Book : PySem.W.findIn K (.ref C_Book) "__class__" = some (some (.builtin "object.__class__")))
     (o_hn_Book : PySem.W.specialIn K (.builtin "object.__class__") "__get__" = some (some (.builtin "getset_descriptor.__get__")))
     (o_ht_Book : PySem.W.takesIn K (.builtin "object.__class__") = some true)
     (o_ko_Book : PySem.W.kitOne K (.ref C_Book) (.ref C_Book) = some true)
     (o_mr_House : PySem.W.mroIn K C_House (.type "object") = some true)
     (o_ha_House : PySem.W.findIn K (.ref C_House) "__class__" = some (some (.builtin "object.__class__")))
     (o_hn_House : PySem.W.specialIn K (.builtin "object.__class__") "__get__" = some (some (.builtin "getset_descriptor.__get__")))
     (o_ht_House : PySem.W.takesIn K (.builtin "object.__class__") = some true)
     (o_ko_House : PySem.W.kitOne K (.ref C_House) (.ref C_House) = some true)
    {eL : Value} {dL : Option Addr} {vL : Array Value} {sL : Array (Option Value)} (lk_L : K.lookup cL = some ⟨eL, dL, .fields vL, sL⟩) (v11_L : vL[11]? = some (.ref PL)) (hd_L : PySem.W.codeHdIn K cL PL = true) (np_L : K.lookup PL = none)
    {eL_law_built : Value} {dL_law_built : Option Addr} {vL_law_built : Array Value} {sL_law_built : Array (Option Value)} (lk_law_built : K.lookup cL_law_built = some ⟨eL_law_built, dL_law_built, .fields vL_law_built, sL_law_built⟩) (v11_law_built : vL_law_built[11]? = some (.ref PL_law_built)) (hd_law_built : PySem.W.codeHdIn K cL_law_built PL_law_built = true) (np_law_built : K.lookup PL_law_built = none) (tb_law_built : h.get? PL_law_built = some { cls := .none, data := .fields #[] })
    (npp_law_built : PL ≠ PL_law_built)
    : LamX.LawAtS l w K CX0 11 63 "_law_script" mg fa h := by
  have e := hfa.symm.trans (PySem.W.mg_of X G a_law)
  cases e
  have F_NoHouse___init__ := fun_mk (st := s_NoHouse___init__) l_NoHouse___init__ c_NoHouse___init__ k_NoHouse___init__
  have F_Taken___init__ := fun_mk (st := s_Taken___init__) l_Taken___init__ c_Taken___init__ k_Taken___init__
  have F_is_int : FunD K "is_int" "is_int" (defArgs s_is_int) (defBody s_is_int) (defScope s_is_int) [V.int 0] [] f_is_int _ := ⟨⟨_, _, _, _, _, _, _, _, _, _, rfl, l_is_int, c_is_int, .inr ⟨by simp, _, _, [.int 0 dk_is_int_least], _, rfl, dl_is_int, rfl, .cons ⟨_, rfl⟩ (.nil)⟩, .inl rfl⟩, k_is_int⟩
  have D_is_int : DfD K mg "is_int" s_is_int ["thing", "least"] [V.int 0] _ _ := ⟨F_is_int, PySem.W.mg_of X G a_is_int, k_is_int, F_is_int.binds1 (ps := ["thing", "least"]) 1 0 (by simp) rfl fun _ _ _ _ _ _ _ us its hu hi => match us, its, hu, hi with | [_], [_], _, _ => ⟨_, rfl, rfl⟩⟩
  have F_is_text : FunD K "is_text" "is_text" (defArgs s_is_text) (defBody s_is_text) (defScope s_is_text) [V.int 40] [] f_is_text _ := ⟨⟨_, _, _, _, _, _, _, _, _, _, rfl, l_is_text, c_is_text, .inr ⟨by simp, _, _, [.int 40 dk_is_text_most], _, rfl, dl_is_text, rfl, .cons ⟨_, rfl⟩ (.nil)⟩, .inl rfl⟩, k_is_text⟩
  have D_is_text : DfD K mg "is_text" s_is_text ["thing", "most"] [V.int 40] _ _ := ⟨F_is_text, PySem.W.mg_of X G a_is_text, k_is_text, F_is_text.binds1 (ps := ["thing", "most"]) 1 0 (by simp) rfl fun _ _ _ _ _ _ _ us its hu hi => match us, its, hu, hi with | [_], [_], _, _ => ⟨_, rfl, rfl⟩⟩
  have F_is_label := fun_mk (st := s_is_label) l_is_label c_is_label k_is_label
  have D_is_label : Df K mg "is_label" s_is_label ["thing"] _ _ := ⟨F_is_label, F_is_label.binds (ps := ["thing"]) fun _ _ _ _ _ _ us hl => match us, hl with | [_], _ => rfl, PySem.W.mg_of X G a_is_label⟩
  have F_rise := fun_mk (st := s_rise) l_rise c_rise k_rise
  have D_rise : Df K mg "rise" s_rise ["row"] _ _ := ⟨F_rise, F_rise.binds (ps := ["row"]) fun _ _ _ _ _ _ us hl => match us, hl with | [_], _ => rfl, PySem.W.mg_of X G a_rise⟩
  have F_are_ints := fun_mk (st := s_are_ints) l_are_ints c_are_ints k_are_ints
  have D_are_ints : Df K mg "are_ints" s_are_ints ["thing"] _ _ := ⟨F_are_ints, F_are_ints.binds (ps := ["thing"]) fun _ _ _ _ _ _ us hl => match us, hl with | [_], _ => rfl, PySem.W.mg_of X G a_are_ints⟩
  have F_rising_ints := fun_mk (st := s_rising_ints) l_rising_ints c_rising_ints k_rising_ints
  have D_rising_ints : Df K mg "rising_ints" s_rising_ints ["thing"] _ _ := ⟨F_rising_ints, F_rising_ints.binds (ps := ["thing"]) fun _ _ _ _ _ _ us hl => match us, hl with | [_], _ => rfl, PySem.W.mg_of X G a_rising_ints⟩
  have F_is_pair := fun_mk (st := s_is_pair) l_is_pair c_is_pair k_is_pair
  have D_is_pair : Df K mg "is_pair" s_is_pair ["thing"] _ _ := ⟨F_is_pair, F_is_pair.binds (ps := ["thing"]) fun _ _ _ _ _ _ us hl => match us, hl with | [_], _ => rfl, PySem.W.mg_of X G a_is_pair⟩
  have F_are_rows := fun_mk (st := s_are_rows) l_are_rows c_are_rows k_are_rows
  have D_are_rows : Df K mg "are_rows" s_are_rows ["thing"] _ _ := ⟨F_are_rows, F_are_rows.binds (ps := ["thing"]) fun _ _ _ _ _ _ us hl => match us, hl with | [_], _ => rfl, PySem.W.mg_of X G a_are_rows⟩
  have F_Book___init__ := fun_mk (st := s_Book___init__) l_Book___init__ c_Book___init__ k_Book___init__
  have D_Book___init__ : DfM K C_Book "__init__" "Book.__init__" s_Book___init__ ["self"] _ _ := ⟨F_Book___init__, F_Book___init__.binds (ps := ["self"]) fun _ _ _ _ _ _ us hl => match us, hl with | [_], _ => rfl, ⟨a_Book___init__, i_Book___init__, k_Book___init__⟩⟩
  have F_Book___len__ := fun_mk (st := s_Book___len__) l_Book___len__ c_Book___len__ k_Book___len__
  have D_Book___len__ : DfM K C_Book "__len__" "Book.__len__" s_Book___len__ ["self"] _ _ := ⟨F_Book___len__, F_Book___len__.binds (ps := ["self"]) fun _ _ _ _ _ _ us hl => match us, hl with | [_], _ => rfl, ⟨a_Book___len__, i_Book___len__, k_Book___len__⟩⟩
  have F_Book_named := fun_mk (st := s_Book_named) l_Book_named c_Book_named k_Book_named
  have D_Book_named : DfM K C_Book "named" "Book.named" s_Book_named ["self", "content"] _ _ := ⟨F_Book_named, F_Book_named.binds (ps := ["self", "content"]) fun _ _ _ _ _ _ us hl => match us, hl with | [_, _], _ => rfl, ⟨a_Book_named, i_Book_named, k_Book_named⟩⟩
  have F_Book_thing := fun_mk (st := s_Book_thing) l_Book_thing c_Book_thing k_Book_thing
  have D_Book_thing : DfM K C_Book "thing" "Book.thing" s_Book_thing ["self", "name"] _ _ := ⟨F_Book_thing, F_Book_thing.binds (ps := ["self", "name"]) fun _ _ _ _ _ _ us hl => match us, hl with | [_, _], _ => rfl, ⟨a_Book_thing, i_Book_thing, k_Book_thing⟩⟩
  have F_Book_kind := fun_mk (st := s_Book_kind) l_Book_kind c_Book_kind k_Book_kind
  have D_Book_kind : DfM K C_Book "kind" "Book.kind" s_Book_kind ["self", "name"] _ _ := ⟨F_Book_kind, F_Book_kind.binds (ps := ["self", "name"]) fun _ _ _ _ _ _ us hl => match us, hl with | [_, _], _ => rfl, ⟨a_Book_kind, i_Book_kind, k_Book_kind⟩⟩
  have F_is_name := fun_mk (st := s_is_name) l_is_name c_is_name k_is_name
  have D_is_name : Df K mg "is_name" s_is_name ["book", "thing"] _ _ := ⟨F_is_name, F_is_name.binds (ps := ["book", "thing"]) fun _ _ _ _ _ _ us hl => match us, hl with | [_, _], _ => rfl, PySem.W.mg_of X G a_is_name⟩
  have F_is_kind := fun_mk (st := s_is_kind) l_is_kind c_is_kind k_is_kind
  have D_is_kind : Df K mg "is_kind" s_is_kind ["book", "thing", "kind"] _ _ := ⟨F_is_kind, F_is_kind.binds (ps := ["book", "thing", "kind"]) fun _ _ _ _ _ _ us hl => match us, hl with | [_, _, _], _ => rfl, PySem.W.mg_of X G a_is_kind⟩
  have F_is_entry := fun_mk (st := s_is_entry) l_is_entry c_is_entry k_is_entry
  have D_is_entry : Df K mg "is_entry" s_is_entry ["book", "thing"] _ _ := ⟨F_is_entry, F_is_entry.binds (ps := ["book", "thing"]) fun _ _ _ _ _ _ us hl => match us, hl with | [_, _], _ => rfl, PySem.W.mg_of X G a_is_entry⟩
  have F_is_tree := fun_mk (st := s_is_tree) l_is_tree c_is_tree k_is_tree
  have D_is_tree : Df K mg "is_tree" s_is_tree ["book", "entries"] _ _ := ⟨F_is_tree, F_is_tree.binds (ps := ["book", "entries"]) fun _ _ _ _ _ _ us hl => match us, hl with | [_, _], _ => rfl, PySem.W.mg_of X G a_is_tree⟩
  have F_depth_of := fun_mk (st := s_depth_of) l_depth_of c_depth_of k_depth_of
  have D_depth_of : Df K mg "depth_of" s_depth_of ["book", "content"] _ _ := ⟨F_depth_of, F_depth_of.binds (ps := ["book", "content"]) fun _ _ _ _ _ _ us hl => match us, hl with | [_, _], _ => rfl, PySem.W.mg_of X G a_depth_of⟩
  have F_is_version := fun_mk (st := s_is_version) l_is_version c_is_version k_is_version
  have D_is_version : Df K mg "is_version" s_is_version ["book", "content"] _ _ := ⟨F_is_version, F_is_version.binds (ps := ["book", "content"]) fun _ _ _ _ _ _ us hl => match us, hl with | [_, _], _ => rfl, PySem.W.mg_of X G a_is_version⟩
  have F_is_content := fun_mk (st := s_is_content) l_is_content c_is_content k_is_content
  have D_is_content : Df K mg "is_content" s_is_content ["book", "thing"] _ _ := ⟨F_is_content, F_is_content.binds (ps := ["book", "thing"]) fun _ _ _ _ _ _ us hl => match us, hl with | [_, _], _ => rfl, PySem.W.mg_of X G a_is_content⟩
  have F_Store___init__ := fun_mk (st := s_Store___init__) l_Store___init__ c_Store___init__ k_Store___init__
  have D_Store___init__ : DfM K C_Store "__init__" "Store.__init__" s_Store___init__ ["self", "book"] _ _ := ⟨F_Store___init__, F_Store___init__.binds (ps := ["self", "book"]) fun _ _ _ _ _ _ us hl => match us, hl with | [_, _], _ => rfl, ⟨a_Store___init__, i_Store___init__, k_Store___init__⟩⟩
  have F_Store_put := fun_mk (st := s_Store_put) l_Store_put c_Store_put k_Store_put
  have D_Store_put : DfM K C_Store "put" "Store.put" s_Store_put ["self", "name"] _ _ := ⟨F_Store_put, F_Store_put.binds (ps := ["self", "name"]) fun _ _ _ _ _ _ us hl => match us, hl with | [_, _], _ => rfl, ⟨a_Store_put, i_Store_put, k_Store_put⟩⟩
  have F_Store_write := fun_mk (st := s_Store_write) l_Store_write c_Store_write k_Store_write
  have D_Store_write : DfM K C_Store "write" "Store.write" s_Store_write ["self", "content"] _ _ := ⟨F_Store_write, F_Store_write.binds (ps := ["self", "content"]) fun _ _ _ _ _ _ us hl => match us, hl with | [_, _], _ => rfl, ⟨a_Store_write, i_Store_write, k_Store_write⟩⟩
  have F_Store_held := fun_mk (st := s_Store_held) l_Store_held c_Store_held k_Store_held
  have D_Store_held : DfM K C_Store "held" "Store.held" s_Store_held ["self"] _ _ := ⟨F_Store_held, F_Store_held.binds (ps := ["self"]) fun _ _ _ _ _ _ us hl => match us, hl with | [_], _ => rfl, ⟨a_Store_held, i_Store_held, k_Store_held⟩⟩
  have F_House___init__ := fun_mk (st := s_House___init__) l_House___init__ c_House___init__ k_House___init__
  have D_House___init__ : DfM K C_House "__init__" "House.__init__" s_House___init__ ["self", "book"] _ _ := ⟨F_House___init__, F_House___init__.binds (ps := ["self", "book"]) fun _ _ _ _ _ _ us hl => match us, hl with | [_, _], _ => rfl, ⟨a_House___init__, i_House___init__, k_House___init__⟩⟩
  have F_Town___init__ := fun_mk (st := s_Town___init__) l_Town___init__ c_Town___init__ k_Town___init__
  have D_Town___init__ : DfM K C_Town "__init__" "Town.__init__" s_Town___init__ ["self"] _ _ := ⟨F_Town___init__, F_Town___init__.binds (ps := ["self"]) fun _ _ _ _ _ _ us hl => match us, hl with | [_], _ => rfl, ⟨a_Town___init__, i_Town___init__, k_Town___init__⟩⟩
  have F_Town_build := fun_mk (st := s_Town_build) l_Town_build c_Town_build k_Town_build
  have D_Town_build : DfM K C_Town "build" "Town.build" s_Town_build ["self", "label"] _ _ := ⟨F_Town_build, F_Town_build.binds (ps := ["self", "label"]) fun _ _ _ _ _ _ us hl => match us, hl with | [_, _], _ => rfl, ⟨a_Town_build, i_Town_build, k_Town_build⟩⟩
  have F_Town_house := fun_mk (st := s_Town_house) l_Town_house c_Town_house k_Town_house
  have D_Town_house : DfM K C_Town "house" "Town.house" s_Town_house ["self", "label"] _ _ := ⟨F_Town_house, F_Town_house.binds (ps := ["self", "label"]) fun _ _ _ _ _ _ us hl => match us, hl with | [_, _], _ => rfl, ⟨a_Town_house, i_Town_house, k_Town_house⟩⟩
  have F_Town_labels := fun_mk (st := s_Town_labels) l_Town_labels c_Town_labels k_Town_labels
  have D_Town_labels : DfM K C_Town "labels" "Town.labels" s_Town_labels ["self"] _ _ := ⟨F_Town_labels, F_Town_labels.binds (ps := ["self"]) fun _ _ _ _ _ _ us hl => match us, hl with | [_], _ => rfl, ⟨a_Town_labels, i_Town_labels, k_Town_labels⟩⟩
  have F_Town_sweep := fun_mk (st := s_Town_sweep) l_Town_sweep c_Town_sweep k_Town_sweep
  have D_Town_sweep : DfM K C_Town "sweep" "Town.sweep" s_Town_sweep ["self", "label"] _ _ := ⟨F_Town_sweep, F_Town_sweep.binds (ps := ["self", "label"]) fun _ _ _ _ _ _ us hl => match us, hl with | [_, _], _ => rfl, ⟨a_Town_sweep, i_Town_sweep, k_Town_sweep⟩⟩
  have F_law_deck := fun_mk (st := s_law_deck) l_law_deck c_law_deck k_law_deck
  have D_law_deck : Df K mg "_law_deck" s_law_deck ["_law_script"] _ _ := ⟨F_law_deck, F_law_deck.binds (ps := ["_law_script"]) fun _ _ _ _ _ _ us hl => match us, hl with | [_], _ => rfl, PySem.W.mg_of X G a_law_deck⟩
  have F_law_mixed := fun_mk (st := s_law_mixed) l_law_mixed c_law_mixed k_law_mixed
  have D_law_mixed : Df K mg "_law_mixed" s_law_mixed ["_law_cell", "_law_turn"] _ _ := ⟨F_law_mixed, F_law_mixed.binds (ps := ["_law_cell", "_law_turn"]) fun _ _ _ _ _ _ us hl => match us, hl with | [_, _], _ => rfl, PySem.W.mg_of X G a_law_mixed⟩
  have F_law_draw := fun_mk (st := s_law_draw) l_law_draw c_law_draw k_law_draw
  have D_law_draw : Df K mg "_law_draw" s_law_draw ["_law_deck_here", "_law_many"] _ _ := ⟨F_law_draw, F_law_draw.binds (ps := ["_law_deck_here", "_law_many"]) fun _ _ _ _ _ _ us hl => match us, hl with | [_, _], _ => rfl, PySem.W.mg_of X G a_law_draw⟩
  have F_law_label := fun_mk (st := s_law_label) l_law_label c_law_label k_law_label
  have D_law_label : Df K mg "_law_label" s_law_label ["_law_deck_here"] _ _ := ⟨F_law_label, F_law_label.binds (ps := ["_law_deck_here"]) fun _ _ _ _ _ _ us hl => match us, hl with | [_], _ => rfl, PySem.W.mg_of X G a_law_label⟩
  have F_law_alike := fun_mk (st := s_law_alike) l_law_alike c_law_alike k_law_alike
  have D_law_alike : Df K mg "_law_alike" s_law_alike ["_law_found", "_law_due"] _ _ := ⟨F_law_alike, F_law_alike.binds (ps := ["_law_found", "_law_due"]) fun _ _ _ _ _ _ us hl => match us, hl with | [_, _], _ => rfl, PySem.W.mg_of X G a_law_alike⟩
  have F_law_town_why := fun_mk (st := s_law_town_why) l_law_town_why c_law_town_why k_law_town_why
  have D_law_town_why : Df K mg "_law_town_why" s_law_town_why ["_law_deed"] _ _ := ⟨F_law_town_why, F_law_town_why.binds (ps := ["_law_deed"]) fun _ _ _ _ _ _ us hl => match us, hl with | [_], _ => rfl, PySem.W.mg_of X G a_law_town_why⟩
  have F_law_built := fun_mk (st := s_law_built) l_law_built c_law_built k_law_built
  have D_law_built : Df K mg "_law_built" s_law_built ["_law_deck_here", "_law_town", "_law_homes"] _ _ := ⟨F_law_built, F_law_built.binds (ps := ["_law_deck_here", "_law_town", "_law_homes"]) fun _ _ _ _ _ _ us hl => match us, hl with | [_, _, _], _ => rfl, PySem.W.mg_of X G a_law_built⟩
  have F_law_stands := fun_mk (st := s_law_stands) l_law_stands c_law_stands k_law_stands
  have D_law_stands : Df K mg "_law_stands" s_law_stands ["_law_town", "_law_homes", "_law_held"] _ _ := ⟨F_law_stands, F_law_stands.binds (ps := ["_law_town", "_law_homes", "_law_held"]) fun _ _ _ _ _ _ us hl => match us, hl with | [_, _, _], _ => rfl, PySem.W.mg_of X G a_law_stands⟩
  have F_law := fun_mk (st := s_law) l_law c_law k_law
  have D_law : Df K mg "law" s_law ["_law_script"] _ _ := ⟨F_law, F_law.binds (ps := ["_law_script"]) fun _ _ _ _ _ _ us hl => match us, hl with | [_], _ => rfl, PySem.W.mg_of X G a_law⟩
  have X_NoHouse : ExnI K mg "NoHouse" C_NoHouse f_NoHouse___init__ _ ["self", "label"] ["label"] := ⟨PySem.W.mg_of X G ga_NoHouse, ⟨⟨_, _, _, _, _, _, _, _, _, _, _, _, _, _, _, xl_NoHouse, (show PySem.HandSPX.refsVE [.type "ValueError", .type "Exception", .type "BaseException", .type "object"] = true by decide +kernel)⟩, sa_NoHouse, hb_NoHouse, ht_NoHouse, xk_NoHouse⟩, xi_NoHouse, xj_NoHouse, F_NoHouse___init__.binds (ps := ["self", "label"]) fun _ _ _ _ _ _ us hl => match us, hl with | [_, _], _ => rfl, ⟨xg_NoHouse, xh_NoHouse, hb_NoHouse, xd_NoHouse⟩, ⟨xg_NoHouse, xh_NoHouse, hb_NoHouse, xd_NoHouse, xo_NoHouse, xp_NoHouse, xq_NoHouse, xr_NoHouse⟩, fun y hy => by
    rcases (by simpa using hy : y = "label") with rfl
    · exact nf_NoHouse_label⟩
  have X_Taken : ExnI K mg "Taken" C_Taken f_Taken___init__ _ ["self", "label"] ["label"] := ⟨PySem.W.mg_of X G ga_Taken, ⟨⟨_, _, _, _, _, _, _, _, _, _, _, _, _, _, _, xl_Taken, (show PySem.HandSPX.refsVE [.type "ValueError", .type "Exception", .type "BaseException", .type "object"] = true by decide +kernel)⟩, sa_Taken, hb_Taken, ht_Taken, xk_Taken⟩, xi_Taken, xj_Taken, F_Taken___init__.binds (ps := ["self", "label"]) fun _ _ _ _ _ _ us hl => match us, hl with | [_, _], _ => rfl, ⟨xg_Taken, xh_Taken, hb_Taken, xd_Taken⟩, ⟨xg_Taken, xh_Taken, hb_Taken, xd_Taken, xo_Taken, xp_Taken, xq_Taken, xr_Taken⟩, fun y hy => by
    rcases (by simpa using hy : y = "label") with rfl
    · exact nf_Taken_label⟩
  have K_Book : Kl K mg "Book" C_Book ["contents", "depths", "given"] := ⟨PySem.W.mg_of X G kga_Book, ⟨kpg_Book, khd_Book, kpo_Book, ksa_Book⟩, fun y hy => by
    rcases (by simpa using hy : y = "contents" ∨ y = "depths" ∨ y = "given") with rfl | rfl | rfl
    · exact kna_Book_contents
    · exact kna_Book_depths
    · exact kna_Book_given⟩
  have M_Book : Mk K C_Book f_Book___init__ := ⟨kmk_Book, a_Book___init__, i_Book___init__, kkc_Book⟩
  have K_Store : Kl K mg "Store" C_Store ["book", "here", "turns"] := ⟨PySem.W.mg_of X G kga_Store, ⟨kpg_Store, khd_Store, kpo_Store, ksa_Store⟩, fun y hy => by
    rcases (by simpa using hy : y = "book" ∨ y = "here" ∨ y = "turns") with rfl | rfl | rfl
    · exact kna_Store_book
    · exact kna_Store_here
    · exact kna_Store_turns⟩
  have M_Store : Mk K C_Store f_Store___init__ := ⟨kmk_Store, a_Store___init__, i_Store___init__, kkc_Store⟩
  have K_House : Kl K mg "House" C_House ["book", "here", "turns", "stands", "lately", "others", "pinned"] := ⟨PySem.W.mg_of X G kga_House, ⟨kpg_House, khd_House, kpo_House, ksa_House⟩, fun y hy => by
    rcases (by simpa using hy : y = "book" ∨ y = "here" ∨ y = "turns" ∨ y = "stands" ∨ y = "lately" ∨ y = "others" ∨ y = "pinned") with rfl | rfl | rfl | rfl | rfl | rfl | rfl
    · exact kna_House_book
    · exact kna_House_here
    · exact kna_House_turns
    · exact kna_House_stands
    · exact kna_House_lately
    · exact kna_House_others
    · exact kna_House_pinned⟩
  have M_House : Mk K C_House f_House___init__ := ⟨kmk_House, a_House___init__, i_House___init__, kkc_House⟩
  have K_Town : Kl K mg "Town" C_Town ["book", "homes", "talks"] := ⟨PySem.W.mg_of X G kga_Town, ⟨kpg_Town, khd_Town, kpo_Town, ksa_Town⟩, fun y hy => by
    rcases (by simpa using hy : y = "book" ∨ y = "homes" ∨ y = "talks") with rfl | rfl | rfl
    · exact kna_Town_book
    · exact kna_Town_homes
    · exact kna_Town_talks⟩
  have M_Town : Mk K C_Town f_Town___init__ := ⟨kmk_Town, a_Town___init__, i_Town___init__, kkc_Town⟩
  have T : Txt K mg := ⟨PySem.W.mg_none_of X G z_len, PySem.W.mg_none_of X G z_list, PySem.W.mg_none_of X G z_isinstance, PySem.W.mg_none_of X G z_int, PySem.W.mg_none_of X G z_bool, PySem.W.mg_none_of X G z_str, PySem.W.mg_none_of X G z_tuple, PySem.W.mg_none_of X G z_dict, PySem.W.mg_none_of X G z_range, PySem.W.mg_none_of X G z_all, PySem.W.mg_none_of X G z_min, PySem.W.mg_none_of X G z_max, PySem.W.mg_none_of X G z_set, PySem.W.mg_none_of X G z_sorted, PySem.W.mg_none_of X G z_ValueError, ⟨_, PySem.W.mg_of X G y_SIGNS⟩, ⟨_, PySem.W.mg_of X G y_LETTERS⟩, ⟨_, PySem.W.mg_of X G y_MOST⟩, ⟨_, PySem.W.mg_of X G y_DEEP⟩⟩
  exact ⟨PySem.W.fnOf "law" "law" (defArgs s_law) (defBody s_law) (defScope s_law) .none kV_law dc_law pm_law an_law (.ref cL) ct_law, [(cL, PL), (cL_law_built, PL_law_built)], spLaw K PL PL_law_built, (fun p hp => by
      rcases (by simpa using hp : p = (cL, PL) ∨ p = (cL_law_built, PL_law_built)) with rfl | rfl
      · exact own cL PL _ _ _ _ _ _ l_law rfl rfl lk_L v11_L
      · exact tb_law_built), (fun p hp => by
      rcases (by simpa using hp : p = (cL, PL) ∨ p = (cL_law_built, PL_law_built)) with rfl | rfl
      · exact np_L
      · exact np_law_built), (fun p hp => by
      rcases (by simpa using hp : p = (cL, PL) ∨ p = (cL_law_built, PL_law_built)) with rfl | rfl
      · exact PySem.W.codeHd_of_K X hd_L
      · exact PySem.W.codeHd_of_K X hd_law_built), fun s v => .of_eq rfl, (fun H a ns hl hb hT hS => ⟨a, ns, rfl, hS, hl, hT (cL, PL) (by simp), hT (cL_law_built, PL_law_built) (by simp), fun _ => rfl⟩), fun base _ _ TB => ok_law T F_NoHouse___init__ F_Taken___init__ D_is_int D_is_text D_is_label D_rise D_are_ints D_rising_ints D_is_pair D_are_rows D_Book___init__ D_Book___len__ D_Book_named D_Book_thing D_Book_kind D_is_name D_is_kind D_is_entry D_is_tree D_depth_of D_is_version D_is_content D_Store___init__ D_Store_put D_Store_write D_Store_held D_House___init__ D_Town___init__ D_Town_build D_Town_house D_Town_labels D_Town_sweep D_law_deck D_law_mixed D_law_draw D_law_label D_law_alike D_law_town_why D_law_built D_law_stands D_law K_Book M_Book K_Store M_Store K_House M_House K_Town M_Town X_NoHouse X_Taken (PySem.W.mg_of X G ga_HouseError) (PySem.W.mg_of X G ga_NoTalk) (PySem.W.mg_of X G ga_TooMany) (PySem.W.mg_of X G ga_NoMark) (PySem.W.mg_of X G ga_Broken) (PySem.W.mg_of X G ga_Lack) (PySem.W.mg_of X G ga_NoName) (exm_is hb_HouseError hi_HouseError ht_HouseError es_NoHouse_HouseError) (exm_is hb_HouseError hi_HouseError ht_HouseError es_Taken_HouseError) kq_NoHouse_NoHouse kq_NoHouse_Taken kq_NoHouse_NoTalk kq_NoHouse_TooMany kq_NoHouse_NoMark kq_NoHouse_Broken kq_NoHouse_Lack kq_NoHouse_NoName kq_NoHouse_ValueError kq_Taken_NoHouse kq_Taken_Taken kq_Taken_NoTalk kq_Taken_TooMany kq_Taken_NoMark kq_Taken_Broken kq_Taken_Lack kq_Taken_NoName kq_Taken_ValueError ⟨ia_House_put, i_Store_put, k_Store_put⟩ ⟨ia_House_held, i_Store_held, k_Store_held⟩ ⟨ia_House_write, i_Store_write, k_Store_write⟩ ⟨cr1_Store, cr2_Store⟩ ⟨cv_Store___init__, rfl⟩ ⟨qm_Book, qe_Book, qn_Book⟩ ⟨qm_House, qe_House, qn_House⟩ ⟨o_mr_Book, o_ha_Book, o_hn_Book, o_ht_Book, o_ko_Book⟩ ⟨o_mr_House, o_ha_House, o_hn_House, o_ht_House, o_ko_House⟩ (TB (cL, PL) (by simp)) rfl (TB (cL_law_built, PL_law_built) (by simp)) rfl npp_law_built⟩
end FW
open PySem PySem.W PyProof.Rows
set_option maxRecDepth 100000 in
set_option maxHeartbeats 0 in
theorem PySem.Challenge.cw_fewasks_k80_houses_of_a_town_holds : PySem.Challenge.rw_fewasks_k80_houses_of_a_town.Holds := by
  w_on; o_law; k_head; (case hw => w_witness2)
  k_fill
  refine LamX.walk_ofOwn (l := PySem.Challenge.rw_fewasks_k80_houses_of_a_town) (n := 63) (k := 11) (x := "_law_script") (CX := fun _ => L2.CX0) rfl (by decide) rfl ⟨rfl, by decide, by decide⟩ (by decide +kernel) (fun w h Y => PySem.W.km_in_of Y) ?F (fun _ _ _ _ _ h => h)
  case F =>
    intro w mg fa h Y KX G hmg own
    refine' FW.all_mk KX G hmg own ?l_NoHouse___init__ ?c_NoHouse___init__ ?k_NoHouse___init__ ?l_Taken___init__ ?c_Taken___init__ ?k_Taken___init__ ?a_is_int ?l_is_int ?c_is_int ?k_is_int ?dl_is_int ?a_is_text ?l_is_text ?c_is_text ?k_is_text ?dl_is_text ?a_is_label ?l_is_label ?c_is_label ?k_is_label ?a_rise ?l_rise ?c_rise ?k_rise ?a_are_ints ?l_are_ints ?c_are_ints ?k_are_ints ?a_rising_ints ?l_rising_ints ?c_rising_ints ?k_rising_ints ?a_is_pair ?l_is_pair ?c_is_pair ?k_is_pair ?a_are_rows ?l_are_rows ?c_are_rows ?k_are_rows ?a_Book___init__ ?i_Book___init__ ?l_Book___init__ ?c_Book___init__ ?k_Book___init__ ?a_Book___len__ ?i_Book___len__ ?l_Book___len__ ?c_Book___len__ ?k_Book___len__ ?a_Book_named ?i_Book_named ?l_Book_named ?c_Book_named ?k_Book_named ?a_Book_thing ?i_Book_thing ?l_Book_thing ?c_Book_thing ?k_Book_thing ?a_Book_kind ?i_Book_kind ?l_Book_kind ?c_Book_kind ?k_Book_kind ?a_is_name ?l_is_name ?c_is_name ?k_is_name ?a_is_kind ?l_is_kind ?c_is_kind ?k_is_kind ?a_is_entry ?l_is_entry ?c_is_entry ?k_is_entry ?a_is_tree ?l_is_tree ?c_is_tree ?k_is_tree ?a_depth_of ?l_depth_of ?c_depth_of ?k_depth_of ?a_is_version ?l_is_version ?c_is_version ?k_is_version ?a_is_content ?l_is_content ?c_is_content ?k_is_content ?a_Store___init__ ?i_Store___init__ ?l_Store___init__ ?c_Store___init__ ?k_Store___init__ ?a_Store_put ?i_Store_put ?l_Store_put ?c_Store_put ?k_Store_put ?a_Store_write ?i_Store_write ?l_Store_write ?c_Store_write ?k_Store_write ?a_Store_held ?i_Store_held ?l_Store_held ?c_Store_held ?k_Store_held ?a_House___init__ ?i_House___init__ ?l_House___init__ ?c_House___init__ ?k_House___init__ ?a_Town___init__ ?i_Town___init__ ?l_Town___init__ ?c_Town___init__ ?k_Town___init__ ?a_Town_build ?i_Town_build ?l_Town_build ?c_Town_build ?k_Town_build ?a_Town_house ?i_Town_house ?l_Town_house ?c_Town_house ?k_Town_house ?a_Town_labels ?i_Town_labels ?l_Town_labels ?c_Town_labels ?k_Town_labels ?a_Town_sweep ?i_Town_sweep ?l_Town_sweep ?c_Town_sweep ?k_Town_sweep ?a_law_deck ?l_law_deck ?c_law_deck ?k_law_deck ?a_law_mixed ?l_law_mixed ?c_law_mixed ?k_law_mixed ?a_law_draw ?l_law_draw ?c_law_draw ?k_law_draw ?a_law_label ?l_law_label ?c_law_label ?k_law_label ?a_law_alike ?l_law_alike ?c_law_alike ?k_law_alike ?a_law_town_why ?l_law_town_why ?c_law_town_why ?k_law_town_why ?a_law_built ?l_law_built ?c_law_built ?k_law_built ?a_law_stands ?l_law_stands ?c_law_stands ?k_law_stands ?a_law ?l_law ?c_law ?k_law ?kga_Book ?kpg_Book ?khd_Book ?kpo_Book ?ksa_Book ?kmk_Book ?kkc_Book ?kna_Book_contents ?kna_Book_depths ?kna_Book_given ?kga_Store ?kpg_Store ?khd_Store ?kpo_Store ?ksa_Store ?kmk_Store ?kkc_Store ?kna_Store_book ?kna_Store_here ?kna_Store_turns ?kga_House ?kpg_House ?khd_House ?kpo_House ?ksa_House ?kmk_House ?kkc_House ?kna_House_book ?kna_House_here ?kna_House_turns ?kna_House_stands ?kna_House_lately ?kna_House_others ?kna_House_pinned ?kga_Town ?kpg_Town ?khd_Town ?kpo_Town ?ksa_Town ?kmk_Town ?kkc_Town ?kna_Town_book ?kna_Town_homes ?kna_Town_talks ?z_len ?z_list ?z_isinstance ?z_int ?z_bool ?z_str ?z_tuple ?z_dict ?z_range ?z_all ?z_min ?z_max ?z_set ?z_sorted ?z_ValueError ?y_SIGNS ?y_LETTERS ?y_MOST ?y_DEEP ?ga_HouseError ?hb_HouseError ?hi_HouseError ?ht_HouseError ?ga_NoTalk ?hb_NoTalk ?hi_NoTalk ?ht_NoTalk ?ga_TooMany ?hb_TooMany ?hi_TooMany ?ht_TooMany ?ga_NoMark ?hb_NoMark ?hi_NoMark ?ht_NoMark ?ga_Broken ?hb_Broken ?hi_Broken ?ht_Broken ?ga_Lack ?hb_Lack ?hi_Lack ?ht_Lack ?ga_NoName ?hb_NoName ?hi_NoName ?ht_NoName ?ga_NoHouse ?xl_NoHouse ?hb_NoHouse ?hi_NoHouse ?ht_NoHouse ?xk_NoHouse ?sa_NoHouse ?xg_NoHouse ?xh_NoHouse ?xd_NoHouse ?xo_NoHouse ?xp_NoHouse ?xq_NoHouse ?xr_NoHouse ?xi_NoHouse ?xj_NoHouse ?nf_NoHouse_label ?ga_Taken ?xl_Taken ?hb_Taken ?hi_Taken ?ht_Taken ?xk_Taken ?sa_Taken ?xg_Taken ?xh_Taken ?xd_Taken ?xo_Taken ?xp_Taken ?xq_Taken ?xr_Taken ?xi_Taken ?xj_Taken ?nf_Taken_label ?es_NoHouse_HouseError ?es_Taken_HouseError ?kq_NoHouse_NoHouse ?kq_NoHouse_Taken ?kq_NoHouse_NoTalk ?kq_NoHouse_TooMany ?kq_NoHouse_NoMark ?kq_NoHouse_Broken ?kq_NoHouse_Lack ?kq_NoHouse_NoName ?kq_NoHouse_ValueError ?kq_Taken_NoHouse ?kq_Taken_Taken ?kq_Taken_NoTalk ?kq_Taken_TooMany ?kq_Taken_NoMark ?kq_Taken_Broken ?kq_Taken_Lack ?kq_Taken_NoName ?kq_Taken_ValueError ?ia_House_put ?ia_House_held ?ia_House_write ?cr1_Store ?cr2_Store ?cv_Store___init__ ?qm_Book ?qe_Book ?qn_Book ?qm_House ?qe_House ?qn_House ?o_mr_Book ?o_ha_Book ?o_hn_Book ?o_ht_Book ?o_ko_Book ?o_mr_House ?o_ha_House ?o_hn_House ?o_ht_House ?o_ko_House ?lk_L ?v11_L ?hd_L ?np_L ?lk_law_built ?v11_law_built ?hd_law_built ?np_law_built ?tb_law_built ?npp_law_built
    (case ga_NoHouse => k_is); (case xi_NoHouse => k_is); (case ga_Taken => k_is); (case xi_Taken => k_is); (case kga_Book => k_is); (case kga_Store => k_is); (case kga_House => k_is); (case kga_Town => k_is); (case a_Book___init__ => k_is); (case a_Book___len__ => k_is); (case a_Book_named => k_is); (case a_Book_thing => k_is); (case a_Book_kind => k_is); (case a_Store___init__ => k_is); (case a_Store_put => k_is); (case a_Store_write => k_is); (case a_Store_held => k_is); (case a_House___init__ => k_is); (case a_Town___init__ => k_is); (case a_Town_build => k_is); (case a_Town_house => k_is); (case a_Town_labels => k_is); (case a_Town_sweep => k_is); (case l_NoHouse___init__ => k_is); (case c_NoHouse___init__ => k_is); (case k_NoHouse___init__ => k_is); (case l_Taken___init__ => k_is); (case c_Taken___init__ => k_is); (case k_Taken___init__ => k_is); (case a_is_int => k_is); (case l_is_int => k_is); (case c_is_int => k_is); (case k_is_int => k_is); (case dl_is_int => k_is); (case a_is_text => k_is); (case l_is_text => k_is); (case c_is_text => k_is); (case k_is_text => k_is); (case dl_is_text => k_is); (case a_is_label => k_is); (case l_is_label => k_is); (case c_is_label => k_is); (case k_is_label => k_is); (case a_rise => k_is); (case l_rise => k_is); (case c_rise => k_is); (case k_rise => k_is); (case a_are_ints => k_is); (case l_are_ints => k_is); (case c_are_ints => k_is); (case k_are_ints => k_is); (case a_rising_ints => k_is); (case l_rising_ints => k_is); (case c_rising_ints => k_is); (case k_rising_ints => k_is); (case a_is_pair => k_is); (case l_is_pair => k_is); (case c_is_pair => k_is); (case k_is_pair => k_is); (case a_are_rows => k_is); (case l_are_rows => k_is); (case c_are_rows => k_is); (case k_are_rows => k_is); (case i_Book___init__ => k_is); (case l_Book___init__ => k_is); (case c_Book___init__ => k_is); (case k_Book___init__ => k_is); (case i_Book___len__ => k_is); (case l_Book___len__ => k_is); (case c_Book___len__ => k_is); (case k_Book___len__ => k_is); (case i_Book_named => k_is); (case l_Book_named => k_is); (case c_Book_named => k_is); (case k_Book_named => k_is); (case i_Book_thing => k_is); (case l_Book_thing => k_is); (case c_Book_thing => k_is); (case k_Book_thing => k_is); (case i_Book_kind => k_is); (case l_Book_kind => k_is); (case c_Book_kind => k_is); (case k_Book_kind => k_is); (case a_is_name => k_is); (case l_is_name => k_is); (case c_is_name => k_is); (case k_is_name => k_is); (case a_is_kind => k_is); (case l_is_kind => k_is); (case c_is_kind => k_is); (case k_is_kind => k_is); (case a_is_entry => k_is); (case l_is_entry => k_is); (case c_is_entry => k_is); (case k_is_entry => k_is); (case a_is_tree => k_is); (case l_is_tree => k_is); (case c_is_tree => k_is); (case k_is_tree => k_is); (case a_depth_of => k_is); (case l_depth_of => k_is); (case c_depth_of => k_is); (case k_depth_of => k_is); (case a_is_version => k_is); (case l_is_version => k_is); (case c_is_version => k_is); (case k_is_version => k_is); (case a_is_content => k_is); (case l_is_content => k_is); (case c_is_content => k_is); (case k_is_content => k_is); (case i_Store___init__ => k_is); (case l_Store___init__ => k_is); (case c_Store___init__ => k_is); (case k_Store___init__ => k_is); (case i_Store_put => k_is); (case l_Store_put => k_is); (case c_Store_put => k_is); (case k_Store_put => k_is); (case i_Store_write => k_is); (case l_Store_write => k_is); (case c_Store_write => k_is); (case k_Store_write => k_is); (case i_Store_held => k_is); (case l_Store_held => k_is); (case c_Store_held => k_is); (case k_Store_held => k_is); (case i_House___init__ => k_is); (case l_House___init__ => k_is); (case c_House___init__ => k_is); (case k_House___init__ => k_is); (case i_Town___init__ => k_is); (case l_Town___init__ => k_is); (case c_Town___init__ => k_is); (case k_Town___init__ => k_is); (case i_Town_build => k_is); (case l_Town_build => k_is); (case c_Town_build => k_is); (case k_Town_build => k_is); (case i_Town_house => k_is); (case l_Town_house => k_is); (case c_Town_house => k_is); (case k_Town_house => k_is); (case i_Town_labels => k_is); (case l_Town_labels => k_is); (case c_Town_labels => k_is); (case k_Town_labels => k_is); (case i_Town_sweep => k_is); (case l_Town_sweep => k_is); (case c_Town_sweep => k_is); (case k_Town_sweep => k_is); (case a_law_deck => k_is); (case l_law_deck => k_is); (case c_law_deck => k_is); (case k_law_deck => k_is); (case a_law_mixed => k_is); (case l_law_mixed => k_is); (case c_law_mixed => k_is); (case k_law_mixed => k_is); (case a_law_draw => k_is); (case l_law_draw => k_is); (case c_law_draw => k_is); (case k_law_draw => k_is); (case a_law_label => k_is); (case l_law_label => k_is); (case c_law_label => k_is); (case k_law_label => k_is); (case a_law_alike => k_is); (case l_law_alike => k_is); (case c_law_alike => k_is); (case k_law_alike => k_is); (case a_law_town_why => k_is); (case l_law_town_why => k_is); (case c_law_town_why => k_is); (case k_law_town_why => k_is); (case a_law_built => k_is); (case l_law_built => k_is); (case c_law_built => k_is); (case k_law_built => k_is); (case a_law_stands => k_is); (case l_law_stands => k_is); (case c_law_stands => k_is); (case k_law_stands => k_is); (case a_law => k_is); (case l_law => k_is); (case c_law => k_is); (case k_law => k_is); (case kpg_Book => k_is); (case khd_Book => k_is); (case kpo_Book => k_is); (case ksa_Book => k_is); (case kmk_Book => k_is); (case kkc_Book => k_is); (case kna_Book_contents => k_is); (case kna_Book_depths => k_is); (case kna_Book_given => k_is); (case kpg_Store => k_is); (case khd_Store => k_is); (case kpo_Store => k_is); (case ksa_Store => k_is); (case kmk_Store => k_is); (case kkc_Store => k_is); (case kna_Store_book => k_is); (case kna_Store_here => k_is); (case kna_Store_turns => k_is); (case kpg_House => k_is); (case khd_House => k_is); (case kpo_House => k_is); (case ksa_House => k_is); (case kmk_House => k_is); (case kkc_House => k_is); (case kna_House_book => k_is); (case kna_House_here => k_is); (case kna_House_turns => k_is); (case kna_House_stands => k_is); (case kna_House_lately => k_is); (case kna_House_others => k_is); (case kna_House_pinned => k_is); (case kpg_Town => k_is); (case khd_Town => k_is); (case kpo_Town => k_is); (case ksa_Town => k_is); (case kmk_Town => k_is); (case kkc_Town => k_is); (case kna_Town_book => k_is); (case kna_Town_homes => k_is); (case kna_Town_talks => k_is); (case z_len => k_is); (case z_list => k_is); (case z_isinstance => k_is); (case z_int => k_is); (case z_bool => k_is); (case z_str => k_is); (case z_tuple => k_is); (case z_dict => k_is); (case z_range => k_is); (case z_all => k_is); (case z_min => k_is); (case z_max => k_is); (case z_set => k_is); (case z_sorted => k_is); (case z_ValueError => k_is); (case y_SIGNS => k_is); (case y_LETTERS => k_is); (case y_MOST => k_is); (case y_DEEP => k_is); (case ga_HouseError => k_is); (case hb_HouseError => k_is); (case hi_HouseError => k_is); (case ht_HouseError => k_is); (case ga_NoTalk => k_is); (case hb_NoTalk => k_is); (case hi_NoTalk => k_is); (case ht_NoTalk => k_is); (case ga_TooMany => k_is); (case hb_TooMany => k_is); (case hi_TooMany => k_is); (case ht_TooMany => k_is); (case ga_NoMark => k_is); (case hb_NoMark => k_is); (case hi_NoMark => k_is); (case ht_NoMark => k_is); (case ga_Broken => k_is); (case hb_Broken => k_is); (case hi_Broken => k_is); (case ht_Broken => k_is); (case ga_Lack => k_is); (case hb_Lack => k_is); (case hi_Lack => k_is); (case ht_Lack => k_is); (case ga_NoName => k_is); (case hb_NoName => k_is); (case hi_NoName => k_is); (case ht_NoName => k_is); (case xl_NoHouse => k_is); (case hb_NoHouse => k_is); (case hi_NoHouse => k_is); (case ht_NoHouse => k_is); (case xk_NoHouse => k_is); (case sa_NoHouse => k_is); (case xg_NoHouse => k_is); (case xh_NoHouse => k_is); (case xd_NoHouse => k_is); (case xo_NoHouse => k_is); (case xp_NoHouse => k_is); (case xq_NoHouse => k_is); (case xr_NoHouse => k_is); (case xj_NoHouse => k_is); (case nf_NoHouse_label => k_is); (case xl_Taken => k_is); (case hb_Taken => k_is); (case hi_Taken => k_is); (case ht_Taken => k_is); (case xk_Taken => k_is); (case sa_Taken => k_is); (case xg_Taken => k_is); (case xh_Taken => k_is); (case xd_Taken => k_is); (case xo_Taken => k_is); (case xp_Taken => k_is); (case xq_Taken => k_is); (case xr_Taken => k_is); (case xj_Taken => k_is); (case nf_Taken_label => k_is); (case es_NoHouse_HouseError => k_is); (case es_Taken_HouseError => k_is); (case kq_NoHouse_NoHouse => kit_is); (case kq_NoHouse_Taken => kit_is); (case kq_NoHouse_NoTalk => kit_is); (case kq_NoHouse_TooMany => kit_is); (case kq_NoHouse_NoMark => kit_is); (case kq_NoHouse_Broken => kit_is); (case kq_NoHouse_Lack => kit_is); (case kq_NoHouse_NoName => kit_is); (case kq_NoHouse_ValueError => kit_is); (case kq_Taken_NoHouse => kit_is); (case kq_Taken_Taken => kit_is); (case kq_Taken_NoTalk => kit_is); (case kq_Taken_TooMany => kit_is); (case kq_Taken_NoMark => kit_is); (case kq_Taken_Broken => kit_is); (case kq_Taken_Lack => kit_is); (case kq_Taken_NoName => kit_is); (case kq_Taken_ValueError => kit_is); (case ia_House_put => k_is); (case ia_House_held => k_is); (case ia_House_write => k_is); (case cr1_Store => k_is); (case cr2_Store => k_is); (case cv_Store___init__ => k_is); (case qm_Book => k_is); (case qe_Book => k_is); (case qn_Book => k_is); (case qm_House => k_is); (case qe_House => k_is); (case qn_House => k_is); (case o_mr_Book => k_is); (case o_ha_Book => k_is); (case o_hn_Book => k_is); (case o_ht_Book => k_is); (case o_ko_Book => kit_is); (case o_mr_House => k_is); (case o_ha_House => k_is); (case o_hn_House => k_is); (case o_ht_House => k_is); (case o_ko_House => kit_is); (case lk_L => k_is); (case v11_L => rfl); (case hd_L => kernel_rfl); (case np_L => kernel_rfl); (case lk_law_built => k_is); (case v11_law_built => rfl); (case hd_law_built => kernel_rfl); (case np_law_built => kernel_rfl); (case tb_law_built => exact PySem.W.km_tabs_of Y _ (by simp)); (case npp_law_built => decide)

