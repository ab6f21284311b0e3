import PyProof.Rows.All
import Wide.All
import OpenK.AllK
import Wide.FinOn
import HandS.ForMost
import HandS.Wide
import HandS.WideBits
import HandS.Conv
import HandS.IsInst
import HandS.Walk
import HandS.TupLe
import HandS.TupAny
import HandS.DictComp
import HandS.SetKeys
import HandS.ForExc
import HandS.ExcIs
import HandS.ExcInit
import HandS.ExcField
import HandS.Defaults
import HandS.CallSlots
import HandS.MakeKwOnly
import KE.DatumOrd
import PyProof.Claim2Refuses
import KE.GoesEnum
import HandS.WordsDict
import HandS.SortInts
import HandS.Zip
import PyProof.CollectIter
import PyProof.WalksMore
import HandS.TryMany
import KE.KTryMore
import HandS.TryOnly
import HandS.TupMul
import KE.KxIndex
import KE.KeyNested
import HandS.SetFor
import HandS.Strs
import HandS.SortKw
import HandS.Deep
import HandS.DictTup
import HandS.ListItems
import KE.SortData
import HandS.ClsMeth
import HandS.More
import KE.KCallOwn
import PySem.Challenge.RW_fewasks_k44_prices
set_option Elab.async false
set_option linter.all false
set_option maxRecDepth 100000
/-! My own small words over the layer: steps of readings as lemmas, heaps that keep. -/
namespace FW
open PySem L2
/-! ### heaps -/
/-- all that stood stands, but at the addresses M -/
def Kp (M : List Addr) (H H' : Hp) : Prop := ∀ b o, b ∉ M → H b = some o → H' b = some o
theorem Kp.refl {M : List Addr} {H : Hp} : Kp M H H := fun _ _ _ h => h
theorem Kp.trans {M : List Addr} {H H1 H2 : Hp} (a : Kp M H H1) (b : Kp M H1 H2) : Kp M H H2 := fun c o n h => b c o n (a c o n h)
theorem Kp.mono {M N : List Addr} {H H1 : Hp} (a : Kp M H H1) (s : ∀ x ∈ M, x ∈ N) : Kp N H H1 := fun c o n h => a c o (fun z => n (s c z)) h
theorem Kp.same {H H1 : Hp} (a : Kp [] H H1) : Same H H1 := fun c o h => a c o (by simp) h
theorem Kp.of {M : List Addr} {H H1 : Hp} (a : Same H H1) : Kp M H H1 := fun c o _ h => a c o h
theorem Kp.new {M : List Addr} {H : Hp} {p : Addr} {o : HO} (h : H p = none) : Kp M H (upd H p o) := fun b u _ e => by rw [upd_ne (ne_of_none e h)]; exact e
theorem Kp.mut {M : List Addr} {H : Hp} {p : Addr} {o : HO} (h : p ∈ M) : Kp M H (upd H p o) := fun b u n e => by
  rw [upd_ne (show b ≠ p from fun z => n (by rw [z]; exact h))]; exact e
/-- a new object that was mutated or laid since: it stood not at the start -/
theorem Kp.mutN {M : List Addr} {H H1 : Hp} {p : Addr} {o : HO} (k : Kp M H H1) (h : H p = none) : Kp M H (upd H1 p o) := fun b u n e => by
  rw [upd_ne (ne_of_none e h)]; exact k b u n e
theorem Same.new {H : Hp} {p : Addr} {o : HO} (h : H p = none) : Same H (upd H p o) := fun b u e => by rw [upd_ne (ne_of_none e h)]; exact e
theorem nofree {M : List Addr} {H H1 : Hp} {p : Addr} (k : Kp M H H1) (hM : p ∉ M) (h : H1 p = none) : H p = none := by
  cases e : H p with
  | none => rfl
  | some o => rw [k p o hM e] at h; cases h
theorem Kp.seqL {M : List Addr} {K : PySem.W.Frag} {H H' : Hp} {a : Addr} {xs : List V} (k : Kp M H H') (hM : a ∉ M) (h : SqL K H a xs) : SqL K H' a xs := by
  rcases h with (h | ⟨o, h⟩) | h
  · exact .inl (.inl (k _ _ hM h))
  · exact .inl (.inr ⟨o, k _ _ hM h⟩)
  · exact .inr h
theorem Kp.seqT {M : List Addr} {K : PySem.W.Frag} {H H' : Hp} {a : Addr} {xs : List V} (k : Kp M H H') (hM : a ∉ M) (h : SqT K H a xs) : SqT K H' a xs := by
  rcases h with (h | ⟨o, h⟩) | h
  · exact .inl (.inl (k _ _ hM h))
  · exact .inl (.inr ⟨o, k _ _ hM h⟩)
  · exact .inr h
theorem upd_get {H : Hp} {a b : Addr} {o u : HO} (h : b ≠ a) (e : H b = some u) : upd H a o b = some u := by rw [upd_ne h]; exact e
theorem upd_new {H : Hp} {a b : Addr} {o u : HO} (h : H a = none) (e : H b = some u) : upd H a o b = some u := upd_get (ne_of_none e h) e
theorem upd_none {H : Hp} {a b : Addr} {o : HO} (e : upd H a o b = none) : H b = none ∧ b ≠ a := by
  by_cases h : b = a
  · subst h; rw [upd_same] at e; cases e
  · rw [upd_ne h] at e; exact ⟨e, h⟩
/-- all but p is as it was -/
def Off (p : Addr) (H H' : Hp) : Prop := ∀ b, b ≠ p → H' b = H b
theorem Off.get {p b : Addr} {H H' : Hp} {o : HO} (k : Off p H H') (n : b ≠ p) (e : H b = some o) : H' b = some o := (k b n).trans e
theorem Off.kp {p : Addr} {M : List Addr} {H H' : Hp} (k : Off p H H') (m : p ∈ M) : Kp M H H' := fun b o n e => (k b (fun z => n (by rw [z]; exact m))).trans e
theorem Off.trans {p : Addr} {H H1 H2 : Hp} (a : Off p H H1) (b : Off p H1 H2) : Off p H H2 := fun x n => (b x n).trans (a x n)
theorem Off.keep {p : Addr} {M : List Addr} {H H1 H2 : Hp} (a : Kp M H H1) (b : Off p H1 H2) (n : H p = none) : Kp M H H2 := fun x o m e => (b x (ne_of_none e n)).trans (a x o m e)
/-- a list's change keeps the tuples -/
theorem Off.tup {p b : Addr} {H H' : Hp} {xs ys : List V} (k : Off p H H') (hp : H p = some (.lst xs)) (e : H b = some (.tup ys)) : H' b = some (.tup ys) := k.get (ne_of e hp (fun z => nomatch z)) e
/-- what keeps the tuples -/
def KT (H H' : Hp) : Prop := ∀ b xs, H b = some (.tup xs) → H' b = some (.tup xs)
theorem KT.refl {H : Hp} : KT H H := fun _ _ e => e
theorem KT.of {H H' : Hp} (k : Same H H') : KT H H' := fun b xs e => k _ _ e
theorem KT.off {p : Addr} {H H' : Hp} {xs : List V} (k : Off p H H') (e : H p = some (.lst xs)) : KT H H' := fun b ys e2 => k.tup e e2
theorem KT.trans {H H1 H2 : Hp} (a : KT H H1) (b : KT H1 H2) : KT H H2 := fun c xs e => b c xs (a c xs e)
theorem KT.kp {M : List Addr} {H H' : Hp} (k : Kp M H H') (h : ∀ b ∈ M, ∃ xs, H b = some (.lst xs)) : KT H H' := fun b ys e => k b _ (fun z => by
  obtain ⟨xs, e2⟩ := h b z
  rw [e] at e2; cases e2) e
theorem KT.upd {H H1 : Hp} {D : Addr} {o : HO} (k : KT H H1) (h : H D = none) : KT H (upd H1 D o) := fun b xs e => by rw [upd_ne (ne_of_none e h)]; exact k b xs e
theorem KT.updL {H : Hp} {D : Addr} {o : HO} {ys : List V} (h : H D = some (.lst ys)) : KT H (L2.upd H D o) := fun b xs e => upd_get (ne_of e h (fun z => nomatch z)) e
/-! ### rules by names -/
/-- a new object o -/
def Nw (o : HO) (H : Hp) (Q : VK) : Prop := ∀ p, H p = none → Q (.ref p) (upd H p o)
def rLen (K : PySem.W.Frag) : List V → Hp → VK → Prop := fun xs H Q => ∃ p ys, xs = [.ref p] ∧ (SqL K H p ys ∨ SqT K H p ys) ∧ Q (.int ys.length) H
def rMin2 : List V → Hp → VK → Prop := fun xs H Q => ∃ i j, xs = [.int i, .int j] ∧ Q (.int (if j < i then j else i)) H
def rMax2 : List V → Hp → VK → Prop := fun xs H Q => ∃ i j, xs = [.int i, .int j] ∧ Q (.int (if j > i then j else i)) H
def rListOf (K : PySem.W.Frag) : List V → Hp → VK → Prop := fun xs H Q => ∃ p ys, xs = [.ref p] ∧ (SqL K H p ys ∨ SqT K H p ys) ∧ ∀ l, H l = none → Q (.ref l) (upd H l (.lst ys))
def rTupOf (K : PySem.W.Frag) : List V → Hp → VK → Prop := fun xs H Q => ∃ p ys, xs = [.ref p] ∧ ((SqL K H p ys ∧ ∀ l, H l = none → Q (.ref l) (upd H l (.tup ys))) ∨ (SqT K H p ys ∧ Q (.ref p) H))
def rRg2 (x y : V) (H : Hp) (R : Int → Int → Hp → Prop) : Prop := ∃ i j, x = .int i ∧ y = .int j ∧ R i j H
def rBits (x : V) (H : Hp) (Q : VK) : Prop := ∃ i, x = .int i ∧ Q (.int (Builtin.Int.intBits i : Nat)) H
def rRng1 (vs : List V) (H : Hp) (R : It → Hp → Prop) : Prop := ∃ j : Int, vs = [.int j] ∧ -(2 ^ 62) ≤ j ∧ j < 2 ^ 62 ∧ R (Itr 0 j.toNat) H
def rRng2 (vs : List V) (H : Hp) (R : It → Hp → Prop) : Prop := ∃ i j : Int, vs = [.int i, .int j] ∧ (-(2 ^ 62) ≤ i ∧ i < 2 ^ 62 ∧ -(2 ^ 62) ≤ j ∧ j < 2 ^ 62) ∧ R (Itr i (j - i).toNat) H
def rItL (K : PySem.W.Frag) (x : V) (H : Hp) (R : It → Hp → Prop) : Prop := ∃ a, x = .ref a ∧ (∃ xs, SqL K H a xs) ∧ R (Itl K a) H
def rItT (K : PySem.W.Frag) (x : V) (H : Hp) (R : It → Hp → Prop) : Prop := ∃ a, x = .ref a ∧ (∃ xs, SqT K H a xs) ∧ R (Itt K a) H
def rDIn (x y : V) (H : Hp) (Q : VK) : Prop := ∃ a o, x = .ref a ∧ DGet H a y o ∧ Q (.bl o.isSome) H
def rDNotIn (x y : V) (H : Hp) (Q : VK) : Prop := ∃ a o, x = .ref a ∧ DGet H a y o ∧ Q (.bl (!o.isSome)) H
def rDGet (x y : V) (H : Hp) (Q : VK) : Prop := ∃ a v, x = .ref a ∧ DGet H a y (some v) ∧ Q v H
def rDGet2 (a : Addr) (y z : V) (H : Hp) (Q : VK) : Prop := ∃ o, DGet H a y o ∧ Q (o.getD z) H
def rDPut (x y v : V) (H : Hp) (R : Hp → Prop) : Prop := ∃ a H4, x = .ref a ∧ DPut H a y v H4 ∧ R H4
def rDSetd (a : Addr) (y z : V) (H : Hp) (Q : VK) : Prop := ∃ (kvs : List (Key × V)) (k : Key), H a = some (.dK kvs) ∧ y = kV k ∧ kvs.length < sizeLine ∧ (∀ v, valV kvs k = some v → Q v H) ∧ (valV kvs k = none → Q z (upd H a (.dK (putK kvs k z))))
def rIsD (x : V) (H : Hp) (R : Addr → Hp → Prop) : Prop := ∃ a, x = .ref a ∧ IsD H a ∧ R a H
def rIsBl : R2 := fun x y H Q => ∃ a b, x = .bl a ∧ y = .bl b ∧ Q (.bl (decide (a = b))) H
def rIsNon : R2 := fun x y H Q => y = .non ∧ Q (.bl (decide (x = .non))) H
def rNotNon : R2 := fun x y H Q => y = .non ∧ Q (.bl (!decide (x = .non))) H
def rTru (K : PySem.W.Frag) (x : V) (H : Hp) (R : Bool → Hp → Prop) : Prop := ∃ k, TruV K x H k ∧ R k H
def tTru (K : PySem.W.Frag) (ta : TE) : TT := fun σ H R => ta σ H fun x H' => ∃ k, TruV K x H' k ∧ R k H'
def rSortD (xs : List V) (H : Hp) (Q : VK) : Prop := ∃ (a : Addr) (kvs : List (Key × V)) (ks : List Int), xs = [.ref a] ∧ Rd H a (.dK kvs) ∧ kvs.map (·.1) = ks.map Sum.inl ∧ ks.length < 64 ∧
    ∀ (ys : List Int) (p : Addr), ys.Perm ks → ys.Pairwise (· ≤ ·) → H p = none → Q (.ref p) (upd H p (.lst (ys.map V.int)))
section
variable {X : Cx}
theorem o_isB : OpR X (compareOp .Is) rIsBl := op_is_bl
theorem o_isN : OpR X (compareOp .Is) rIsNon := op_isN
theorem o_notN : OpR X (compareOp .IsNot) rNotNon := op_notN
theorem p_truth {a : Expr} {ta : TE} (ha : PE X a ta) (he : ∀ whole, isTrue a X.env whole = (do let v ← whole; standAt a.pos; holding [v] (truthy v))) : PT X a (tTru X.K ta) := pt_truth ha he
theorem c_sortD (hc : X.calm = true) : CallR X (.builtin "sorted") rSortD := call_sortedDI hc
theorem c_len : CallR X (.builtin "len") (rLen X.K) := call_len_seq
theorem c_min2 (hc : X.calm = true) : CallR X (.builtin "min") rMin2 := call_min2 hc
theorem c_max2 (hc : X.calm = true) : CallR X (.builtin "max") rMax2 := call_max2 hc
theorem c_listOf : CallR X (.type "list") (rListOf X.K) := call_list_of
theorem c_tupOf : CallR X (.type "tuple") (rTupOf X.K) := call_tuple_of
end
theorem kb_int_int : kitB "int" "int" = some true := by decide +kernel
theorem kb_int_bool : kitB "int" "bool" = some false := by decide +kernel
theorem kb_int_str : kitB "int" "str" = some false := by decide +kernel
theorem kb_int_tuple : kitB "int" "tuple" = some false := by decide +kernel
theorem kb_int_list : kitB "int" "list" = some false := by decide +kernel
theorem kb_int_dict : kitB "int" "dict" = some false := by decide +kernel
theorem kb_bool_int : kitB "bool" "int" = some true := by decide +kernel
theorem kb_bool_bool : kitB "bool" "bool" = some true := by decide +kernel
theorem kb_bool_str : kitB "bool" "str" = some false := by decide +kernel
theorem kb_bool_tuple : kitB "bool" "tuple" = some false := by decide +kernel
theorem kb_bool_list : kitB "bool" "list" = some false := by decide +kernel
theorem kb_bool_dict : kitB "bool" "dict" = some false := by decide +kernel
theorem kb_str_int : kitB "str" "int" = some false := by decide +kernel
theorem kb_str_bool : kitB "str" "bool" = some false := by decide +kernel
theorem kb_str_str : kitB "str" "str" = some true := by decide +kernel
theorem kb_str_tuple : kitB "str" "tuple" = some false := by decide +kernel
theorem kb_str_list : kitB "str" "list" = some false := by decide +kernel
theorem kb_str_dict : kitB "str" "dict" = some false := by decide +kernel
theorem kb_tuple_int : kitB "tuple" "int" = some false := by decide +kernel
theorem kb_tuple_bool : kitB "tuple" "bool" = some false := by decide +kernel
theorem kb_tuple_str : kitB "tuple" "str" = some false := by decide +kernel
theorem kb_tuple_tuple : kitB "tuple" "tuple" = some true := by decide +kernel
theorem kb_tuple_list : kitB "tuple" "list" = some false := by decide +kernel
theorem kb_tuple_dict : kitB "tuple" "dict" = some false := by decide +kernel
theorem kb_list_int : kitB "list" "int" = some false := by decide +kernel
theorem kb_list_bool : kitB "list" "bool" = some false := by decide +kernel
theorem kb_list_str : kitB "list" "str" = some false := by decide +kernel
theorem kb_list_tuple : kitB "list" "tuple" = some false := by decide +kernel
theorem kb_list_list : kitB "list" "list" = some true := by decide +kernel
theorem kb_list_dict : kitB "list" "dict" = some false := by decide +kernel
theorem kb_dict_int : kitB "dict" "int" = some false := by decide +kernel
theorem kb_dict_bool : kitB "dict" "bool" = some false := by decide +kernel
theorem kb_dict_str : kitB "dict" "str" = some false := by decide +kernel
theorem kb_dict_tuple : kitB "dict" "tuple" = some false := by decide +kernel
theorem kb_dict_list : kitB "dict" "list" = some false := by decide +kernel
theorem kb_dict_dict : kitB "dict" "dict" = some true := by decide +kernel
theorem kb_NoneType_int : kitB "NoneType" "int" = some false := by decide +kernel
theorem kb_NoneType_bool : kitB "NoneType" "bool" = some false := by decide +kernel
theorem kb_NoneType_str : kitB "NoneType" "str" = some false := by decide +kernel
theorem kb_NoneType_tuple : kitB "NoneType" "tuple" = some false := by decide +kernel
theorem kb_NoneType_list : kitB "NoneType" "list" = some false := by decide +kernel
theorem kb_NoneType_dict : kitB "NoneType" "dict" = some false := by decide +kernel
/-! ### steps -/
section
variable {K : PySem.W.Frag} {σ : St} {H : Hp} {Q : VK} {nx bk ct : St → Hp → Prop} {rt : VK} {v : V}
theorem w_seq {t u : TS} (h : t ⟨u ⟨nx, rt, bk, ct⟩, rt, bk, ct⟩ σ H) : tSeq t u ⟨nx, rt, bk, ct⟩ σ H := h
theorem w_seqA {te : TE} {g : TG} {u : TS} (h : te σ H fun x H1 => g x σ H1 (u ⟨nx, rt, bk, ct⟩)) : tSeq (tAsg te g) u ⟨nx, rt, bk, ct⟩ σ H := h
theorem w_seqD {te : TE} {u : TS} (h : te σ H fun _ H1 => u ⟨nx, rt, bk, ct⟩ σ H1) : tSeq (tDrop te) u ⟨nx, rt, bk, ct⟩ σ H := h
theorem w_seqF {wi : TI} {g : TG} {tb u : TS} (h : tFor wi g tb ⟨u ⟨nx, rt, bk, ct⟩, rt, bk, ct⟩ σ H) : tSeq (tFor wi g tb) u ⟨nx, rt, bk, ct⟩ σ H := h
theorem w_seqW {c : TT} {tb u : TS} (h : tWhile c tb ⟨u ⟨nx, rt, bk, ct⟩, rt, bk, ct⟩ σ H) : tSeq (tWhile c tb) u ⟨nx, rt, bk, ct⟩ σ H := h
theorem w_seqG {i : Nat} {te : TE} {ti : TIp} {u : TS} (h : tAug i te ti ⟨u ⟨nx, rt, bk, ct⟩, rt, bk, ct⟩ σ H) : tSeq (tAug i te ti) u ⟨nx, rt, bk, ct⟩ σ H := h
/-- a statement whose ways meet: what follows is taken as U, of which R is enough -/
theorem w_seqJ {t u : TS} (R : St → Hp → Prop) (h2 : ∀ σ' H', R σ' H' → u ⟨nx, rt, bk, ct⟩ σ' H') (h1 : ∀ U : St → Hp → Prop, (∀ σ' H', R σ' H' → U σ' H') → t ⟨U, rt, bk, ct⟩ σ H) : tSeq t u ⟨nx, rt, bk, ct⟩ σ H := h1 _ h2
theorem w_var {i : Nat} (e : σ[i]? = some (some v)) (h : Q v H) : tVar i σ H Q := ⟨v, e, h⟩
theorem w_c (h : Q v H) : tC v σ H Q := h
theorem w_asg {te : TE} {g : TG} (h : te σ H fun x H1 => g x σ H1 nx) : tAsg te g ⟨nx, rt, bk, ct⟩ σ H := h
theorem w_name {i : Nat} {R : St → Hp → Prop} (h : R (σ.set i (some v)) H) : gName i v σ H R := h
theorem w_op {r : R2} {ta tb : TE} (h : ta σ H fun x H1 => tb σ H1 fun y H2 => r x y H2 Q) : tOp r ta tb σ H Q := h
theorem w_un {r : V → Hp → VK → Prop} {ta : TE} (h : ta σ H fun x H1 => r x H1 Q) : tUn r ta σ H Q := h
theorem w_neg {i : Int} (h : Q (.int (-i)) H) : rU (fun i => .int (-i)) (.int i) H Q := ⟨i, rfl, h⟩
theorem w_i {C : Int → Int → Prop} {g : Int → Int → V} {i j : Int} (c : C i j) (h : Q (g i j) H) : rI C g (.int i) (.int j) H Q := ⟨i, j, rfl, rfl, c, h⟩
theorem w_i0 {g : Int → Int → V} {i j : Int} (h : Q (g i j) H) : rI0 g (.int i) (.int j) H Q := ⟨i, j, rfl, rfl, h⟩
theorem w_eqI {i j : Int} (h : Q (.bl (decide (i = j))) H) : rEq (.int i) (.int j) H Q := ⟨rfl, by
  have e : decide (V.int i = V.int j) = decide (i = j) := by
    by_cases q : i = j
    · subst q; rw [decide_eq_true rfl, decide_eq_true rfl]
    · rw [decide_eq_false q, decide_eq_false (fun z => q (V.int.inj z))]
  rw [e]; exact h⟩
theorem w_neI {i j : Int} (h : Q (.bl (!decide (i = j))) H) : rNe (.int i) (.int j) H Q := ⟨rfl, by
  have e : decide (V.int i = V.int j) = decide (i = j) := by
    by_cases q : i = j
    · subst q; rw [decide_eq_true rfl, decide_eq_true rfl]
    · rw [decide_eq_false q, decide_eq_false (fun z => q (V.int.inj z))]
  rw [e]; exact h⟩
theorem w_ixL {p : Addr} {xs : List V} {i : Int} (h1 : SqL K H p xs) (h2 : atI xs i = some v) (h : Q v H) : rIxL K (.ref p) (.int i) H Q := ⟨p, xs, i, v, rfl, rfl, h1, h2, h⟩
theorem w_ixT {p : Addr} {xs : List V} {i : Int} (h1 : SqT K H p xs) (h2 : atI xs i = some v) (h : Q v H) : rIxT K (.ref p) (.int i) H Q := ⟨p, xs, i, v, rfl, rfl, h1, h2, h⟩
theorem w_ixSL {p : Addr} {xs : List V} {i : Int} (h1 : SqL K H p xs) (h2 : atI xs i = some v) (h : Q v H) : rIx K (.ref p) (.int i) H Q := .inl ⟨p, xs, i, v, rfl, rfl, h1, h2, h⟩
theorem w_ixST {p : Addr} {xs : List V} {i : Int} (h1 : SqT K H p xs) (h2 : atI xs i = some v) (h : Q v H) : rIx K (.ref p) (.int i) H Q := .inr (.inl ⟨p, xs, i, v, rfl, rfl, h1, h2, h⟩)
theorem w_neB {x y : Bool} (h : Q (.bl (!decide (x = y))) H) : rNe (.bl x) (.bl y) H Q := ⟨rfl, by
  have e : decide (V.bl x = V.bl y) = decide (x = y) := by
    by_cases q : x = y
    · subst q; rw [decide_eq_true rfl, decide_eq_true rfl]
    · rw [decide_eq_false q, decide_eq_false (fun z => q (V.bl.inj z))]
  rw [e]; exact h⟩
theorem w_eqN (h : Q (.bl true) H) : rEq .non .non H Q := ⟨rfl, h⟩
theorem w_popAt {l : Addr} {xs : List V} {i : Int} {k : Nat} {y : V} (h1 : H l = some (.lst xs)) (h2 : -(2 ^ 63) ≤ i) (h3 : i < 2 ^ 63) (h4 : seqIndex? i xs.length = some k) (h5 : xs[k]? = some y) (h : ∀ H1, H1 l = some (.lst (xs.eraseIdx k)) → Off l H H1 → Q y H1) : rPopAt (.ref l) [.int i] H Q :=
  ⟨l, xs, i, k, y, rfl, rfl, h1, h2, h3, h4, h5, h _ upd_same fun x hx => upd_ne hx⟩
theorem w_sub {to ti : TE} {t : TSet} {R : St → Hp → Prop} (h : to σ H fun o H1 => ti σ H1 fun i H2 => t o i v H2 fun H3 => R σ H3) : gSub to ti t v σ H R := h
theorem w_setL {p : Addr} {xs ys : List V} {k : Int} {j : Nat} {R : Hp → Prop} (h1 : H p = some (.lst xs)) (h2 : ixN xs.length k = some j) (e : xs.set j v = ys) (h : ∀ H1, H1 p = some (.lst ys) → Off p H H1 → R H1) : rSetL (.ref p) (.int k) v H R :=
  ⟨p, xs, k, j, rfl, rfl, h1, h2, by rw [e]; exact h _ upd_same fun x hx => upd_ne hx⟩
theorem w_if {c : TT} {t u : TS} (h : c σ H fun b H1 => if b = true then t ⟨nx, rt, bk, ct⟩ σ H1 else u ⟨nx, rt, bk, ct⟩ σ H1) : tIfS c t u ⟨nx, rt, bk, ct⟩ σ H := h
theorem w_test {t : TE} {R : Bool → Hp → Prop} (h : t σ H fun x H' => ∃ k, x = .bl k ∧ R k H') : tTest t σ H R := h
theorem w_tb {t : TE} {R : Bool → Hp → Prop} (h : t σ H fun x H' => ∃ k, x = .bl k ∧ R k H') : tB t σ H R := h
theorem w_bl {b : Bool} {R : Bool → Prop} (h : R b) : ∃ k, V.bl b = .bl k ∧ R k := ⟨b, rfl, h⟩
theorem w_and {t u : TT} {R : Bool → Hp → Prop} (h : t σ H fun c H1 => if c = true then u σ H1 R else R false H1) : tAnd t u σ H R := h
theorem w_or {t u : TT} {R : Bool → Hp → Prop} (h : t σ H fun c H1 => if c = true then R true H1 else u σ H1 R) : tOr t u σ H R := h
theorem w_not {t : TT} {R : Bool → Hp → Prop} (h : t σ H fun c H1 => R (!c) H1) : tNot t σ H R := h
theorem w_andV {ta tb : TE} (h : ta σ H fun x H1 => ∃ c, x = .bl c ∧ if c = true then tb σ H1 Q else Q (.bl false) H1) : tAndV ta tb σ H Q := h
theorem w_orV {ta tb : TE} (h : ta σ H fun x H1 => ∃ c, x = .bl c ∧ if c = true then Q (.bl true) H1 else tb σ H1 Q) : tOrV ta tb σ H Q := h
theorem w_notV {ta : TE} (h : ta σ H fun x H1 => ∃ c, x = .bl c ∧ Q (.bl (!c)) H1) : tNotV ta σ H Q := h
theorem w_ite {p : Prop} {inst : Decidable p} {A B : Prop} (h1 : p → A) (h2 : ¬ p → B) : if decide p = true then A else B := by
  by_cases h : p
  · rw [if_pos (decide_eq_true h)]; exact h1 h
  · rw [if_neg (fun z => h (of_decide_eq_true z))]; exact h2 h
theorem w_itN {p : Prop} {inst : Decidable p} {A B : Prop} (h1 : ¬ p → A) (h2 : p → B) : if (!decide p) = true then A else B := by
  by_cases h : p
  · rw [decide_eq_true h]; exact h2 h
  · rw [decide_eq_false h]; exact h1 h
theorem w_yes {p : Prop} {inst : Decidable p} {A B : Prop} (h : p) (a : A) : if decide p = true then A else B := by rw [if_pos (decide_eq_true h)]; exact a
theorem w_no {p : Prop} {inst : Decidable p} {A B : Prop} (h : ¬ p) (b : B) : if decide p = true then A else B := by rw [if_neg (fun z => h (of_decide_eq_true z))]; exact b
theorem w_nyes {p : Prop} {inst : Decidable p} {A B : Prop} (h : p) (b : B) : if (!decide p) = true then A else B := by rw [decide_eq_true h]; exact b
theorem w_nno {p : Prop} {inst : Decidable p} {A B : Prop} (h : ¬ p) (a : A) : if (!decide p) = true then A else B := by rw [decide_eq_false h]; exact a
theorem w_itB {b : Bool} {A B : Prop} (h1 : b = true → A) (h2 : b = false → B) : if b = true then A else B := by
  cases b with
  | true => exact h1 rfl
  | false => exact h2 rfl
theorem w_itNB {b : Bool} {A B : Prop} (h1 : b = false → A) (h2 : b = true → B) : if (!b) = true then A else B := by
  cases b with
  | true => exact h2 rfl
  | false => exact h1 rfl
theorem w_nT {A B : Prop} (h : B) : if (!true) = true then A else B := h
theorem w_nF {A B : Prop} (h : A) : if (!false) = true then A else B := h
theorem w_nnT {A B : Prop} (h : A) : if (!(!true)) = true then A else B := h
theorem w_ret {te : TE} (h : te σ H rt) : tRet te ⟨nx, rt, bk, ct⟩ σ H := h
theorem w_drop {te : TE} (h : te σ H fun _ H1 => nx σ H1) : tDrop te ⟨nx, rt, bk, ct⟩ σ H := h
theorem w_next (h : nx σ H) : tNext ⟨nx, rt, bk, ct⟩ σ H := h
theorem w_cb {r : List V → Hp → VK → Prop} {t : TA} (h : t σ H fun vs H1 => r vs H1 Q) : tCB r t σ H Q := h
theorem w_nil {R : List V → Hp → Prop} (h : R [] H) : tNil σ H R := h
theorem w_cons {ta : TE} {tr : TA} {R : List V → Hp → Prop} (h : ta σ H fun x H1 => tr σ H1 fun xs H2 => R (x :: xs) H2) : tCons ta tr σ H R := h
theorem w_call {sp : Sp} {E : XK} {t : TA} (h : t σ H fun vs H1 => sp (vs ++ []) H1 Q E) : tCall sp [] E t σ H Q := h
theorem w_lst {t : TA} (h : t σ H fun xs H1 => xs.length ≤ sizeLine ∧ Nw (.lst xs) H1 Q) : tLst t σ H Q := h
theorem w_tup {t : TA} (h : t σ H fun xs H1 => xs.length ≤ sizeLine ∧ Nw (.tup xs) H1 Q) : tTup t σ H Q := h
theorem w_new {o : HO} (h : ∀ p H2, H p = none → H2 p = some o → Same H H2 → Q (.ref p) H2) : Nw o H Q := fun p hp => h p _ hp upd_same (Same.new hp)
theorem w_sz {n : Nat} {o : HO} (h1 : n ≤ sizeLine) (h : Nw o H Q) : n ≤ sizeLine ∧ Nw o H Q := ⟨h1, h⟩
theorem w_app {p : Addr} {xs : List V} (h1 : H p = some (.lst xs)) (h2 : xs.length < sizeLine) (h : ∀ H1, H1 p = some (.lst (xs ++ [v])) → Off p H H1 → Q .non H1) : rAppend (.ref p) [v] H Q :=
  ⟨p, xs, v, rfl, rfl, h1, h2, h _ upd_same fun x hx => upd_ne hx⟩
theorem w_bm {r : V → List V → Hp → VK → Prop} {to : TE} {t : TA} (h : to σ H fun x H1 => tyV K "list" x H1 ∧ t σ H1 fun xs H2 => r x xs H2 Q) : tBM K "list" r to t σ H Q := h
theorem w_tyL {p : Addr} {xs : List V} {A : Prop} (h1 : H p = some (.lst xs)) (h : A) : tyV K "list" (.ref p) H ∧ A := ⟨.inl ⟨rfl, _, .inl (.inl h1)⟩, h⟩
theorem w_lenL {p : Addr} {ys : List V} (h1 : SqL K H p ys) (h : Q (.int ys.length) H) : rLen K [V.ref p] H Q := ⟨p, ys, rfl, .inl h1, h⟩
theorem w_lenT {p : Addr} {ys : List V} (h1 : SqT K H p ys) (h : Q (.int ys.length) H) : rLen K [V.ref p] H Q := ⟨p, ys, rfl, .inr h1, h⟩
theorem w_min2 {i j : Int} (h : Q (.int (if j < i then j else i)) H) : rMin2 [V.int i, V.int j] H Q := ⟨i, j, rfl, h⟩
theorem w_max2 {i j : Int} (h : Q (.int (if j > i then j else i)) H) : rMax2 [V.int i, V.int j] H Q := ⟨i, j, rfl, h⟩
theorem w_listL {p : Addr} {ys : List V} (h1 : SqL K H p ys) (h : ∀ l H2, H l = none → H2 l = some (.lst ys) → Same H H2 → Q (.ref l) H2) : rListOf K [V.ref p] H Q := ⟨p, ys, rfl, .inl h1, w_new h⟩
theorem w_listT {p : Addr} {ys : List V} (h1 : SqT K H p ys) (h : ∀ l H2, H l = none → H2 l = some (.lst ys) → Same H H2 → Q (.ref l) H2) : rListOf K [V.ref p] H Q := ⟨p, ys, rfl, .inr h1, w_new h⟩
theorem w_tupL {p : Addr} {ys : List V} (h1 : SqL K H p ys) (h : ∀ l H2, H l = none → H2 l = some (.tup ys) → Same H H2 → Q (.ref l) H2) : rTupOf K [V.ref p] H Q := ⟨p, ys, rfl, .inl ⟨h1, w_new h⟩⟩
theorem w_sum {p : Addr} {ns : List Int} (h1 : SqL K H p (ns.map V.int)) (h : Q (.int ns.sum) H) : rSum K [V.ref p] H Q := ⟨p, ns, rfl, h1, h⟩
theorem w_tupRg {te : St → Hp → (Int → Int → Hp → Prop) → Prop} (h : te σ H fun a b H1 => RgOk a b ∧ Nw (.tup (rgV a b)) H1 Q) : tTupRg te σ H Q := h
theorem w_rg2 {ta tb : TE} {R : Int → Int → Hp → Prop} (h : ta σ H fun x H1 => tb σ H1 fun y H2 => rRg2 x y H2 R) : tRg2 ta tb σ H R := h
theorem w_rg2' {i j : Int} {R : Int → Int → Hp → Prop} (h : R i j H) : rRg2 (.int i) (.int j) H R := ⟨i, j, rfl, rfl, h⟩
theorem w_bits {to : TE} (h : to σ H fun x H1 => rBits x H1 Q) : tBits to σ H Q := h
theorem w_bits' {i : Int} (h : Q (.int (Builtin.Int.intBits i : Nat)) H) : rBits (.int i) H Q := ⟨i, rfl, h⟩
theorem w_isi {x : V} {a n : String} {b : Bool} (ty : TyX K H x (.type a)) (hk : kitB a n = some b) (h : Q (.bl b) H) : rIsi K [x, .ty n] H Q := ⟨x, .ty n, _, _, b, rfl, .ty n, ty, kit_ty hk, h⟩
theorem w_eqS {x y : Str} (h : Q (.bl (decide (x = y))) H) : rEq (.str x) (.str y) H Q := ⟨rfl, by
  have e : decide (V.str x = V.str y) = decide (x = y) := by
    by_cases q : x = y
    · subst q; rw [decide_eq_true rfl, decide_eq_true rfl]
    · rw [decide_eq_false q, decide_eq_false (fun z => q (V.str.inj z))]
  rw [e]; exact h⟩
theorem w_eqB {x y : Bool} (h : Q (.bl (decide (x = y))) H) : rEq (.bl x) (.bl y) H Q := ⟨rfl, by
  have e : decide (V.bl x = V.bl y) = decide (x = y) := by
    by_cases q : x = y
    · subst q; rw [decide_eq_true rfl, decide_eq_true rfl]
    · rw [decide_eq_false q, decide_eq_false (fun z => q (V.bl.inj z))]
  rw [e]; exact h⟩
theorem w_tupT {p : Addr} {ys : List V} (h1 : SqT K H p ys) (h : Q (.ref p) H) : rTupOf K [V.ref p] H Q := ⟨p, ys, rfl, .inr ⟨h1, h⟩⟩
/-! targets, dicts -/
theorem w_gtup {a : Addr} {xs : List V} {n : Nat} {t : TGs} {R : St → Hp → Prop} (h1 : SqT K H a xs) (h2 : xs.length = n) (h : t xs σ H R) : gTup K n t (.ref a) σ H R := ⟨a, xs, rfl, h1, h2, h⟩
theorem w_gcons {t : TG} {u : TGs} {r : List V} {R : St → Hp → Prop} (h : t v σ H fun σ' H' => u r σ' H' R) : gCons t u (v :: r) σ H R := ⟨v, r, rfl, h⟩
theorem w_gnil {R : St → Hp → Prop} (h : R σ H) : gNil [] σ H R := ⟨rfl, h⟩
theorem w_din {ty td : TE} (h : ty σ H fun y H1 => td σ H1 fun x H2 => rDIn x y H2 Q) : tDIn ty td σ H Q := h
theorem w_dnotin {ty td : TE} (h : ty σ H fun y H1 => td σ H1 fun x H2 => rDNotIn x y H2 Q) : tDNotIn ty td σ H Q := h
theorem w_dget {ty td : TE} (h : td σ H fun x H1 => ty σ H1 fun y H2 => rDGet x y H2 Q) : tDGet td ty σ H Q := h
theorem w_dinI {a : Addr} {kvs : List (Key × V)} {n : Int} (e : H a = some (.dK kvs)) (h : Q (.bl (valV kvs (Sum.inl n)).isSome) H) : rDIn (.ref a) (.int n) H Q := ⟨a, _, rfl, DGet.k (k := Sum.inl n) e, h⟩
theorem w_dnotinI {a : Addr} {kvs : List (Key × V)} {n : Int} (e : H a = some (.dK kvs)) (h : Q (.bl (!(valV kvs (Sum.inl n)).isSome)) H) : rDNotIn (.ref a) (.int n) H Q := ⟨a, _, rfl, DGet.k (k := Sum.inl n) e, h⟩
theorem w_dgetI {a : Addr} {kvs : List (Key × V)} {n : Int} (e : H a = some (.dK kvs)) (e2 : valV kvs (Sum.inl n) = some v) (h : Q v H) : rDGet (.ref a) (.int n) H Q := ⟨a, v, rfl, e2 ▸ DGet.k (k := Sum.inl n) e, h⟩
theorem w_dnewK (h : Nw (.dK []) H Q) : tDNewK σ H Q := h
theorem w_dput {td ty tv : TE} (h : tv σ H fun v H1 => td σ H1 fun x H2 => ty σ H2 fun y H3 => rDPut x y v H3 fun H4 => nx σ H4) : sDPut td ty tv ⟨nx, rt, bk, ct⟩ σ H := h
theorem w_seqP {td ty tv : TE} {u : TS} (h : tv σ H fun v H1 => td σ H1 fun x H2 => ty σ H2 fun y H3 => rDPut x y v H3 fun H4 => u ⟨nx, rt, bk, ct⟩ σ H4) : tSeq (sDPut td ty tv) u ⟨nx, rt, bk, ct⟩ σ H := h
theorem w_dputI {a : Addr} {kvs : List (Key × V)} {n : Int} {R : Hp → Prop} (e : H a = some (.dK kvs)) (hl : kvs.length < sizeLine) (h : ∀ H1, H1 a = some (.dK (putK kvs (Sum.inl n) v)) → Off a H H1 → R H1) : rDPut (.ref a) (.int n) v H R :=
  ⟨a, _, rfl, DPut.k (k := Sum.inl n) e hl, h _ upd_same fun x hx => upd_ne hx⟩
theorem w_dget2 {td ty tx : TE} (h : td σ H fun x H1 => rIsD x H1 fun a H1 => ty σ H1 fun y H2 => tx σ H2 fun z H3 => rDGet2 a y z H3 Q) : tDGet2 td ty tx σ H Q := h
theorem w_isD {a : Addr} {kvs : List (Key × V)} {R : Addr → Hp → Prop} (e : H a = some (.dK kvs)) (h : R a H) : rIsD (.ref a) H R := ⟨a, rfl, .inl ⟨kvs, .inl e⟩, h⟩
theorem w_dget2I {a : Addr} {kvs : List (Key × V)} {n : Int} {z : V} (e : H a = some (.dK kvs)) (h : Q ((valV kvs (Sum.inl n)).getD z) H) : rDGet2 a (.int n) z H Q := ⟨_, DGet.k (k := Sum.inl n) e, h⟩
theorem w_dsetd {td ty tx : TE} (h : td σ H fun x H1 => rIsD x H1 fun a H1 => ty σ H1 fun y H2 => tx σ H2 fun z H3 => rDSetd a y z H3 Q) : tDSetd td ty tx σ H Q := h
theorem w_dsetdI {a : Addr} {kvs : List (Key × V)} {n : Int} {z : V} (e : H a = some (.dK kvs)) (hl : kvs.length < sizeLine) (h1 : ∀ u, valV kvs (Sum.inl n) = some u → Q u H) (h2 : valV kvs (Sum.inl n) = none → ∀ H1, H1 a = some (.dK (putK kvs (Sum.inl n) z)) → Off a H H1 → Q z H1) : rDSetd a (.int n) z H Q :=
  ⟨kvs, Sum.inl n, e, rfl, hl, h1, fun z => h2 z _ upd_same fun x hx => upd_ne hx⟩
theorem w_sortD {a : Addr} {kvs : List (Key × V)} {ks : List Int} (e : H a = some (.dK kvs)) (hk : kvs.map (·.1) = ks.map Sum.inl) (hl : ks.length < 64) (h : ∀ (ys : List Int) p H1, ys.Perm ks → ys.Pairwise (· ≤ ·) → H p = none → H1 p = some (.lst (ys.map V.int)) → Same H H1 → Q (.ref p) H1) : rSortD [.ref a] H Q :=
  ⟨a, kvs, ks, rfl, .inl e, hk, hl, fun ys p hp hs hn => h ys p _ hp hs hn upd_same (Same.new hn)⟩
theorem w_leT2 {p q : Addr} {a b c d : Int} (h1 : SqT K H p [.int a, .int b]) (h2 : SqT K H q [.int c, .int d]) (h : Q (.bl (decide (a < c ∨ a = c ∧ b ≤ d))) H) : rLeT K (.ref p) (.ref q) H Q := by
  refine ⟨p, q, [a, b], [c, d], rfl, rfl, h1, h2, ?_⟩
  have e : Ob.lexAt (fun j => decide (([a, b] : List Int).getD j 0 = ([c, d] : List Int).getD j 0)) (fun j => decide (([a, b] : List Int).getD j 0 ≤ ([c, d] : List Int).getD j 0)) (decide (([a, b] : List Int).length ≤ ([c, d] : List Int).length)) 0 (min ([a, b] : List Int).length ([c, d] : List Int).length) = decide (a < c ∨ a = c ∧ b ≤ d) := by
    show (if decide (a = c) = true then (if decide (b = d) = true then true else decide (b ≤ d)) else decide (a ≤ c)) = _
    by_cases h1 : a = c
    · rw [if_pos (decide_eq_true h1)]
      by_cases h2 : b = d
      · rw [if_pos (decide_eq_true h2)]
        exact (decide_eq_true (by omega)).symm
      · rw [if_neg (fun z => h2 (of_decide_eq_true z))]
        rw [Bool.eq_iff_iff]; simp; omega
    · rw [if_neg (fun z => h1 (of_decide_eq_true z))]
      rw [Bool.eq_iff_iff]; simp; omega
  rw [e]
  exact h
theorem inV_ints (n : Int) (vs : List Int) : inV (.int n) (vs.map V.int) = decide (n ∈ vs) := by
  unfold inV
  rw [Bool.eq_iff_iff, List.any_eq_true]
  constructor
  · rintro ⟨y, hy, e⟩
    obtain ⟨z, hz, rfl⟩ := List.mem_map.mp hy
    have e' : z = n := by simpa [eqV] using e
    subst e'
    exact decide_eq_true hz
  · intro h
    exact ⟨.int n, List.mem_map_of_mem (of_decide_eq_true h), by simp [eqV]⟩
theorem flat_ints (vs : List Int) : (vs.map V.int).all flatV = true := by
  rw [List.all_eq_true]
  intro y hy
  obtain ⟨z, _, rfl⟩ := List.mem_map.mp hy
  rfl
theorem w_inT {p : Addr} {vs : List Int} {n : Int} (h1 : SqT K H p (vs.map V.int)) (h : Q (.bl (decide (n ∈ vs))) H) : rIn K false (.int n) (.ref p) H Q := ⟨p, _, rfl, .inr h1, rfl, flat_ints vs, by rw [inV_ints]; exact h⟩
theorem w_ninT {p : Addr} {vs : List Int} {n : Int} (h1 : SqT K H p (vs.map V.int)) (h : Q (.bl (!decide (n ∈ vs))) H) : rIn K true (.int n) (.ref p) H Q := ⟨p, _, rfl, .inr h1, rfl, flat_ints vs, by rw [inV_ints]; exact h⟩
theorem w_inL {p : Addr} {vs : List Int} {n : Int} (h1 : SqL K H p (vs.map V.int)) (h : Q (.bl (decide (n ∈ vs))) H) : rIn K false (.int n) (.ref p) H Q := ⟨p, _, rfl, .inl h1, rfl, flat_ints vs, by rw [inV_ints]; exact h⟩
theorem w_ninL {p : Addr} {vs : List Int} {n : Int} (h1 : SqL K H p (vs.map V.int)) (h : Q (.bl (!decide (n ∈ vs))) H) : rIn K true (.int n) (.ref p) H Q := ⟨p, _, rfl, .inl h1, rfl, flat_ints vs, by rw [inV_ints]; exact h⟩
def rDisp (p : Addr) (ps : List (V × V)) (H2 : Hp) (Q : VK) : Prop := H2 p = some (.dK []) ∧ ∃ kvs : List (Key × V), ps = kvs.map (fun kv => (kV kv.1, kv.2)) ∧ kvs.length ≤ 15 ∧ Q (.ref p) (upd H2 p (.dK (mergeK [] kvs)))
theorem w_disp {trs : List (TE × TE)} (h : ∀ p H1, H p = none → H1 p = some (.dK []) → Same H H1 → tPairs trs σ H1 (fun ps H2 => rDisp p ps H2 Q)) : tDisp trs σ H Q := fun p hp => h p _ hp upd_same (Same.new hp)
theorem w_pair {tk tv : TE} {r : List (TE × TE)} {R : List (V × V) → Hp → Prop} (h : tk σ H fun x H1 => tv σ H1 fun y H2 => tPairs r σ H2 fun ps H3 => R ((x, y) :: ps) H3) : tPairs ((tk, tv) :: r) σ H R := h
theorem w_pnil {R : List (V × V) → Hp → Prop} (h : R [] H) : tPairs [] σ H R := h
theorem w_dispE {p : Addr} {ps : List (V × V)} (kvs : List (Key × V)) (h1 : H p = some (.dK [])) (h2 : ps = kvs.map (fun kv => (kV kv.1, kv.2))) (h3 : kvs.length ≤ 15) (h : ∀ H1, H1 p = some (.dK (mergeK [] kvs)) → Off p H H1 → Q (.ref p) H1) : rDisp p ps H Q :=
  ⟨h1, kvs, h2, h3, h _ upd_same fun x hx => upd_ne hx⟩
theorem w_callS {sp : Sp} {E : St → XK} {t : TA} (h : t σ H fun vs H1 => sp vs H1 Q (E σ)) : tCallS sp E t σ H Q := h
theorem w_isB {x y : Bool} (h : Q (.bl (decide (x = y))) H) : rIsBl (.bl x) (.bl y) H Q := ⟨x, y, rfl, rfl, h⟩
theorem w_isN (h : Q (.bl (decide (v = .non))) H) : rIsNon v .non H Q := ⟨rfl, h⟩
theorem w_notN (h : Q (.bl (!decide (v = .non))) H) : rNotNon v .non H Q := ⟨rfl, h⟩
theorem w_chain {r r' : R2} {ta tb tc : TE} (h : ta σ H fun x H1 => tb σ H1 fun y H2 => r x y H2 fun z H3 => ∃ k, z = .bl k ∧ (if k = true then tc σ H3 fun w' H4 => r' y w' H4 Q else Q (.bl false) H3)) : tChain r r' ta tb tc σ H Q := h
theorem w_trL {p : Addr} {xs : List V} {R : Bool → Hp → Prop} (h1 : SqL K H p xs) (h : R (!xs.isEmpty) H) : rTru K (.ref p) H R := ⟨_, .inl ⟨xs, h1, rfl⟩, h⟩
theorem w_trT {p : Addr} {xs : List V} {R : Bool → Hp → Prop} (h1 : SqT K H p xs) (h : R (!xs.isEmpty) H) : rTru K (.ref p) H R := ⟨_, .inr (.inl ⟨xs, h1, rfl⟩), h⟩
theorem w_tru {ta : TE} {R : Bool → Hp → Prop} (h : ta σ H fun x H1 => rTru K x H1 R) : tTru K ta σ H R := h
theorem w_seqX {w : Stmt → Prop} {u : TS} {t : TS} (h : t ⟨u ⟨nx, rt, bk, ct⟩, rt, bk, ct⟩ σ H) : tSeq t u ⟨nx, rt, bk, ct⟩ σ H := h
/-! loops -/
def Lp (J : It) (g : TG) (tb : TS) (D : Ends) (σ : St) (H1 : Hp) : Prop := ∃ W : Nat → Nat → St → Hp → Prop, (∃ m, W 0 m σ H1) ∧ ∀ i m σ H, W i m σ H →
  (J.stop i H ∧ D.nx σ H) ∨ (J.go i H ∧ ∃ N : St → Hp → Prop, (∀ σ' H', N σ' H' → ∃ m', m' < m ∧ W (i + 1) m' σ' H') ∧ ∀ x H', J.yld i H x H' → g x σ H' fun σ2 H2 => tb { D with nx := N, ct := N, bk := D.nx } σ2 H2)
theorem w_for {wi : TI} {g : TG} {tb : TS} (h : wi σ H fun J H1 => Lp J g tb ⟨nx, rt, bk, ct⟩ σ H1) : tFor wi g tb ⟨nx, rt, bk, ct⟩ σ H := h
theorem lp_it {J : It} {n : Nat} {G : Hp → Prop} {Y : Nat → Hp → V → Hp → Prop} (w : Walk J n G Y) {g : TG} {tb : TS} (Pv : Nat → St → Hp → Prop) (h0 : Pv 0 σ H) (hG : ∀ i σ H, i ≤ n → Pv i σ H → G H)
    (hs : ∀ i x σ H H', i < n → Pv i σ H → Y i H x H' → g x σ H' fun σ2 H2 => tb ⟨Pv (i + 1), rt, nx, Pv (i + 1)⟩ σ2 H2) (hd : ∀ σ H, Pv n σ H → nx σ H) : Lp J g tb ⟨nx, rt, bk, ct⟩ σ H :=
  for_it w (D := ⟨nx, rt, bk, ct⟩) Pv h0 hG hs hd
theorem lp_list {a : Addr} {xs : List V} {g : TG} {tb : TS} (Pv : Nat → St → Hp → Prop) (h0 : Pv 0 σ H) (hl : ∀ i σ H, i ≤ xs.length → Pv i σ H → SqL K H a xs)
    (hs : ∀ i x σ H, xs[i]? = some x → Pv i σ H → g x σ H fun σ2 H2 => tb ⟨Pv (i + 1), rt, nx, Pv (i + 1)⟩ σ2 H2) (hd : ∀ σ H, Pv xs.length σ H → nx σ H) : Lp (Itl K a) g tb ⟨nx, rt, bk, ct⟩ σ H :=
  for_list (D := ⟨nx, rt, bk, ct⟩) Pv h0 hl hs hd
theorem lp_tup {a : Addr} {xs : List V} {g : TG} {tb : TS} (Pv : Nat → St → Hp → Prop) (h0 : Pv 0 σ H) (hl : ∀ i σ H, i ≤ xs.length → Pv i σ H → SqT K H a xs)
    (hs : ∀ i x σ H, xs[i]? = some x → Pv i σ H → g x σ H fun σ2 H2 => tb ⟨Pv (i + 1), rt, nx, Pv (i + 1)⟩ σ2 H2) (hd : ∀ σ H, Pv xs.length σ H → nx σ H) : Lp (Itt K a) g tb ⟨nx, rt, bk, ct⟩ σ H :=
  for_tup (D := ⟨nx, rt, bk, ct⟩) Pv h0 hl hs hd
theorem lp_range {lo : Int} {n : Nat} {g : TG} {tb : TS} (Pv : Nat → St → Hp → Prop) (h0 : Pv 0 σ H)
    (hs : ∀ i σ H, i < n → Pv i σ H → g (.int (lo + i)) σ H fun σ2 H2 => tb ⟨Pv (i + 1), rt, nx, Pv (i + 1)⟩ σ2 H2) (hd : ∀ σ H, Pv n σ H → nx σ H) : Lp (Itr lo n) g tb ⟨nx, rt, bk, ct⟩ σ H :=
  for_range (D := ⟨nx, rt, bk, ct⟩) Pv h0 hs hd
theorem w_rng1 {t : TA} {R : It → Hp → Prop} (h : t σ H fun vs H1 => rRng1 vs H1 R) : iRng1 t σ H R := h
theorem w_rng1' {j : Int} {R : It → Hp → Prop} (h1 : -(2 ^ 62) ≤ j) (h2 : j < 2 ^ 62) (h : R (Itr 0 j.toNat) H) : rRng1 [.int j] H R := ⟨j, rfl, h1, h2, h⟩
theorem w_rng2 {t : TA} {R : It → Hp → Prop} (h : t σ H fun vs H1 => rRng2 vs H1 R) : iRng2 t σ H R := h
theorem w_rng2' {i j : Int} {R : It → Hp → Prop} (h1 : -(2 ^ 62) ≤ i ∧ i < 2 ^ 62 ∧ -(2 ^ 62) ≤ j ∧ j < 2 ^ 62) (h : R (Itr i (j - i).toNat) H) : rRng2 [.int i, .int j] H R := ⟨i, j, rfl, h1, h⟩
theorem w_itL {tl : TE} {R : It → Hp → Prop} (h : tl σ H fun x H1 => rItL K x H1 R) : iList K tl σ H R := h
theorem w_itL' {a : Addr} {xs : List V} {R : It → Hp → Prop} (h1 : SqL K H a xs) (h : R (Itl K a) H) : rItL K (.ref a) H R := ⟨a, rfl, ⟨xs, h1⟩, h⟩
theorem w_itT {tl : TE} {R : It → Hp → Prop} (h : tl σ H fun x H1 => rItT K x H1 R) : iTup K tl σ H R := h
theorem w_itT' {a : Addr} {xs : List V} {R : It → Hp → Prop} (h1 : SqT K H a xs) (h : R (Itt K a) H) : rItT K (.ref a) H R := ⟨a, rfl, ⟨xs, h1⟩, h⟩
theorem w_while {c : TT} {tb : TS} (Pv : St → Hp → Prop) (μ : St → Hp → Nat) (h0 : Pv σ H)
    (hs : ∀ σ H, Pv σ H → c σ H fun b H1 => if b = true then ∃ N : St → Hp → Prop, (∀ σ' H', N σ' H' → Pv σ' H' ∧ μ σ' H' < μ σ H) ∧ tb ⟨N, rt, nx, N⟩ σ H1 else nx σ H1) (mono : ∀ σ H (R R' : Bool → Hp → Prop), (∀ b H1, R b H1 → R' b H1) → c σ H R → c σ H R') : tWhile c tb ⟨nx, rt, bk, ct⟩ σ H := by
  refine ⟨fun m σ H => m = μ σ H ∧ Pv σ H, ⟨_, rfl, h0⟩, ?_⟩
  rintro m σ H ⟨rfl, p⟩
  refine mono σ H _ _ (fun b H1 q => ?_) (hs σ H p)
  cases b with
  | true =>
    obtain ⟨N, h1, h2⟩ := q
    exact ⟨N, fun σ' H' z => ⟨_, (h1 σ' H' z).2, rfl, (h1 σ' H' z).1⟩, h2⟩
  | false => exact q
/-- one turn of a while: W (by a falling number) is reached again -/
def WhT (W : Nat → St → Hp → Prop) (m : Nat) (tb : TS) (rt : VK) (nx : St → Hp → Prop) (σ : St) (H : Hp) : Prop := ∃ N : St → Hp → Prop, (∀ σ' H', N σ' H' → ∃ m', m' < m ∧ W m' σ' H') ∧ tb ⟨N, rt, nx, N⟩ σ H
theorem w_turn {W : Nat → St → Hp → Prop} {m : Nat} {tb : TS} (h : tb ⟨fun σ' H' => ∃ m', m' < m ∧ W m' σ' H', rt, nx, fun σ' H' => ∃ m', m' < m ∧ W m' σ' H'⟩ σ H) : WhT W m tb rt nx σ H := ⟨_, fun _ _ z => z, h⟩
theorem w_whileN {c : TT} {tb : TS} (W : Nat → St → Hp → Prop) (m0 : Nat) (h0 : W m0 σ H) (hs : ∀ m σ H, W m σ H → c σ H fun b H1 => if b = true then WhT W m tb rt nx σ H1 else nx σ H1) : tWhile c tb ⟨nx, rt, bk, ct⟩ σ H := ⟨W, ⟨m0, h0⟩, hs⟩
/-! comprehensions -/
def LcP (J : It) (g : TG) (tt : TT) (te : TE) (vs : List Nat) (Q : VK) (σ : St) (H1 : Hp) : Prop := ∀ D, H1 D = none → ∃ W : Nat → Nat → Hp → Prop, (∃ m, W 0 m (upd H1 D (.lst []))) ∧ ∀ i m H, W i m H →
  (J.stop i H ∧ Q (.ref D) H) ∨ (J.go i H ∧ ∃ Nx : Hp → Prop, (∀ H', Nx H' → ∃ m', m' < m ∧ W (i + 1) m' H') ∧ ∀ x H', J.yld i H x H' → g x (wipe σ vs) H' fun σ2 H2 => wipe σ2 vs = wipe σ vs ∧ tt σ2 H2 fun b H3 =>
    if b = true then te σ2 H3 fun y H4 => ∃ acc, H4 D = some (.lst acc) ∧ acc.length < sizeLine ∧ Nx (upd H4 D (.lst (acc ++ [y]))) else Nx H3)
theorem w_lc {wi : TI} {g : TG} {tt : TT} {te : TE} {vs : List Nat} (h : wi σ H fun J H1 => LcP J g tt te vs Q σ H1) : tLc wi g tt te vs σ H Q := h
/-- each turn adds one: the k-th is ys[k]; what stood but M stands -/
theorem lcp_map {J : It} {n : Nat} {G : Hp → Prop} {Y : Nat → Hp → V → Hp → Prop} (w : Walk J n G Y) {g : TG} {te : TE} {vs : List Nat} (M : List Addr) (ys : List V) (hn : ys.length = n) (hz : n ≤ 1000000) (hG : ∀ H', Kp M H H' → G H')
    (hs : ∀ i x H1 H2 (R : V → Hp → Prop), i < n → Kp M H H1 → Y i H1 x H2 → (∀ y H4, ys[i]? = some y → Kp M H1 H4 → R y H4) → g x (wipe σ vs) H2 fun σ2 H3 => wipe σ2 vs = wipe σ vs ∧ te σ2 H3 R)
    (hM : ∀ b ∈ M, ∃ o, H b = some o)
    (hd : ∀ D H', H D = none → Kp M H H' → H' D = some (.lst ys) → Q (.ref D) H') : LcP J g tYes te vs Q σ H := by
  intro D hD
  have hDM : D ∉ M := fun z => by obtain ⟨o, e⟩ := hM D z; rw [hD] at e; cases e
  refine lc_it w (fun i H' => Kp M H H' ∧ H' D = some (.lst (ys.take i))) ⟨Kp.new hD, upd_same⟩ (fun i H' _ z => hG H' z.1) ?_ ?_
  · rintro i x H1 H2 hi ⟨k1, e1⟩ y
    refine (hs i x H1 H2 _ hi k1 y ?_)
    intro z H4 hz' k4
    refine ⟨ys.take i, k4 _ _ hDM e1, ?_, ?_, ?_⟩
    · rw [List.length_take]; exact Nat.lt_of_le_of_lt (Nat.min_le_left _ _) (Nat.lt_of_lt_of_le (Nat.lt_of_lt_of_le hi hz) (by decide))
    · exact (k1.trans k4).mutN hD
    · rw [upd_same, List.take_add_one, hz']; rfl
  · rintro H' ⟨k, e⟩
    rw [List.take_of_length_le (by omega)] at e
    exact hd D H' hD k e
/-- each turn adds one of which P holds (P leans on tuples alone); S: what else holds turn by turn -/
theorem lcp_gen {J : It} {n : Nat} {G : Hp → Prop} {Y : Nat → Hp → V → Hp → Prop} (w : Walk J n G Y) {g : TG} {te : TE} {vs : List Nat} (M : List Addr) (P : Nat → V → Hp → Prop) (S : Nat → Hp → Prop) (hz : n ≤ 1000000)
    (mono : ∀ i y H1 H2, KT H1 H2 → P i y H1 → P i y H2) (SD : ∀ D, H D = none → ∀ i H1 o, S i H1 → S i (upd H1 D o)) (hG : ∀ i H', Kp M H H' → S i H' → G H') (S0 : S 0 H)
    (hs : ∀ i x H1 H2 (R : V → Hp → Prop), i < n → Kp M H H1 → KT H H1 → S i H1 → Y i H1 x H2 → (∀ y H4, P i y H4 → Kp M H1 H4 → KT H1 H4 → S (i + 1) H4 → R y H4) → g x (wipe σ vs) H2 fun σ2 H3 => wipe σ2 vs = wipe σ vs ∧ te σ2 H3 R)
    (hM : ∀ b ∈ M, ∃ o, H b = some o)
    (hd : ∀ D H' ys, ys.length = n → (∀ i y, ys[i]? = some y → P i y H') → H D = none → Kp M H H' → KT H H' → S n H' → H' D = some (.lst ys) → Q (.ref D) H') : LcP J g tYes te vs Q σ H := by
  intro D hD
  have hDM : D ∉ M := fun z => by obtain ⟨o, e⟩ := hM D z; rw [hD] at e; cases e
  refine lc_it w (fun i H' => Kp M H H' ∧ KT H H' ∧ S i H' ∧ ∃ ys, ys.length = i ∧ H' D = some (.lst ys) ∧ ∀ k y, ys[k]? = some y → P k y H') ⟨Kp.new hD, KT.refl.upd hD, SD D hD _ _ _ S0, [], rfl, upd_same, by simp⟩ (fun i H' _ z => hG i H' z.1 z.2.2.1) ?_ ?_
  · rintro i x H1 H2 hi ⟨k1, t1, s1, ys, hl, e1, hp⟩ y
    refine hs i x H1 H2 _ hi k1 t1 s1 y ?_
    intro z H4 pz k4 t4 s4
    have e4 := k4 _ _ hDM e1
    refine ⟨ys, e4, ?_, (k1.trans k4).mutN hD, (t1.trans t4).upd hD, SD D hD _ _ _ s4, ys ++ [z], by rw [List.length_append, hl]; rfl, upd_same, ?_⟩
    · rw [hl]; exact Nat.lt_of_lt_of_le (Nat.lt_of_lt_of_le hi hz) (by decide)
    · intro k y' hy'
      by_cases hk : k < ys.length
      · rw [List.getElem?_append_left hk] at hy'
        exact mono _ _ _ _ (KT.updL e4) (mono _ _ _ _ t4 (hp k y' hy'))
      · rw [List.getElem?_append_right (by omega)] at hy'
        by_cases hk2 : k = ys.length
        · subst hk2
          have e : z = y' := by simpa using hy'
          subst e
          rw [hl]
          exact mono _ _ _ _ (KT.updL e4) pz
        · rw [List.getElem?_eq_none (by simp; omega)] at hy'
          cases hy'
  · rintro H' ⟨k, t, sn, ys, hl, e, hp⟩
    exact hd D H' ys hl hp hD k t sn e
theorem lcp_rel {J : It} {n : Nat} {G : Hp → Prop} {Y : Nat → Hp → V → Hp → Prop} (w : Walk J n G Y) {g : TG} {te : TE} {vs : List Nat} (M : List Addr) (P : Nat → V → Hp → Prop) (hz : n ≤ 1000000)
    (mono : ∀ i y H1 H2, KT H1 H2 → P i y H1 → P i y H2) (hG : ∀ H', Kp M H H' → G H')
    (hs : ∀ i x H1 H2 (R : V → Hp → Prop), i < n → Kp M H H1 → KT H H1 → Y i H1 x H2 → (∀ y H4, P i y H4 → Kp M H1 H4 → KT H1 H4 → R y H4) → g x (wipe σ vs) H2 fun σ2 H3 => wipe σ2 vs = wipe σ vs ∧ te σ2 H3 R)
    (hM : ∀ b ∈ M, ∃ o, H b = some o)
    (hd : ∀ D H' ys, ys.length = n → (∀ i y, ys[i]? = some y → P i y H') → H D = none → Kp M H H' → KT H H' → H' D = some (.lst ys) → Q (.ref D) H') : LcP J g tYes te vs Q σ H :=
  lcp_gen w M P (fun _ _ => True) hz mono (fun _ _ _ _ _ _ => trivial) (fun _ H' k _ => hG H' k) trivial (fun i x H1 H2 R hi k t _ y h => hs i x H1 H2 R hi k t y fun y' H4 p k4 t4 => h y' H4 p k4 t4 trivial) hM fun D H' ys h1 h2 h3 h4 h5 _ h6 => hd D H' ys h1 h2 h3 h4 h5 h6
theorem refs_of {α : Type} (C : Addr → α → Prop) : ∀ (ys : List V) (F : Nat → α), (∀ j y, ys[j]? = some y → ∃ p, y = .ref p ∧ C p (F j)) → ∃ ps : List (Addr × α), ys = ps.map (fun q => .ref q.1) ∧ ps.map (·.2) = (List.range ys.length).map F ∧ ∀ q ∈ ps, C q.1 q.2
  | [], _, _ => ⟨[], rfl, rfl, by simp⟩
  | y :: r, F, h => by
    obtain ⟨p, rfl, hp⟩ := h 0 y rfl
    obtain ⟨ps, e1, e2, e3⟩ := refs_of C r (F ∘ Nat.succ) fun j z hz => h (j + 1) z hz
    refine ⟨(p, F 0) :: ps, by rw [e1]; rfl, ?_, ?_⟩
    · rw [List.length_cons, List.range_succ_eq_map, List.map_cons, e2, List.map_cons, List.map_map]
    · intro q hq
      rcases List.mem_cons.mp hq with rfl | hq
      · exact hp
      · exact e3 q hq
end
/-! ### errors -/
/-- what the top has written of an own error class without __init__ -/
structure Exn (K : PySem.W.Frag) (mg : Str → Option Value) (x : Str) (C : Addr) : Prop where
  g : mg x = some (.ref C)
  x : PySem.W.excIn K C [.type "ValueError", .type "Exception", .type "BaseException", .type "object"] "ValueError.__new__" = true
  k : PySem.W.keepIn K (.ref C) = true
  b : PySem.W.subIn K (.ref C) (.type "BaseException") = some true
  t : PySem.W.typeIn K (.ref C) = some (.type "type")
  e : PySem.W.exmOne K (.ref C) (.ref C) = some true
theorem exm_is {K : PySem.W.Frag} {t : Value} {C : Addr} {r : Bool} (hb : PySem.W.subIn K (.ref C) (.type "BaseException") = some true) (hi : PySem.W.isClsIn K C = true) (ht : PySem.W.typeIn K (.ref C) = some (.type "type")) (hs : PySem.W.subIn K t (.ref C) = some r) : PySem.W.exmOne K t (.ref C) = some r := by
  have hi' : (PySem.W.clsIn K C).isSome = true := hi
  unfold PySem.W.exmOne
  rw [hb, if_pos (by rfl)]
  show (if ((PySem.W.clsIn K C).isSome && PySem.W.typeIn K (Value.ref C) == some (Value.type "type")) = true then PySem.W.subIn K t (Value.ref C) else none) = some r
  rw [hi', ht]
  exact hs
def tTryO (K : PySem.W.Frag) (c : Value) (tb : WX → TS) (ts : Addr → Value → Option Addr → TS) : TS := fun D σ H => tb (wOnly K c ts (fun _ _ _ _ => False) D) D σ H
section
variable {X : Cx} {x : Str} {c : Value} {body suite : List Stmt} {b₀ : Stmt} {np pos pos' : Pos} {tb : WX → TS} {ts : Addr → Value → Option Addr → TS}
theorem p_try (hs : X.stack = X.env :: X.outer) (hf : X.env.frame = some X.env.locals) (hc : Names X x c)
    (hb : ∀ (W : WX) (pn : List (Addr × Obj)) (xe : Value → Shared → Prop), Takes (X.tr pn xe) W → PassesOwn (model X.prog X.w) X.A X.env xe → PSs (X.tr pn xe) body (tb W))
    (hsu : ∀ (a : Addr) (oe : Obj) (cls : Value) (d : Option Addr) (pn : List (Addr × Obj)), Zc cls d oe → (∃ vs, oe.data = .fields vs) → PSs (X.suite a ((a, oe) :: pn)) (b₀ :: suite) (ts a cls d)) :
    PS X (.Try body [.ExceptHandler (some (.Name x np)) none (b₀ :: suite) pos'] [] [] pos) (tTryO X.K c tb ts) := ps_try_only hs hf hc takes0 hb hsu
end
section
variable {K : PySem.W.Frag} {σ : St} {H : Hp} {nx bk ct : St → Hp → Prop} {rt : VK}
theorem w_try {c : Value} {tb : WX → TS} {ts : Addr → Value → Option Addr → TS} (h : tb (wOnly K c ts (fun _ _ _ _ => False) ⟨nx, rt, bk, ct⟩) ⟨nx, rt, bk, ct⟩ σ H) : tTryO K c tb ts ⟨nx, rt, bk, ct⟩ σ H := h
theorem w_only {c cls : Value} {d : Option Addr} {ts : Addr → Value → Option Addr → TS} {Wo : WX} {D : Ends} (e : PySem.W.exmOne K cls c = some true) (h : ∀ a, H a = none → ts a cls d D σ H) : wOnly K c ts Wo D cls d σ H := ⟨true, e, fun _ => h, fun z => nomatch z⟩
end
/-! ### dict comprehensions -/
section
open PySem.Spec PyProof.Rows
variable {X : Cx}
/-- name = {k: v for ..}, the name a local: as the layer's rule for a list's comprehension -/
theorem ps_setDc {i : Nat} {y : Str} {py : Pos} {kx vx tg iter : Expr} {ifs : List Expr} {scope : Scope} {own : List (Str × Nat)} {pos spos : Pos} {wi : TI} {g : TG} {tt : TT} {tk tv : TE}
    (hc : X.calm = true) (hN : X.N.Nodup) (hy : X.N[i]? = some y) (hyl : X.env.scope.names.lookup y = some .local)
    (hsw : swapsWith (.DictComp kx vx [⟨tg, iter, ifs, 0⟩] scope pos) (some (.Name y py)) spos.line X.env = pure true)
    (hi : PI X tg iter wi) (ok : BlkOk X.N X.env.scope scope own)
    (hg : ∀ s0 H0 C0 cl fp, PG (X.blk s0 H0 scope (compEnvC scope cl C0 X.env) fp) tg g) (ht : ∀ s0 H0 C0 cl fp, PTs (X.blk s0 H0 scope (compEnvC scope cl C0 X.env) fp) ifs tt)
    (hk : ∀ s0 H0 C0 cl fp, PE (X.blk s0 H0 scope (compEnvC scope cl C0 X.env) fp) kx tk) (he : ∀ s0 H0 C0 cl fp, PE (X.blk s0 H0 scope (compEnvC scope cl C0 X.env) fp) vx tv)
    (hs : ∀ z, foldedSetIterable iter X.env z = pure z := by intro _; rfl) :
    PS X (.Assign [.Name y py] (.DictComp kx vx [⟨tg, iter, ifs, 0⟩] scope pos) spos) (tAsg (tDc wi g tt tk tv (own.map (·.2))) (gName i)) := by
  constructor
  intro pins s σ H Ed I h
  rw [exec_Assign_Name_used y py _ _ hsw]
  apply wpAny_bind
  apply wpAny_standAt
  apply wpAny_bind
  show wpAny _ X.A (comprehension (.DictComp kx vx [⟨tg, iter, ifs, 0⟩] scope pos) scope X.env (firstIterPos [⟨tg, iter, ifs, 0⟩] pos) newDict false (eval iter X.env) (some (assign (.Name y py) X.env)) >>= fun _ => pure ()) _ _ s
  apply wpAny_bind
  have h' : tDc wi g tt tk tv (own.map (·.2)) σ H (fun x H1 => gName i x σ H1 Ed.nx) := h
  refine thn (dc_core (Qf := fun _ s1 => SP X pins Ed .next s1) hc hN I hi ok hg ht hk he hs h' ?_) (fun _ _ z => wpAny_pure (wpAny_pure z))
  intro L C s1 m H1 I1 q hn ff
  obtain ⟨f0, f1, f2, f3, f4, f5⟩ := ff
  show wpAny _ _ (assign (.Name y py) X.env (.ref L)) _ _ _
  apply wpAny_assign_Name
  refine store_ok2 (v := V.ref L) I1 hN hy (.inl hyl) rfl ?_ (.inr hyl)
  rintro s2 I2 ⟨ad, sb, had⟩
  have hne : C ≠ ad := by
    rcases had with hz | hz
    · exact fun e => f1 (e.trans hz)
    · exact fun e => f4 y ad hz e.symm
  refine ⟨m, hn.sameBut sb hne, fun h3 sb3 => ⟨_, H1, ?_, q⟩⟩
  exact I2.turned (t' := s2.toks) (fun b o hb e => (sb3.2 b hb).trans e) f0 f1 f3 f4 f5
theorem sw_trueD {kx vx : Expr} {gs : List Comprehension} {scope : Scope} {pos py : Pos} {y : Str} {l : Nat} {env : Env} (hkd : env.scope.kind = .function) (hlk : env.scope.names.lookup y = some .local)
    (hln : (py.line == pos.line) = true) (hno : (scope.names.any fun (n, k) => n == y && (k == .local || k == .cell)) = false) : swapsWith (.DictComp kx vx gs scope pos) (some (.Name y py)) l env = pure true := by
  have e1 : env.kindOf y = some .local := hlk
  have e2 : env.blockKind = .function := by
    unfold Env.blockKind
    rw [hkd]
    rfl
  unfold swapsWith
  simp only [e2, e1, hno, Expr.pos, hln]
  rfl
end
section
variable {K : PySem.W.Frag} {σ : St} {H : Hp} {Q : VK}
def DcP (J : It) (g : TG) (tt : TT) (tk tv : TE) (vs : List Nat) (Q : VK) (σ : St) (H1 : Hp) : Prop := ∀ D, H1 D = none → ∃ W : Nat → Nat → Hp → Prop, (∃ m, W 0 m (upd H1 D (.dK []))) ∧ ∀ i m H, W i m H →
  (J.stop i H ∧ Q (.ref D) H) ∨ (J.go i H ∧ ∃ Nx : Hp → Prop, (∀ H', Nx H' → ∃ m', m' < m ∧ W (i + 1) m' H') ∧ ∀ x H', J.yld i H x H' → g x (wipe σ vs) H' fun σ2 H2 => wipe σ2 vs = wipe σ vs ∧ tt σ2 H2 fun b H3 =>
    if b = true then tk σ2 H3 fun y H4 => tv σ2 H4 fun z H5 => ∃ kvs k, y = kV k ∧ H5 D = some (.dK kvs) ∧ kvs.length < sizeLine ∧ Nx (upd H5 D (.dK (putK kvs k z))) else Nx H3)
theorem w_dc {wi : TI} {g : TG} {tt : TT} {tk tv : TE} {vs : List Nat} (h : wi σ H fun J H1 => DcP J g tt tk tv vs Q σ H1) : tDc wi g tt tk tv vs σ H Q := h
theorem putK_len' {κ : Type} [DecidableEq κ] (c : List (κ × V)) (k : κ) (x : V) : (putK c k x).length ≤ c.length + 1 := by
  unfold putK
  by_cases e : (c.any fun kv => decide (kv.1 = k)) = true
  · rw [if_pos e, List.length_map]; omega
  · rw [if_neg e, List.length_append]; simp
theorem mergeK_len (es : List (Key × V)) : ∀ acc, (mergeK acc es).length ≤ acc.length + es.length := by
  unfold mergeK
  induction es with
  | nil => intro acc; simp
  | cons e r ih =>
    intro acc
    have h1 := ih (putK acc e.1 e.2)
    have h2 := putK_len' acc e.1 e.2
    simp only [List.foldl_cons, List.length_cons] at *
    omega
theorem mergeK_snoc (acc es : List (Key × V)) (e : Key × V) : mergeK acc (es ++ [e]) = putK (mergeK acc es) e.1 e.2 := by
  unfold mergeK; rw [List.foldl_append]; rfl
/-- each turn adds a pair: the k-th is es[k]; what stood but M stands -/
theorem dcp_map {J : It} {n : Nat} {G : Hp → Prop} {Y : Nat → Hp → V → Hp → Prop} (w : Walk J n G Y) {g : TG} {tk tv : TE} {vs : List Nat} (M : List Addr) (es : List (Key × V)) (hn : es.length = n) (hz : n ≤ 1000000) (hG : ∀ H', Kp M H H' → G H')
    (hs : ∀ i x H1 H2 (R : V → V → Hp → Prop), i < n → Kp M H H1 → Y i H1 x H2 → (∀ e H4, es[i]? = some e → Kp M H1 H4 → R (kV e.1) e.2 H4) → g x (wipe σ vs) H2 fun σ2 H3 => wipe σ2 vs = wipe σ vs ∧ tk σ2 H3 fun y H4 => tv σ2 H4 fun z H5 => R y z H5)
    (hM : ∀ b ∈ M, ∃ o, H b = some o)
    (hd : ∀ D H', H D = none → Kp M H H' → H' D = some (.dK (mergeK [] es)) → Q (.ref D) H') : DcP J g tYes tk tv vs Q σ H := by
  intro D hD
  have hDM : D ∉ M := fun z => by obtain ⟨o, e⟩ := hM D z; rw [hD] at e; cases e
  refine ⟨fun i m H' => m = n - i ∧ i ≤ n ∧ Kp M H H' ∧ H' D = some (.dK (mergeK [] (es.take i))), ⟨n, by simp, Nat.zero_le _, Kp.new hD, upd_same⟩, ?_⟩
  rintro i m H1 ⟨rfl, hi, k1, e1⟩
  by_cases hlt : i < n
  · refine .inr ⟨w.goes i H1 hlt (hG _ k1), fun H' => Kp M H H' ∧ H' D = some (.dK (mergeK [] (es.take (i + 1)))), fun H' z => ⟨n - (i + 1), by omega, rfl, hlt, z.1, z.2⟩, fun x H2 y => ?_⟩
    refine hs i x H1 H2 (fun y z H5 => ∃ kvs k, y = kV k ∧ H5 D = some (.dK kvs) ∧ kvs.length < sizeLine ∧ (Kp M H (upd H5 D (.dK (putK kvs k z))) ∧ (upd H5 D (.dK (putK kvs k z))) D = some (.dK (mergeK [] (es.take (i + 1)))))) hlt k1 (w.yields i H1 x H2 hlt (hG _ k1) y) ?_
    intro e H4 he k4
    refine ⟨mergeK [] (es.take i), e.1, rfl, k4 _ _ hDM e1, ?_, (k1.trans k4).mutN hD, ?_⟩
    · have h1 := mergeK_len (es.take i) []
      have h2 : (es.take i).length ≤ 1000000 := by rw [List.length_take]; omega
      exact Nat.lt_of_le_of_lt (Nat.le_trans h1 (by simpa using h2)) (by decide)
    · rw [upd_same, List.take_add_one, he]
      show _ = some (HO.dK (mergeK [] (es.take i ++ [e])))
      rw [mergeK_snoc]
  · have e : i = n := by omega
    subst e
    rw [List.take_of_length_le (by omega)] at e1
    exact .inl ⟨w.stops H1 (hG _ k1), hd D H1 hD k1 e1⟩
theorem valV_merge (k : Key) : ∀ (es acc : List (Key × V)), (valV (mergeK acc es) k).isSome = ((valV acc k).isSome || es.any fun e => decide (e.1 = k)) := by
  intro es
  induction es with
  | nil => intro acc; show (valV acc k).isSome = _; simp
  | cons e r ih =>
    intro acc
    show (valV (mergeK (putK acc e.1 e.2) r) k).isSome = _
    rw [ih, valV_put, List.any_cons]
    by_cases h : k = e.1
    · rw [if_pos h, decide_eq_true h.symm]; simp
    · rw [if_neg h, decide_eq_false (fun z => h z.symm)]; simp
/-- {x: True for x in ns}: who is in it -/
theorem known_in (ns : List Int) (f : Int → V) (n : Int) : (valV (mergeK [] (ns.map fun i => ((Sum.inl i : Key), f i))) (Sum.inl n)).isSome = decide (n ∈ ns) := by
  rw [valV_merge, valV_nil]
  rw [Bool.eq_iff_iff]
  simp
end
/-! ### ints -/
theorem cmul_l {i j : Int} (h1 : -(2 ^ 64) < i) (h2 : i < 2 ^ 64) : CMul i j := .inl ⟨h1, h2⟩
theorem cmul_r {i j : Int} (h1 : -(2 ^ 64) < j) (h2 : j < 2 ^ 64) : CMul i j := .inr ⟨h1, h2⟩
theorem cdivw {i j : Int} (h1 : 0 < j) (h2 : j < 2 ^ 64) : CDivW i j := wide_div (b := 64) h1 (by omega) (by decide) (by decide)
theorem at_lt {α : Type} {xs : List α} {i : Int} (h0 : 0 ≤ i) (h1 : i < xs.length) : ∃ v, xs[i.toNat]? = some v ∧ atI xs i = some v := by
  have hl : i.toNat < xs.length := by omega
  refine ⟨xs[i.toNat], List.getElem?_eq_getElem hl, ?_⟩
  have e := atI_nat (xs := xs) (j := i.toNat) (List.getElem?_eq_getElem hl)
  rw [Int.toNat_of_nonneg h0] at e
  exact e
theorem at_neg1 {xs : List V} {d : V} (h : 0 < xs.length) : atI xs (-1) = some (xs.getLastD d) := by
  have hne : xs ≠ [] := by intro z; subst z; simp at h
  have z := atI_last xs.dropLast (xs.getLast hne)
  rw [List.dropLast_concat_getLast hne] at z
  rw [z, List.getLastD_eq_getLast?, List.getLast?_eq_some_getLast hne]
  rfl
/-! ### the deck -/
def MOSTD : Nat := 1099511627776
structure Deck (H : Hp) (d c : Addr) (n : Nat) : Prop where
  ex : ∃ (cs : List Int) (a : Nat) (b : Int) (t : Nat), H d = some (.lst [.ref c, .int a, .int b, .int t]) ∧ H c = some (.lst (cs.map V.int)) ∧ t ≤ n
  ne : c ≠ d
theorem Deck.kp {M : List Addr} {H H' : Hp} {d c : Addr} {n : Nat} (k : Kp M H H') (h1 : d ∉ M) (h2 : c ∉ M) (D : Deck H d c n) : Deck H' d c n := by
  obtain ⟨⟨cs, a, b, t, e1, e2, e3⟩, ne⟩ := D
  exact ⟨⟨cs, a, b, t, k _ _ h1 e1, k _ _ h2 e2, e3⟩, ne⟩
theorem Deck.new {H : Hp} {d c : Addr} {n : Nat} {p : Addr} {o : HO} (h : H p = none) (D : Deck H d c n) : Deck (upd H p o) d c n := D.kp (M := []) (Kp.new h) (by simp) (by simp)
theorem Deck.mut {H : Hp} {d c : Addr} {n : Nat} {p : Addr} {o : HO} (h1 : p ≠ d) (h2 : p ≠ c) (D : Deck H d c n) : Deck (upd H p o) d c n :=
  D.kp (M := [p]) (Kp.mut (by simp)) (by simpa using Ne.symm h1) (by simpa using Ne.symm h2)
theorem Deck.mono {H : Hp} {d c : Addr} {n m : Nat} (D : Deck H d c n) (h : n ≤ m) : Deck H d c m := by
  obtain ⟨⟨cs, a, b, t, e1, e2, e3⟩, ne⟩ := D
  exact ⟨⟨cs, a, b, t, e1, e2, Nat.le_trans e3 h⟩, ne⟩
theorem Deck.at {H : Hp} {d c : Addr} {n : Nat} (D : Deck H d c n) : (∃ xs, H d = some (.lst xs)) ∧ ∃ xs, H c = some (.lst xs) := by
  obtain ⟨⟨cs, a, b, t, e1, e2, e3⟩, ne⟩ := D
  exact ⟨⟨_, e1⟩, ⟨_, e2⟩⟩
theorem Deck.ne1 {H : Hp} {d c p : Addr} {n : Nat} (D : Deck H d c n) (h : H p = none) : p ≠ d ∧ p ≠ c := by
  obtain ⟨⟨xs, e1⟩, ys, e2⟩ := D.at
  exact ⟨(ne_of_none e1 h).symm, (ne_of_none e2 h).symm⟩
end FW

set_option Elab.async false
set_option linter.all false
set_option maxRecDepth 100000
set_option maxHeartbeats 4000000
/-! {key: value for a in as if .. for b in bs if ..}: a dict by two clauses, as a rule of the layer (my own: the layer has it for lists). -/
namespace FW
open PySem PySem.Spec PyProof.Rows L2
section
variable {kx vx ta ia tb ib : Expr} {fa fb : List Expr} {sc : Scope} {ps : Pos}
abbrev two (kx vx ta ia : Expr) (fa : List Expr) (tb ib : Expr) (fb : List Expr) (sc : Scope) (ps : Pos) : Expr := .DictComp kx vx [⟨ta, ia, fa, 0⟩, ⟨tb, ib, fb, 0⟩] sc ps
/-- the tests of a clause, one behind the other -/
abbrev testsOf2 (fs : List Expr) (env : Env) : Sem Bool := forIn fs true fun c r => if r = true then do let ok ← isTrue c env (eval c env); pure (ForInStep.yield ok) else pure (ForInStep.yield r)
theorem turn_first (it : Value) (D : Addr) (env : Env) : compTurn (two kx vx ta ia fa tb ib fb sc ps) 0 it (.ref D) env = (do
    standAt ia.pos
    match ← pyNext it with
    | none => pure (.done .next)
    | some u =>
      letOwnedTupleGo ta it u
      assign ta env u
      let mut good := true
      for c in fa do
        if good then good ← isTrue c env (eval c env)
      if good then
        let y ← eval ib env
        standAt ib.pos
        let y ← foldedSetIterable ib env y
        let _ ← runOwn (.compStart (two kx vx ta ia fa tb ib fb sc ps) 1 (← holding [y] (pyIter y)) (.ref D) env) env
      again (.compLoop (two kx vx ta ia fa tb ib fb sc ps) 0 it (.ref D) env)) := by rfl
theorem turn_second (it : Value) (D : Addr) (env : Env) : compTurn (two kx vx ta ia fa tb ib fb sc ps) 1 it (.ref D) env = (do
    standAt ib.pos
    match ← pyNext it with
    | none => pure (.done .next)
    | some u =>
      letOwnedTupleGo tb it u
      assign tb env u
      let mut good := true
      for c in fb do
        if good then good ← isTrue c env (eval c env)
      if good then
        (do
          let k ← eval kx env
          let v ← holding [k] (eval vx env)
          standAt { kx.pos with endLine := vx.pos.endLine, endCol := vx.pos.endCol }
          holding [k, v] (dictSet D k v))
      again (.compLoop (two kx vx ta ia fa tb ib fb sc ps) 1 it (.ref D) env)) := by rfl
variable {pg : Program} {wd : World} {A : Around} {R : Result → Shared → Prop} {st : Shared} {it : Value} {D : Addr} {env : Env}
/-- the first clause's loop; nothing raises in it -/
theorem loop_first (hf : ∀ y, foldedSetIterable ib env y = pure y) (G : Nat → Shared → Prop)
    (go : ∀ n z, G n z → wpAny (model pg wd) A (pyNext it) (fun r z1 => match r with
      | none => R (.ok .next) z1
      | some u => wpAny (model pg wd) A (letOwnedTupleGo ta it u) (fun _ z2 => wpAny (model pg wd) A (assign ta env u) (fun _ z3 => wpAny (model pg wd) A (testsOf2 fa env) (fun b z4 =>
          if b = true then wpAny (model pg wd) A (eval ib env) (fun y z5 => wpAny (model pg wd) A (pyIter y) (fun j z6 =>
            codeAny (model pg wd) A (.compStart (two kx vx ta ia fa tb ib fb sc ps) 1 j (.ref D) env) (fun r z7 => match r with
              | .ok _ => ∃ m, m < n ∧ G m z7
              | .error _ => False) z6) (fun _ _ => False) z5) (fun _ _ => False) z4
          else ∃ m, m < n ∧ G m z4) (fun _ _ => False) z3) (fun _ _ => False) z2) (fun _ _ => False) z1) (fun _ _ => False) z)
    (n : Nat) (h : G n st) : codeAny (model pg wd) A (.compLoop (two kx vx ta ia fa tb ib fb sc ps) 0 it (.ref D) env) R st := by
  refine codeAny_loop rfl G ?_ n h
  intro n z hz
  show wpAny _ A ((compTurn (two kx vx ta ia fa tb ib fb sc ps) 0 it (.ref D) env).onRaise _) _ _ z
  apply wpAny_noted
  rw [turn_first]
  apply wpAny_bind
  apply wpAny_standAt
  apply wpAny_bind
  refine thnF (go n z hz) fun r z1 h1 => ?_
  cases r with
  | none => exact wpAny_pure h1
  | some u =>
    apply wpAny_bind
    refine thnF h1 fun _ z2 h2 => ?_
    apply wpAny_bind
    refine thnF h2 fun _ z3 h3 => ?_
    apply wpAny_bind
    refine thnF h3 fun b z4 h4 => ?_
    cases b with
    | false => exact wpAny_pure ⟨rfl, h4⟩
    | true =>
      apply wpAny_bind
      refine thnF h4 fun y z5 h5 => ?_
      apply wpAny_bind
      apply wpAny_standAt
      apply wpAny_bind
      refine wpAny_of_eq (hf y) ?_
      apply wpAny_bind
      apply wpAny_holding
      refine thnF h5 fun j z6 h6 => ?_
      apply wpAny_bind
      refine wpAny_runOwn ?_
      rw [Around.mark_none]
      refine codeAny_mono h6 fun r z7 h7 => ?_
      cases r with
      | error _ => exact False.elim h7
      | ok _ => first | exact wpAny_pure ⟨rfl, h7⟩ | exact wpAny_bind (wpAny_pure (wpAny_pure ⟨rfl, h7⟩))
/-- the second clause's loop -/
theorem loop_second (G : Nat → Shared → Prop)
    (go : ∀ n z, G n z → wpAny (model pg wd) A (pyNext it) (fun r z1 => match r with
      | none => R (.ok .next) z1
      | some u => wpAny (model pg wd) A (letOwnedTupleGo tb it u) (fun _ z2 => wpAny (model pg wd) A (assign tb env u) (fun _ z3 => wpAny (model pg wd) A (testsOf2 fb env) (fun b z4 =>
          if b = true then wpAny (model pg wd) A (eval kx env) (fun k z5 => wpAny (model pg wd) A (eval vx env) (fun v z6 => wpAny (model pg wd) A (dictSet D k v) (fun _ z7 => ∃ m, m < n ∧ G m z7) (fun _ _ => False) z6) (fun _ _ => False) z5) (fun _ _ => False) z4
          else ∃ m, m < n ∧ G m z4) (fun _ _ => False) z3) (fun _ _ => False) z2) (fun _ _ => False) z1) (fun _ _ => False) z)
    (n : Nat) (h : G n st) : codeAny (model pg wd) A (.compLoop (two kx vx ta ia fa tb ib fb sc ps) 1 it (.ref D) env) R st := by
  refine codeAny_loop rfl G ?_ n h
  intro n z hz
  show wpAny _ A ((compTurn (two kx vx ta ia fa tb ib fb sc ps) 1 it (.ref D) env).onRaise _) _ _ z
  apply wpAny_noted
  rw [turn_second]
  apply wpAny_bind
  apply wpAny_standAt
  apply wpAny_bind
  refine thnF (go n z hz) fun r z1 h1 => ?_
  cases r with
  | none => exact wpAny_pure h1
  | some u =>
    apply wpAny_bind
    refine thnF h1 fun _ z2 h2 => ?_
    apply wpAny_bind
    refine thnF h2 fun _ z3 h3 => ?_
    apply wpAny_bind
    refine thnF h3 fun b z4 h4 => ?_
    cases b with
    | false => exact wpAny_pure ⟨rfl, h4⟩
    | true =>
      apply wpAny_bind
      apply wpAny_bind
      refine thnF h4 fun k z5 h5 => ?_
      apply wpAny_bind
      apply wpAny_holding
      refine thnF h5 fun v z6 h6 => ?_
      apply wpAny_bind
      apply wpAny_standAt
      apply wpAny_holding
      exact thnF h6 fun _ z7 h7 => wpAny_pure ⟨rfl, h7⟩
/-- the second clause begins -/
theorem start_second (h0 : codeAny (model pg wd) A (.compLoop (two kx vx ta ia fa tb ib fb sc ps) 1 it (.ref D) env) R st)
    (h1 : wpAny (model pg wd) A (pyIter it) (fun j z => codeAny (model pg wd) A (.compLoop (two kx vx ta ia fa tb ib fb sc ps) 1 j (.ref D) env) R z) (notedBy (model pg wd) A env fun x z => R (.error x) z) st) :
    codeAny (model pg wd) A (.compStart (two kx vx ta ia fa tb ib fb sc ps) 1 it (.ref D) env) R st := by
  apply codeAny_of_tree
  show wpAny _ _ ((compStart (two kx vx ta ia fa tb ib fb sc ps) 1 it (.ref D) env).onRaise _) _ _ st
  apply wpAny_notedAt
  unfold compStart
  show wpAny _ _ (ask >>= _) _ _ st
  apply wpAny_bind
  apply wpAny_askSetting
  apply wpAny_ite
  split
  · first | exact wpAny_bind (wpAny_pure (wpAny_pure ⟨rfl, h0⟩)) | exact wpAny_pure ⟨rfl, h0⟩
  · apply wpAny_bind
    apply wpAny_rule
    show wpAny _ _ (standAt ib.pos >>= _) _ _ st
    apply wpAny_bind
    apply wpAny_standAt
    apply wpAny_bind
    exact wpAny_mono h1 (fun _ _ q => wpAny_pure ⟨rfl, q⟩) fun _ _ q => q
end
section
variable {X : Cx} {kx vx ta ia tb ib : Expr} {fa fb : List Expr} {sc : Scope} {ps qs : Pos} {own : List (Str × Nat)} {us : List Nat} {wa wb : TI} {ga gb : TG} {ra rb : TT} {tk tv : TE}
/-- the inner walk of one turn: from it Nx is reached -/
def Inner2 (J : It) (gb : TG) (rb : TT) (tk tv : TE) (us : List Nat) (D : Addr) (σ : L2.St) (H : Hp) (Nx : Hp → Prop) : Prop := ∃ W : Nat → Nat → Hp → Prop, (∃ m, W 0 m H) ∧ ∀ j k H1, W j k H1 →
  (J.stop j H1 ∧ Nx H1) ∨ (J.go j H1 ∧ ∃ Ny : Hp → Prop, (∀ H2, Ny H2 → ∃ k', k' < k ∧ W (j + 1) k' H2) ∧ ∀ x H2, J.yld j H1 x H2 → gb x (wipe σ us) H2 fun σ3 H3 => wipe σ3 us = wipe σ us ∧ rb σ3 H3 fun b H4 =>
    if b = true then tk σ3 H4 fun y H5 => tv σ3 H5 fun z H6 => ∃ kvs key, y = kV key ∧ H6 D = some (.dK kvs) ∧ kvs.length < sizeLine ∧ Ny (upd H6 D (.dK (putK kvs key z))) else Ny H4)
/-- the whole -/
def tDc2 (wa : TI) (ga : TG) (ra : TT) (wb : TI) (gb : TG) (rb : TT) (tk tv : TE) (os us : List Nat) : TE := fun σ H Q => wa σ H fun J H1 => ∀ D, H1 D = none → ∃ W : Nat → Nat → Hp → Prop, (∃ m, W 0 m (upd H1 D (.dK []))) ∧ ∀ i m H2, W i m H2 →
  (J.stop i H2 ∧ Q (.ref D) H2) ∨ (J.go i H2 ∧ ∃ Nx : Hp → Prop, (∀ H3, Nx H3 → ∃ m', m' < m ∧ W (i + 1) m' H3) ∧ ∀ x H3, J.yld i H2 x H3 → ga x (wipe σ os) H3 fun σ2 H4 => wipe σ2 os = wipe σ os ∧ ra σ2 H4 fun b H5 =>
    if b = true then wb σ2 H5 fun J1 H6 => Inner2 J1 gb rb tk tv us D σ2 H6 Nx else Nx H5)
theorem dc2_run {pins : List (Addr × Obj)} {s : Shared} {σ : L2.St} {H : Hp} {Q : VK} {use : Option (Value → Sem Unit)} {Qf : Value → Shared → Prop}
    (calm : X.calm = true) (nd : X.N.Nodup) (I : Inv X pins σ H s) (pa : PI X ta ia wa) (ok : BlkOk X.N X.env.scope sc own) (sub : ∀ i ∈ us, i ∈ own.map (·.2))
    (pga : ∀ z G C cl fp, PG (X.blk z G sc (compEnvC sc cl C X.env) fp) ta ga) (pra : ∀ z G C cl fp, PTs (X.blk z G sc (compEnvC sc cl C X.env) fp) fa ra)
    (pb : ∀ z G C cl fp, PI (X.blk z G sc (compEnvC sc cl C X.env) fp) tb ib wb) (pgb : ∀ z G C cl fp, PG (X.blk z G sc (compEnvC sc cl C X.env) fp) tb gb) (prb : ∀ z G C cl fp, PTs (X.blk z G sc (compEnvC sc cl C X.env) fp) fb rb)
    (pk : ∀ z G C cl fp, PE (X.blk z G sc (compEnvC sc cl C X.env) fp) kx tk) (pv' : ∀ z G C cl fp, PE (X.blk z G sc (compEnvC sc cl C X.env) fp) vx tv)
    (hfa : ∀ y, foldedSetIterable ia X.env y = pure y) (hfb : ∀ env y, foldedSetIterable ib env y = pure y)
    (h : tDc2 wa ga ra wb gb rb tk tv (own.map (·.2)) us σ H Q)
    (fin : ∀ D C z m H', Inv X pins σ H' z → Q (.ref D) H' → z.heap.Ns C m → FpOk X pins H' C → compPost (model X.prog X.w) X.A X.xe use Qf (.ref D) C (.ok .next) z) :
    wpAny (model X.prog X.w) X.A (comprehension (two kx vx ta ia fa tb ib fb sc ps) sc X.env qs newDict false (eval ia X.env) use) Qf X.xe s := by
  have cellsOk : ∀ y ∈ sc.names, y.2 = .free → ∃ c, X.env.cells.lookup y.1 = some c := by
    intro y hy e
    rcases ok.free y hy e with k | k
    · exact I.ok.has _ (.inl k)
    · exact I.ok.has _ (.inr k)
  refine wpAny_comprehension_free (use := use) rfl hfa (closure_ok cellsOk) ok.kind (fun y hy e => by rw [ok.uniq y hy, e]) ?_
  refine thn (pa.run pins s σ H _ I h) fun _ _ hx => thn hx fun _ z2 hz2 => ?_
  obtain ⟨it, fp, tn, J, G2, rfl, I2, T, at2, far2, q⟩ := hz2
  refine wpAny_newObj_type (newEnv_comp ?_)
  -- the new dict stands at D
  obtain ⟨D, hD⟩ : ∃ D, D = z2.heap.objs.size := ⟨_, rfl⟩
  rw [← hD]
  have freeD : G2 D = none := I2.hok.fresh (Nat.le_of_eq hD.symm)
  obtain ⟨W, ⟨m0, w0⟩, turn⟩ := q D freeD
  obtain ⟨z3, e3⟩ : ∃ z3 : Shared, z3 = { z2 with heap := z2.heap.push { cls := .type "dict", data := .dict #[] } } := ⟨_, rfl⟩
  have h3 : z3.heap = z2.heap.push { cls := .type "dict", data := .dict #[] } := by rw [e3]
  have I3 : Inv X pins σ (upd G2 D (.dK [])) z3 := by
    rw [e3]
    refine I2.laid (t' := z2.toks) (fun _ _ e => Heap.get?_push_of_some _ e) (Nat.le_of_eq hD.symm) ?_
    rw [hD]
    exact dk_empty z2.heap I2.big
  have small : ∀ b ∈ fp, b < z2.heap.objs.size := by
    intro b hb
    obtain ⟨_, e, _⟩ := T.obj _ _ at2 b hb
    exact Heap.lt_size e
  have far3 : ∀ b ∈ fp, FpOk X pins (upd G2 D (.dK [])) b ∧ b < z3.heap.objs.size := by
    intro b hb
    have lt := small b hb
    constructor
    · refine ⟨?_, (far2 b hb).2⟩
      rw [upd_ne (by rw [hD]; exact Nat.ne_of_lt lt)]
      exact (far2 b hb).1
    · rw [h3, Heap.size_push]
      exact Nat.lt_succ_of_lt lt
  have at3 : tn 0 z3.heap := T.keep _ _ _ at2 fun _ _ _ e => by rw [h3]; exact Heap.get?_push_of_some _ e
  have I4 := block_start I3 ok nd far3
  -- the block's frame
  obtain ⟨cl, hcl⟩ : ∃ cl, cl = cellsFrom (z3.heap.objs.size + 1) sc.names (cloFrom X.env.cells sc.names []) := ⟨_, rfl⟩
  rw [← hcl] at I4
  have gA := pga z3 (upd G2 D (.dK [])) z3.heap.objs.size cl fp
  have tA := pra z3 (upd G2 D (.dK [])) z3.heap.objs.size cl fp
  have iB := pb z3 (upd G2 D (.dK [])) z3.heap.objs.size cl fp
  have gB := pgb z3 (upd G2 D (.dK [])) z3.heap.objs.size cl fp
  have tB := prb z3 (upd G2 D (.dK [])) z3.heap.objs.size cl fp
  have eK := pk z3 (upd G2 D (.dK [])) z3.heap.objs.size cl fp
  have eV := pv' z3 (upd G2 D (.dK [])) z3.heap.objs.size cl fp
  show codeAny _ _ (.compStart (two kx vx ta ia fa tb ib fb sc ps) 0 (.ref it) (.ref D) (compEnvC sc (cellsFrom (({ z2 with heap := z2.heap.push { cls := .type "dict", data := .dict #[] } } : Shared).heap.objs.size + 1) sc.names (cloFrom X.env.cells sc.names [])) ({ z2 with heap := z2.heap.push { cls := .type "dict", data := .dict #[] } } : Shared).heap.objs.size X.env))
    (compPost (model X.prog X.w) X.A X.xe use Qf (.ref D) ({ z2 with heap := z2.heap.push { cls := .type "dict", data := .dict #[] } } : Shared).heap.objs.size) { ({ z2 with heap := z2.heap.push { cls := .type "dict", data := .dict #[] } } : Shared) with heap := pushCells (({ z2 with heap := z2.heap.push { cls := .type "dict", data := .dict #[] } } : Shared).heap.push { cls := .type "dict", data := .dict #[] }) sc.names }
  rw [← e3, ← hcl]
  have none3 : ∀ b ∈ fp, (upd G2 D (.dK [])) b = none := fun b hb => (far3 b hb).1.1
  obtain ⟨ev, hev⟩ : ∃ ev, ev = compEnvC sc cl z3.heap.objs.size X.env := ⟨_, rfl⟩
  rw [← hev] at I4 gA tA iB gB tB eK eV ⊢
  have evL : ev.locals = z3.heap.objs.size := by rw [hev]; rfl
  obtain ⟨G3, hG3⟩ : ∃ G3, G3 = upd G2 D (.dK []) := ⟨_, rfl⟩
  rw [← hG3] at I3 I4 gA tA iB gB tB eK eV w0 none3 far3
  obtain ⟨z4, e4⟩ : ∃ z4 : Shared, z4 = { z3 with heap := pushCells (z3.heap.push { cls := .type "dict", data := .dict #[] }) sc.names } := ⟨_, rfl⟩
  rw [← e4] at I4 ⊢
  have at4 : tn 0 z4.heap := T.keep _ _ _ at3 fun _ _ _ e => by rw [e4]; exact pushCells_keeps _ _ _ _ (Heap.get?_push_of_some _ e)
  have aside : ∀ {σ' : L2.St} {G : Hp} {z : Shared}, Inv (X.blk z3 G3 sc ev fp) [] σ' G z → (∀ b ∈ fp, G b = none) → ∀ b ∈ fp, FpOk (X.blk z3 G3 sc ev fp) [] G b := by
    intro σ' G z J' hn b hb
    exact ⟨hn b hb, (J'.ok.exf b hb).1, J'.ok.exfs b hb, .inl hb, fun x c e => (J'.ok.exf b hb).2 x c e, fun p hp => absurd (show p ∈ ([] : List (Addr × Obj)) ++ [] from hp) (by simp)⟩
  have whole : codeAny (model X.prog X.w) X.A (.compLoop (two kx vx ta ia fa tb ib fb sc ps) 0 (.ref it) (.ref D) ev) (compPost (model X.prog X.w) X.A X.xe use Qf (.ref D) z3.heap.objs.size) z4 := by
    refine loop_first (hfb ev) (fun n z => ∃ i G, Inv (X.blk z3 G3 sc ev fp) [] (wipe σ (own.map (·.2))) G z ∧ tn i z.heap ∧ (∀ b ∈ fp, G b = none) ∧ W i n G) ?_ m0 ⟨0, G3, I4, at4, none3, w0⟩
    rintro n z5 ⟨i, G5, I5, at5, none5, w5⟩
    rcases turn i n G5 w5 with ⟨stop, qq⟩ | ⟨goes, Nx, hNx, step⟩
    · refine thnF (T.done (X.blk z3 G3 sc ev fp) rfl rfl rfl calm i [] z5 _ G5 (fun _ _ => False) I5 (aside I5 none5) at5 stop) ?_
      rintro r z6 ⟨rfl, I6⟩
      have I7 : Inv X pins σ G5 z6 := I3.call' (ch := fp) I6.os I6.base I6.hok I6.bare fun b hb =>
        let f := (far3 b hb).1
        ⟨f.2.2.2.1, f.2.1, f.2.2.2.2.1, f.2.2.2.2.2⟩
      have noC : G5 z3.heap.objs.size = none := by
        have y : G5 ev.locals = none := I6.free
        rw [evL] at y
        exact y
      obtain ⟨m, hn, _⟩ := I6.loc
      have hn' : z6.heap.Ns ev.locals m := hn
      rw [evL] at hn'
      exact fin D _ z6 m G5 I7 qq hn' (I3.fpOk (Nat.le_refl _) noC)
    · refine thnF (T.item (X.blk z3 G3 sc ev fp) rfl rfl rfl calm i [] z5 _ G5 (fun _ _ => False) I5 (aside I5 none5) at5 goes) ?_
      rintro r z6 ⟨u, rfl, h6⟩
      refine thnF h6 ?_
      rintro _ z7 ⟨x, G7, I7, r7, y7, at7, none7⟩
      refine thnF (gA.run _ z7 _ G7 x u _ (I7.pinned (aside I7 none7) (T.obj _ _ at7)) r7 (step x G7 y7)) ?_
      rintro _ z8 ⟨σ8, G8, I8, hw8, q8⟩
      refine thnF (tA.run _ z8 σ8 G8 _ I8 q8) ?_
      rintro b z9 ⟨G9, I9, q9⟩
      -- one turn of the first clause is over
      have over : ∀ {σ9 : L2.St} {z : Shared} {G : Hp}, Inv (X.blk z3 G3 sc ev fp) ([] ++ pinsAt fp z7.heap) σ9 G z → (wipe σ (own.map (·.2))).length = σ9.length → (∀ (j : Nat) v, (wipe σ (own.map (·.2)))[j]? = some (some v) → σ9[j]? = some (some v)) → Nx G →
          ∃ m, m < n ∧ ∃ i G, Inv (X.blk z3 G3 sc ev fp) [] (wipe σ (own.map (·.2))) G z ∧ tn i z.heap ∧ (∀ b ∈ fp, G b = none) ∧ W i m G := by
        intro σ9 z G I' hl hk nx
        obtain ⟨m', lt, w'⟩ := hNx G nx
        have pins' : ∀ b ∈ fp, ∀ o, z7.heap.get? b = some o → z.heap.get? b = some o ∧ G b = none := by
          intro b hb o e
          have y := I'.pin (b, o) (List.mem_append_right _ (List.mem_append_right _ (mem_pinsAt hb e)))
          exact ⟨y.1, y.2.1⟩
        refine ⟨m', lt, i + 1, G, (I'.unpinned (pins := [])).weak hl hk, T.keep _ _ _ at7 (fun b hb o e => (pins' b hb o e).1), ?_, w'⟩
        intro b hb
        obtain ⟨o, e, _⟩ := T.obj _ _ at7 b hb
        exact (pins' b hb o e).2
      have len8 : (wipe σ (own.map (·.2))).length = σ8.length := by rw [← hw8, wipe_length]
      cases b with
      | false =>
        have q9' : Nx G9 := q9
        show ∃ m, m < n ∧ _
        exact over I9 len8 (fun j v e => by rw [← hw8] at e; exact (wipe_some e).1) q9'
      | true =>
        have q9' : wb σ8 G9 fun J1 H6 => Inner2 J1 gb rb tk tv us D σ8 H6 Nx := q9
        show wpAny _ _ (eval ib ev) _ _ z9
        refine thnF (iB.run _ z9 σ8 G9 _ I9 q9') fun _ _ hx => thnF hx ?_
        rintro _ z11 ⟨it1, fp1, tn1, J1, G11, rfl, I11, T1, at11, far11, W1, ⟨m1, w1⟩, turn1⟩
        have aside1 : ∀ {G : Hp}, (∀ b ∈ fp1, G b = none) → ∀ b ∈ fp1, FpOk (X.blk z3 G3 sc ev fp) ([] ++ pinsAt fp z7.heap) G b := fun hn b hb => ⟨hn b hb, (far11 b hb).2⟩
        have inner : codeAny (model X.prog X.w) X.A (.compLoop (two kx vx ta ia fa tb ib fb sc ps) 1 (.ref it1) (.ref D) ev) (fun r z => match r with
            | .ok _ => ∃ m, m < n ∧ ∃ i G, Inv (X.blk z3 G3 sc ev fp) [] (wipe σ (own.map (·.2))) G z ∧ tn i z.heap ∧ (∀ b ∈ fp, G b = none) ∧ W i m G
            | .error _ => False) z11 := by
          refine loop_second (fun k z => ∃ j G, Inv (X.blk z3 G3 sc ev fp) ([] ++ pinsAt fp z7.heap) (wipe σ8 us) G z ∧ tn1 j z.heap ∧ (∀ b ∈ fp1, G b = none) ∧ W1 j k G) ?_ m1 ⟨0, G11, I11.weak (wipe_length _ _) (fun j v e => (wipe_some e).1), at11, fun b hb => (far11 b hb).1, w1⟩
          rintro k z12 ⟨j, G12, I12, at12, none12, w12⟩
          rcases turn1 j k G12 w12 with ⟨stop1, nx1⟩ | ⟨goes1, Ny, hNy, step1⟩
          · refine thnF (T1.done (X.blk z3 G3 sc ev fp) rfl rfl rfl calm j _ z12 (wipe σ8 us) G12 (fun _ _ => False) I12 (aside1 none12) at12 stop1) ?_
            rintro r z13 ⟨rfl, I13⟩
            refine over I13 (len8.trans (wipe_length σ8 us).symm) ?_ nx1
            intro j' v e
            rw [← hw8] at e
            obtain ⟨e1, e2⟩ := wipe_some e
            rw [wipe_out fun y => e2 (sub j' y)]
            exact e1
          · refine thnF (T1.item (X.blk z3 G3 sc ev fp) rfl rfl rfl calm j _ z12 (wipe σ8 us) G12 (fun _ _ => False) I12 (aside1 none12) at12 goes1) ?_
            rintro r z13 ⟨u1, rfl, h13⟩
            refine thnF h13 ?_
            rintro _ z14 ⟨x1, G14, I14, r14, y14, at14, none14⟩
            refine thnF (gB.run _ z14 (wipe σ8 us) G14 x1 u1 _ (I14.pinned (aside1 none14) (T1.obj _ _ at14)) r14 (step1 x1 G14 y14)) ?_
            rintro _ z15 ⟨σ15, G15, I15, hw15, q15⟩
            refine thnF (tB.run _ z15 σ15 G15 _ I15 q15) ?_
            rintro b1 z16 ⟨G16, I16, q16⟩
            have over1 : ∀ {z : Shared} {G : Hp}, Inv (X.blk z3 G3 sc ev fp) (([] ++ pinsAt fp z7.heap) ++ pinsAt fp1 z14.heap) σ15 G z → Ny G → ∃ m, m < k ∧ ∃ j G, Inv (X.blk z3 G3 sc ev fp) ([] ++ pinsAt fp z7.heap) (wipe σ8 us) G z ∧ tn1 j z.heap ∧ (∀ b ∈ fp1, G b = none) ∧ W1 j m G := by
              intro z G I' nx
              obtain ⟨m', lt, w'⟩ := hNy G nx
              have pins' : ∀ b ∈ fp1, ∀ o, z14.heap.get? b = some o → z.heap.get? b = some o ∧ G b = none := by
                intro b hb o e
                have y := I'.pin (b, o) (List.mem_append_right _ (List.mem_append_right _ (mem_pinsAt hb e)))
                exact ⟨y.1, y.2.1⟩
              refine ⟨m', lt, j + 1, G, I'.unpinned.weak (by rw [← hw15, wipe_length]) (fun j v e => by rw [← hw15] at e; exact (wipe_some e).1), T1.keep _ _ _ at14 (fun b hb o e => (pins' b hb o e).1), ?_, w'⟩
              intro b hb
              obtain ⟨o, e, _⟩ := T1.obj _ _ at14 b hb
              exact (pins' b hb o e).2
            cases b1 with
            | false =>
              have q16' : Ny G16 := q16
              show ∃ m, m < k ∧ _
              exact over1 I16 q16'
            | true =>
              have q16' : tk σ15 G16 fun y H5 => tv σ15 H5 fun z H6 => ∃ kvs key, y = kV key ∧ H6 D = some (.dK kvs) ∧ kvs.length < sizeLine ∧ Ny (upd H6 D (.dK (putK kvs key z))) := q16
              show wpAny _ _ (eval kx ev) _ _ z16
              refine thnF (eK.run _ z16 σ15 G16 _ I16 q16') ?_
              rintro _ z17 ⟨yk, G17, I17, r17, q17⟩
              refine thnF (eV.run _ z17 σ15 G17 _ I17 q17) ?_
              rintro _ z18 ⟨yv, G18, I18, r18, kvs, key, rfl, hD18, lt18, nx⟩
              exact d_dictSet (X := X.blk z3 G3 sc ev fp) I18 hD18 lt18 r17 r18 fun _ I19 => over1 I19 nx
        exact start_second inner (T1.self X.A 0 _ _ _ at11 inner)
  exact codeAny_compStart_dict whole (T.self X.A 0 _ _ _ at4 whole)
/-- name = {..}, the name a local of the def -/
theorem ps_setDc2 {i : Nat} {y : Str} {py spos : Pos} (calm : X.calm = true) (nd : X.N.Nodup) (hy : X.N[i]? = some y) (hyl : X.env.scope.names.lookup y = some .local)
    (hsw : swapsWith (two kx vx ta ia fa tb ib fb sc ps) (some (.Name y py)) spos.line X.env = pure true)
    (pa : PI X ta ia wa) (ok : BlkOk X.N X.env.scope sc own) (sub : ∀ i ∈ us, i ∈ own.map (·.2))
    (pga : ∀ z G C cl fp, PG (X.blk z G sc (compEnvC sc cl C X.env) fp) ta ga) (pra : ∀ z G C cl fp, PTs (X.blk z G sc (compEnvC sc cl C X.env) fp) fa ra)
    (pb : ∀ z G C cl fp, PI (X.blk z G sc (compEnvC sc cl C X.env) fp) tb ib wb) (pgb : ∀ z G C cl fp, PG (X.blk z G sc (compEnvC sc cl C X.env) fp) tb gb) (prb : ∀ z G C cl fp, PTs (X.blk z G sc (compEnvC sc cl C X.env) fp) fb rb)
    (pk : ∀ z G C cl fp, PE (X.blk z G sc (compEnvC sc cl C X.env) fp) kx tk) (pv' : ∀ z G C cl fp, PE (X.blk z G sc (compEnvC sc cl C X.env) fp) vx tv)
    (hfa : ∀ y, foldedSetIterable ia X.env y = pure y := by intro _; rfl) (hfb : ∀ env y, foldedSetIterable ib env y = pure y := by intro _ _; rfl) :
    PS X (.Assign [.Name y py] (two kx vx ta ia fa tb ib fb sc ps) spos) (tAsg (tDc2 wa ga ra wb gb rb tk tv (own.map (·.2)) us) (gName i)) := by
  constructor
  intro pins s σ H Ed I h
  rw [exec_Assign_Name_used y py _ _ hsw]
  apply wpAny_bind
  apply wpAny_standAt
  apply wpAny_bind
  show wpAny _ X.A (comprehension (two kx vx ta ia fa tb ib fb sc ps) sc X.env (firstIterPos [⟨ta, ia, fa, 0⟩, ⟨tb, ib, fb, 0⟩] ps) newDict false (eval ia X.env) (some (assign (.Name y py) X.env)) >>= fun _ => pure ()) _ _ s
  apply wpAny_bind
  have h' : tDc2 wa ga ra wb gb rb tk tv (own.map (·.2)) us σ H (fun x H1 => gName i x σ H1 Ed.nx) := h
  refine thn (dc2_run (Qf := fun _ s1 => SP X pins Ed .next s1) calm nd I pa ok sub pga pra pb pgb prb pk pv' hfa hfb h' ?_) (fun _ _ z => wpAny_pure (wpAny_pure z))
  intro L C s1 m H1 I1 q hn ff
  obtain ⟨f0, f1, f2, f3, f4, f5⟩ := ff
  show wpAny _ _ (assign (.Name y py) X.env (.ref L)) _ _ _
  apply wpAny_assign_Name
  refine store_ok2 (v := V.ref L) I1 nd hy (.inl hyl) rfl ?_ (.inr hyl)
  rintro s2 I2 ⟨ad, sb, had⟩
  have hne : C ≠ ad := by
    rcases had with hz | hz
    · exact fun e => f1 (e.trans hz)
    · exact fun e => f4 y ad hz e.symm
  refine ⟨m, hn.sameBut sb hne, fun h3 sb3 => ⟨_, H1, ?_, q⟩⟩
  exact I2.turned (t' := s2.toks) (fun b o hb e => (sb3.2 b hb).trans e) f0 f1 f3 f4 f5
theorem pi_listK {K : PySem.W.Frag} {l tg : Expr} {tl : TE} (hK : X.K = K) (hl : PE X l tl) : PI X tg l (iList K tl) := hK ▸ pi_list hl
theorem pi_tupK {K : PySem.W.Frag} {l tg : Expr} {tl : TE} (hK : X.K = K) (hl : PE X l tl) : PI X tg l (iTup K tl) := hK ▸ pi_tup hl
end
/-! ### its steps -/
section
variable {K : PySem.W.Frag} {σ : L2.St} {H : Hp} {Q : VK}
def Dc2P (J : It) (ga : TG) (ra : TT) (wb : TI) (gb : TG) (rb : TT) (tk tv : TE) (os us : List Nat) (Q : VK) (σ : L2.St) (H1 : Hp) : Prop := ∀ D, H1 D = none → ∃ W : Nat → Nat → Hp → Prop, (∃ m, W 0 m (upd H1 D (.dK []))) ∧ ∀ i m H2, W i m H2 →
  (J.stop i H2 ∧ Q (.ref D) H2) ∨ (J.go i H2 ∧ ∃ Nx : Hp → Prop, (∀ H3, Nx H3 → ∃ m', m' < m ∧ W (i + 1) m' H3) ∧ ∀ x H3, J.yld i H2 x H3 → ga x (wipe σ os) H3 fun σ2 H4 => wipe σ2 os = wipe σ os ∧ ra σ2 H4 fun b H5 =>
    if b = true then wb σ2 H5 fun J1 H6 => Inner2 J1 gb rb tk tv us D σ2 H6 Nx else Nx H5)
theorem w_dc2 {wa wb : TI} {ga gb : TG} {ra rb : TT} {tk tv : TE} {os us : List Nat} (h : wa σ H fun J H1 => Dc2P J ga ra wb gb rb tk tv os us Q σ H1) : tDc2 wa ga ra wb gb rb tk tv os us σ H Q := h
theorem dc2_it {J : It} {n : Nat} {G : Hp → Prop} {Y : Nat → Hp → V → Hp → Prop} (w : Walk J n G Y) {wb : TI} {ga gb : TG} {ra rb : TT} {tk tv : TE} {os us : List Nat} (Pv : Addr → Nat → Hp → Prop) (h0 : ∀ D, H D = none → Pv D 0 (upd H D (.dK []))) (hG : ∀ D i H1, i ≤ n → Pv D i H1 → G H1)
    (hs : ∀ D i x H1 H2, H D = none → i < n → Pv D i H1 → Y i H1 x H2 → ga x (wipe σ os) H2 fun σ2 H4 => wipe σ2 os = wipe σ os ∧ ra σ2 H4 fun b H5 => if b = true then wb σ2 H5 fun J1 H6 => Inner2 J1 gb rb tk tv us D σ2 H6 (Pv D (i + 1)) else Pv D (i + 1) H5)
    (hd : ∀ D H1, H D = none → Pv D n H1 → Q (.ref D) H1) : Dc2P J ga ra wb gb rb tk tv os us Q σ H := by
  intro D hD
  refine ⟨fun i m H1 => m = n - i ∧ i ≤ n ∧ Pv D i H1, ⟨n, by simp, Nat.zero_le _, h0 D hD⟩, ?_⟩
  rintro i m H1 ⟨rfl, hi, p⟩
  by_cases lt : i < n
  · exact .inr ⟨w.goes i H1 lt (hG D i H1 hi p), Pv D (i + 1), fun H3 q => ⟨n - (i + 1), by omega, rfl, lt, q⟩, fun x H2 y => hs D i x H1 H2 hD lt p (w.yields i H1 x H2 lt (hG D i H1 hi p) y)⟩
  · have e : i = n := by omega
    subst e
    exact .inl ⟨w.stops H1 (hG D i H1 hi p), hd D H1 hD p⟩
theorem inner_it {J : It} {n : Nat} {G : Hp → Prop} {Y : Nat → Hp → V → Hp → Prop} (w : Walk J n G Y) {gb : TG} {rb : TT} {tk tv : TE} {us : List Nat} {D : Addr} {Nx : Hp → Prop} (Pv : Nat → Hp → Prop) (h0 : Pv 0 H) (hG : ∀ i H1, i ≤ n → Pv i H1 → G H1)
    (hs : ∀ i x H1 H2, i < n → Pv i H1 → Y i H1 x H2 → gb x (wipe σ us) H2 fun σ3 H3 => wipe σ3 us = wipe σ us ∧ rb σ3 H3 fun b H4 =>
      if b = true then tk σ3 H4 fun y H5 => tv σ3 H5 fun z H6 => ∃ kvs key, y = kV key ∧ H6 D = some (.dK kvs) ∧ kvs.length < sizeLine ∧ Pv (i + 1) (upd H6 D (.dK (putK kvs key z))) else Pv (i + 1) H4)
    (hd : ∀ H1, Pv n H1 → Nx H1) : Inner2 J gb rb tk tv us D σ H Nx := by
  refine ⟨fun i m H1 => m = n - i ∧ i ≤ n ∧ Pv i H1, ⟨n, by simp, Nat.zero_le _, h0⟩, ?_⟩
  rintro i m H1 ⟨rfl, hi, p⟩
  by_cases lt : i < n
  · exact .inr ⟨w.goes i H1 lt (hG i H1 hi p), Pv (i + 1), fun H3 q => ⟨n - (i + 1), by omega, rfl, lt, q⟩, fun x H2 y => hs i x H1 H2 lt p (w.yields i H1 x H2 lt (hG i H1 hi p) y)⟩
  · have e : i = n := by omega
    subst e
    exact .inl ⟨w.stops H1 (hG i H1 hi p), hd H1 p⟩
/-- a comprehension with a test: the turn i gives sel i, or nothing -/
theorem lcp_sel {J : It} {n : Nat} {G : Hp → Prop} {Y : Nat → Hp → V → Hp → Prop} (w : Walk J n G Y) {g : TG} {tt : TT} {te : TE} {vs : List Nat} (M : List Addr) (sel : Nat → Option V) (hz : n ≤ 1000000) (hG : ∀ H', Kp M H H' → G H')
    (hs : ∀ i x H1 H2 (R : V → Hp → Prop) (R0 : Hp → Prop), i < n → Kp M H H1 → Y i H1 x H2 → (∀ y H4, sel i = some y → Kp M H1 H4 → R y H4) → (∀ H4, sel i = none → Kp M H1 H4 → R0 H4) → g x (wipe σ vs) H2 fun σ2 H3 => wipe σ2 vs = wipe σ vs ∧ tt σ2 H3 fun b H4 => if b = true then te σ2 H4 R else R0 H4)
    (hM : ∀ b ∈ M, ∃ o, H b = some o)
    (hd : ∀ D H', H D = none → Kp M H H' → H' D = some (.lst ((List.range n).filterMap sel)) → Q (.ref D) H') : LcP J g tt te vs Q σ H := by
  intro D hD
  have hDM : D ∉ M := fun z => by obtain ⟨o, e⟩ := hM D z; rw [hD] at e; cases e
  refine lc_it w (fun i H' => Kp M H H' ∧ H' D = some (.lst ((List.range i).filterMap sel))) ⟨Kp.new hD, upd_same⟩ (fun i H' _ z => hG H' z.1) ?_ ?_
  · rintro i x H1 H2 hi ⟨k1, e1⟩ y
    refine hs i x H1 H2 _ _ hi k1 y ?_ ?_
    · intro z H4 hz' k4
      refine ⟨_, k4 _ _ hDM e1, ?_, (k1.trans k4).mutN hD, ?_⟩
      · refine Nat.lt_of_le_of_lt (List.length_filterMap_le _ _) ?_
        rw [List.length_range]
        exact Nat.lt_of_lt_of_le (Nat.lt_of_lt_of_le hi hz) (by decide)
      · rw [upd_same, List.range_succ, List.filterMap_append]
        simp [hz']
    · intro H4 hz' k4
      refine ⟨k1.trans k4, ?_⟩
      rw [k4 _ _ hDM e1, List.range_succ, List.filterMap_append]
      simp [hz']
  · rintro H' ⟨k, e⟩
    exact hd D H' hD k e
/-- {k: v for .. if ..}: the turn i puts sel i, or nothing -/
theorem dcp_sel {J : It} {n : Nat} {G : Hp → Prop} {Y : Nat → Hp → V → Hp → Prop} (w : Walk J n G Y) {g : TG} {tt : TT} {tk tv : TE} {vs : List Nat} (M : List Addr) (sel : Nat → Option (Key × V)) (hz : n ≤ 1000000) (hG : ∀ H', Kp M H H' → G H')
    (hs : ∀ i x H1 H2 (R : V → V → Hp → Prop) (R0 : Hp → Prop), i < n → Kp M H H1 → Y i H1 x H2 → (∀ e H4, sel i = some e → Kp M H1 H4 → R (kV e.1) e.2 H4) → (∀ H4, sel i = none → Kp M H1 H4 → R0 H4) → g x (wipe σ vs) H2 fun σ2 H3 => wipe σ2 vs = wipe σ vs ∧ tt σ2 H3 fun b H4 => if b = true then tk σ2 H4 fun y H5 => tv σ2 H5 fun z H6 => R y z H6 else R0 H4)
    (hM : ∀ b ∈ M, ∃ o, H b = some o)
    (hd : ∀ D H', H D = none → Kp M H H' → H' D = some (.dK (mergeK [] ((List.range n).filterMap sel))) → Q (.ref D) H') : DcP J g tt tk tv vs Q σ H := by
  intro D hD
  have hDM : D ∉ M := fun z => by obtain ⟨o, e⟩ := hM D z; rw [hD] at e; cases e
  refine ⟨fun i m H' => m = n - i ∧ i ≤ n ∧ Kp M H H' ∧ H' D = some (.dK (mergeK [] ((List.range i).filterMap sel))), ⟨n, by simp, Nat.zero_le _, Kp.new hD, upd_same⟩, ?_⟩
  rintro i m H1 ⟨rfl, hi, k1, e1⟩
  by_cases hlt : i < n
  · refine .inr ⟨w.goes i H1 hlt (hG _ k1), fun H' => Kp M H H' ∧ H' D = some (.dK (mergeK [] ((List.range (i + 1)).filterMap sel))), fun H' z => ⟨n - (i + 1), by omega, rfl, hlt, z.1, z.2⟩, fun x H2 y => ?_⟩
    refine hs i x H1 H2 (fun y z H5 => ∃ kvs k, y = kV k ∧ H5 D = some (.dK kvs) ∧ kvs.length < sizeLine ∧ (Kp M H (upd H5 D (.dK (putK kvs k z))) ∧ (upd H5 D (.dK (putK kvs k z))) D = some (.dK (mergeK [] ((List.range (i + 1)).filterMap sel))))) _ hlt k1 (w.yields i H1 x H2 hlt (hG _ k1) y) ?_ ?_
    · intro e H4 he k4
      refine ⟨_, e.1, rfl, k4 _ _ hDM e1, ?_, (k1.trans k4).mutN hD, ?_⟩
      · have h1 := mergeK_len ((List.range i).filterMap sel) []
        have h2 : ((List.range i).filterMap sel).length ≤ i := by
          have := List.length_filterMap_le sel (List.range i)
          rw [List.length_range] at this
          exact this
        exact Nat.lt_of_le_of_lt (Nat.le_trans h1 (show _ ≤ 1000000 by simp only [List.length_nil]; omega)) (by decide)
      · rw [upd_same, List.range_succ, List.filterMap_append]
        simp only [List.filterMap_cons, he, List.filterMap_nil]
        rw [mergeK_snoc]
    · intro H4 he k4
      refine ⟨k1.trans k4, ?_⟩
      rw [k4 _ _ hDM e1, List.range_succ, List.filterMap_append]
      simp [he]
  · have e : i = n := by omega
    subst e
    exact .inl ⟨w.stops H1 (hG _ k1), hd D H1 hD k1 e1⟩
/-! ### a dict that is walked; any, sorted, insert -/
def rInsert : V → List V → Hp → VK → Prop := fun x vs H Q => ∃ (l : Addr) (xs : List V) (i : Int) (y : V), x = .ref l ∧ vs = [.int i, y] ∧ H l = some (.lst xs) ∧ xs.length < sizeLine ∧ 0 ≤ i ∧ i < 2 ^ 63 ∧ Q .non (upd H l (.lst (xs.take i.toNat ++ [y] ++ xs.drop i.toNat)))
theorem m_insert {X : Cx} : MtR X "list.insert" rInsert := mt_insert
theorem w_insert {l : Addr} {xs : List V} {k : Nat} {y : V} (h1 : H l = some (.lst xs)) (h2 : xs.length < sizeLine) (h3 : (k : Int) < 2 ^ 63) (h : ∀ H1, H1 l = some (.lst (xs.take k ++ [y] ++ xs.drop k)) → Off l H H1 → Q .non H1) : rInsert (.ref l) [.int k, y] H Q :=
  ⟨l, xs, k, y, rfl, rfl, h1, h2, by omega, h3, h _ upd_same fun x hx => upd_ne hx⟩
theorem w_any {p : Addr} {bs : List Bool} (h1 : SqL K H p (bs.map V.bl)) (h : Q (.bl (bs.any id)) H) : rAny K [.ref p] H Q := ⟨p, bs, rfl, h1, h⟩
theorem w_sorted {p : Addr} {ns : List Int} (h1 : SqL K H p (ns.map V.int)) (h2 : ns.length < 64) (h : ∀ (ys : List Int) l H1, ys.Perm ns → ys.Pairwise (· ≤ ·) → H l = none → H1 l = some (.lst (ys.map V.int)) → Same H H1 → Q (.ref l) H1) : rSorted K [.ref p] H Q :=
  ⟨p, ns, rfl, h1, h2, fun ys l a b c => h ys l _ a b c upd_same (Same.new c)⟩
section
variable {nx bk ct : L2.St → Hp → Prop} {rt : VK}
theorem w_lock {t : TS} {d : Addr} {kvs : List (Key × V)} (e : H d = some (.dK kvs)) (h : ∀ od H1, H1 d = some (.frz od (.dK kvs)) → Off d H H1 → t ⟨fun σ' H' => H' d = some (.frz od (.dK kvs)) ∧ nx σ' (upd H' d (.dK kvs)), fun v H' => H' d = some (.frz od (.dK kvs)) ∧ rt v (upd H' d (.dK kvs)), fun σ' H' => H' d = some (.frz od (.dK kvs)) ∧ bk σ' (upd H' d (.dK kvs)), fun σ' H' => H' d = some (.frz od (.dK kvs)) ∧ ct σ' (upd H' d (.dK kvs))⟩ σ H1) : tLock t ⟨nx, rt, bk, ct⟩ σ H :=
  ⟨d, _, e, trivial, fun od => h od _ upd_same fun x hx => upd_ne hx⟩
/-- behind the walk the dict is as it was -/
theorem unlock {d : Addr} {kvs : List (Key × V)} {H' : Hp} {R : Hp → Prop} {o : Obj} (e : H' d = some (.frz o (.dK kvs))) (h : ∀ H2, H2 d = some (.dK kvs) → Off d H' H2 → R H2) : H' d = some (.frz o (.dK kvs)) ∧ R (upd H' d (.dK kvs)) := ⟨e, h _ upd_same fun x hx => upd_ne hx⟩
def rKeys (x : V) (H1 : Hp) (R : It → Hp → Prop) : Prop := ∃ d o, x = .ref d ∧ ((∃ kvs, H1 d = some (.frz o (.dK kvs)) ∧ R (Itk d o kvs) H1) ∨ ∃ kvs, H1 d = some (.frz o (.dT kvs)) ∧ R (Itkt d o kvs) H1)
theorem w_keys {td : TE} {R : It → Hp → Prop} (h : td σ H fun x H1 => rKeys x H1 R) : iKeys td σ H R := h
theorem w_keys' {d : Addr} {o : Obj} {kvs : List (Key × V)} {R : It → Hp → Prop} (e : H d = some (.frz o (.dK kvs))) (h : R (Itk d o kvs) H) : rKeys (.ref d) H R := ⟨d, o, rfl, .inl ⟨kvs, e, h⟩⟩
theorem lp_keys {d : Addr} {o : Obj} {kvs : List (Key × V)} {ks : List Int} {g : TG} {tb : TS} (hk : kvs.map (·.1) = ks.map (Sum.inl : Int → Key)) (Pv : Nat → L2.St → Hp → Prop) (h0 : Pv 0 σ H) (hl : ∀ i σ H, i ≤ ks.length → Pv i σ H → H d = some (.frz o (.dK kvs)))
    (hs : ∀ i x σ H, ks[i]? = some x → Pv i σ H → g (.int x) σ H fun σ2 H2 => tb ⟨Pv (i + 1), rt, nx, Pv (i + 1)⟩ σ2 H2) (hd : ∀ σ H, Pv ks.length σ H → nx σ H) : Lp (Itk d o kvs) g tb ⟨nx, rt, bk, ct⟩ σ H := by
  have hn : kvs.length = ks.length := by
    have := congrArg List.length hk
    simpa using this
  refine lp_it walk_keys Pv h0 (fun i σ H hi => hl i σ H (by omega)) ?_ (by rw [hn]; exact hd)
  rintro i x σ H H' hi p ⟨rfl, k, v, e, rfl⟩
  have e2 : (kvs.map (·.1))[i]? = some k := by rw [List.getElem?_map, e]; rfl
  rw [hk, List.getElem?_map] at e2
  obtain ⟨z, e3, rfl⟩ := Option.map_eq_some_iff.mp e2
  exact hs i z σ H' e3 p
end
theorem w_tyes {R : Bool → Hp → Prop} (h : R true H) : tYes σ H R := h
theorem w_dinF {a : Addr} {o : Obj} {kvs : List (Key × V)} {n : Int} (e : H a = some (.frz o (.dK kvs))) (h : Q (.bl (valV kvs (Sum.inl n)).isSome) H) : rDIn (.ref a) (.int n) H Q := ⟨a, _, rfl, .inl ⟨kvs, Sum.inl n, .inr ⟨o, e⟩, rfl, rfl⟩, h⟩
theorem w_dgetF {a : Addr} {o : Obj} {kvs : List (Key × V)} {n : Int} {v : V} (e : H a = some (.frz o (.dK kvs))) (e2 : valV kvs (Sum.inl n) = some v) (h : Q v H) : rDGet (.ref a) (.int n) H Q := ⟨a, v, rfl, .inl ⟨kvs, Sum.inl n, .inr ⟨o, e⟩, rfl, e2.symm⟩, h⟩
/-! ### get, reversed, slices, pop -/
def rDGet1 (a : Addr) (y : V) (H : Hp) (Q : VK) : Prop := ∃ o, DGet H a y o ∧ Q (o.getD .non) H
theorem w_dget1 {td ty : TE} (h : td σ H fun x H1 => rIsD x H1 fun a H1 => ty σ H1 fun y H2 => rDGet1 a y H2 Q) : tDGet1 td ty σ H Q := h
theorem w_dget1I {a : Addr} {kvs : List (Key × V)} {n : Int} (e : H a = some (.dK kvs)) (h : Q ((valV kvs (Sum.inl n)).getD .non) H) : rDGet1 a (.int n) H Q := ⟨_, DGet.k (k := Sum.inl n) e, h⟩
def rRev (K : PySem.W.Frag) (vs : List V) (H : Hp) (R : It → Hp → Prop) : Prop := ∃ (a : Addr) (xs : List V), vs = [.ref a] ∧ SqL K H a xs ∧ R (Itv K a xs.length) H
theorem w_rev {ta : TA} {R : It → Hp → Prop} (h : ta σ H fun vs H1 => rRev K vs H1 R) : iRev K ta σ H R := h
theorem w_rev' {a : Addr} {xs : List V} {R : It → Hp → Prop} (h1 : SqL K H a xs) (h : R (Itv K a xs.length) H) : rRev K [.ref a] H R := ⟨a, xs, rfl, h1, h⟩
theorem lp_rev {nx bk ct : L2.St → Hp → Prop} {rt : VK} {a : Addr} {xs : List V} {g : TG} {tb : TS} (Pv : Nat → L2.St → Hp → Prop) (h0 : Pv 0 σ H) (hl : ∀ i σ H, i ≤ xs.length → Pv i σ H → SqL K H a xs)
    (hs : ∀ i x σ H, i < xs.length → xs[xs.length - 1 - i]? = some x → Pv i σ H → g x σ H fun σ2 H2 => tb ⟨Pv (i + 1), rt, nx, Pv (i + 1)⟩ σ2 H2) (hd : ∀ σ H, Pv xs.length σ H → nx σ H) : Lp (Itv K a xs.length) g tb ⟨nx, rt, bk, ct⟩ σ H := by
  refine lp_it walk_rev Pv h0 hl ?_ hd
  rintro i x σ H H' hi p ⟨rfl, e⟩
  exact hs i x σ H' hi e p
def rPart (x : V) (H : Hp) (R : Option Int → Hp → Prop) : Prop := ∃ i, x = .int i ∧ R (some i) H
theorem w_slice {r : V → Option Int → Option Int → Hp → VK → Prop} {te : TE} {tl th : TO} (h : te σ H fun x H1 => tl σ H1 fun l H2 => th σ H2 fun u H3 => r x l u H3 Q) : L2.tSl r te tl th σ H Q := h
theorem w_noPart {R : Option Int → Hp → Prop} (h : R none H) : tNoPart σ H R := h
theorem w_part {te : TE} {R : Option Int → Hp → Prop} (h : te σ H fun x H1 => rPart x H1 R) : tPart te σ H R := h
theorem w_part' {i : Int} {R : Option Int → Hp → Prop} (h : R (some i) H) : rPart (.int i) H R := ⟨i, rfl, h⟩
theorem w_slL {a : Addr} {xs : List V} {lo hi : Option Int} (h1 : SqL K H a xs) (h : ∀ p H1, H p = none → H1 p = some (.lst (cutV xs lo hi)) → Same H H1 → Q (.ref p) H1) : rSlL K (.ref a) lo hi H Q := ⟨a, xs, rfl, h1, w_new h⟩
theorem cut_last (xs : List V) : cutV xs none (some (-1)) = xs.dropLast := by
  show ((xs.drop 0).take ((if (-1 : Int) < 0 then ((-1 : Int) + (xs.length : Int)).toNat else min (-1 : Int).toNat xs.length) - 0)) = xs.dropLast
  rw [if_pos (by decide), List.drop_zero, List.dropLast_eq_take]
  congr 1
  omega
theorem w_bm0 {r : V → List V → Hp → VK → Prop} {to : TE} (h : to σ H fun x H1 => tyV K "list" x H1 ∧ r x [] H1 Q) : tBM0 K "list" r to σ H Q := h
theorem w_pop {l : Addr} {xs : List V} {y : V} (h1 : H l = some (.lst (xs ++ [y]))) (h : ∀ H1, H1 l = some (.lst xs) → Off l H H1 → Q y H1) : rPop (.ref l) [] H Q :=
  ⟨l, _, y, rfl, rfl, h1, by simp, by rw [List.dropLast_concat]; exact h _ upd_same fun x hx => upd_ne hx⟩
theorem w_retN {nx bk ct : L2.St → Hp → Prop} {rt : VK} (h : rt .non H) : tRetN ⟨nx, rt, bk, ct⟩ σ H := h
theorem range_fm {α β : Type} (f : α → Option β) : ∀ xs : List α, (List.range xs.length).filterMap (fun i => xs[i]?.bind f) = xs.filterMap f
  | [] => rfl
  | x :: r => by
    rw [List.length_cons, List.range_succ_eq_map, List.filterMap_cons, List.filterMap_map, List.filterMap_cons]
    have h := range_fm f r
    show (match f x with | none => List.filterMap (fun i => r[i]?.bind f) (List.range r.length) | some b => b :: List.filterMap (fun i => r[i]?.bind f) (List.range r.length)) = _
    rw [h]
    cases f x <;> rfl
end
end FW

set_option Elab.async false
set_option linter.all false
set_option maxRecDepth 100000
set_option maxHeartbeats 4000000
/-! Data of any kind: what isinstance says of them, and tuples of them to a depth. -/
namespace FW
open PySem PySem.Spec PyProof.Rows L2
inductive Ty (H : Hp) : V → String → Prop where
  | non : Ty H .non "NoneType"
  | bl (b : Bool) : Ty H (.bl b) "bool"
  | int (i : Int) : Ty H (.int i) "int"
  | str (z : Str) : Ty H (.str z) "str"
  | lst {a : Addr} {xs : List V} (e : H a = some (.lst xs)) : Ty H (.ref a) "list"
  | tup {a : Addr} {xs : List V} (e : H a = some (.tup xs)) : Ty H (.ref a) "tuple"
  | dK {a : Addr} {kvs : List (Key × V)} (e : H a = some (.dK kvs)) : Ty H (.ref a) "dict"
section
variable {K : PySem.W.Frag} {σ : L2.St} {H : Hp} {Q : VK} {x : V} {a : String}
theorem Ty.tx (t : Ty H x a) : TyX K H x (.type a) := by
  cases t with
  | non => exact .base .non
  | bl b => exact .base (.bl b)
  | int i => exact .base (.int i)
  | str z => exact .base (.str z)
  | lst e => exact .base (.lst e)
  | tup e => exact .base (.tup e)
  | dK e => exact .base (.dK e)
theorem Ty.kTup (t : Ty H x a) : kitB a "tuple" = some (decide (a = "tuple")) := by
  cases t with
  | non => exact kb_NoneType_tuple
  | bl b => exact kb_bool_tuple
  | int i => exact kb_int_tuple
  | str z => exact kb_str_tuple
  | lst e => exact kb_list_tuple
  | tup e => exact kb_tuple_tuple
  | dK e => exact kb_dict_tuple
theorem Ty.kInt (t : Ty H x a) : kitB a "int" = some (decide (a = "int") || decide (a = "bool")) := by
  cases t with
  | non => exact kb_NoneType_int
  | bl b => exact kb_bool_int
  | int i => exact kb_int_int
  | str z => exact kb_str_int
  | lst e => exact kb_list_int
  | tup e => exact kb_tuple_int
  | dK e => exact kb_dict_int
theorem Ty.kBool (t : Ty H x a) : kitB a "bool" = some (decide (a = "bool")) := by
  cases t with
  | non => exact kb_NoneType_bool
  | bl b => exact kb_bool_bool
  | int i => exact kb_int_bool
  | str z => exact kb_str_bool
  | lst e => exact kb_list_bool
  | tup e => exact kb_tuple_bool
  | dK e => exact kb_dict_bool
theorem w_isTup (t : Ty H x a) (h : Q (.bl (decide (a = "tuple"))) H) : rIsi K [x, .ty "tuple"] H Q := w_isi t.tx t.kTup h
theorem w_isInt (t : Ty H x a) (h : Q (.bl (decide (a = "int") || decide (a = "bool"))) H) : rIsi K [x, .ty "int"] H Q := w_isi t.tx t.kInt h
theorem w_isBool (t : Ty H x a) (h : Q (.bl (decide (a = "bool"))) H) : rIsi K [x, .ty "bool"] H Q := w_isi t.tx t.kBool h
theorem Ty.isTup (t : Ty H x a) (e : a = "tuple") : ∃ p xs, x = .ref p ∧ H p = some (.tup xs) := by
  cases t with
  | tup h => exact ⟨_, _, rfl, h⟩
  | non => exact absurd e (by decide)
  | bl _ => exact absurd e (by decide)
  | int _ => exact absurd e (by decide)
  | str _ => exact absurd e (by decide)
  | lst _ => exact absurd e (by decide)
  | dK _ => exact absurd e (by decide)
theorem Ty.isInt (t : Ty H x a) (e : a = "int") : ∃ i, x = .int i := by
  cases t with
  | int i => exact ⟨i, rfl⟩
  | non => exact absurd e (by decide)
  | bl _ => exact absurd e (by decide)
  | tup _ => exact absurd e (by decide)
  | str _ => exact absurd e (by decide)
  | lst _ => exact absurd e (by decide)
  | dK _ => exact absurd e (by decide)
theorem Ty.ofInt {i : Int} (t : Ty H (.int i) a) : a = "int" := by
  cases t with
  | int i => rfl
theorem Ty.ofTup {p : Addr} {xs : List V} (t : Ty H (.ref p) a) (e : H p = some (.tup xs)) : a = "tuple" := by
  cases t with
  | tup h => rfl
  | lst h => rw [e] at h; cases h
  | dK h => rw [e] at h; cases h
end
/-- data: a tuple of data, or another thing -/
inductive Dat (B : Nat) (H : Hp) : V → Prop where
  | leaf {x : V} {a : String} (t : Ty H x a) (h : a ≠ "tuple") : Dat B H x
  | tup {p : Addr} {xs : List V} (e : H p = some (.tup xs)) (l : xs.length ≤ B) (h : ∀ y ∈ xs, Dat B H y) : Dat B H (.ref p)
theorem Dat.int {B : Nat} {H : Hp} {i : Int} : Dat B H (.int i) := .leaf (.int i) (by decide)
theorem Dat.ty {B : Nat} {H : Hp} {x : V} (h : Dat B H x) : ∃ a, Ty H x a := by
  cases h with
  | leaf t _ => exact ⟨_, t⟩
  | tup e _ _ => exact ⟨_, .tup e⟩
/-- what keeps tuples, and of lists and dicts their kind -/
structure KD (H H' : Hp) : Prop where
  t : KT H H'
  l : ∀ b xs, H b = some (.lst xs) → ∃ ys, H' b = some (.lst ys)
  d : ∀ b kvs, H b = some (.dK kvs) → ∃ kws, H' b = some (.dK kws)
theorem KD.of {H H' : Hp} (k : Same H H') : KD H H' := ⟨KT.of k, fun b xs e => ⟨xs, k _ _ e⟩, fun b kvs e => ⟨kvs, k _ _ e⟩⟩
theorem KD.refl {H : Hp} : KD H H := ⟨KT.refl, fun b xs e => ⟨xs, e⟩, fun b kvs e => ⟨kvs, e⟩⟩
theorem KD.trans {H H1 H2 : Hp} (a : KD H H1) (b : KD H1 H2) : KD H H2 := ⟨a.t.trans b.t, fun c xs e => by
  obtain ⟨ys, e⟩ := a.l c xs e
  exact b.l c ys e, fun c xs e => by
  obtain ⟨ys, e⟩ := a.d c xs e
  exact b.d c ys e⟩
theorem KD.off {p : Addr} {H H' : Hp} {xs ys : List V} (k : Off p H H') (e : H p = some (.lst xs)) (e' : H' p = some (.lst ys)) : KD H H' := ⟨KT.off k e, fun b zs h => by
  by_cases q : b = p
  · subst q; exact ⟨ys, e'⟩
  · exact ⟨zs, k.get q h⟩, fun b kvs h => ⟨kvs, k.get (ne_of h e (fun z => nomatch z)) h⟩⟩
theorem KD.offK {p : Addr} {H H' : Hp} {xs ys : List (Key × V)} (k : Off p H H') (e : H p = some (.dK xs)) (e' : H' p = some (.dK ys)) : KD H H' := ⟨fun b zs h => k.get (ne_of h e (fun z => nomatch z)) h, fun b zs h => ⟨zs, k.get (ne_of h e (fun z => nomatch z)) h⟩, fun b kvs h => by
  by_cases q : b = p
  · subst q; exact ⟨ys, e'⟩
  · exact ⟨kvs, k.get q h⟩⟩
theorem Ty.kd {H H' : Hp} {x : V} {a : String} (t : Ty H x a) (k : KD H H') : Ty H' x a := by
  cases t with
  | non => exact .non
  | bl b => exact .bl b
  | int i => exact .int i
  | str z => exact .str z
  | lst e => obtain ⟨ys, e⟩ := k.l _ _ e; exact .lst e
  | tup e => exact .tup (k.t _ _ e)
  | dK e => obtain ⟨ys, e⟩ := k.d _ _ e; exact .dK e
theorem Dat.kd {B : Nat} {H H' : Hp} {x : V} (h : Dat B H x) (k : KD H H') : Dat B H' x := by
  induction h with
  | leaf t h => exact .leaf (t.kd k) h
  | tup e l _ ih => exact .tup (k.t _ _ e) l fun y hy => ih y hy
theorem Dat.mono {B C : Nat} (hB : B ≤ C) {H : Hp} {x : V} (h : Dat B H x) : Dat C H x := by
  induction h with
  | leaf t h => exact .leaf t h
  | tup e l _ ih => exact .tup e (Nat.le_trans l hB) fun y hy => ih y hy
theorem Dat.cases {B : Nat} {H : Hp} {x : V} (h : Dat B H x) : (∃ a, Ty H x a ∧ a ≠ "tuple") ∨ ∃ (p : Addr) (xs : List V), x = .ref p ∧ H p = some (.tup xs) ∧ xs.length ≤ B ∧ ∀ y ∈ xs, Dat B H y := by
  cases h with
  | leaf t h => exact .inl ⟨_, t, h⟩
  | tup e l h => exact .inr ⟨_, _, rfl, e, l, h⟩
theorem Deck.kd {H H' : Hp} {d c : Addr} {n m : Nat} (D : Deck H d c n) (D' : Deck H' d c m) (o : Off d H H') : KD H H' := by
  obtain ⟨⟨xs, e⟩, _⟩ := D.at
  obtain ⟨⟨ys, e'⟩, _⟩ := D'.at
  exact KD.off o e e'
section
variable {K : PySem.W.Frag} {H : Hp} {Q : VK}
theorem w_slA {a : Addr} {xs : List V} {lo hi : Option Int} (h1 : SqT K H a xs) (h2 : cutV xs lo hi = xs → Q (.ref a) H) (h : ∀ p H1, H p = none → H1 p = some (.tup (cutV xs lo hi)) → Same H H1 → Q (.ref p) H1) : rSlA K (.ref a) lo hi H Q := by
  refine ⟨a, xs, rfl, h1, fun ⟨z1, z2⟩ => h2 ?_, fun _ => w_new h⟩
  unfold cutV
  rw [z1, z2, List.drop_zero, Nat.sub_zero, List.take_length]
/-- new things in turn: the deck, those that were made, what stood at H0 -/
theorem w_newD {H0 : Hp} {d c : Addr} {n B : Nat} {L xs : List V} (D : Deck H d c n) (hL : ∀ y ∈ L, Dat B H y) (kk : Same H0 H) (hx : ∀ y ∈ xs, Dat B H y) (hl : xs.length ≤ B) (h : ∀ p H', Deck H' d c n → (∀ y ∈ V.ref p :: L, Dat B H' y) → Same H0 H' → Q (.ref p) H') : Nw (.tup xs) H Q := by
  refine w_new fun p H' hp e k => h p H' (D.kp (M := []) (Kp.of k) (by simp) (by simp)) (fun y hy => ?_) (Same.trans kk k)
  rcases List.mem_cons.mp hy with rfl | hy
  · exact .tup e hl fun y hy => (hx y hy).kd (KD.of k)
  · exact (hL y hy).kd (KD.of k)
theorem w_newLD {H0 : Hp} {d c : Addr} {n B : Nat} {L xs : List V} (D : Deck H d c n) (hL : ∀ y ∈ L, Dat B H y) (kk : Same H0 H) (hl : xs.length ≤ 1) (h : ∀ p H', Deck H' d c n → (∀ y ∈ V.ref p :: L, Dat B H' y) → Same H0 H' → Q (.ref p) H') : Nw (.lst xs) H Q := by
  refine w_new fun p H' hp e k => h p H' (D.kp (M := []) (Kp.of k) (by simp) (by simp)) (fun y hy => ?_) (Same.trans kk k)
  rcases List.mem_cons.mp hy with rfl | hy
  · exact .leaf (.lst e) (by decide)
  · exact (hL y hy).kd (KD.of k)
theorem w_newB {H0 : Hp} {d c : Addr} {n B : Nat} {L xs : List V} (D : Deck H d c n) (hL : ∀ y ∈ L, Dat B H y) (kk : Same H0 H) (hx : ∀ y ∈ xs, Dat B H y) (h : ∀ p H', Deck H' d c n → (∀ y ∈ xs, Dat B H' y) → H' p = some (.lst xs) → Same H0 H' → Q (.ref p) H') : Nw (.lst xs) H Q :=
  w_new fun p H' hp e k => h p H' (D.kp (M := []) (Kp.of k) (by simp) (by simp)) (fun y hy => (hx y hy).kd (KD.of k)) e (Same.trans kk k)
theorem w_newKD {H0 : Hp} {d c : Addr} {n B : Nat} {L : List V} {kvs : List (Key × V)} (D : Deck H d c n) (hL : ∀ y ∈ L, Dat B H y) (kk : Same H0 H) (h : ∀ p H', Deck H' d c n → (∀ y ∈ V.ref p :: L, Dat B H' y) → Same H0 H' → Q (.ref p) H') : Nw (.dK kvs) H Q := by
  refine w_new fun p H' hp e k => h p H' (D.kp (M := []) (Kp.of k) (by simp) (by simp)) (fun y hy => ?_) (Same.trans kk k)
  rcases List.mem_cons.mp hy with rfl | hy
  · exact .leaf (.dK e) (by decide)
  · exact (hL y hy).kd (KD.of k)
theorem w_dispD {σ : L2.St} {H0 : Hp} {d c : Addr} {n B : Nat} {L : List V} {k : Int} {v : V} (D : Deck H d c n) (hL : ∀ y ∈ L, Dat B H y) (kk : Same H0 H) (h : ∀ p H', Deck H' d c n → (∀ y ∈ V.ref p :: L, Dat B H' y) → Same H0 H' → Q (.ref p) H') : tDisp [(tC (.int k), tC v)] σ H Q := by
  refine w_disp fun p H1 hp e1 k1 => ?_
  refine w_pair (w_c (w_c (w_pnil ?_)))
  refine w_dispE [(Sum.inl k, v)] e1 rfl (show (1 : Nat) ≤ 15 by decide) fun H2 e2 o2 => ?_
  have k2 : Same H H2 := fun b o e => o2.get (ne_of_none e hp) (k1 _ _ e)
  refine h p H2 (D.kp (M := []) (Kp.of k2) (by simp) (by simp)) (fun y hy => ?_) (Same.trans kk k2)
  rcases List.mem_cons.mp hy with rfl | hy
  · exact .leaf (.dK e2) (by decide)
  · exact (hL y hy).kd (KD.of k2)
theorem w_cat {l b : Addr} {xs zs : List V} (h1 : H l = some (.lst xs)) (h2 : H b = some (.lst zs)) (hz : xs.length + zs.length ≤ sizeLine) (h : ∀ p H1, H p = none → H1 p = some (.lst (xs ++ zs)) → Same H H1 → Q (.ref p) H1) : rCat (.ref l) (.ref b) H Q := ⟨l, b, xs, zs, rfl, rfl, h1, h2, hz, w_new h⟩
/-- t[lo:hi]: where it stands, it is the cut -/
theorem w_slAt {a : Addr} {xs : List V} {lo hi : Option Int} (h1 : H a = some (.tup xs)) (h : ∀ p H1, H1 p = some (.tup (cutV xs lo hi)) → Same H H1 → Q (.ref p) H1) : rSlA K (.ref a) lo hi H Q :=
  w_slA (.of h1) (fun e => h a H (by rw [e]; exact h1) (fun _ _ z => z)) (fun p H1 _ e k => h p H1 e k)
theorem w_catAt {a b : Addr} {xs ys : List V} (h1 : H a = some (.tup xs)) (h2 : H b = some (.tup ys)) (hz : xs.length + ys.length ≤ sizeLine) (h : ∀ p H1, H1 p = some (.tup (xs ++ ys)) → Same H H1 → Q (.ref p) H1) : rCatA K (.ref a) (.ref b) H Q := by
  refine ⟨a, b, xs, ys, rfl, rfl, .of h1, .of h2, hz, fun e => ?_, fun _ e => ?_, fun _ _ p hp => h p _ upd_same (Same.new hp)⟩
  · subst e
    exact h b H h2 (fun _ _ z => z)
  · subst e
    exact h a H (by rw [List.append_nil]; exact h1) (fun _ _ z => z)
end
/-! ### except X as e -/
def tTryA (K : PySem.W.Frag) (c : Value) (i : Nat) (tb : WX → TS) (ts : Addr → Value → Option Addr → TS) : TS := fun D σ H => tb (wAs K c i ts (fun _ _ _ _ => False) D) D σ H
def tGuard (P : Prop) (t : TS) : TS := fun D σ H => P ∧ t D σ H
section
variable {X : Cx} {x n : Str} {c : Value} {i : Nat} {body suite : List Stmt} {b₀ : Stmt} {np pos pos' : Pos} {tb : WX → TS} {ts : Addr → Value → Option Addr → TS}
theorem p_tryAs (hs : X.stack = X.env :: X.outer) (hf : X.env.frame = some X.env.locals) (hN : X.N.Nodup) (hi : X.N[i]? = some n) (hln : X.env.kindOf n = some .local) (hc : Names X x c)
    (hb : ∀ (W : WX) (pn : List (Addr × Obj)) (xe : Value → Shared → Prop), Takes (X.tr pn xe) W → PassesOwn (model X.prog X.w) X.A X.env xe → PSs (X.tr pn xe) body (tb W))
    (hsu : ∀ (a : Addr) (oe : Obj) (cls : Value) (d : Option Addr) (pn : List (Addr × Obj)), Zc cls d oe → (∃ vs, oe.data = .fields vs) → PSs (X.suite a ((a, oe) :: pn)) (b₀ :: suite) (ts a cls d)) :
    PS X (.Try body [.ExceptHandler (some (.Name x np)) (some n) (b₀ :: suite) pos'] [] [] pos) (tTryA X.K c i tb ts) := ps_try_as hs hf hN hi hln hc takes0 hb hsu
theorem pss_guard {P : Prop} {ss : List Stmt} {t : TS} (h : P → PSs X ss t) : PSs X ss (tGuard P t) := ⟨fun pins s σ H D I hw => (h hw.1).run pins s σ H D I hw.2⟩
theorem zc_of {C : Addr} {cls : Value} {d : Option Addr} {oe : Obj} (hg : cls = .ref C ∧ d = none) (hz : Zc cls d oe) : Zc (.ref C) none oe := by
  obtain ⟨rfl, rfl⟩ := hg
  exact hz
end
section
variable {K : PySem.W.Frag} {σ : L2.St} {H : Hp} {Q : VK} {nx bk ct : L2.St → Hp → Prop} {rt : VK}
theorem w_tryA {c : Value} {i : Nat} {tb : WX → TS} {ts : Addr → Value → Option Addr → TS} (h : tb (wAs K c i ts (fun _ _ _ _ => False) ⟨nx, rt, bk, ct⟩) ⟨nx, rt, bk, ct⟩ σ H) : tTryA K c i tb ts ⟨nx, rt, bk, ct⟩ σ H := h
theorem w_guard {P : Prop} {t : TS} (p : P) (h : t ⟨nx, rt, bk, ct⟩ σ H) : tGuard P t ⟨nx, rt, bk, ct⟩ σ H := ⟨p, h⟩
theorem w_isE {a D C : Addr} {b : Bool} (e : PySem.W.kitOne K (.ref D) (.ref C) = some b) (h : Q (.bl b) H) : rIsE K D a [.ref a, .ref C] H Q := ⟨.ref C, .ref C, b, rfl, fun u r => r, e, h⟩
theorem w_isEt {a D : Addr} {n : String} {b : Bool} (e : PySem.W.kitOne K (.ref D) (.type n) = some b) (h : Q (.bl b) H) : rIsE K D a [.ref a, .ty n] H Q := ⟨.ty n, .type n, b, rfl, fun u r => r, e, h⟩
end
end FW

set_option Elab.async false
set_option linter.all false
set_option maxRecDepth 100000
set_option maxHeartbeats 4000000
/-! own errors with fields: made, caught, looked at; min of pairs; defaults by keyword -/
namespace FW
section
open PySem PySem.W PySem.Calls PyProof.Rows
variable {prog : Program} {w : World} {A : Around} {E : Value → Shared → Prop} {s : Shared} {K : Frag} {x D : Addr} {ox : Obj} {od : Option Obj}
theorem fo_data {C : Addr} {name : Str} {a g : Value} (hc : (clsIn K C).isSome = true) (ha : findIn K (.ref C) name = some (some a)) (hg : specialIn K a "__get__" = some (some g)) (ht : takesIn K a = some true) : findObj K C od name = some (.bind g a) := by
  obtain ⟨cd, e⟩ := Option.isSome_iff_exists.mp hc
  unfold findObj; rw [e, Option.bind_some, ha, Option.bind_some]; simp [hg, ht]
theorem cls_look {Q : Option Value → Shared → Prop} (C : L2.ExcC K D) (X : K.In s.heap) (I : InstAt s.heap x ox D od) (h : Q (some (.ref D)) { s with toks := s.toks + 1 }) : wpAny (model prog w) A (getAttr? (.ref x) "__class__") Q E s := by
  have hf : findObj K D od "__class__" = some (.bind (.builtin "getset_descriptor.__get__") (.builtin "object.__class__")) := fo_data (by obtain ⟨cd, hc, _⟩ := any_some C.hd; rw [hc]; rfl) C.ha C.hn C.ht
  obtain ⟨hp, g, d, t, os⟩ := s
  have y0 := I.type (M := model prog w); have y1 := looks_findIn (M := model prog w) X C.hg
  have y2 := looks_findIn (M := model prog w) X C.hk; have y3 := looks_find (M := model prog w) X I hf
  have sub : Looks (model prog w) hp (isInstance (.ref x) (.type "BaseException")) true := y0.andThen (looks_subIn X C.hs)
  have n2 : (Value.builtin "BaseException.__getattribute__" == Value.builtin "object.__getattribute__") = false := by decide +kernel
  have n1 : (onTheHeap (Value.ref D) && Value.builtin "BaseException.__getattribute__" == Value.builtin "object.__getattribute__") = false := by rw [n2]; rfl
  unfold getAttr? getAttrBy? getAttrBy
  refine wpAny_bind (wpAny_mkText (wpAny_bind (wpAny_attempt (wpAny_holding (wpAny_bind (y0.at (wpAny_bind (y1.at ?_))))))))
  show wpAny _ _ (if (onTheHeap (Value.ref D) && Value.builtin "BaseException.__getattribute__" == Value.builtin "object.__getattribute__") = true then _ else _) _ _ _; rw [n1, if_neg Bool.false_ne_true]
  unfold getAttrByItsOwn hookBefore; refine wpAny_bind ?_; rw [if_pos (show onTheHeap (Value.ref D) = true from rfl)]; refine y2.at ?_
  refine wpAny_bind (wpAny_attempt (wpAny_holding ?_)); unfold callGetattribute; rw [show (false && onTheHeap (Value.builtin "BaseException.__getattribute__")) = false from rfl, if_neg Bool.false_ne_true]
  unfold boundAndCalled; rw [PySem.F.excAttr_ValueError.ga.bind (.ref x)]; refine wpAny_bind (wpAny_pure ?_)
  show wpAny _ _ (call (.builtin "BaseException.__getattribute__") [.ref x, .str "__class__" t]) _ _ _; refine wpAny_call (codeAny_call_builtin PySem.F.excAttr_ValueError.ga.plain PySem.F.entry_bexc_ga ?_)
  refine @check_slot (model prog w) _ _ ⟨hp, g, d, t + 1, os⟩ "BaseException.__getattribute__" "BaseException" "__getattribute__" (.ref x) [.str "__class__" t] [] _ (by decide +kernel) (by decide +kernel) sub (PySem.F.args_bexc_ga (.ref x) (.str "__class__" t)) ?_; unfold Builtin.«object.__getattribute__»
  refine wpAny_bind (wpAny_of_eq (a := ((Value.ref x : Value), [Value.str "__class__" t])) (by first | rfl | (simp only [slotArgs]; rfl)) ?_); refine wpAny_bind (wpAny_pure (wpAny_bind (y0.at (wpAny_bind (y3.at ?_)))))
  show wpAny _ _ (holding [Value.builtin "object.__class__"] (call (.builtin "getset_descriptor.__get__") [.builtin "object.__class__", .ref x, .ref D]) >>= ret) _ _ _; refine wpAny_bind (wpAny_holding (wpAny_call (class_get (s := ⟨hp, g, d, t + 1, os⟩) (ox := ox) (od := od) X I C.hm ?_)))
  refine wpAny_pure ?_; show wpAny _ _ (handedOut (.ref D)) _ _ _; rw [handedOut_of (v := .ref D) rfl]
  first | exact wpAny_pure (wpAny_pure h) | exact wpAny_pure h | exact wpAny_pure (wpAny_bind (wpAny_pure (wpAny_pure h)))
theorem kitx_of (C : L2.ExcC K D) : KitX K (.ref x) (.ref D) (fun h => InstAt h x ox D od) := by
  have Z : KitX K (.ref x) (.ref D) (fun h => InstAt h x ox D none) := handS_kitx_exc C.hg C.hk C.hs C.hd C.ha C.hn C.ht C.hm
  refine ⟨fun _ _ _ I => I.type, fun _ _ X _ => ?_, Z.ne, fun X I k => cls_look C X I k⟩
  obtain ⟨cd, hc, _⟩ := any_some C.hd
  unfold clsIn at hc
  split at hc
  · rename_i ho
    intro A' Q' E' s' k q
    unfold isType loadHead; exact wpAny_bind (wpAny_loadPart (k _ _ (X _ _ ho)) (wpAny_pure q))
  · cases hc
end
open PySem PySem.Spec PyProof.Rows L2
/-- isinstance(e, c), e the error that the suite holds, with its fields at d -/
def rIsF (K : PySem.W.Frag) (D a : Addr) (d : Option Addr) : List V → Hp → VK → Prop := fun xs H Q => ∃ (c : V) (cv : Value) (b : Bool) (dd : Addr) (fs : List (Str × V)), xs = [.ref a, c] ∧ d = some dd ∧ H dd = some (.xd fs) ∧ (∀ u, RelV c u → u = cv) ∧ PySem.W.kitOne K (.ref D) cv = some b ∧ Q (.bl b) H
theorem call_isF {X : Cx} {a D : Addr} {oe : Obj} {cls : Value} {d : Option Addr} {pn : List (Addr × Obj)} (C : ExcC X.K D) (hc : cls = .ref D) (hz : Zc cls d oe) (hf : ∃ vs, oe.data = .fields vs) : CallR (X.suite a ((a, oe) :: pn)) (.builtin "isinstance") (rIsF X.K D a d) := by
  intro pins s σ H xs us Q I r ⟨c, cv, b, dd, fs, e0, ed, ea, hcv, e, q⟩
  subst e0 hc ed
  cases r with
  | cons rx rr =>
    cases rr with
    | cons rt rr =>
      cases rr
      cases rx
      have ec := hcv _ rt
      subst ec
      obtain ⟨ha, _⟩ := I.pin (a, oe) (List.mem_append.mpr (.inl List.mem_cons_self))
      obtain ⟨vs, hv⟩ := hf
      have hx : ObjOk X.prog X.w H s.heap dd (.xd fs) := I.hok dd _ ea
      obtain ⟨mA, hns, _⟩ := hx
      obtain ⟨od, ho, _⟩ := lookIn_ns hns
      have J : PySem.W.InstAt s.heap a oe D (some od) := ⟨ha, hz.1, by unfold PySem.W.notCls; rw [hv] <;> rfl, by rw [hz.2]; exact ho⟩
      exact PySem.W.kia_one (kitx_of C) I.kIn J e (fun z => nomatch z) fun tk => ⟨.bl b, H, I.kept (t' := tk) fun _ _ z => z, rfl, q⟩
/-- an own error with __init__ -/
structure ExnI (K : PySem.W.Frag) (mg : Str → Option Value) (x : Str) (C fI : Addr) (fd : FuncData) (ps : List Str) (fs : List Str) : Prop where
  g : mg x = some (.ref C)
  T : OexC K C
  i : PySem.W.findIn K (.ref C) "__init__" = some (some (.ref fI))
  t : PySem.W.typeIn K (.ref fI) = some (.type "function")
  b : Binds K fd ps []
  f : XfC K C
  ec : ExcC K C
  nf : ∀ y ∈ fs, PySem.W.findIn K (.ref C) y = some none
/-- a def with keyword-only defaults -/
structure DfK (K : PySem.W.Frag) (mg : Str → Option Value) (x : Str) (st : Stmt) (ps : List Str) (kws : List (Str × V)) (dvs : List V) (f : Addr) (fd : FuncData) : Prop where
  fn : FunD K x x (defArgs st) (defBody st) (defScope st) [] kws f fd
  g : mg x = some (.ref f)
  kp : PySem.W.keepIn K (.ref f) = true
  b : ∃ ds, Vals dvs ds ∧ Binds K fd ps ds
  kb : ∃ g, KBn K fd ps (ps.length - kws.length) (kws.map (·.1)) g (fun vs zs => vs ++ zs)
/-- raise C(..) of two fields -/
def tRaiseO (C : Addr) (W : WX) (sp : Sp) (ta : TA) : TS := fun _ σ H => tMkO C sp [] ta σ H fun cls d H' => W cls d σ H'
section
variable {K : PySem.W.Frag} {σ : L2.St} {H : Hp} {Q : VK} {nx bk ct : L2.St → Hp → Prop} {rt : VK}
theorem w_raiseO {C : Addr} {W : WX} {sp : Sp} {ta : TA} (h : tMkO C sp [] ta σ H fun cls d H' => W cls d σ H') : tRaiseO C W sp ta ⟨nx, rt, bk, ct⟩ σ H := h
theorem w_mkO {C : Addr} {sp : Sp} {ta : TA} {Qx : XK} (h : ta σ H fun vs H1 => vs.length ≤ 1000 ∧ ∀ a, H1 a = none → sp (.ref a :: (vs ++ [])) (upd H1 a (exo a C none)) (fun v H2 => v = .non ∧ ∃ (d : Addr) (fs : List (Str × V)), H2 a = some (exo a C (some d)) ∧ H2 d = some (exd d fs) ∧ H1 d = none ∧ Qx (.ref C) (some d) (upd (del H2 a) d (.xd fs))) (fun _ _ _ => False)) : tMkO C sp [] ta σ H Qx := h
theorem w_callSD {sp : Sp} {dvs : List V} {E : L2.St → XK} {t : TA} (h : t σ H fun vs H1 => sp (vs ++ dvs) H1 Q (E σ)) : tCallSD sp dvs E t σ H Q := h
theorem w_callN {n m : Nat} {sp : Sp} {gV : List V → List V → List V} {E : XK} {t tk : TA} (h : t σ H fun vs H1 => tk σ H1 fun zs H2 => vs.length = n ∧ zs.length = m ∧ sp (gV vs zs) H2 Q E) : tCallN n m sp gV E t tk σ H Q := h
theorem w_xf {a C : Addr} {cls : Value} {d : Option Addr} {f : Str} {te : TE} (h : te σ H fun x H1 => x = .ref a ∧ cls = .ref C ∧ ∃ (dd : Addr) (fs : List (Str × V)) (v : V), d = some dd ∧ H1 dd = some (.xd fs) ∧ fs.lookup f = some v ∧ Q v H1) : tXf a cls d C f te σ H Q := h
theorem w_isF {a D C dd : Addr} {fs : List (Str × V)} {b : Bool} (ed : H dd = some (.xd fs)) (e : PySem.W.kitOne K (.ref D) (.ref C) = some b) (h : Q (.bl b) H) : rIsF K D a (some dd) [.ref a, .ref C] H Q := ⟨.ref C, .ref C, b, dd, fs, rfl, rfl, ed, fun u r => r, e, h⟩
theorem w_isFt {a D dd : Addr} {fs : List (Str × V)} {n : String} {b : Bool} (ed : H dd = some (.xd fs)) (e : PySem.W.kitOne K (.ref D) (.type n) = some b) (h : Q (.bl b) H) : rIsF K D a (some dd) [.ref a, .ty n] H Q := ⟨.ty n, .type n, b, dd, fs, rfl, rfl, ed, fun u r => r, e, h⟩
theorem w_ost {f : Str} {to te : TE} {D : Ends} (h : te σ H fun y H1 => to σ H1 fun x H2 => ∃ a C : Addr, x = .ref a ∧ OexC K C ∧ PySem.W.findIn K (.ref C) f = some none ∧ ((H2 a = some (exo a C none) ∧ ∀ dx, H2 dx = none → dx ≠ a → D.nx σ (upd (upd H2 dx (exd dx [(f, y)])) a (exo a C (some dx)))) ∨ ∃ (dx : Addr) (fs : List (Str × V)), H2 a = some (exo a C (some dx)) ∧ H2 dx = some (exd dx fs) ∧ fs.length ≤ 900 ∧ D.nx σ (upd H2 dx (exd dx ((f, y) :: fs))))) : tOst K f to te D σ H := h
end
/-- what __init__ of two fields leaves -/
def spInit2 (K : PySem.W.Frag) (C : Addr) (f g : Str) : Sp := fun vs H Q _ => ∃ (a : Addr) (x y : V), vs = [.ref a, x, y] ∧ H a = some (exo a C none) ∧ ∀ dx, H dx = none → dx ≠ a → Q .non (upd (upd (upd H dx (exd dx [(f, x)])) a (exo a C (some dx))) dx (exd dx [(g, y), (f, x)]))
def spInit1 (K : PySem.W.Frag) (C : Addr) (f : Str) : Sp := fun vs H Q _ => ∃ (a : Addr) (x : V), vs = [.ref a, x] ∧ H a = some (exo a C none) ∧ ∀ dx, H dx = none → dx ≠ a → Q .non (upd (upd H dx (exd dx [(f, x)])) a (exo a C (some dx)))
/-- the heap behind it -/
theorem mk2_same {K : PySem.W.Frag} {C : Addr} {f g : Str} {x y : V} {H : Hp} {Qx : XK} {a : Addr} (ha : H a = none) (h : ∀ d H', Same H H' → H d = none → H' d = some (.xd [(g, y), (f, x)]) → Qx (.ref C) (some d) H') :
    spInit2 K C f g [.ref a, x, y] (upd H a (exo a C none)) (fun v H2 => v = .non ∧ ∃ (d : Addr) (fs : List (Str × V)), H2 a = some (exo a C (some d)) ∧ H2 d = some (exd d fs) ∧ H d = none ∧ Qx (.ref C) (some d) (upd (del H2 a) d (.xd fs))) (fun _ _ _ => False) := by
  refine ⟨a, x, y, rfl, upd_same, fun dx hd hne => ⟨rfl, dx, _, ?_, upd_same, (upd_none hd).1, h dx _ (fun b o e => ?_) (upd_none hd).1 upd_same⟩⟩
  · rw [upd_ne (Ne.symm hne), upd_same]
  · have n1 : b ≠ dx := ne_of_none e (upd_none hd).1
    have n2 : b ≠ a := ne_of_none e ha
    rw [upd_ne n1, del_ne n2, upd_ne n1, upd_ne n2, upd_ne n1, upd_ne n2]
    exact e
/-! ### min of a list of pairs -/
def LtP (p q : Int × Int) : Prop := p.1 < q.1 ∨ p.1 = q.1 ∧ p.2 < q.2
def rMinP (K : PySem.W.Frag) : List V → Hp → VK → Prop := fun vs H Q => ∃ (a : Addr) (ps : List (Addr × Int × Int)), vs = [V.ref a] ∧ SqL K H a (ps.map fun q => .ref q.1) ∧ (∀ q ∈ ps, H q.1 = some (.tup [.int q.2.1, .int q.2.2])) ∧ ps ≠ [] ∧ ∀ q ∈ ps, (∀ r ∈ ps, ¬ LtP r.2 q.2) → Q (.ref q.1) H
theorem lt_P (p q : Int × Int) : PySem.W.DatumOrd.lt p q = true ↔ LtP p q := by
  show (if p.1 = q.1 then decide (p.2 < q.2) else decide (p.1 < q.1)) = true ↔ _
  unfold LtP
  by_cases e : p.1 = q.1
  · rw [if_pos e, decide_eq_true_iff]; omega
  · rw [if_neg e, decide_eq_true_iff]; omega
theorem minOf_le : ∀ (xs : List (Int × Int)) (x : Int × Int), (∀ r ∈ x :: xs, ¬ LtP r (PySem.W.minOf x xs)) ∧ PySem.W.minOf x xs ∈ x :: xs
  | [], x => ⟨fun r hr => by
      have e : r = x := by simpa using hr
      subst e
      show ¬ LtP r r
      unfold LtP
      omega, by show x ∈ [x]; simp⟩
  | y :: xs, x => by
    have ih := minOf_le xs (if PySem.W.DatumOrd.lt y x = true then y else x)
    have e : PySem.W.minOf x (y :: xs) = PySem.W.minOf (if PySem.W.DatumOrd.lt y x = true then y else x) xs := rfl
    rw [e]
    revert ih
    generalize PySem.W.minOf (if PySem.W.DatumOrd.lt y x = true then y else x) xs = m
    by_cases c : PySem.W.DatumOrd.lt y x = true
    · rw [if_pos c]
      have c' := (lt_P y x).mp c
      intro ih
      refine ⟨fun r hr => ?_, ?_⟩
      · rcases List.mem_cons.mp hr with rfl | h
        · have := ih.1 y (by simp)
          unfold LtP at *
          omega
        · exact ih.1 r h
      · exact List.mem_cons_of_mem _ ih.2
    · rw [if_neg c]
      have c' : ¬ LtP y x := fun z => c ((lt_P y x).mpr z)
      intro ih
      refine ⟨fun r hr => ?_, ?_⟩
      · rcases List.mem_cons.mp hr with rfl | h
        · exact ih.1 r (by simp)
        · rcases List.mem_cons.mp h with rfl | h
          · have := ih.1 x (by simp)
            unfold LtP at *
            omega
          · exact ih.1 r (by simp [h])
      · rcases List.mem_cons.mp ih.2 with h | h
        · rw [h]; simp
        · simp [h]
section
variable {X : Cx} {pins : List (Addr × Obj)} {σ : L2.St} {H : Hp} {s : Shared}
theorem hold_pair (I : Inv X pins σ H s) {p : Addr} {x y : Int} (e : H p = some (.tup [.int x, .int y])) : PySem.W.Holds s.heap (.ref p) (x, y) := by
  obtain ⟨its, rv, hl, _⟩ := I.tuple (.of e)
  cases rv with
  | cons r1 rr =>
    cases rr with
    | cons r2 rr =>
      cases rr
      obtain ⟨t1, rfl⟩ := r1
      obtain ⟨t2, rfl⟩ := r2
      exact PySem.W.holds_pair hl (PySem.W.holds_int _ _) (PySem.W.holds_int _ _)
theorem hold_all (I : Inv X pins σ H s) : ∀ (ps : List (Addr × Int × Int)) (its : List Value), Vals (ps.map fun q => V.ref q.1) its → (∀ q ∈ ps, H q.1 = some (.tup [.int q.2.1, .int q.2.2])) → PySem.W.HoldAll s.heap its (ps.map (·.2)) ∧ its = ps.map fun q => Value.ref q.1
  | [], _, r, _ => by cases r; exact ⟨PySem.W.HoldAll.nil, rfl⟩
  | q :: ps, _, r, h => by
    cases r with
    | cons r1 rr =>
      cases r1
      obtain ⟨h1, h2⟩ := hold_all I ps _ rr fun z hz => h z (by simp [hz])
      exact ⟨PySem.W.HoldAll.cons (hold_pair I (h q (by simp))) h1, by rw [h2]; rfl⟩
theorem c_minP (hc : X.calm = true) (hu : X.A.units + 100 < cLine) : CallR X (.builtin "min") (rMinP X.K) := by
  intro pins s σ H vs us Q I r ⟨a, ps, e0, hs, hp, hne, q⟩
  subst e0
  obtain ⟨its, rv, hl, _⟩ := I.list hs
  rw [Vals.ref1 r]
  obtain ⟨ha, hit⟩ := hold_all I ps its rv hp
  cases ps with
  | nil => exact absurd rfl hne
  | cons p ps =>
    have hdp : PySem.W.Datum.depth (Int × Int) ≤ 50 := by decide
    refine PySem.W.min_list_datum (x := p.2) (xs := ps.map (·.2)) (I.ok.hd hc) hl.isList (by simpa using ha) (by omega) fun i v h' tk hi hv hk => ?_
    have hi' : its[i]? = some v := by simpa using hi
    rw [hit, List.getElem?_map] at hi'
    obtain ⟨z, hz, rfl⟩ := Option.map_eq_some_iff.mp hi'
    have hzm := List.mem_of_getElem? hz
    have e : z.2 = PySem.W.minOf p.2 (ps.map (·.2)) := by
      obtain ⟨as, ra⟩ := (hold_pair I (hp z hzm)).keeps hk
      obtain ⟨bs, rb⟩ := hv
      have e1 := (Reads.unique ra _ _ rb).1
      have e2 := PySem.W.Datum.eqv (z.2.1, z.2.2) (PySem.W.minOf p.2 (ps.map (·.2)))
      rw [← e1, PySem.W.Datum.eqv] at e2
      have e3 : decide ((z.2.1, z.2.2) = PySem.W.minOf p.2 (ps.map (·.2))) = true := by rw [← e2]; simp
      exact of_decide_eq_true e3
    refine ⟨.ref z.1, H, I.kept (t' := tk) hk, rfl, q z hzm fun r hr => ?_⟩
    have := (minOf_le (ps.map (·.2)) p.2).1 r.2 (by
      rcases List.mem_cons.mp hr with rfl | h
      · simp
      · exact List.mem_cons_of_mem _ (List.mem_map_of_mem h))
    rw [e]
    exact this
end
theorem room100 {k : Nat} {A : Around} (r : Room k A) : A.units + 100 < cLine := by have := r.un; omega
theorem w_minP {K : PySem.W.Frag} {H : Hp} {Q : VK} {a : Addr} {ps : List (Addr × Int × Int)} (h1 : SqL K H a (ps.map fun q => .ref q.1)) (h2 : ∀ q ∈ ps, H q.1 = some (.tup [.int q.2.1, .int q.2.2])) (h3 : ps ≠ []) (h : ∀ q ∈ ps, (∀ r ∈ ps, ¬ LtP r.2 q.2) → Q (.ref q.1) H) : rMinP K [.ref a] H Q := ⟨a, ps, rfl, h1, h2, h3, h⟩
end FW

set_option Elab.async false
set_option linter.all false
set_option maxRecDepth 100000
set_option maxHeartbeats 4000000
/-! for i, x in enumerate(t), t a tuple -/
namespace FW
open PySem PySem.Spec PyProof.Rows L2
def ItU (K : PySem.W.Frag) (a : Addr) : It :=
  ⟨fun i H => ∃ (xs : List V) (x : V), SqT K H a xs ∧ xs[i]? = some x,
   fun i H v H' => ∃ T x, v = .ref T ∧ H T = none ∧ H' = upd H T (.tup [.int (i : Nat), x]) ∧ ∀ xs, SqT K H a xs → xs[i]? = some x,
   fun i H => ∃ xs : List V, SqT K H a xs ∧ xs.length = i⟩
section
variable {P : Program} {w : World} {K : PySem.W.Frag} {elts : List Expr} {kk : Nat} {tpos : Pos}
theorem tup_iter_ne {h : Heap} {a it : Addr} {its : Array Value} {i : Nat} (p : h.IsTuple a its) (q : h.IsTupleIter it a i) : a ≠ it := by
  rintro rfl
  obtain ⟨o, e1, c1, _⟩ := p
  obtain ⟨u, e2, c2, _⟩ := q
  rw [e1] at e2
  cases e2
  rw [c1] at c2
  exact absurd c2 (by decide)
theorem tup_enum_ne {h : Heap} {a e it : Addr} {its : Array Value} {c : Int} {old : Value} (p : h.IsTuple a its) (q : IsEnum h e it c old) : e ≠ a := by
  rintro rfl
  obtain ⟨o, e1, c1, _⟩ := p
  have q' : h.get? e = _ := q
  rw [e1] at q'
  cases q'
  have c2 : Value.type "enumerate" = Value.type "tuple" := c1
  exact absurd c2 (by decide)
theorem turn_enumU (a e it : Addr) : Turn P w K (.Tuple elts kk tpos) (ItU K a) [e, it] e (fun i h => (∃ old, IsEnum h e it ((i : Nat) : Int) old) ∧ h.IsTupleIter it a i ∧ e ≠ it) where
  mem := by simp
  obj := fun i h st b hb => by
    obtain ⟨⟨old, he⟩, ⟨o, ho, hc, hd⟩, _⟩ := st
    have hb' : b = e ∨ b = it := by simpa using hb
    rcases hb' with rfl | rfl
    · exact ⟨_, he, fun v q => nomatch q⟩
    · exact ⟨o, ho, fun v q => by rw [hd] at q; cases q⟩
  keep := fun i h h' ⟨⟨old, he⟩, hi, hne⟩ k => ⟨⟨old, k e (by simp) _ he⟩, hi.at fun o z => k it (by simp) o z, hne⟩
  item := by
    intro X hP hw hK hc i pins s σ H E I hf ⟨⟨old, he⟩, hit, hne⟩ ⟨xs, x, hq, hx⟩
    subst hP hw hK
    obtain ⟨its, rv, p, _⟩ := I.tuple hq
    have p' : s.heap.IsTuple a its.toArray := p
    obtain ⟨u, hu, ru⟩ := rv.get hx
    have hl := rv.length
    have hil : i < its.toArray.size := by
      have := (List.getElem?_eq_some_iff.mp hx).1
      simp only [List.size_toArray]
      omega
    have hel := Heap.lt_size he
    have hil2 : it < s.heap.objs.size := by
      obtain ⟨_, z, _⟩ := hit
      exact Heap.lt_size z
    have DD := Draws.tuple (prog := X.prog) (w := X.w) (A := X.A.in1) (I.ok.hd hc) it a (tup_iter_ne p' hit) its.toArray
    refine wpAny_pyNext_enum_itemC DD he (show _ ∧ _ from ⟨hit, p'⟩) hil hne (by simpa using ⟨hne, tup_enum_ne p' he⟩) fun u' h' tk hu' ho hst hT hsz hk => ?_
    have hit' := hst.1
    have eu : u' = u := by
      have z : its.toArray[i]? = some u' := hu'
      rw [List.getElem?_toArray, hu] at z
      exact (Option.some.inj z).symm
    subst eu
    refine ⟨_, rfl, wpAny_letOwnedTupleGo_enum (s := { s with heap := h', toks := tk + 1 }) ho fun h2 he' sb => ?_⟩
    have hT2 := (sb.2 _ (Nat.ne_of_gt hel)).trans hT
    have new : ObjOk X.prog X.w (upd H s.heap.objs.size (.tup [.int (i : Nat), x])) h2 s.heap.objs.size (.tup [.int (i : Nat), x]) :=
      ⟨show 2 ≤ sizeLine by decide, [.int i tk, u'], .cons ⟨_, rfl⟩ (.cons ru .nil), ⟨_, hT2, rfl, _, rfl⟩⟩
    have I1 : Inv X pins σ (upd H s.heap.objs.size (.tup [.int (i : Nat), x])) { s with heap := h2, toks := tk + 1 } :=
      I.turnedNew (ch := [e, it]) (fun b ob hb q => (sb.2 b (fun z => hb (by simp [z]))).trans (hk b ob (fun z => hb (by simp [z])) (fun z => hb (by simp [z])) q)) hf (Nat.le_refl _) new
    refine ⟨.ref s.heap.objs.size, _, I1, rfl, ⟨_, x, rfl, I.hok.fresh (Nat.le_refl _), rfl, fun ys hy => by rw [I.tuple_inj hy hq]; exact hx⟩, ⟨⟨u', ?_⟩, hit'.at fun o q => (sb.2 it (Ne.symm hne)).trans q, hne⟩, fun b hb => ?_⟩
    · rw [show ((i + 1 : Nat) : Int) = (i : Int) + 1 by omega]
      exact he'
    · have hlt : b < s.heap.objs.size := by
        have hb' : b = e ∨ b = it := by simpa using hb
        rcases hb' with rfl | rfl
        · exact hel
        · exact hil2
      rw [upd_ne (Nat.ne_of_lt hlt)]
      exact (hf b hb).1
  done := by
    intro X hP hw hK hc i pins s σ H E I hf ⟨⟨old, he⟩, hit, hne⟩ ⟨xs, hq, hx⟩
    subst hP hw hK
    obtain ⟨its, rv, p, _⟩ := I.tuple hq
    have p' : s.heap.IsTuple a its.toArray := p
    obtain ⟨f0, f1, f2, f3, f4, f5⟩ := hf it (by simp)
    have hl := rv.length
    have hi : its.toArray.size = i := by
      simp only [List.size_toArray]
      omega
    have DD := Draws.tuple (prog := X.prog) (w := X.w) (A := X.A.in1) (I.ok.hd hc) it a (tup_iter_ne p' hit) its.toArray
    refine wpAny_pyNext_enum_endD DD he (show _ ∧ _ from ⟨by rw [hi]; exact hit, p'⟩) fun h' eb => ⟨rfl, I.turned (t' := s.toks) (fun b o hb q => eb b o hb q) f0 f1 f3 f4 f5⟩
  self := fun A i s Q E ⟨⟨_, he⟩, _⟩ h => wpAny_pyIter_enum he h
end
theorem begins_new1 {v : Value} {o : Obj} {Hs : Heap → Prop} (B : Begins v o Hs) : Meets (Builtin.«enumerate.__new__» ⟨[.type "enumerate", v], []⟩) (fun _ R s => Hs s.heap ∧
      R (.ok (.ret (.ref (s.heap.push o).objs.size))) { s with heap := (s.heap.push o).push { cls := .type "enumerate", data := .fields #[.none, .bool false, .ref s.heap.objs.size, rawInt 0, .none, .none] } }) :=
  .of_wp fun prog w A R s ⟨h1, h⟩ => by
    obtain ⟨hp, g, d, tk, os⟩ := s
    have hsub := sub_enumerate
    have q1 : ∀ {A' : Around} {E : Value → Shared → Prop} {Q : Value → Shared → Prop}, Q (.ref hp.objs.size) ⟨hp.push o, g, d, tk, os⟩ → wpAny (model prog w) A' (pyIter v) Q E ⟨hp, g, d, tk, os⟩ := fun q => B.iter prog w _ _ _ _ h1 q
    wp_walk using q1
    refine wpAny_stack_any fun st => wpAny_pure ?_
    split
    · rename_i c _ _ _ _ _
      cases (c == Value.type "enumerate") <;> (wp_walk using q1; exact ⟨_, rfl, h⟩)
    · wp_walk using q1
      exact ⟨_, rfl, h⟩
section
variable {prog : Program} {w : World} {A : Around} {E : Value → Shared → Prop} {s : Shared}
theorem enum_begins1 {v : Value} {o : Obj} {Hs : Heap → Prop} {Q : Value → Shared → Prop} (B : Begins v o Hs) (h1 : Hs s.heap)
    (h : ∀ h', IsEnum h' (s.heap.objs.size + 1) s.heap.objs.size 0 .none → h'.get? s.heap.objs.size = some o → (∀ b o, s.heap.get? b = some o → h'.get? b = some o) → Q (.ref (s.heap.objs.size + 1)) { s with heap := h' }) :
    wpAny (model prog w) A (call (.type "enumerate") [v]) Q E s := by
  refine callType_new F.called_enumerate (by decide) (F.typeCall_enumerate_1 _) (F.newCall_enumerate_1 _) (fun obj => F.args_object_init_2 obj _) F.entry_enumerate_new (begins_new1 B) ⟨h1, ?_⟩
  have hz : (s.heap.push o).objs.size = s.heap.objs.size + 1 := Heap.size_push ..
  show _ ∧ _
  have he := Heap.get?_push_size (s.heap.push o) (o := { cls := .type "enumerate", data := .fields #[.none, .bool false, .ref s.heap.objs.size, rawInt 0, .none, .none] }) rfl
  rw [hz] at he ⊢
  exact ⟨⟨_, he, rfl⟩, h _ he (Heap.get?_push_of_some _ (Heap.get?_push_size _ B.free)) fun b o x => Heap.get?_push_of_some _ (Heap.get?_push_of_some _ x)⟩
end
def rEnumT (K : PySem.W.Frag) (vs : List V) (H : Hp) (R : It → Hp → Prop) : Prop := ∃ a xs, vs = [.ref a] ∧ SqT K H a xs ∧ R (ItU K a) H
def iEnumT (K : PySem.W.Frag) (ta : TA) : TI := fun σ H R => ta σ H fun vs H1 => rEnumT K vs H1 R
theorem pi_enumT {X : Cx} {e : Expr} {ta : TA} {p pos tpos : Pos} {elts : List Expr} {kk : Nat} (hg : Gl X "enumerate") (hm : X.mg "enumerate" = none) (ha : PA X [e] ta) (hs : starEach [e] X.env = [(false, eval e X.env)] := by rfl) :
    PI X (.Tuple elts kk tpos) (.Call (.Name "enumerate" p) [e] [] pos) (iEnumT X.K ta) := by
  refine ⟨fun pins s σ H R I h => Call_ (ld_blt I hg hm boot_enumerate (callWith_type1 (thn (ha.run pos pins s σ H _ I h) fun us s1 ⟨vs, H1, I1, r1, a, xs, ex, hq, q⟩ => ?_) hs rfl))⟩
  subst ex
  cases r1 with
  | cons r rr =>
    cases rr
    cases r
    obtain ⟨its, rv, p', _⟩ := I1.tuple hq
    refine enum_begins1 (begins_tuple a its.toArray) (show s1.heap.IsTuple a its.toArray from p') fun h' he hit hk => wpAny_pyIter_enum he ?_
    have I2 : Inv X pins σ H1 { s1 with heap := h' } := I1.kept (t' := s1.toks) hk
    refine ⟨s1.heap.objs.size + 1, [s1.heap.objs.size + 1, s1.heap.objs.size], _, _, H1, rfl, I2, turn_enumU a (s1.heap.objs.size + 1) s1.heap.objs.size, ⟨⟨.none, he⟩, ⟨_, hit, rfl, rfl⟩, Nat.succ_ne_self _⟩, fun b hb => ?_, q⟩
    have hb' : b = s1.heap.objs.size + 1 ∨ b = s1.heap.objs.size := by simpa using hb
    have hle : s1.heap.objs.size ≤ b := by
      rcases hb' with rfl | rfl
      · exact Nat.le_succ _
      · exact Nat.le_refl _
    exact I1.fpOk hle (I1.hok.fresh hle)
def rLenD (vs : List V) (H : Hp) (Q : VK) : Prop := ∃ a kvs, vs = [V.ref a] ∧ H a = some (.dK kvs) ∧ Q (.int kvs.length) H
theorem c_lenD {X : Cx} : CallR X (.builtin "len") rLenD := call_lenD
theorem w_lenD {H : Hp} {Q : VK} {a : Addr} {kvs : List (Key × V)} (e : H a = some (.dK kvs)) (h : Q (.int kvs.length) H) : rLenD [.ref a] H Q := ⟨a, kvs, rfl, e, h⟩
section
variable {K : PySem.W.Frag} {σ : L2.St} {H : Hp} {a : Addr} {xs : List V}
theorem walk_enumT : Walk (ItU K a) xs.length (fun H => SqT K H a xs) (fun i H v H' => ∃ T x, v = .ref T ∧ H T = none ∧ H' = upd H T (.tup [.int (i : Nat), x]) ∧ xs[i]? = some x) :=
  ⟨fun i H hi h => ⟨xs, xs[i], h, List.getElem?_eq_getElem hi⟩, fun H h => ⟨xs, h, rfl⟩, fun i H x H' hi h ⟨T, y, e1, e2, e3, e4⟩ => ⟨T, y, e1, e2, e3, e4 xs h⟩⟩
theorem w_enum {ta : TA} {R : It → Hp → Prop} (h : ta σ H fun vs H1 => rEnumT K vs H1 R) : iEnumT K ta σ H R := h
theorem w_enum' {R : It → Hp → Prop} (h1 : SqT K H a xs) (h : R (ItU K a) H) : rEnumT K [.ref a] H R := ⟨a, xs, rfl, h1, h⟩
end
/-! ### what keeps all but the deck -/
structure KX (dk : Addr) (H H' : Hp) : Prop extends KD H H' where
  p : Kp [dk] H H'
theorem KX.of {d : Addr} {H H' : Hp} (k : Same H H') : KX d H H' := ⟨KD.of k, Kp.of k⟩
theorem KX.refl {d : Addr} {H : Hp} : KX d H H := ⟨KD.refl, Kp.refl⟩
theorem KX.trans {d : Addr} {H H1 H2 : Hp} (a : KX d H H1) (b : KX d H1 H2) : KX d H H2 := ⟨a.toKD.trans b.toKD, a.p.trans b.p⟩
theorem Deck.kx {H H' : Hp} {d c : Addr} {n m : Nat} (D : Deck H d c n) (D' : Deck H' d c m) (o : Off d H H') : KX d H H' := ⟨D.kd D' o, o.kp (by simp)⟩
instance {d : Addr} {H H' : Hp} : CoeOut (KX d H H') (KD H H') := ⟨KX.toKD⟩
/-- [x for .. if ..]: which are taken is left open; S goes on from turn to turn -/
theorem lcp_some {σ : L2.St} {H : Hp} {Q : VK} {J : It} {n : Nat} {G : Hp → Prop} {Y : Nat → Hp → V → Hp → Prop} (w : Walk J n G Y) {g : TG} {tt : TT} {te : TE} {vs : List Nat} (M : List Addr) (P : V → Prop) (S : Nat → Hp → Prop) (hz : n ≤ 1000000)
    (SD : ∀ D, H D = none → ∀ i H1 o, S i H1 → S i (upd H1 D o)) (hG : ∀ i H', Kp M H H' → S i H' → G H') (S0 : S 0 H)
    (hs : ∀ i x H1 H2 (R : V → Hp → Prop) (R0 : Hp → Prop), i < n → Kp M H H1 → S i H1 → Y i H1 x H2 → (∀ y H4, P y → Kp M H1 H4 → S (i + 1) H4 → R y H4) → (∀ H4, Kp M H1 H4 → S (i + 1) H4 → R0 H4) → g x (wipe σ vs) H2 fun σ2 H3 => wipe σ2 vs = wipe σ vs ∧ tt σ2 H3 fun b H4 => if b = true then te σ2 H4 R else R0 H4)
    (hM : ∀ b ∈ M, ∃ o, H b = some o)
    (hd : ∀ D H' ys, ys.length ≤ n → (∀ y ∈ ys, P y) → H D = none → Kp M H H' → S n H' → H' D = some (.lst ys) → Q (.ref D) H') : LcP J g tt te vs Q σ H := by
  intro D hD
  have hDM : D ∉ M := fun z => by obtain ⟨o, e⟩ := hM D z; rw [hD] at e; cases e
  refine lc_it w (fun i H' => Kp M H H' ∧ S i H' ∧ ∃ ys, ys.length ≤ i ∧ H' D = some (.lst ys) ∧ ∀ y ∈ ys, P y) ⟨Kp.new hD, SD D hD _ _ _ S0, [], Nat.le_refl _, upd_same, by simp⟩ (fun i H' _ z => hG i H' z.1 z.2.1) ?_ ?_
  · rintro i x H1 H2 hi ⟨k1, s1, ys, hl, e1, hp⟩ y
    refine hs i x H1 H2 _ _ hi k1 s1 y ?_ ?_
    · intro z H4 pz k4 s4
      refine ⟨ys, k4 _ _ hDM e1, Nat.lt_of_le_of_lt hl (Nat.lt_of_lt_of_le (Nat.lt_of_lt_of_le hi hz) (by decide)), (k1.trans k4).mutN hD, SD D hD _ _ _ s4, ys ++ [z], by rw [List.length_append]; simpa using hl, upd_same, fun y' hy' => ?_⟩
      rcases List.mem_append.mp hy' with h | h
      · exact hp y' h
      · have e : y' = z := by simpa using h
        rw [e]
        exact pz
    · intro H4 k4 s4
      exact ⟨k1.trans k4, s4, ys, Nat.le_succ_of_le hl, k4 _ _ hDM e1, hp⟩
  · rintro H' ⟨k, sn, ys, hl, e, hp⟩
    exact hd D H' ys hl hp hD k sn e
end FW

set_option Elab.async false
set_option linter.all false
set_option maxRecDepth 100000
set_option maxHeartbeats 4000000
/-! sorted(d) of a dict of ints, of any length -/
namespace FW
open PySem PySem.Spec PyProof.Rows L2
def rSortA (xs : List V) (H : Hp) (Q : VK) : Prop := ∃ (a : Addr) (kvs : List (Key × V)) (ks : List Int), xs = [.ref a] ∧ Rd H a (.dK kvs) ∧ kvs.map (·.1) = ks.map Sum.inl ∧ ks.length ≤ 100000 ∧
    ∀ (ys : List Int) (p : Addr), ys.Perm ks → ys.Pairwise (· ≤ ·) → H p = none → Q (.ref p) (upd H p (.lst (ys.map V.int)))
theorem c_sortA {X : Cx} (hcalm : X.calm = true) : CallR X (.builtin "sorted") rSortA := by
  intro pins s σ H xs us Q I r ⟨a, kvs, ks, ex, hd, hks, hlk, q⟩
  subst ex
  obtain ⟨u, eu, rx⟩ := vals1 r
  subst eu
  cases rx
  obtain ⟨z, lo, vs, rel, dd⟩ := dk_rd I.hok hd
  obtain ⟨ep, hat⟩ := dd.dictAt
  have hkeys : vs.map (·.1) = ks.map Sum.inl := rel.keys.symm.trans hks
  have hl : vs.length = ks.length := by
    have e := congrArg List.length hkeys
    simpa using e
  have h16 : vs.length ≤ sizeLine := by rw [hl, sizeLine_eq]; omega
  refine Calls.call_function_entry kind_sorted plain_sorted entry_sorted (args_sorted1 _) ?_
  unfold Builtin.«sorted»; refine wpAny_bind (m := checkCount "sorted" 1 1 _) (wpAny_pure ?_)
  refine wpAny_bind (PySem.W.kdu_collect (A := X.A.in1) (PySem.W.kdl_dict (knd := mixKind X.prog X.w) (kvs := vs) (ep := ep) lo) (I.ok.hd hcalm) hat h16 fun h' tk acc hk hacc => ?_)
  have hal : acc.toList.length = ks.length := by rw [Array.length_toList, hacc.1, hl]
  have hS : IntsAre acc.toList ks := ints_each hal fun j v e => by
    obtain ⟨k, x, e1, e2⟩ := hacc.2 j v (by rw [← Array.getElem?_toList]; exact e)
    have e3 : (vs.map (·.1))[j]? = some k := by rw [List.getElem?_map, e1]; rfl
    rw [hkeys, List.getElem?_map] at e3
    obtain ⟨y, e4, e5⟩ := Option.map_eq_some_iff.mp e3
    subst e5
    rcases keyIs_shape (show keyIs (Sum.inl y) v = true from e2) with ⟨i, t, ek, ev⟩ | ⟨z, t, ek, ev⟩
    · cases ek
      exact ⟨y, t, e4, ev⟩
    · cases ek
  have I1 : Inv X pins σ H { s with heap := h', toks := tk } := I.kept hk
  have hz : acc.toList.length ≤ sizeLine := by rw [hal, sizeLine_eq]; omega
  refine wpAny_bind (wpAny_newList ?_ hz)
  have hoL : (h'.push (seqObj "list" acc.toList.toArray 0)).get? h'.objs.size = some (seqObj "list" acc.toList.toArray 0) := Heap.get?_push_size _ rfl
  show wpAny _ _ _ _ _ { s with heap := h'.push (seqObj "list" acc.toList.toArray 0), toks := tk }
  refine wpAny_bind (wpAny_holding (wpAny_call_entry slot_list_sort ⟨_, hoL, rfl⟩ entry_list_sort (SrtO.list_sort_ord (s := { s with heap := h'.push (seqObj "list" acc.toList.toArray 0), toks := tk }) SrtO.swo_int hoL hz (fun h2 => SrtO.ints_sortable hS h2) fun out h1 h2 => ⟨_, rfl, ?_⟩) (args_list_sort _)))
  obtain ⟨g1, g2, g3⟩ := SrtO.ints_out hS h1 h2
  obtain ⟨e', he'⟩ := sortedHeap_at (vs := acc.toList) (out := out.toArray) hoL
  have hlen : ((out.map SrtO.iv).map V.int).length ≤ sizeLine := by rw [List.length_map, g2.length_eq, ← hal]; exact hz
  refine wpAny_pure ⟨_, rfl, .ref h'.objs.size, upd H h'.objs.size (.lst ((out.map SrtO.iv).map V.int)), I1.laid (t' := tk) (fun b u e => ?_) (Nat.le_refl _) (show ObjOk X.prog X.w _ _ _ (.lst ((out.map SrtO.iv).map V.int)) from ⟨hlen, out, e', vals_of_ints g1, he'⟩), rfl, q _ _ g2 g3 (I1.hok.fresh (Nat.le_refl _))⟩
  have hb : b < h'.objs.size := Heap.lt_size e
  rw [sortedHeap_old (Nat.ne_of_lt hb) (by rw [size_push']; exact Nat.lt_succ_of_lt hb)]
  exact Heap.get?_push_of_some _ e
theorem w_lenSetI {K : PySem.W.Frag} {σ : L2.St} {H : Hp} {Q : VK} {ta : TE} (h : ta σ H fun x H1 => ∃ (l : Addr) (ns : List Int), x = .ref l ∧ SqL K H1 l (ns.map V.int) ∧ ns.Nodup ∧ ns.length ≤ 4000 ∧ Q (.int (ns.length : Nat)) H1) : RZ.tLenSetI K ta σ H Q := h
theorem w_sortA {H : Hp} {Q : VK} {a : Addr} {kvs : List (Key × V)} {ks : List Int} (e : H a = some (.dK kvs)) (hk : kvs.map (·.1) = ks.map Sum.inl) (hl : ks.length ≤ 100000) (h : ∀ (ys : List Int) p H1, ys.Perm ks → ys.Pairwise (· ≤ ·) → H p = none → H1 p = some (.lst (ys.map V.int)) → Same H H1 → Q (.ref p) H1) : rSortA [.ref a] H Q :=
  ⟨a, kvs, ks, rfl, .inl e, hk, hl, fun ys p g1 g2 hp => h ys p _ g1 g2 hp upd_same (Same.new hp)⟩
end FW

set_option Elab.async false
set_option linter.all false
set_option maxRecDepth 100000
set_option maxHeartbeats 4000000
/-! t[k::w] of a tuple; extend by a tuple; pairs in a list -/
namespace HT
open PySem PySem.Spec PyProof.Rows
section
variable {prog : Program} {w : World} {A : Around} {E : Value → Shared → Prop} {s : Shared}
def places (n k w : Nat) : Nat := (n - k - 1) / w + 1
theorem applied_step {sl : Addr} {vl vs : Value} {k c n : Nat} {Q : Int × Int × Nat → Shared → Prop} (hs : s.heap.IsSliceOf sl vl .none vs) (pl : IsPart vl (some (k : Int))) (ps : IsPart vs (some (c : Int))) (hk : k < n) (hc : 0 < c)
    (h : Q ((k : Int), (c : Int), places n k c) s) : wpAny (model prog w) A (Builtin.Slice.sliceApplied (.ref sl) (pure (n : Int))) Q E s := by
  obtain ⟨os, hos, hcs, hds⟩ := id hs
  unfold Builtin.Slice.sliceApplied Builtin.Slice.sliceFields
  refine wpAny_bind (wpAny_bind (wpAny_field hos hds (x := vl) rfl (wpAny_bind (wpAny_field hos hds (x := .none) rfl (wpAny_bind (wpAny_field hos hds (x := vs) rfl (wpAny_pure ?_)))))))
  refine wpAny_bind (slicePart_ ps ?_)
  show wpAny _ _ (if ((c : Int) == 0) = true then _ else _) _ _ s
  rw [if_neg (by simp; omega)]
  refine wpAny_bind (slicePart_ pl (wpAny_bind (slicePart_none (wpAny_bind (wpAny_pure ?_)))))
  show wpAny _ _ (match Builtin.Slice.sliceAdjust (some (k : Int)) none (c : Int) (n : Int) with | (lo, hi) => pure (lo, (c : Int), Builtin.Slice.slicePlaces lo hi c)) _ _ s
  have e1 : Builtin.Slice.sliceAdjust (some (k : Int)) none (c : Int) (n : Int) = ((k : Int), (n : Int)) := by
    unfold Builtin.Slice.sliceAdjust
    have g1 : ¬ ((c : Int) < 0) := by omega
    have g2 : ¬ ((k : Int) < 0) := by omega
    simp only [g1, g2, if_false]
    rw [Int.min_eq_left (by omega)]
  have e2 : Builtin.Slice.slicePlaces (k : Int) (n : Int) (c : Int) = places n k c := by
    unfold Builtin.Slice.slicePlaces places
    rw [if_pos (by omega), if_pos (by omega)]
    have e3 : ((n : Int) - k - 1) = ((n - k - 1 : Nat) : Int) := by omega
    rw [e3, ← Int.natCast_ediv]
    generalize (n - k - 1) / c = z
    omega
  rw [e1]
  show wpAny _ _ (pure ((k : Int), (c : Int), Builtin.Slice.slicePlaces (k : Int) (n : Int) (c : Int))) _ _ s
  rw [e2]
  exact wpAny_pure h
def stepL {α : Type} (xs : List α) (k c : Nat) : List α := (List.range (places xs.length k c)).filterMap fun j => xs[k + j * c]?
theorem stepL_le {α : Type} (xs : List α) (k c : Nat) : (stepL xs k c).length ≤ places xs.length k c := Nat.le_trans (List.length_filterMap_le _ _) (by rw [List.length_range]; exact Nat.le_refl _)
theorem places_le {n k c : Nat} (hk : k < n) : places n k c ≤ n := by
  unfold places
  have := Nat.div_le_self (n - k - 1) c
  omega
theorem stepL_whole {α : Type} (xs : List α) : stepL xs 0 1 = xs := by
  unfold stepL places
  cases xs with
  | nil => simp
  | cons x r =>
    have e : ((x :: r).length - 0 - 1) / 1 + 1 = (x :: r).length := by simp
    rw [e]
    apply List.ext_getElem?
    intro i
    have h : (List.range (x :: r).length).filterMap (fun j => (x :: r)[0 + j * 1]?) = x :: r := by
      have h2 : (fun j => (x :: r)[0 + j * 1]?) = fun j => (x :: r)[j]? := by funext j; rw [Nat.zero_add, Nat.mul_one]
      rw [h2]
      exact range_get (x :: r)
    rw [h]
where
  range_get {α : Type} : ∀ ys : List α, (List.range ys.length).filterMap (fun j => ys[j]?) = ys
    | [] => rfl
    | y :: ys => by
      rw [List.length_cons, List.range_succ_eq_map, List.filterMap_cons, List.filterMap_map]
      show y :: (List.range ys.length).filterMap (fun j => ys[j]?) = _
      rw [range_get ys]
theorem item_step {t sl : Addr} {items : Array Value} {vl vs : Value} {k c : Nat} {Q : Value → Shared → Prop} (ht : IsTup s.heap t items) (hs : s.heap.IsSliceOf sl vl .none vs) (pl : IsPart vl (some (k : Int))) (ps : IsPart vs (some (c : Int))) (hk : k < items.size) (hc : 0 < c)
    (h1 : k = 0 → c = 1 → Q (.ref t) s) (h2 : ¬ (k = 0 ∧ c = 1) → Q (.ref s.heap.objs.size) { s with heap := s.heap.push { cls := .type "tuple", data := .seq (stepL items.toList k c).toArray } })
    (hsz : items.size ≤ sizeLine) : wpAny (model prog w) A (getItem (.ref t) (.ref sl)) Q E s := by
  have htake : sizeOk (.seq (stepL items.toList k c).toArray) := by
    show (stepL items.toList k c).toArray.size ≤ sizeLine
    rw [List.size_toArray]
    have g1 := stepL_le items.toList k c
    have g2 := places_le (n := items.toList.length) (k := k) (c := c) (by rw [Array.length_toList]; exact hk)
    have g3 : items.toList.length = items.size := Array.length_toList
    rw [g3] at g1 g2
    omega
  obtain ⟨os, hos, hcs, hds⟩ := id hs
  have hTs : s.TypeIs (.ref sl) "slice" := ⟨os, hos, hcs⟩
  unfold getItem; try with_reducible refine wpAny_holding ?_
  first | refine wpAny_bind (wpAny_pure ?_) | skip
  refine wpAny_bind (wpAny_sequenceKey ht.typeIs (by decide) ?_); refine wpAny_bind (wpAny_callSpecial?_slot (name := Str.ofString "__getitem__") ht.typeIs PyProof.Rows.slot_tuple_getitem (wpAny_call_entry PyProof.Rows.slot_tuple_getitem ht.typeIs entry_tuple_getitem ?_ (args_tuple_getitem _ _)))
  show wpAny _ _ (Builtin.Tuple.tupleItemsOf (.ref t) >>= _) _ _ s; refine wpAny_bind (tupleItemsOf_ ht ?_)
  refine wpAny_bind (wpAny_typeOf hTs ?_); rw [if_pos (by decide)]; refine wpAny_bind (applied_step hs pl ps hk hc ?_)
  show wpAny _ _ (if ((k : Int) == 0 && (c : Int) == 1 && (places items.size k c) == items.size) = true then _ else _) _ _ s
  by_cases hw : k = 0 ∧ c = 1
  · obtain ⟨rfl, rfl⟩ := hw
    have hyes : (((0 : Nat) : Int) == 0 && ((1 : Nat) : Int) == 1 && (places items.size 0 1) == items.size) = true := by
      have e : places items.size 0 1 = items.size := by unfold places; rw [Nat.div_one]; omega
      rw [e]; simp
    rw [if_pos hyes]; refine wpAny_bind ?_
    show wpAny _ _ (typeOf (.ref t) >>= fun T => pure (T == .type "tuple")) _ _ s; refine wpAny_bind (wpAny_typeOf ht.typeIs (wpAny_pure ?_))
    first | rw [if_pos (by decide)] | simp only [beq_self_eq_true, if_true]
    first | exact wpAny_bind (wpAny_rule (wpAny_pure ⟨_, rfl, wpAny_pure (h1 rfl rfl)⟩)) | exact wpAny_bind (wpAny_rule (wpAny_bind (wpAny_pure (wpAny_pure ⟨_, rfl, wpAny_pure (h1 rfl rfl)⟩))))
  · have hno : ¬ (((k : Int) == 0 && (c : Int) == 1 && (places items.size k c) == items.size) = true) := by
      intro q
      rw [Bool.and_eq_true, Bool.and_eq_true] at q
      have q1 : (k : Int) = 0 := eq_of_beq q.1.1
      have q2 : (c : Int) = 1 := eq_of_beq q.1.2
      exact hw ⟨by omega, by omega⟩
    have ep : ((List.range (places items.size k c)).filterMap fun (m : Nat) => items[((k : Int) + (m : Int) * c).toNat]?).toArray = (stepL items.toList k c).toArray := by
      unfold stepL
      rw [Array.length_toList]
      congr 2
      funext m
      have e : ((k : Int) + (m : Int) * c).toNat = k + m * c := by
        have : ((k : Int) + (m : Int) * c) = ((k + m * c : Nat) : Int) := by simp
        rw [this]; rfl
      rw [e, Array.getElem?_toList]
    have h := h2 hw
    rw [if_neg hno, ep]
    first | exact wpAny_bind (m := Builtin.Tuple.tupleExact _) (wpAny_newObj_type (wpAny_pure ⟨_, rfl, wpAny_pure h⟩) htake) | exact wpAny_bind (m := Builtin.Tuple.tupleExact _) (wpAny_newObj_type (wpAny_bind (wpAny_pure (wpAny_pure ⟨_, rfl, wpAny_pure h⟩))) htake) | exact wpAny_bind (wpAny_bind (m := Builtin.Tuple.tupleExact _) (wpAny_newObj_type (wpAny_pure (wpAny_pure ⟨_, rfl, wpAny_pure h⟩)) htake)) | exact wpAny_bind (wpAny_bind (m := Builtin.Tuple.tupleExact _) (wpAny_newObj_type (wpAny_pure ⟨_, rfl, wpAny_pure h⟩) htake))
end
end HT
namespace FW
open PySem PySem.Spec PyProof.Rows L2
/-- t[k::w] -/
def rStep (K : PySem.W.Frag) (x y z : V) (H : Hp) (Q : VK) : Prop := ∃ (a : Addr) (xs : List V) (k c : Nat), x = .ref a ∧ y = .int k ∧ z = .int c ∧ SqT K H a xs ∧ k < xs.length ∧ 0 < c ∧ (k = 0 → c = 1 → Q (.ref a) H) ∧ (¬ (k = 0 ∧ c = 1) → Nw (.tup (HT.stepL xs k c)) H Q)
def tStep (K : PySem.W.Frag) (te tl ts : TE) : TE := fun σ H Q => te σ H fun x H1 => tl σ H1 fun y H2 => ts σ H2 fun z H3 => rStep K x y z H3 Q
theorem vals_step {xs : List V} {its : List Value} (r : Vals xs its) (k c n : Nat) : Vals ((List.range n).filterMap fun j => xs[k + j * c]?) ((List.range n).filterMap fun j => its[k + j * c]?) := by
  induction n with
  | zero => exact .nil
  | succ n ih =>
    rw [List.range_succ, List.filterMap_append, List.filterMap_append]
    refine ih.append ?_
    cases e : xs[k + n * c]? with
    | none =>
      have e2 : its[k + n * c]? = none := by
        rw [List.getElem?_eq_none_iff] at e ⊢
        rw [← r.length]; exact e
      simp only [List.filterMap_cons, List.filterMap_nil, e, e2]
      exact .nil
    | some x =>
      obtain ⟨u, hu, ru⟩ := r.get e
      simp only [List.filterMap_cons, List.filterMap_nil, e, hu]
      exact .cons ru .nil
section
variable {X : Cx}
theorem pe_step {e lo st : Expr} {te tl ts : TE} {p2 pos : Pos} (he : PE X e te) (hl : PE X lo tl) (hst : PE X st ts) : PE X (.Subscript e (.Slice (some lo) none (some st) p2) pos) (tStep X.K te tl ts) := by
  refine ⟨fun pins s σ H Q I h => Subscript_ (thn (he.run pins s σ H _ I h) fun v s1 ⟨x, H1, I1, r1, q1⟩ => ?_)⟩
  refine wpAny_Slice (thn (hl.run pins s1 σ H1 _ I1 q1) fun vl s2 ⟨y, H2, I2, r2, q2⟩ => ?_)
  rw [evalPart_none]
  refine wpAny_pure ?_
  refine thn (hst.run pins s2 σ H2 _ I2 q2) fun vs s3 ⟨z, H3, I3, r3, a, xs, k, c, ex, ey, ez, hx, hk, hc, g1, g2⟩ => ?_
  subst ex ey ez
  cases r1
  obtain ⟨t1, rfl⟩ := r2
  obtain ⟨t2, rfl⟩ := r3
  have I4 : Inv X pins σ H3 { s3 with heap := s3.heap.push { cls := .type "slice", data := .fields #[.int (k : Int) t1, .none, .int (c : Int) t2] } } := I3.kept (t' := s3.toks) fun b ob q => Heap.get?_push_of_some _ q
  obtain ⟨its, r, ht, hz⟩ := I4.tuple hx
  have hlen : its.toArray.size = xs.length := by rw [List.size_toArray]; exact r.length.symm
  show wpAny (model X.prog X.w) X.A (subscriptTail e (.Slice (some lo) none (some st) p2) (.ref a) (.ref s3.heap.objs.size)) (EP X pins σ Q) X.xe _
  refine tail_any (ops := [.ref a, .ref s3.heap.objs.size]) ht.typeIs PyProof.Rows.slot_tuple_getitem.lookup ?_ (by with_unfolding_all rfl)
  refine HT.item_step ht (Heap.IsSliceOf.new _ _ _ _) (.int _ t1) (.int _ t2) (by rw [hlen]; exact hk) hc (fun h1 h2 => ⟨.ref a, H3, I4, rfl, g1 h1 h2⟩) (fun hn => ?_) (by rw [hlen]; exact hz)
  refine ⟨.ref _, _, I4.laid (t' := s3.toks) (o := .tup (HT.stepL xs k c)) (fun b ob q => Heap.get?_push_of_some _ q) (Nat.le_refl _) ?_, rfl, g2 hn _ (I4.hok.fresh (Nat.le_refl _))⟩
  refine ⟨Nat.le_trans (HT.stepL_le xs k c) (Nat.le_trans (HT.places_le hk) hz), _, ?_, IsTup.new _ _⟩
  unfold HT.stepL
  have hl2 : its.length = xs.length := r.length.symm
  show Vals _ ((List.range (HT.places its.length k c)).filterMap fun j => its[k + j * c]?)
  rw [hl2]
  exact vals_step r k c _
theorem ext_meets (l : Addr) (items : Array Value) (n : Nat) (b : Addr) (items2 : Array Value) (n2 : Nat) (dd : Option Addr) (sl : Array (Option Value)) (hs0 : ¬(!items.isEmpty && Builtin.List.listTooLong (items.size + items2.size)) = true) (hs1 : items.size ≤ sizeLine) (hs2 : items.size + items2.size ≤ sizeLine + 1) :
    Meets (Builtin.«list.extend» ⟨[.ref l, .ref b], []⟩) (fun _ R s => s.heap.get? l = some { cls := .type "list", dict := none, data := .seq items n, slots := #[] } ∧ s.heap.get? b = some { cls := .type "tuple", dict := dd, data := .seq items2 n2, slots := sl } ∧ R (.ok (.ret Value.none)) { s with heap := s.heap.update l (Obj.mapSeq fun x => x ++ items2), toks := s.toks }) :=
  .of_wp fun prog w A R s h => by
    obtain ⟨hp, g, d, tk, os⟩ := s
    obtain ⟨hl, hb, h⟩ := h
    have f1 := AutoSeq1.idx_int; have f2 := AutoSeq1.sub_tuple_tuple; have f3 := AutoSeq1.sub_list_list; have f4 := AutoSeq1.sub_tuple_list; have f5 := AutoSeq1.sub_list_tuple; have hz' : (items ++ items2).size ≤ sizeLine + 1 := by rw [Array.size_append]; exact hs2
    wp_walk using (wpAny_updateSeq hl rfl (hz := hs1) (_hz' := hz')), AutoSeq1.wpAny_loadPart' hl, AutoSeq1.wpAny_loadPart' hb
    exact ⟨_, rfl, h⟩
def rExtT (K : PySem.W.Frag) : V → List V → Hp → VK → Prop := fun x vs H Q => ∃ l b xs zs, x = .ref l ∧ vs = [.ref b] ∧ H l = some (.lst xs) ∧ H b = some (.tup zs) ∧ xs.length + zs.length ≤ sizeLine ∧ Q .non (upd H l (.lst (xs ++ zs)))
theorem mt_extT : MtM X "list.extend" (rExtT X.K) := by
  intro pins s σ H x vs v us Q I rx rv ⟨l, b, xs, zs, e0, e1, hH, hB, hz, q⟩
  subst e0 e1
  cases rx
  obtain ⟨u, rfl, ru⟩ := rv.one
  cases ru
  obtain ⟨z, its, n, r, hl, e⟩ := I.lstM hH
  obtain ⟨its2, r2, ⟨⟨oc, dd, od, sl⟩, e2, ec, n2, ed⟩, z2⟩ := I.tuple (.of hB)
  have hl2 := r2.length
  dsimp only at ec ed
  subst ec ed
  have hsz : its.toArray.size + its2.toArray.size ≤ sizeLine := by rw [List.size_toArray, List.size_toArray]; omega
  have hlong : ¬ (!its.toArray.isEmpty && Builtin.List.listTooLong (its.toArray.size + its2.toArray.size)) = true := by rw [notLongL hsz, Bool.and_false]; exact Bool.false_ne_true
  refine call_meets F.slot_list_extend ⟨_, e, rfl⟩ F.entry_list_extend (F.args_list_extend_2 _ _) (ext_meets l its.toArray n b its2.toArray n2 dd sl hlong (by rw [List.size_toArray]; omega) (by omega)) ⟨e, e2, ?_⟩
  refine ⟨.non, _, I.lset (its' := its ++ its2) hH e (by simp) (r.append r2) ?_, rfl, q⟩
  rw [List.length_append]; omega
/-- a pair (int, truth) that is not in a list of such -/
def rNotInP (K : PySem.W.Frag) : R2 := fun x y H Q => ∃ (p a : Addr) (v : Int) (b : Bool) (an : List (Addr × Int × Bool)), x = .ref p ∧ y = .ref a ∧ H p = some (.tup [.int v, .bl b]) ∧ SqL K H a (an.map fun q => .ref q.1) ∧ (∀ q ∈ an, H q.1 = some (.tup [.int q.2.1, .bl q.2.2])) ∧ Q (.bl (decide ((v, b) ∉ an.map (·.2)))) H
theorem hold_ib {pins : List (Addr × Obj)} {σ : L2.St} {H : Hp} {s : Shared} (I : Inv X pins σ H s) {p : Addr} {x : Int} {y : Bool} (e : H p = some (.tup [.int x, .bl y])) : PySem.W.Holds s.heap (.ref p) (x, y) := by
  obtain ⟨its, rv, hl, _⟩ := I.tuple (.of e)
  cases rv with
  | cons r1 rr =>
    cases rr with
    | cons r2 rr =>
      cases rr
      obtain ⟨t1, rfl⟩ := r1
      cases r2
      exact PySem.W.holds_pair hl (PySem.W.holds_int _ _) (PySem.W.holds_bool _)
theorem hold_allB {pins : List (Addr × Obj)} {σ : L2.St} {H : Hp} {s : Shared} (I : Inv X pins σ H s) : ∀ (ps : List (Addr × Int × Bool)) (its : List Value), Vals (ps.map fun q => V.ref q.1) its → (∀ q ∈ ps, H q.1 = some (.tup [.int q.2.1, .bl q.2.2])) → PySem.W.HoldAll s.heap its (ps.map (·.2))
  | [], _, r, _ => by cases r; exact PySem.W.HoldAll.nil
  | q :: ps, _, r, h => by
    cases r with
    | cons r1 rr =>
      cases r1
      exact PySem.W.HoldAll.cons (hold_ib I (h q (by simp))) (hold_allB I ps _ rr fun z hz => h z (by simp [hz]))
theorem op_notInP (hu : X.A.units + 100 < cLine) : OpR X (compareOp .NotIn) (rNotInP X.K) := by
  intro pins s σ H x y v u Q I rx ry ⟨p, a, w, b, an, e0, e1, hp, hs, hq, q⟩
  subst e0 e1
  cases rx
  cases ry
  obtain ⟨its, rv, hl, _⟩ := I.list hs
  have hdp : PySem.W.Datum.depth (Int × Bool) ≤ 50 := by decide
  exact PySem.W.notIn_list_datum (xs := an.map (·.2)) (x := (w, b)) hl.isList (by simpa using hold_allB I an its rv hq) (hold_ib I hp) (by omega) ⟨.bl _, H, I, congrArg Value.bool (decide_eq_decide.mpr Iff.rfl), q⟩
end
section
variable {K : PySem.W.Frag} {σ : L2.St} {H : Hp} {Q : VK}
theorem w_step {te tl ts : TE} (h : te σ H fun x H1 => tl σ H1 fun y H2 => ts σ H2 fun z H3 => rStep K x y z H3 Q) : tStep K te tl ts σ H Q := h
theorem w_step' {a : Addr} {xs : List V} {k c : Nat} (h1 : H a = some (.tup xs)) (hk : k < xs.length) (hc : 0 < c) (h : ∀ p H1, H1 p = some (.tup (HT.stepL xs k c)) → Same H H1 → Q (.ref p) H1) : rStep K (.ref a) (.int k) (.int c) H Q :=
  ⟨a, xs, k, c, rfl, rfl, rfl, .of h1, hk, hc, fun e1 e2 => h a H (by subst e1 e2; rw [HT.stepL_whole]; exact h1) (fun _ _ z => z), fun _ => w_new fun p H1 _ e k => h p H1 e k⟩
theorem w_extT {l b : Addr} {xs zs : List V} (h1 : H l = some (.lst xs)) (h2 : H b = some (.tup zs)) (hz : xs.length + zs.length ≤ sizeLine) (h : ∀ H1, H1 l = some (.lst (xs ++ zs)) → Off l H H1 → Q .non H1) : rExtT K (.ref l) [.ref b] H Q :=
  ⟨l, b, xs, zs, rfl, rfl, h1, h2, hz, h _ upd_same fun b n => upd_ne n⟩
theorem w_notInP {p a : Addr} {v : Int} {b : Bool} {an : List (Addr × Int × Bool)} (h1 : H p = some (.tup [.int v, .bl b])) (h2 : SqL K H a (an.map fun q => .ref q.1)) (h3 : ∀ q ∈ an, H q.1 = some (.tup [.int q.2.1, .bl q.2.2])) (h : Q (.bl (decide ((v, b) ∉ an.map (·.2)))) H) : rNotInP K (.ref p) (.ref a) H Q := ⟨p, a, v, b, an, rfl, rfl, h1, h2, h3, h⟩
end
end FW

set_option Elab.async false
set_option linter.all false
set_option maxRecDepth 100000
set_option maxHeartbeats 4000000
/-! a, .., *rest = t: the last target starred, t a tuple -/
namespace FW
open PySem PySem.Spec PyProof.Rows L2
section
variable {prog : Program} {w : World} {A : Around} {E : Value → Shared → Prop} {s : Shared}
theorem walks_shift {I : Addr} {fp wr : List Addr} {G : Array GenState → Array GenState → Prop} {n : Nat} {P : Nat → Value → Prop} {St : Nat → Shared → Prop} (W : WalksS prog w A I fp wr G n P St) {j : Nat} (hj : j ≤ n) : WalksS prog w A I fp wr G (n - j) (fun i => P (j + i)) (fun i => St (j + i)) where
  sub := W.sub
  grefl := W.grefl
  gtrans := W.gtrans
  frame := fun i => W.frame (j + i)
  item := fun i s Q E hi st hQ => W.item (j + i) s Q E (by omega) st fun v s' hp hs hm => hQ v s' hp hs hm
  done := fun s Q E st hQ => W.done s Q E (by rw [show j + (n - j) = n by omega] at st; exact st) hQ
  self := fun i => W.self (j + i)
theorem items_star {t : Addr} {items : Array Value} {j : Nat} {Q : List Value → Shared → Prop} (hh : A.handled = none) (ht : IsTup s.heap t items) (hj : j ≤ items.size) (hz : items.size ≤ sizeLine)
    (h : ∀ (h' : Heap) (tk : Nat), (∀ b o, s.heap.get? b = some o → h'.get? b = some o) → Q (items.toList.take j ++ [.ref h'.objs.size]) { s with heap := h'.push { cls := .type "list", data := .seq (items.toList.drop j).toArray }, toks := tk }) :
    wpAny (model prog w) A (unpackItems (.ref t) (j + 1) (some j)) Q E s := by
  have hlt : t ≠ s.heap.objs.size := by obtain ⟨o, ho, _⟩ := ht; exact Nat.ne_of_lt (Heap.lt_size ho)
  unfold unpackItems
  refine wpAny_bind ?_
  unfold notIterableAtAll
  refine wpAny_bind (wpAny_specialOf ht.typeIs slot_tuple_iter.lookup (wpAny_pure ?_))
  simp only [Bool.false_eq_true, if_false]
  refine wpAny_bind (wpAny_holding (iter_tuple ht ?_))
  refine wpAny_bind (wpAny_holding (draw_tuple hlt j 0 _ _ ⟨_, Heap.get?_push_size _ rfl, rfl, rfl⟩ (ht.push _) (by omega) fun h1 hit1 hs1 => ?_))
  have ht1 : IsTup h1 t items := (ht.push _).extBut hs1.extBut hlt
  rw [List.drop_zero, if_neg (by rw [List.length_take, Array.length_toList]; omega)]
  have hsz1 : s.heap.objs.size < h1.objs.size := by
    obtain ⟨o, ho, _⟩ := hit1
    exact Heap.lt_size ho
  have htl : t < h1.objs.size := by
    obtain ⟨o, ho, _⟩ := ht1
    exact Heap.lt_size ho
  have W := walks_shift (Walks.tuple (prog := prog) (w := w) (A := A.in1) hh s.heap.objs.size t hlt items).toS hj
  refine wpAny_bind (wpAny_holding (wpAny_collect_iter (.inr (.inr (.inr rfl))) W (fun i s' st => by obtain ⟨⟨o, ho, hc, _⟩, _⟩ := st; exact ⟨o, ho, hc⟩) (show _ ∧ _ from ⟨by rw [Nat.zero_add] at hit1; exact hit1, ht1⟩) (fun b hb => ?_) (by simp) (fun s' acc m ia => ?_) (by omega)))
  · have hb' : b = s.heap.objs.size ∨ b = t := by simpa using hb
    rcases hb' with rfl | rfl
    · exact hsz1
    · exact htl
  · have eacc : acc.toList = items.toList.drop j := by
      apply List.ext_getElem?
      intro i
      rw [List.getElem?_drop]
      by_cases hi : i < items.size - j
      · have hi2 : i < acc.size := by rw [ia.1]; exact hi
        have e1 : acc[i]? = some acc[i] := Array.getElem?_eq_getElem hi2
        have e2 := ia.2 i _ e1
        rw [Array.getElem?_toList, Array.getElem?_toList, e1]
        exact e2.symm
      · rw [List.getElem?_eq_none (by rw [Array.length_toList, ia.1]; omega), List.getElem?_eq_none (by rw [Array.length_toList]; omega)]
    have hgens : s'.gens = s.gens := m.gens
    have hdr : s'.drawn = s.drawn := m.drawn
    have hos : s'.os = s.os := m.os
    have hheap := m.heap
    obtain ⟨hp', g', d', tk', os'⟩ := s'
    dsimp only at hgens hdr hos hheap
    subst hgens hdr hos
    have old : ∀ b o, s.heap.get? b = some o → hp'.get? b = some o := fun b o e => by
      have hb : b ≠ s.heap.objs.size := Nat.ne_of_lt (Heap.lt_size e)
      exact hheap b o (by simpa using hb) (hs1.extBut b o hb (Heap.get?_push_of_some _ e))
    rw [eacc]
    have hz2 : (items.toList.drop j).length ≤ sizeLine := by rw [List.length_drop, Array.length_toList]; omega
    simp only [Nat.add_sub_cancel, Nat.sub_self, Nat.not_lt_zero, if_false, Nat.sub_zero, List.take_length, List.drop_length, List.append_nil]
    exact wpAny_bind (wpAny_newList (wpAny_pure (h hp' tk' old)) hz2)
end
/-- n names, then a starred one -/
def gStar (K : PySem.W.Frag) (j : Nat) (t : TGs) : TG := fun v σ H Q => ∃ a xs, v = .ref a ∧ SqT K H a xs ∧ j ≤ xs.length ∧ ∀ L, H L = none → t (xs.take j ++ [.ref L]) σ (upd H L (.lst (xs.drop j))) Q
section
variable {X : Cx} {pos : Pos}
theorem pg_star {es : List Expr} {k : Nat} {t : TGs} {j : Nat} (hc : X.calm = true) (h : PGs X es t) (hn : (assignEach es X.env).length = j + 1 := by rfl) (hst : (assignEach es X.env).findIdx? (·.1) = some j := by rfl) : PG X (.Tuple es k pos) (gStar X.K j t) := by
  refine ⟨fun pins s σ H v u Q I r ⟨a, xs, e1, hq, hl, hw⟩ => ?_⟩
  subst e1
  cases r
  obtain ⟨its, rv, ht, hz⟩ := I.tuple hq
  have hlen := rv.length
  rw [assign_Tuple]
  refine wpAny_bind (wpAny_standAt ?_)
  unfold unpack
  rw [hn, hst]
  refine wpAny_bind (wpAny_holding (items_star (I.ok.hd hc) ht (by rw [List.size_toArray]; omega) (by rw [List.size_toArray]; omega) fun h' tk hk => ?_))
  have I1 : Inv X pins σ H { s with heap := h', toks := tk } := I.kept hk
  have hfr := I1.hok.fresh (Nat.le_refl h'.objs.size)
  have I2 : Inv X pins σ (upd H h'.objs.size (.lst (xs.drop j))) { s with heap := h'.push { cls := .type "list", data := .seq (its.drop j).toArray }, toks := tk } :=
    I1.laid (t' := tk) (o := .lst (xs.drop j)) (fun b o q => Heap.get?_push_of_some _ q) (Nat.le_refl _) ⟨by rw [List.length_drop]; omega, _, 0, rv.drop j, Heap.get?_push_size _ rfl⟩
  exact h.run pins _ σ _ (xs.take j ++ [.ref h'.objs.size]) _ Q I2 ((rv.take j).append (.cons (show RelV (.ref h'.objs.size) (Value.ref h'.objs.size) from rfl) .nil)) (hw _ hfr)
theorem pgs_star {x : Str} {p1 p2 : Pos} {es : List Expr} {t : TG} {u : TGs} (h1 : PG X (.Name x p1) t) (h2 : PGs X es u) : PGs X (.Starred (.Name x p1) p2 :: es) (gCons t u) :=
  ⟨fun pins s σ H vs us Q I r h => (pgs_cons h1 h2).run pins s σ H vs us Q I r h⟩
end
theorem w_gstar {K : PySem.W.Frag} {σ : L2.St} {H : Hp} {j : Nat} {t : TGs} {a : Addr} {xs : List V} {R : L2.St → Hp → Prop} (h1 : SqT K H a xs) (h2 : j ≤ xs.length) (h : ∀ L H1, H L = none → H1 L = some (.lst (xs.drop j)) → Same H H1 → t (xs.take j ++ [.ref L]) σ H1 R) : gStar K j t (.ref a) σ H R :=
  ⟨a, xs, rfl, h1, h2, fun L hL => h L _ hL upd_same (Same.new hL)⟩
end FW

set_option Elab.async false
set_option linter.all false
set_option maxRecDepth 100000
set_option maxHeartbeats 4000000
/-! try with several except clauses, each with or without a name -/
namespace FW
open PySem PySem.Spec PyProof.Rows L2
abbrev Suite := Addr → Value → Option Addr → TS
/-- the ends behind a suite whose name goes -/
def unset (i : Nat) (D : Ends) : Ends := ⟨fun σ H => D.nx (σ.set i none) H, D.rt, fun σ H => D.bk (σ.set i none) H, fun σ H => D.ct (σ.set i none) H⟩
def runCl (o : Option Nat) (ts : Suite) (a : Addr) (cls : Value) (d : Option Addr) (D : Ends) (σ : L2.St) (H : Hp) : Prop :=
  match o with
  | none => ts a cls d D σ H
  | some i => ts a cls d (unset i D) (σ.set i (some (.ref a))) H
def wCl (K : PySem.W.Frag) (Wo : WX) (D : Ends) : List (Value × Option Nat × Suite) → WX
  | [] => Wo
  | (c, o, ts) :: r => fun cls d σ H => ∃ b, PySem.W.exmOne K cls c = some b ∧ (b = true → ∀ a, H a = none → runCl o ts a cls d D σ H) ∧ (b = false → wCl K Wo D r cls d σ H)
inductive ClOk (X : Cx) : List ExceptHandler → List (Value × Option Nat × Suite) → Prop
  | nil : ClOk X [] []
  | only {x : Str} {c : Value} {ts : Suite} {st : Stmt} {sts : List Stmt} {p1 p2 : Pos} {hs : List ExceptHandler} {l : List (Value × Option Nat × Suite)} (nm : Names X x c)
      (su : ∀ a oe cls d pn, Zc cls d oe → (∃ vs, oe.data = .fields vs) → PSs (X.suite a ((a, oe) :: pn)) (st :: sts) (ts a cls d)) (r : ClOk X hs l) :
      ClOk X (.ExceptHandler (some (.Name x p1)) none (st :: sts) p2 :: hs) ((c, none, ts) :: l)
  | as {x n : Str} {c : Value} {i : Nat} {ts : Suite} {st : Stmt} {sts : List Stmt} {p1 p2 : Pos} {hs : List ExceptHandler} {l : List (Value × Option Nat × Suite)} (hi : X.N[i]? = some n) (hl : X.env.kindOf n = some .local) (nm : Names X x c)
      (su : ∀ a oe cls d pn, Zc cls d oe → (∃ vs, oe.data = .fields vs) → PSs (X.suite a ((a, oe) :: pn)) (st :: sts) (ts a cls d)) (r : ClOk X hs l) :
      ClOk X (.ExceptHandler (some (.Name x p1)) (some n) (st :: sts) p2 :: hs) ((c, some i, ts) :: l)
def tTryG (K : PySem.W.Frag) (l : List (Value × Option Nat × Suite)) (Wo : WX) (tb : WX → TS) : TS := fun D σ H => tb (wCl K Wo D l) D σ H
section
variable {X : Cx} {body : List Stmt} {h1 : ExceptHandler} {hs : List ExceptHandler} {l : List (Value × Option Nat × Suite)} {pos : Pos} {tb : WX → TS} {Wo : WX}
theorem p_tryG (stk : X.stack = X.env :: X.outer) (fr : X.env.frame = some X.env.locals) (nd : X.N.Nodup) (tk : Takes X Wo)
    (pb : ∀ W pn xe, Takes (X.tr pn xe) W → PassesOwn (model X.prog X.w) X.A X.env xe → PSs (X.tr pn xe) body (tb W))
    (cl : ClOk X (h1 :: hs) l) : PS X (.Try body (h1 :: hs) [] [] pos) (tTryG X.K l Wo tb) := by
  constructor
  intro pins s σ H D I h
  have ok := I.ok
  have frm : X.A.frames = some (X.env :: X.outer) := by rw [ok.frames, stk]
  apply wpAny_Try_except
  have run := (pb (wCl X.K Wo D l) (X.pn ++ pins) (fun e z1 => wpAny (model X.prog X.w) X.A (noteFrame e X.env) (fun _ z2 => wpAny (model X.prog X.w) X.A (setFlight e none) (fun _ z3 => wpAny (model X.prog X.w) X.A (handleBy e X.env (h1 :: hs)) (SP X pins D) X.xe z3) X.xe z2) X.xe z1) ?caught PassesOwn.looking).run [] s σ H D (I.toTry _) h
  case caught =>
    intro u z xx
    obtain ⟨a, B, zI, pins', σ1, H1, cls, d, rfl, J', nb, up, sky, na, os, ag, wish⟩ := xx
    have J : Inv X pins σ1 H1 zI := J'.ofTry ok
    have sky1 : Sky B (X.env :: X.outer) a (Zc cls d) X.env.locals z.heap := by rw [← stk]; exact sky
    show wpAny (model X.prog X.w) X.A (noteFrame (.ref a) X.env) _ _ _
    refine Sky.land Zc.steady frm fr sky1 ?_
    intro g3 fl up3
    have J3 : Inv X pins σ1 H1 { z with heap := g3 } := J.landed nb fl.1 (up.trans up3) os ag
    obtain ⟨oe, vs, he, hz, hd⟩ := fl.there
    have far : a ∉ frs (X.env :: X.outer) := by
      intro hm
      obtain ⟨_, o2, e2, no⟩ := fl.2.2.1.mem hm
      rw [he] at e2
      cases e2
      exact no _ hd
    have farL : a ≠ X.env.locals := fun q => far (List.mem_filterMap.mpr ⟨X.env, by simp, by rw [fr, q]⟩)
    have farF : a ∉ X.fs := by
      intro hm
      obtain ⟨e, he', q⟩ := List.mem_filterMap.mp hm
      exact far (List.mem_filterMap.mpr ⟨e, by simp [he'], q⟩)
    have S3 := J3.suite he hd na farL farF
    have look : PySem.W.Looks (model X.prog X.w) g3 (typeOf (.ref a)) cls := fun _ _ _ _ k q => wpAny_typeOf_ref (k _ _ he) (by rw [hz.1]; exact q)
    have name : ∀ {x : Str} {c : Value} {p1 : Pos} {Q E : Value → Shared → Prop}, Names X x c → Q c { z with heap := g3 } → wpAny (model X.prog X.w) (X.A.mark (some (.ref a))) (eval (.Name x p1) X.env) Q E { z with heap := g3 } := by
      rintro x c p1 Q E ⟨hg, hdb, hm | ⟨hm, hv, hnn⟩⟩ q
      · exact ld_glob (X := X.suite a ((a, oe) :: (X.pn ++ pins))) S3 hg hm q hdb
      · exact ld_blt (X := X.suite a ((a, oe) :: (X.pn ++ pins))) S3 hg hm hv q hnn hdb
    have all : ∀ {hs' : List ExceptHandler} {l' : List (Value × Option Nat × Suite)}, ClOk X hs' l' → wCl X.K Wo D l' cls d σ1 H1 → wpAny (model X.prog X.w) X.A (handleBy (.ref a) X.env hs') (SP X pins D) X.xe { z with heap := g3 } := by
      intro hs' l' ck
      induction ck with
      | nil =>
        intro wish
        apply wpAny_handleBy_nil
        obtain ⟨_, _, _, oe', vs', T', oT, ts', he', hz', hd', hT, _⟩ := id fl
        unfold PySem.passOn
        apply wpAny_bind
        refine wpAny_field he' hd' hT ?_
        rw [if_neg (by simp)]
        have out : wpAny (model X.prog X.w) X.A (setFlight (.ref a) X.env.frame) (fun _ z4 => wpAny (model X.prog X.w) X.A (throw (.ref a) : Sem Flow) (SP X pins D) X.xe z4) X.xe { z with heap := g3 } := by
          rw [fr]
          refine HandSPX.setFlight_upZ fl ?_
          intro g4 hh4 up4
          exact wpAny_throw (tk _ _ ⟨a, B, zI, pins, σ1, H1, cls, d, rfl, J, nb, (up.trans up3).trans up4, .inr (.inr (by rw [stk]; exact hh4)), na, os, ag, wish⟩)
        first
        | exact wpAny_bind out
        | exact wpAny_bind (wpAny_pure (wpAny_bind out))
      | @only x c ts st sts p1 p2 hs2 l2 nm su r ih =>
        rintro ⟨b, hb, yes, no⟩
        refine wpAny_handleBy_cons (codeAny_handlers_test ?_) (by intro q; cases q)
        have lm := PySem.W.exm_one (M := model X.prog X.w) (J3.kIn) look hb
        refine name nm (lm.here ?_)
        cases b with
        | false => exact ih (no rfl)
        | true =>
          apply codeAny_handlers_suite
          refine HandSPX.lands_againZ fl ?_
          intro g4 fl4 up4
          have J4 : Inv X pins σ1 H1 { z with heap := g4 } := J.landed nb fl4.1 ((up.trans up3).trans up4) os ag
          obtain ⟨oe4, vs4, he4, hz4, hd4⟩ := fl4.there
          have S4 := J4.suite he4 hd4 na farL farF
          refine wpAny_mono ((su a oe4 cls d (X.pn ++ pins) hz4 ⟨_, hd4⟩).run [] _ _ H1 _ S4 (yes rfl a na)) ?_ (fun _ _ q => False.elim q)
          intro f z6 sp
          cases f with
          | ret u =>
            obtain ⟨v6, σ6, H6, S6, r6, q6⟩ := sp
            exact ⟨v6, σ6, H6, S6.unsuite ok, r6, q6⟩
          | _ =>
            obtain ⟨σ6, H6, S6, q6⟩ := sp
            exact ⟨σ6, H6, S6.unsuite ok, q6⟩
      | @as x n c i ts st sts p1 p2 hs2 l2 hi hl nm su r ih =>
        rintro ⟨b, hb, yes, no⟩
        refine wpAny_handleBy_cons (codeAny_handlers_test ?_) (by intro q; cases q)
        have lm := PySem.W.exm_one (M := model X.prog X.w) (J3.kIn) look hb
        refine name nm (lm.here ?_)
        cases b with
        | false => exact ih (no rfl)
        | true =>
          apply codeAny_handlers_suite_as
          refine HandSPX.lands_againZ fl ?_
          intro g4 fl4 up4
          have J4 : Inv X pins σ1 H1 { z with heap := g4 } := J.landed nb fl4.1 ((up.trans up3).trans up4) os ag
          obtain ⟨oe4, vs4, he4, hz4, hd4⟩ := fl4.there
          have S4 := J4.suite he4 hd4 na farL farF
          refine store_ok (X := X.suite a ((a, oe4) :: (X.pn ++ pins))) (v := .ref a) S4 nd hi (.inl hl) rfl ?_ (.inr hl)
          intro z5 S5
          refine wpAny_mono ((su a oe4 cls d (X.pn ++ pins) hz4 ⟨_, hd4⟩).run [] z5 _ H1 _ S5 (yes rfl a na)) ?_ (fun _ _ q => False.elim q)
          intro f z6 sp
          have goes : ∀ {σ6 : L2.St} {H6 : Hp} {Q : Shared → Prop}, Inv (X.suite a ((a, oe4) :: (X.pn ++ pins))) [] σ6 H6 z6 → (∀ z7, Inv X pins (σ6.set i none) H6 z7 → Q z7) → wpAny (model X.prog X.w) X.A (do bindName X.env n .none; unbindBehindTheSuite X.env n p2) (fun _ z7 => Q z7) X.xe z6 :=
            fun S6 hq => gone_ok (S6.unsuite ok) nd hi hl hq
          cases f with
          | ret u =>
            obtain ⟨v6, σ6, H6, S6, r6, q6⟩ := sp
            exact goes S6 fun z7 J7 => ⟨v6, _, _, J7, r6, q6⟩
          | next =>
            obtain ⟨σ6, H6, S6, q6⟩ := sp
            exact goes S6 fun z7 J7 => ⟨_, _, J7, q6⟩
          | brk =>
            obtain ⟨σ6, H6, S6, q6⟩ := sp
            exact goes S6 fun z7 J7 => ⟨_, _, J7, q6⟩
          | cont =>
            obtain ⟨σ6, H6, S6, q6⟩ := sp
            exact goes S6 fun z7 J7 => ⟨_, _, J7, q6⟩
    exact all cl wish
  refine wpAny_mono run ?_ (fun _ _ q => q)
  intro f z1 sp
  cases f with
  | next =>
    obtain ⟨σ1, H1, J1, q⟩ := sp
    exact wpAny_execs_nil ⟨σ1, H1, J1.ofTry ok, q⟩
  | ret u =>
    obtain ⟨v, σ1, H1, J1, r, q⟩ := sp
    exact ⟨v, σ1, H1, J1.ofTry ok, r, q⟩
  | brk =>
    obtain ⟨σ1, H1, J1, q⟩ := sp
    exact ⟨σ1, H1, J1.ofTry ok, q⟩
  | cont =>
    obtain ⟨σ1, H1, J1, q⟩ := sp
    exact ⟨σ1, H1, J1.ofTry ok, q⟩
end
section
variable {K : PySem.W.Frag} {σ : L2.St} {H : Hp} {nx bk ct : L2.St → Hp → Prop} {rt : VK}
theorem w_tryG {l : List (Value × Option Nat × Suite)} {Wo : WX} {tb : WX → TS} (h : tb (wCl K Wo ⟨nx, rt, bk, ct⟩ l) ⟨nx, rt, bk, ct⟩ σ H) : tTryG K l Wo tb ⟨nx, rt, bk, ct⟩ σ H := h
theorem w_clY {c cls : Value} {o : Option Nat} {ts : Suite} {d : Option Addr} {Wo : WX} {D : Ends} {l : List (Value × Option Nat × Suite)} (e : PySem.W.exmOne K cls c = some true) (h : ∀ a, H a = none → runCl o ts a cls d D σ H) : wCl K Wo D ((c, o, ts) :: l) cls d σ H := ⟨true, e, fun _ => h, fun z => nomatch z⟩
theorem w_clN {c cls : Value} {o : Option Nat} {ts : Suite} {d : Option Addr} {Wo : WX} {D : Ends} {l : List (Value × Option Nat × Suite)} (e : PySem.W.exmOne K cls c = some false) (h : wCl K Wo D l cls d σ H) : wCl K Wo D ((c, o, ts) :: l) cls d σ H := ⟨false, e, (fun z => nomatch z), fun _ => h⟩
end
end FW

set_option Elab.async false
set_option linter.all false
set_option maxRecDepth 100000
set_option maxHeartbeats 4000000
/-! {tuple: value for a in as if ..}: a dict keyed by tuples, one clause; pairs looked for in tuples; zip of tuples -/
namespace FW
open PySem PySem.Spec PyProof.Rows L2
section
variable {kx vx ta ia : Expr} {fa : List Expr} {sc : Scope} {ps : Pos}
abbrev one (kx vx ta ia : Expr) (fa : List Expr) (sc : Scope) (ps : Pos) : Expr := .DictComp kx vx [⟨ta, ia, fa, 0⟩] sc ps
theorem turn_one (it : Value) (D : Addr) (env : Env) : compTurn (one kx vx ta ia fa sc ps) 0 it (.ref D) env = (do
    standAt ia.pos
    match ← pyNext it with
    | none => pure (.done .next)
    | some u =>
      letOwnedTupleGo ta it u
      assign ta env u
      let mut good := true
      for c in fa do
        if good then good ← isTrue c env (eval c env)
      if good then
        (do
          let k ← eval kx env
          let v ← holding [k] (eval vx env)
          standAt { kx.pos with endLine := vx.pos.endLine, endCol := vx.pos.endCol }
          holding [k, v] (dictSet D k v))
      again (.compLoop (one kx vx ta ia fa sc ps) 0 it (.ref D) env)) := by rfl
variable {pg : Program} {wd : World} {A : Around} {R : Result → Shared → Prop} {st : Shared} {it : Value} {D : Addr} {env : Env}
theorem loop_one (G : Nat → Shared → Prop)
    (go : ∀ n z, G n z → wpAny (model pg wd) A (pyNext it) (fun r z1 => match r with
      | none => R (.ok .next) z1
      | some u => wpAny (model pg wd) A (letOwnedTupleGo ta it u) (fun _ z2 => wpAny (model pg wd) A (assign ta env u) (fun _ z3 => wpAny (model pg wd) A (testsOf2 fa env) (fun b z4 =>
          if b = true then wpAny (model pg wd) A (eval kx env) (fun k z5 => wpAny (model pg wd) A (eval vx env) (fun v z6 => wpAny (model pg wd) A (dictSet D k v) (fun _ z7 => ∃ m, m < n ∧ G m z7) (fun _ _ => False) z6) (fun _ _ => False) z5) (fun _ _ => False) z4
          else ∃ m, m < n ∧ G m z4) (fun _ _ => False) z3) (fun _ _ => False) z2) (fun _ _ => False) z1) (fun _ _ => False) z)
    (n : Nat) (h : G n st) : codeAny (model pg wd) A (.compLoop (one kx vx ta ia fa sc ps) 0 it (.ref D) env) R st := by
  refine codeAny_loop rfl G ?_ n h
  intro n z hz
  show wpAny _ A ((compTurn (one kx vx ta ia fa sc ps) 0 it (.ref D) env).onRaise _) _ _ z
  apply wpAny_noted
  rw [turn_one]
  apply wpAny_bind
  apply wpAny_standAt
  apply wpAny_bind
  refine thnF (go n z hz) fun r z1 h1 => ?_
  cases r with
  | none => exact wpAny_pure h1
  | some u =>
    apply wpAny_bind
    refine thnF h1 fun _ z2 h2 => ?_
    apply wpAny_bind
    refine thnF h2 fun _ z3 h3 => ?_
    apply wpAny_bind
    refine thnF h3 fun b z4 h4 => ?_
    cases b with
    | false => exact wpAny_pure ⟨rfl, h4⟩
    | true =>
      apply wpAny_bind
      apply wpAny_bind
      refine thnF h4 fun k z5 h5 => ?_
      apply wpAny_bind
      apply wpAny_holding
      refine thnF h5 fun v z6 h6 => ?_
      apply wpAny_bind
      apply wpAny_standAt
      apply wpAny_holding
      exact thnF h6 fun _ z7 h7 => wpAny_pure ⟨rfl, h7⟩
end
section
variable {X : Cx}
theorem t_dictSet {pins : List (Addr × Obj)} {σ : L2.St} {H : Hp} {s : Shared} {E : Value → Shared → Prop} {D b : Addr} {kvs : List (List Key × V)} {k : List Key} {v : V} {r : Value} {Q : Unit → Shared → Prop} (hu : X.A.units + 1 < cLine) (I : Inv X pins σ H s) (hD : H D = some (.dT kvs)) (hz : kvs.length < sizeLine)
    (eb : H b = some (.tup (k.map kV))) (rv : RelV v r) (h : ∀ s', Inv X pins σ (upd H D (.dT (putK kvs k v))) s' → Q () s') : wpAny (model X.prog X.w) X.A (dictSet D (.ref b) r) Q E s := by
  obtain ⟨z, hd, xs, rel, dd⟩ := dt_of I.hok hD
  have hzv : xs.length ≤ sizeLine := by rw [← Paired.length rel]; exact z
  have hl : (putK kvs k v).length ≤ sizeLine := by have := length_putK kvs k v; omega
  refine wpAny_dictSet_heap (hsz := hzv) (show X.A.units < cLine by omega) (key_of I.hok eb) dd fun h' dd' hs => h _ ?_
  obtain ⟨q, es, ep, hq, h2, h3, h4, _, h5⟩ := dd'
  refine d_write I (by rw [hD]; exact True.intro) hs ⟨q, hq⟩ ⟨hl, hd, _, (rel.put k eb rv).keeps fun c ys ec => ?_, q, es, ep, hq, h2, h3, h4, h5⟩
  rw [upd_ne (ne_of ec hD (fun z => nomatch z))]
  exact ec
variable {kx vx ta ia : Expr} {fa : List Expr} {sc : Scope} {ps qs : Pos} {own : List (Str × Nat)} {wa : TI} {ga : TG} {ra : TT} {tk tv : TE}
def DcTP (J : It) (g : TG) (tt : TT) (tk tv : TE) (vs : List Nat) (Q : VK) (σ : L2.St) (H1 : Hp) : Prop := ∀ D, H1 D = none → ∃ W : Nat → Nat → Hp → Prop, (∃ m, W 0 m (upd H1 D (.dT []))) ∧ ∀ i m H, W i m H →
  (J.stop i H ∧ Q (.ref D) H) ∨ (J.go i H ∧ ∃ Nx : Hp → Prop, (∀ H', Nx H' → ∃ m', m' < m ∧ W (i + 1) m' H') ∧ ∀ x H', J.yld i H x H' → g x (wipe σ vs) H' fun σ2 H2 => wipe σ2 vs = wipe σ vs ∧ tt σ2 H2 fun b H3 =>
    if b = true then tk σ2 H3 fun y H4 => tv σ2 H4 fun z H5 => ∃ kvs k b, y = .ref b ∧ H5 b = some (.tup (k.map kV)) ∧ H5 D = some (.dT kvs) ∧ kvs.length < sizeLine ∧ Nx (upd H5 D (.dT (putK kvs k z))) else Nx H3)
def tDcT (wi : TI) (g : TG) (tt : TT) (tk tv : TE) (vs : List Nat) : TE := fun σ H Q => wi σ H fun J H1 => DcTP J g tt tk tv vs Q σ H1
theorem dct_run {pins : List (Addr × Obj)} {s : Shared} {σ : L2.St} {H : Hp} {Q : VK} {use : Option (Value → Sem Unit)} {Qf : Value → Shared → Prop}
    (hu : X.A.units + 1 < cLine) (calm : X.calm = true) (nd : X.N.Nodup) (I : Inv X pins σ H s) (pa : PI X ta ia wa) (ok : BlkOk X.N X.env.scope sc own)
    (pga : ∀ z G C cl fp, PG (X.blk z G sc (compEnvC sc cl C X.env) fp) ta ga) (pra : ∀ z G C cl fp, PTs (X.blk z G sc (compEnvC sc cl C X.env) fp) fa ra)
    (pk : ∀ z G C cl fp, PE (X.blk z G sc (compEnvC sc cl C X.env) fp) kx tk) (pv' : ∀ z G C cl fp, PE (X.blk z G sc (compEnvC sc cl C X.env) fp) vx tv)
    (hfa : ∀ y, foldedSetIterable ia X.env y = pure y)
    (h : tDcT wa ga ra tk tv (own.map (·.2)) σ H Q)
    (fin : ∀ D C z m H', Inv X pins σ H' z → Q (.ref D) H' → z.heap.Ns C m → FpOk X pins H' C → compPost (model X.prog X.w) X.A X.xe use Qf (.ref D) C (.ok .next) z) :
    wpAny (model X.prog X.w) X.A (comprehension (one kx vx ta ia fa sc ps) sc X.env qs newDict false (eval ia X.env) use) Qf X.xe s := by
  have cellsOk : ∀ y ∈ sc.names, y.2 = .free → ∃ c, X.env.cells.lookup y.1 = some c := by
    intro y hy e
    rcases ok.free y hy e with k | k
    · exact I.ok.has _ (.inl k)
    · exact I.ok.has _ (.inr k)
  refine wpAny_comprehension_free (use := use) rfl hfa (closure_ok cellsOk) ok.kind (fun y hy e => by rw [ok.uniq y hy, e]) ?_
  refine thn (pa.run pins s σ H _ I h) fun _ _ hx => thn hx fun _ z2 hz2 => ?_
  obtain ⟨it, fp, tn, J, G2, rfl, I2, T, at2, far2, q⟩ := hz2
  refine wpAny_newObj_type (newEnv_comp ?_)
  obtain ⟨D, hD⟩ : ∃ D, D = z2.heap.objs.size := ⟨_, rfl⟩
  rw [← hD]
  have freeD : G2 D = none := I2.hok.fresh (Nat.le_of_eq hD.symm)
  obtain ⟨W, ⟨m0, w0⟩, turn⟩ := q D freeD
  obtain ⟨z3, e3⟩ : ∃ z3 : Shared, z3 = { z2 with heap := z2.heap.push { cls := .type "dict", data := .dict #[] } } := ⟨_, rfl⟩
  have h3 : z3.heap = z2.heap.push { cls := .type "dict", data := .dict #[] } := by rw [e3]
  have I3 : Inv X pins σ (upd G2 D (.dT [])) z3 := by
    rw [e3]
    refine I2.laid (t' := z2.toks) (fun _ _ e => Heap.get?_push_of_some _ e) (Nat.le_of_eq hD.symm) ?_
    rw [hD]
    exact dt_empty z2.heap I2.big
  have small : ∀ b ∈ fp, b < z2.heap.objs.size := by
    intro b hb
    obtain ⟨_, e, _⟩ := T.obj _ _ at2 b hb
    exact Heap.lt_size e
  have far3 : ∀ b ∈ fp, FpOk X pins (upd G2 D (.dT [])) b ∧ b < z3.heap.objs.size := by
    intro b hb
    have lt := small b hb
    constructor
    · refine ⟨?_, (far2 b hb).2⟩
      rw [upd_ne (by rw [hD]; exact Nat.ne_of_lt lt)]
      exact (far2 b hb).1
    · rw [h3, Heap.size_push]
      exact Nat.lt_succ_of_lt lt
  have at3 : tn 0 z3.heap := T.keep _ _ _ at2 fun _ _ _ e => by rw [h3]; exact Heap.get?_push_of_some _ e
  have I4 := block_start I3 ok nd far3
  obtain ⟨cl, hcl⟩ : ∃ cl, cl = cellsFrom (z3.heap.objs.size + 1) sc.names (cloFrom X.env.cells sc.names []) := ⟨_, rfl⟩
  rw [← hcl] at I4
  have gA := pga z3 (upd G2 D (.dT [])) z3.heap.objs.size cl fp
  have tA := pra z3 (upd G2 D (.dT [])) z3.heap.objs.size cl fp
  have eK := pk z3 (upd G2 D (.dT [])) z3.heap.objs.size cl fp
  have eV := pv' z3 (upd G2 D (.dT [])) z3.heap.objs.size cl fp
  show codeAny _ _ (.compStart (one kx vx ta ia fa sc ps) 0 (.ref it) (.ref D) (compEnvC sc (cellsFrom (({ z2 with heap := z2.heap.push { cls := .type "dict", data := .dict #[] } } : Shared).heap.objs.size + 1) sc.names (cloFrom X.env.cells sc.names [])) ({ z2 with heap := z2.heap.push { cls := .type "dict", data := .dict #[] } } : Shared).heap.objs.size X.env))
    (compPost (model X.prog X.w) X.A X.xe use Qf (.ref D) ({ z2 with heap := z2.heap.push { cls := .type "dict", data := .dict #[] } } : Shared).heap.objs.size) { ({ z2 with heap := z2.heap.push { cls := .type "dict", data := .dict #[] } } : Shared) with heap := pushCells (({ z2 with heap := z2.heap.push { cls := .type "dict", data := .dict #[] } } : Shared).heap.push { cls := .type "dict", data := .dict #[] }) sc.names }
  rw [← e3, ← hcl]
  have none3 : ∀ b ∈ fp, (upd G2 D (.dT [])) b = none := fun b hb => (far3 b hb).1.1
  obtain ⟨ev, hev⟩ : ∃ ev, ev = compEnvC sc cl z3.heap.objs.size X.env := ⟨_, rfl⟩
  rw [← hev] at I4 gA tA eK eV ⊢
  have evL : ev.locals = z3.heap.objs.size := by rw [hev]; rfl
  obtain ⟨G3, hG3⟩ : ∃ G3, G3 = upd G2 D (.dT []) := ⟨_, rfl⟩
  rw [← hG3] at I3 I4 gA tA eK eV w0 none3 far3
  obtain ⟨z4, e4⟩ : ∃ z4 : Shared, z4 = { z3 with heap := pushCells (z3.heap.push { cls := .type "dict", data := .dict #[] }) sc.names } := ⟨_, rfl⟩
  rw [← e4] at I4 ⊢
  have at4 : tn 0 z4.heap := T.keep _ _ _ at3 fun _ _ _ e => by rw [e4]; exact pushCells_keeps _ _ _ _ (Heap.get?_push_of_some _ e)
  have aside : ∀ {σ' : L2.St} {G : Hp} {z : Shared}, Inv (X.blk z3 G3 sc ev fp) [] σ' G z → (∀ b ∈ fp, G b = none) → ∀ b ∈ fp, FpOk (X.blk z3 G3 sc ev fp) [] G b := by
    intro σ' G z J' hn b hb
    exact ⟨hn b hb, (J'.ok.exf b hb).1, J'.ok.exfs b hb, .inl hb, fun x c e => (J'.ok.exf b hb).2 x c e, fun p hp => absurd (show p ∈ ([] : List (Addr × Obj)) ++ [] from hp) (by simp)⟩
  have whole : codeAny (model X.prog X.w) X.A (.compLoop (one kx vx ta ia fa sc ps) 0 (.ref it) (.ref D) ev) (compPost (model X.prog X.w) X.A X.xe use Qf (.ref D) z3.heap.objs.size) z4 := by
    refine loop_one (fun n z => ∃ i G, Inv (X.blk z3 G3 sc ev fp) [] (wipe σ (own.map (·.2))) G z ∧ tn i z.heap ∧ (∀ b ∈ fp, G b = none) ∧ W i n G) ?_ m0 ⟨0, G3, I4, at4, none3, w0⟩
    rintro n z5 ⟨i, G5, I5, at5, none5, w5⟩
    rcases turn i n G5 w5 with ⟨stop, qq⟩ | ⟨goes, Nx, hNx, step⟩
    · refine thnF (T.done (X.blk z3 G3 sc ev fp) rfl rfl rfl calm i [] z5 _ G5 (fun _ _ => False) I5 (aside I5 none5) at5 stop) ?_
      rintro r z6 ⟨rfl, I6⟩
      have I7 : Inv X pins σ G5 z6 := I3.call' (ch := fp) I6.os I6.base I6.hok I6.bare fun b hb =>
        let f := (far3 b hb).1
        ⟨f.2.2.2.1, f.2.1, f.2.2.2.2.1, f.2.2.2.2.2⟩
      have noC : G5 z3.heap.objs.size = none := by
        have y : G5 ev.locals = none := I6.free
        rw [evL] at y
        exact y
      obtain ⟨m, hn, _⟩ := I6.loc
      have hn' : z6.heap.Ns ev.locals m := hn
      rw [evL] at hn'
      exact fin D _ z6 m G5 I7 qq hn' (I3.fpOk (Nat.le_refl _) noC)
    · refine thnF (T.item (X.blk z3 G3 sc ev fp) rfl rfl rfl calm i [] z5 _ G5 (fun _ _ => False) I5 (aside I5 none5) at5 goes) ?_
      rintro r z6 ⟨u, rfl, h6⟩
      refine thnF h6 ?_
      rintro _ z7 ⟨x, G7, I7, r7, y7, at7, none7⟩
      refine thnF (gA.run _ z7 _ G7 x u _ (I7.pinned (aside I7 none7) (T.obj _ _ at7)) r7 (step x G7 y7)) ?_
      rintro _ z8 ⟨σ8, G8, I8, hw8, q8⟩
      refine thnF (tA.run _ z8 σ8 G8 _ I8 q8) ?_
      rintro b z9 ⟨G9, I9, q9⟩
      have over : ∀ {z : Shared} {G : Hp}, Inv (X.blk z3 G3 sc ev fp) ([] ++ pinsAt fp z7.heap) σ8 G z → Nx G →
          ∃ m, m < n ∧ ∃ i G, Inv (X.blk z3 G3 sc ev fp) [] (wipe σ (own.map (·.2))) G z ∧ tn i z.heap ∧ (∀ b ∈ fp, G b = none) ∧ W i m G := by
        intro z G I' nx
        obtain ⟨m', lt, w'⟩ := hNx G nx
        have pins' : ∀ b ∈ fp, ∀ o, z7.heap.get? b = some o → z.heap.get? b = some o ∧ G b = none := by
          intro b hb o e
          have y := I'.pin (b, o) (List.mem_append_right _ (List.mem_append_right _ (mem_pinsAt hb e)))
          exact ⟨y.1, y.2.1⟩
        refine ⟨m', lt, i + 1, G, (I'.unpinned (pins := [])).weak (by rw [← hw8, wipe_length]) (fun j v e => by rw [← hw8] at e; exact (wipe_some e).1), T.keep _ _ _ at7 (fun b hb o e => (pins' b hb o e).1), ?_, w'⟩
        intro b hb
        obtain ⟨o, e, _⟩ := T.obj _ _ at7 b hb
        exact (pins' b hb o e).2
      cases b with
      | false =>
        have q9' : Nx G9 := q9
        show ∃ m, m < n ∧ _
        exact over I9 q9'
      | true =>
        have q9' : tk σ8 G9 fun y H4 => tv σ8 H4 fun z H5 => ∃ kvs k b, y = .ref b ∧ H5 b = some (.tup (k.map kV)) ∧ H5 D = some (.dT kvs) ∧ kvs.length < sizeLine ∧ Nx (upd H5 D (.dT (putK kvs k z))) := q9
        show wpAny _ _ (eval kx ev) _ _ z9
        refine thnF (eK.run _ z9 σ8 G9 _ I9 q9') ?_
        rintro _ z17 ⟨yk, G17, I17, r17, q17⟩
        refine thnF (eV.run _ z17 σ8 G17 _ I17 q17) ?_
        rintro _ z18 ⟨yv, G18, I18, r18, kvs, key, b, rfl, hb18, hD18, lt18, nx⟩
        cases r17
        exact t_dictSet (X := X.blk z3 G3 sc ev fp) hu I18 hD18 lt18 hb18 r18 fun _ I19 => over I19 nx
  exact codeAny_compStart_dict whole (T.self X.A 0 _ _ _ at4 whole)
/-- name = {..}, the name a local of the def -/
theorem ps_setDcT {i : Nat} {y : Str} {py spos : Pos} (hu : X.A.units + 1 < cLine) (calm : X.calm = true) (nd : X.N.Nodup) (hy : X.N[i]? = some y) (hyl : X.env.scope.names.lookup y = some .local)
    (hsw : swapsWith (one kx vx ta ia fa sc ps) (some (.Name y py)) spos.line X.env = pure true)
    (pa : PI X ta ia wa) (ok : BlkOk X.N X.env.scope sc own)
    (pga : ∀ z G C cl fp, PG (X.blk z G sc (compEnvC sc cl C X.env) fp) ta ga) (pra : ∀ z G C cl fp, PTs (X.blk z G sc (compEnvC sc cl C X.env) fp) fa ra)
    (pk : ∀ z G C cl fp, PE (X.blk z G sc (compEnvC sc cl C X.env) fp) kx tk) (pv' : ∀ z G C cl fp, PE (X.blk z G sc (compEnvC sc cl C X.env) fp) vx tv)
    (hfa : ∀ y, foldedSetIterable ia X.env y = pure y := by intro _; rfl) :
    PS X (.Assign [.Name y py] (one kx vx ta ia fa sc ps) spos) (tAsg (tDcT wa ga ra tk tv (own.map (·.2))) (gName i)) := by
  constructor
  intro pins s σ H Ed I h
  rw [exec_Assign_Name_used y py _ _ hsw]
  apply wpAny_bind
  apply wpAny_standAt
  apply wpAny_bind
  show wpAny _ X.A (comprehension (one kx vx ta ia fa sc ps) sc X.env (firstIterPos [⟨ta, ia, fa, 0⟩] ps) newDict false (eval ia X.env) (some (assign (.Name y py) X.env)) >>= fun _ => pure ()) _ _ s
  apply wpAny_bind
  have h' : tDcT wa ga ra tk tv (own.map (·.2)) σ H (fun x H1 => gName i x σ H1 Ed.nx) := h
  refine thn (dct_run (Qf := fun _ s1 => SP X pins Ed .next s1) hu calm nd I pa ok pga pra pk pv' hfa h' ?_) (fun _ _ z => wpAny_pure (wpAny_pure z))
  intro L C s1 m H1 I1 q hn ff
  obtain ⟨f0, f1, f2, f3, f4, f5⟩ := ff
  show wpAny _ _ (assign (.Name y py) X.env (.ref L)) _ _ _
  apply wpAny_assign_Name
  refine store_ok2 (v := V.ref L) I1 nd hy (.inl hyl) rfl ?_ (.inr hyl)
  rintro s2 I2 ⟨ad, sb, had⟩
  have hne : C ≠ ad := by
    rcases had with hz | hz
    · exact fun e => f1 (e.trans hz)
    · exact fun e => f4 y ad hz e.symm
  refine ⟨m, hn.sameBut sb hne, fun h3 sb3 => ⟨_, H1, ?_, q⟩⟩
  exact I2.turned (t' := s2.toks) (fun b o hb e => (sb3.2 b hb).trans e) f0 f1 f3 f4 f5
/-- a pair of ints that is not in a tuple of such -/
def rNotInT (K : PySem.W.Frag) : R2 := fun x y H Q => ∃ (p a : Addr) (v b : Int) (an : List (Addr × Int × Int)), x = .ref p ∧ y = .ref a ∧ H p = some (.tup [.int v, .int b]) ∧ SqT K H a (an.map fun q => .ref q.1) ∧ (∀ q ∈ an, H q.1 = some (.tup [.int q.2.1, .int q.2.2])) ∧ Q (.bl (decide ((v, b) ∉ an.map (·.2)))) H
theorem op_notInT (hu : X.A.units + 100 < cLine) : OpR X (compareOp .NotIn) (rNotInT X.K) := by
  intro pins s σ H x y v u Q I rx ry ⟨p, a, w, b, an, e0, e1, hp, hs, hq, q⟩
  subst e0 e1
  cases rx
  cases ry
  obtain ⟨its, rv, hl, _⟩ := I.tuple hs
  have hdp : PySem.W.Datum.depth (Int × Int) ≤ 50 := by decide
  exact PySem.W.notIn_tuple_datum (xs := an.map (·.2)) (x := (w, b)) hl (by simpa using (hold_all I an its rv hq).1) (hold_pair I hp) (by omega) ⟨.bl _, H, I, congrArg Value.bool (decide_eq_decide.mpr Iff.rfl), q⟩
end
section
variable {K : PySem.W.Frag} {σ : L2.St} {H : Hp} {Q : VK} {nx bk ct : L2.St → Hp → Prop} {rt : VK}
theorem w_dct {wi : TI} {g : TG} {tt : TT} {tk tv : TE} {vs : List Nat} (h : wi σ H fun J H1 => DcTP J g tt tk tv vs Q σ H1) : tDcT wi g tt tk tv vs σ H Q := h
/-- each turn adds a pair: the k-th is es[k] -/
theorem dct_map {J : It} {n : Nat} {G : Hp → Prop} {Y : Nat → Hp → V → Hp → Prop} (w : Walk J n G Y) {g : TG} {tk tv : TE} {vs : List Nat} (es : List (List Key × V)) (hn : es.length = n) (hz : n ≤ 1000000) (hG : ∀ H', Same H H' → G H')
    (hs : ∀ i x H1 H2 (R : V → V → Hp → Prop), i < n → Same H H1 → Y i H1 x H2 → (∀ e b H4, es[i]? = some e → H4 b = some (.tup (e.1.map kV)) → Same H1 H4 → R (.ref b) e.2 H4) → g x (wipe σ vs) H2 fun σ2 H3 => wipe σ2 vs = wipe σ vs ∧ tk σ2 H3 fun y H4 => tv σ2 H4 fun z H5 => R y z H5)
    (hd : ∀ D H', H D = none → Same H H' → H' D = some (.dT (es.foldl (fun acc e => putK acc e.1 e.2) [])) → Q (.ref D) H') : DcTP J g tYes tk tv vs Q σ H := by
  intro D hD
  refine ⟨fun i m H' => m = n - i ∧ i ≤ n ∧ Same H H' ∧ H' D = some (.dT ((es.take i).foldl (fun acc e => putK acc e.1 e.2) [])), ⟨n, by simp, Nat.zero_le _, Same.new hD, upd_same⟩, ?_⟩
  rintro i m H1 ⟨rfl, hi, k1, e1⟩
  by_cases hlt : i < n
  · refine .inr ⟨w.goes i H1 hlt (hG _ k1), fun H' => Same H H' ∧ H' D = some (.dT ((es.take (i + 1)).foldl (fun acc e => putK acc e.1 e.2) [])), fun H' z => ⟨n - (i + 1), by omega, rfl, hlt, z.1, z.2⟩, fun x H2 y => ?_⟩
    refine hs i x H1 H2 (fun y z H5 => ∃ kvs k b, y = .ref b ∧ H5 b = some (.tup (k.map kV)) ∧ H5 D = some (.dT kvs) ∧ kvs.length < sizeLine ∧ (Same H (upd H5 D (.dT (putK kvs k z))) ∧ (upd H5 D (.dT (putK kvs k z))) D = some (.dT ((es.take (i + 1)).foldl (fun acc e => putK acc e.1 e.2) [])))) hlt k1 (w.yields i H1 x H2 hlt (hG _ k1) y) ?_
    intro e b H4 he hb k4
    refine ⟨(es.take i).foldl (fun acc e => putK acc e.1 e.2) [], e.1, b, rfl, hb, k4 _ _ e1, ?_, fun c o ec => ?_, ?_⟩
    · have len : ∀ (l acc : List (List Key × V)), (l.foldl (fun acc e => putK acc e.1 e.2) acc).length ≤ acc.length + l.length := by
        intro l
        induction l with
        | nil => intro acc; simp
        | cons x r ih =>
          intro acc
          have h1 := ih (putK acc x.1 x.2)
          have h2 := putK_len' acc x.1 x.2
          simp only [List.foldl_cons, List.length_cons] at *
          omega
      have h1 := len (es.take i) []
      have h2 : (es.take i).length ≤ 1000000 := by rw [List.length_take]; omega
      exact Nat.lt_of_le_of_lt (Nat.le_trans h1 (by simpa using h2)) (by decide)
    · rw [upd_ne (ne_of_none ec hD)]
      exact k4 _ _ (k1 _ _ ec)
    · rw [upd_same, List.take_add_one, he, List.foldl_append]
      rfl
  · have e : i = n := by omega
    subst e
    rw [List.take_of_length_le (by omega)] at e1
    exact .inl ⟨w.stops H1 (hG _ k1), hd D H1 hD k1 e1⟩
theorem valV_foldT (k : List Key) : ∀ (es acc : List (List Key × V)), (valV (es.foldl (fun acc e => putK acc e.1 e.2) acc) k).isSome = ((valV acc k).isSome || es.any fun e => decide (e.1 = k)) := by
  intro es
  induction es with
  | nil => intro acc; simp
  | cons e r ih =>
    intro acc
    rw [List.foldl_cons, ih, valV_put, List.any_cons]
    by_cases h : k = e.1
    · rw [if_pos h, decide_eq_true h.symm]; simp
    · rw [if_neg h, decide_eq_false (fun z => h z.symm)]; simp
theorem w_dinT {a b : Addr} {kvs : List (List Key × V)} {k : List Key} (e : H a = some (.dT kvs)) (eb : H b = some (.tup (k.map kV))) (h : Q (.bl (valV kvs k).isSome) H) : rDIn (.ref a) (.ref b) H Q := ⟨a, _, rfl, DGet.t e eb, h⟩
theorem w_dnotinT {a b : Addr} {kvs : List (List Key × V)} {k : List Key} (e : H a = some (.dT kvs)) (eb : H b = some (.tup (k.map kV))) (h : Q (.bl (!(valV kvs k).isSome)) H) : rDNotIn (.ref a) (.ref b) H Q := ⟨a, _, rfl, DGet.t e eb, h⟩
theorem w_notInT {p a : Addr} {v b : Int} {an : List (Addr × Int × Int)} (h1 : H p = some (.tup [.int v, .int b])) (h2 : SqT K H a (an.map fun q => .ref q.1)) (h3 : ∀ q ∈ an, H q.1 = some (.tup [.int q.2.1, .int q.2.2])) (h : Q (.bl (decide ((v, b) ∉ an.map (·.2)))) H) : rNotInT K (.ref p) (.ref a) H Q := ⟨p, a, v, b, an, rfl, rfl, h1, h2, h3, h⟩
/-- for a, b in zip(tuple, tuple) -/
def rZipA (K : PySem.W.Frag) (vs : List V) (H : Hp) (R : It → Hp → Prop) : Prop := ∃ a b xs ys, vs = [.ref a, .ref b] ∧ ((SqL K H a xs ∧ SqL K H b ys ∧ R (Itz K a b) H) ∨ (SqT K H a xs ∧ SqT K H b ys ∧ R (RZ.ItzT K a b) H))
theorem w_zipA {ta : TA} {R : It → Hp → Prop} (h : ta σ H fun vs H1 => rZipA K vs H1 R) : RZ.iZipA K ta σ H R := h
theorem w_zipT' {a b : Addr} {xs ys : List V} {R : It → Hp → Prop} (h1 : SqT K H a xs) (h2 : SqT K H b ys) (h : R (RZ.ItzT K a b) H) : rZipA K [.ref a, .ref b] H R := ⟨a, b, xs, ys, rfl, .inr ⟨h1, h2, h⟩⟩
theorem lp_zipT {a b : Addr} {xs ys : List V} {g : TG} {tb : TS} (hl : xs.length = ys.length) (Pv : Nat → L2.St → Hp → Prop) (h0 : Pv 0 σ H) (hq : ∀ i σ H, Pv i σ H → SqT K H a xs ∧ SqT K H b ys)
    (hs : ∀ i x y T σ H H', xs[i]? = some x → ys[i]? = some y → Pv i σ H → H T = none → H' T = some (.tup [x, y]) → Same H H' → g (.ref T) σ H' fun σ2 H2 => tb ⟨Pv (i + 1), rt, nx, Pv (i + 1)⟩ σ2 H2) (hd : ∀ σ H, Pv xs.length σ H → nx σ H) : Lp (RZ.ItzT K a b) g tb ⟨nx, rt, bk, ct⟩ σ H :=
  RZ.for_zipT (D := ⟨nx, rt, bk, ct⟩) hl Pv h0 hq (fun i x y T σ H hx hy p hT => hs i x y T σ H _ hx hy p hT upd_same (Same.new hT)) hd
end
end FW

set_option Elab.async false
set_option linter.all false
set_option maxRecDepth 100000
set_option maxHeartbeats 4000000
/-! try: .. except (A, B): .. -/
namespace FW
open PySem PySem.Spec PyProof.Rows L2
def wTwo (K : PySem.W.Frag) (c1 c2 : Value) (ts : Suite) (D : Ends) : WX := fun cls d σ H => PySem.W.exmAny K cls [c1, c2] = some true ∧ ∀ a, H a = none → ts a cls d D σ H
def tTry2 (K : PySem.W.Frag) (c1 c2 : Value) (tb : WX → TS) (ts : Suite) : TS := fun D σ H => tb (wTwo K c1 c2 ts D) D σ H
theorem flying_on {B : Heap} {l : List Env} {a : Addr} {Z : Obj → Prop} {h h' : Heap} (f : HandSPX.FlyingZ B l a Z h) (k : ∀ b o, h.get? b = some o → h'.get? b = some o) : HandSPX.FlyingZ B l a Z h' := by
  obtain ⟨f1, f2, f3, oe, vs, T, oT, ts, g1, g2, g3, g4, g5, g6, g7, g8, g9⟩ := f
  exact ⟨fun b o e => k _ _ (f1 b o e), f2, f3.of_keeps (fun b o e _ => ⟨o, k _ _ e, rfl⟩), oe, vs, T, oT, ts, k _ _ g1, g2, g3, g4, g5, g6, k _ _ g7, g8, g9⟩
section
variable {X : Cx} {body sts : List Stmt} {st : Stmt} {x1 x2 : Str} {c1 c2 : Value} {p1 p2 p3 p4 p5 : Pos} {kk : Nat} {tb : WX → TS} {ts : Suite}
theorem p_try2 (stk : X.stack = X.env :: X.outer) (fr : X.env.frame = some X.env.locals) (n1 : Names X x1 c1) (n2 : Names X x2 c2)
    (pb : ∀ W pn xe, Takes (X.tr pn xe) W → PassesOwn (model X.prog X.w) X.A X.env xe → PSs (X.tr pn xe) body (tb W))
    (su : ∀ a oe cls d pn, Zc cls d oe → (∃ vs, oe.data = .fields vs) → PSs (X.suite a ((a, oe) :: pn)) (st :: sts) (ts a cls d)) :
    PS X (.Try body [.ExceptHandler (some (.Tuple [.Name x1 p1, .Name x2 p2] kk p3)) none (st :: sts) p4] [] [] p5) (tTry2 X.K c1 c2 tb ts) := by
  constructor
  intro pins s σ H D I h
  have ok := I.ok
  have frm : X.A.frames = some (X.env :: X.outer) := by rw [ok.frames, stk]
  apply wpAny_Try_except
  have run := (pb (wTwo X.K c1 c2 ts D) (X.pn ++ pins) (fun e z1 => wpAny (model X.prog X.w) X.A (noteFrame e X.env) (fun _ z2 => wpAny (model X.prog X.w) X.A (setFlight e none) (fun _ z3 => wpAny (model X.prog X.w) X.A (handleBy e X.env [.ExceptHandler (some (.Tuple [.Name x1 p1, .Name x2 p2] kk p3)) none (st :: sts) p4]) (SP X pins D) X.xe z3) X.xe z2) X.xe z1) ?caught PassesOwn.looking).run [] s σ H D (I.toTry _) h
  case caught =>
    intro u z xx
    obtain ⟨a, B, zI, pins', σ1, H1, cls, d, rfl, J', nb, up, sky, na, os, ag, hm, wish⟩ := xx
    have J : Inv X pins σ1 H1 zI := J'.ofTry ok
    have sky1 : Sky B (X.env :: X.outer) a (Zc cls d) X.env.locals z.heap := by rw [← stk]; exact sky
    show wpAny (model X.prog X.w) X.A (noteFrame (.ref a) X.env) _ _ _
    refine Sky.land Zc.steady frm fr sky1 ?_
    intro g3 fl up3
    have J3 : Inv X pins σ1 H1 { z with heap := g3 } := J.landed nb fl.1 (up.trans up3) os ag
    obtain ⟨oe, vs, he, hz, hd⟩ := fl.there
    have far : a ∉ frs (X.env :: X.outer) := by
      intro hm
      obtain ⟨_, o2, e2, no⟩ := fl.2.2.1.mem hm
      rw [he] at e2
      cases e2
      exact no _ hd
    have farL : a ≠ X.env.locals := fun q => far (List.mem_filterMap.mpr ⟨X.env, by simp, by rw [fr, q]⟩)
    have farF : a ∉ X.fs := by
      intro hm
      obtain ⟨e, he', q⟩ := List.mem_filterMap.mp hm
      exact far (List.mem_filterMap.mpr ⟨e, by simp [he'], q⟩)
    have S3 := J3.suite he hd na farL farF
    have name : ∀ {x : Str} {c : Value} {p1 : Pos} {Q E : Value → Shared → Prop}, Names X x c → Q c { z with heap := g3 } → wpAny (model X.prog X.w) (X.A.mark (some (.ref a))) (eval (.Name x p1) X.env) Q E { z with heap := g3 } := by
      rintro x c p1 Q E ⟨hg, hdb, hm | ⟨hm, hv, hnn⟩⟩ q
      · exact ld_glob (X := X.suite a ((a, oe) :: (X.pn ++ pins))) S3 hg hm q hdb
      · exact ld_blt (X := X.suite a ((a, oe) :: (X.pn ++ pins))) S3 hg hm hv q hnn hdb
    refine wpAny_handleBy_cons (codeAny_handlers_test ?_) (by intro q; cases q)
    refine wpAny_Tuple_spliced ?_
    show wpAny _ _ (spliced ((false, eval (.Name x1 p1) X.env) :: backTo p3 (starEach [.Name x2 p2] X.env))) _ _ _
    refine Calls.spliced_cons (name n1 ?_)
    show wpAny _ _ (spliced ((false, eval (.Name x2 p2) X.env) :: [])) _ _ _
    refine Calls.spliced_cons (name n2 ?_)
    refine Calls.spliced_nil ⟨by show (2 : Nat) ≤ sizeLine; decide, ?_⟩
    obtain ⟨g4, hg4⟩ : ∃ g4, g4 = g3.push { cls := .type "tuple", data := .seq [c1, c2].toArray } := ⟨_, rfl⟩
    have kp : ∀ b o, g3.get? b = some o → g4.get? b = some o := fun b o e => by rw [hg4]; exact Heap.get?_push_of_some _ e
    have tup : g4.get? g3.objs.size = some { cls := .type "tuple", data := .seq [c1, c2].toArray } := by rw [hg4]; exact Heap.get?_push_size _ rfl
    show wpAny _ _ (excMatches (.ref a) (.ref g3.objs.size)) _ _ { z with heap := g3.push { cls := .type "tuple", data := .seq [c1, c2].toArray } }
    rw [← hg4]
    have fl4 := flying_on fl kp
    have up4 := up3.trans (Heap.UpToSlots.of_keeps kp)
    have J4 : Inv X pins σ1 H1 { z with heap := g4 } := J.landed nb fl4.1 (up.trans up4) os ag
    have look : PySem.W.Looks (model X.prog X.w) g4 (typeOf (.ref a)) cls := fun _ _ _ _ k q => wpAny_typeOf_ref (k _ _ (kp _ _ he)) (by rw [hz.1]; exact q)
    have lm := PySem.W.exm_tup2 (M := model X.prog X.w) J4.kIn look tup hm
    refine lm.here ?_
    apply codeAny_handlers_suite
    refine HandSPX.lands_againZ fl4 ?_
    intro g5 fl5 up5
    have J5 : Inv X pins σ1 H1 { z with heap := g5 } := J.landed nb fl5.1 ((up.trans up4).trans up5) os ag
    obtain ⟨oe5, vs5, he5, hz5, hd5⟩ := fl5.there
    have S5 := J5.suite he5 hd5 na farL farF
    refine wpAny_mono ((su a oe5 cls d (X.pn ++ pins) hz5 ⟨_, hd5⟩).run [] _ _ H1 _ S5 (wish a na)) ?_ (fun _ _ q => False.elim q)
    intro f z6 sp
    cases f with
    | ret u =>
      obtain ⟨v6, σ6, H6, S6, r6, q6⟩ := sp
      exact ⟨v6, σ6, H6, S6.unsuite ok, r6, q6⟩
    | _ =>
      obtain ⟨σ6, H6, S6, q6⟩ := sp
      exact ⟨σ6, H6, S6.unsuite ok, q6⟩
  refine wpAny_mono run ?_ (fun _ _ q => q)
  intro f z1 sp
  cases f with
  | next =>
    obtain ⟨σ1, H1, J1, q⟩ := sp
    exact wpAny_execs_nil ⟨σ1, H1, J1.ofTry ok, q⟩
  | ret u =>
    obtain ⟨v, σ1, H1, J1, r, q⟩ := sp
    exact ⟨v, σ1, H1, J1.ofTry ok, r, q⟩
  | brk =>
    obtain ⟨σ1, H1, J1, q⟩ := sp
    exact ⟨σ1, H1, J1.ofTry ok, q⟩
  | cont =>
    obtain ⟨σ1, H1, J1, q⟩ := sp
    exact ⟨σ1, H1, J1.ofTry ok, q⟩
end
theorem w_try2 {K : PySem.W.Frag} {σ : L2.St} {H : Hp} {nx bk ct : L2.St → Hp → Prop} {rt : VK} {c1 c2 : Value} {tb : WX → TS} {ts : Suite} (h : tb (wTwo K c1 c2 ts ⟨nx, rt, bk, ct⟩) ⟨nx, rt, bk, ct⟩ σ H) : tTry2 K c1 c2 tb ts ⟨nx, rt, bk, ct⟩ σ H := h
end FW

set_option Elab.async false
set_option linter.all false
set_option maxRecDepth 100000
set_option maxHeartbeats 4000000
/-! texts: len, in, signs one by one, join; lists taken apart; all -/
namespace FW
open PySem PySem.Spec PyProof.Rows L2
def rLenS : List V → Hp → VK → Prop := fun xs H Q => ∃ z, xs = [.str z] ∧ z.length ≤ sizeLine ∧ Q (.int z.length) H
def rInS : R2 := fun x y H Q => ∃ (c : Nat) (z : Str), x = .str ⟨#[c]⟩ ∧ y = .str z ∧ Q (.bl (decide (c ∈ z.cps.toList))) H
def rJoin (K : PySem.W.Frag) : V → List V → Hp → VK → Prop := fun x xs H Q => ∃ a p, ∃ ys : List Str, x = .str a ∧ xs = [.ref p] ∧ (SqL K H p (ys.map V.str) ∨ SqT K H p (ys.map V.str)) ∧ (ys.map (·.length)).sum + ys.length * a.length ≤ 16777216 ∧ Q (.str (Txt.join a ys)) H
def rIStr (v : V) (H : Hp) (R : It → Hp → Prop) : Prop := ∃ x, v = .str x ∧ R (Its x) H
def rLtS : R2 := fun x y H Q => ∃ i j : Str, x = .str i ∧ y = .str j ∧ Q (.bl (decide (i.cps.toList < j.cps.toList))) H
def rGtS : R2 := fun x y H Q => ∃ i j : Str, x = .str i ∧ y = .str j ∧ Q (.bl (decide (j.cps.toList < i.cps.toList))) H
section
variable {X : Cx}
theorem o_ltS : OpR X (compareOp .Lt) rLtS := op_lt_str
theorem o_gtS : OpR X (compareOp .Gt) rGtS := op_gt_str
theorem c_lenS : CallR X (.builtin "len") rLenS := call_len_str
theorem o_inS : OpR X (compareOp .In) rInS := op_in_sign
theorem p_join {o e : Expr} {to te : TE} {apos pos : Pos} (ho : PE X o to) (he : PE X e te) (hs : starEach [e] X.env = [(false, eval e X.env)] := by rfl) (hbase : attributeBase o "join" X.env (eval o X.env) = eval o X.env := by rfl) (hline : (apos.endLine == pos.line) = true := by rfl) :
    PE X (.Call (.Attribute o "join" apos) [e] [] pos) (tM1 (rJoin X.K) to te) := pe_join ho he hs hbase hline
end
section
variable {K : PySem.W.Frag} {σ : L2.St} {H : Hp} {Q : VK} {nx bk ct : L2.St → Hp → Prop} {rt : VK}
theorem w_callD {sp : Sp} {dvs : List V} {E : XK} {t : TA} (h : t σ H fun vs H1 => sp (vs ++ dvs) H1 Q E) : tCall sp dvs E t σ H Q := h
theorem w_ipI {g : Int → Int → Int} {i j : Int} (h : Q (.int (g i j)) H) : ipI g (.int i) (.int j) H Q := ⟨i, j, rfl, rfl, h⟩
theorem w_ltS {x y : Str} (h : Q (.bl (decide (x.cps.toList < y.cps.toList))) H) : rLtS (.str x) (.str y) H Q := ⟨x, y, rfl, rfl, h⟩
theorem w_gtS {x y : Str} (h : Q (.bl (decide (y.cps.toList < x.cps.toList))) H) : rGtS (.str x) (.str y) H Q := ⟨x, y, rfl, rfl, h⟩
theorem w_neS {x y : Str} (h : Q (.bl (!decide (x = y))) H) : rNe (.str x) (.str y) H Q := ⟨rfl, by
  have e : decide (V.str x = V.str y) = decide (x = y) := by
    by_cases q : x = y
    · subst q; rw [decide_eq_true rfl, decide_eq_true rfl]
    · rw [decide_eq_false q, decide_eq_false (fun z => q (V.str.inj z))]
  rw [e]; exact h⟩
theorem w_lenS {z : Str} (h1 : z.length ≤ sizeLine) (h : Q (.int z.length) H) : rLenS [.str z] H Q := ⟨z, rfl, h1, h⟩
theorem w_inS {c : Nat} {z : Str} (h : Q (.bl (decide (c ∈ z.cps.toList))) H) : rInS (.str ⟨#[c]⟩) (.str z) H Q := ⟨c, z, rfl, rfl, h⟩
theorem w_ixS {z : Str} {i : Int} {c : Nat} (h1 : z.length ≤ sizeLine) (h2 : atI z.cps.toList i = some c) (h : Q (.str ⟨#[c]⟩) H) : rIxS (.str z) (.int i) H Q := ⟨z, i, c, rfl, rfl, h1, h2, h⟩
theorem w_m1 {r : V → List V → Hp → VK → Prop} {to te : TE} (h : to σ H fun x H1 => (∃ a, x = .str a) ∧ te σ H1 fun y H2 => r x [y] H2 Q) : tM1 r to te σ H Q := h
theorem w_isS {z : Str} {A : Prop} (h : A) : (∃ a, V.str z = .str a) ∧ A := ⟨⟨z, rfl⟩, h⟩
theorem w_joinL {a : Str} {p : Addr} {ys : List Str} (h1 : SqL K H p (ys.map V.str)) (h2 : (ys.map (·.length)).sum + ys.length * a.length ≤ 16777216) (h : Q (.str (Txt.join a ys)) H) : rJoin K (.str a) [.ref p] H Q := ⟨a, p, ys, rfl, rfl, .inl h1, h2, h⟩
theorem w_istr {te : TE} {R : It → Hp → Prop} (h : te σ H fun v H1 => rIStr v H1 R) : iStr te σ H R := h
theorem w_istr' {z : Str} {R : It → Hp → Prop} (h : R (Its z) H) : rIStr (.str z) H R := ⟨z, rfl, h⟩
theorem walk_str (x : Str) : Walk (Its x) x.cps.size (fun _ => True) (fun i H v H' => H' = H ∧ ∃ c, x.cps[i]? = some c ∧ v = .str ⟨#[c]⟩) := ⟨fun _ _ hi _ => hi, fun _ _ => Nat.le_refl _, fun _ _ _ _ _ _ y => y⟩
theorem w_glst {a : Addr} {xs : List V} {n : Nat} {t : TGs} {R : L2.St → Hp → Prop} (h1 : SqL K H a xs) (h2 : xs.length = n) (h : t xs σ H R) : gLst K n t (.ref a) σ H R := ⟨a, xs, rfl, h1, h2, h⟩
theorem w_all {p : Addr} {bs : List Bool} (h1 : SqL K H p (bs.map V.bl)) (h : Q (.bl (bs.all id)) H) : rAll K [.ref p] H Q := ⟨p, bs, rfl, h1, h⟩
theorem w_augI {i : Nat} {te : TE} {ti : TIp} {v : V} (e : σ[i]? = some (some v)) (h : te σ H fun x H1 => ti v x H1 fun z H2 => nx (σ.set i (some z)) H2) : tAug i te ti ⟨nx, rt, bk, ct⟩ σ H := ⟨v, e, h⟩
end
section
variable {P : Program} {w : World} {K : PySem.W.Frag} {mg : Str → Option Value} {base : Heap} {x qual : Str} {params : Arguments} {body : List Stmt} {scope : Scope} {dvs : List V} {kws : List (Str × V)} {f : Addr} {fd : FuncData}
/-- a def with defaults that lets nothing out -/
theorem okD {N ps : List Str} {k : Nat} {sp : Sp} (F : FunD K x qual params body scope dvs kws f fd) (S : FnScope N ps scope) (len : ∀ vs H Q E, sp vs H Q E → vs.length = ps.length)
    (hb : ∀ cdv A outer s H vs Q E, Room k (A.deeper (envOfC qual scope s.heap.objs.size f cdv)) → sp vs H Q E → ∃ t, PSs (cxOf CX0 P w K mg base N qual scope f cdv A outer s H E).nox body t ∧ t { nx := fun _ H' => Q .non H', rt := Q } (L2.start N vs) H) : FnOk P w K mg base CX0 (k + 1) f fd ps sp :=
  F.ok S len fun cdv A outer s H vs Q E hr h => by
    obtain ⟨t, p, q⟩ := hb cdv A outer s H vs Q E hr h
    exact ⟨t, p.nox, q⟩
end
/-- a def with defaults -/
structure DfD (K : PySem.W.Frag) (mg : Str → Option Value) (x : Str) (st : Stmt) (ps : List Str) (dvs : List V) (f : Addr) (fd : FuncData) : Prop where
  fn : FunD K x x (defArgs st) (defBody st) (defScope st) dvs [] f fd
  g : mg x = some (.ref f)
  kp : PySem.W.keepIn K (.ref f) = true
  b : ∃ ds, Vals dvs ds ∧ Binds K fd ps ds
/-- a def with several keyword-only defaults -/
structure DfKs (K : PySem.W.Frag) (mg : Str → Option Value) (x : Str) (st : Stmt) (ps : List Str) (kws : List (Str × V)) (dvs : List V) (f : Addr) (fd : FuncData) : Prop where
  fn : FunD K x x (defArgs st) (defBody st) (defScope st) [] kws f fd
  g : mg x = some (.ref f)
  kp : PySem.W.keepIn K (.ref f) = true
  b : ∃ ds, Vals dvs ds ∧ Binds K fd ps ds
theorem join_cps' : ∀ ys : List Str, (Str.join (Str.ofString "") ys).cps.toList = (ys.map fun y => y.cps.toList).flatten
  | [] => rfl
  | [y] => by
    show y.cps.toList = _
    simp
  | y :: z :: r => by
    have ih := join_cps' (z :: r)
    show (y.cps ++ (Str.ofString "").cps ++ (Str.join (Str.ofString "") (z :: r)).cps).toList = _
    rw [Array.toList_append, Array.toList_append, ih, List.map_cons (l := z :: r), List.flatten_cons]
    show y.cps.toList ++ [] ++ _ = _
    rw [List.append_nil]
theorem join_cps (ys : List Str) : (Txt.join (Str.ofString "") ys).cps.toList = (ys.map fun y => y.cps.toList).flatten := by
  have e : Txt.join (Str.ofString "") ys = Str.join (Str.ofString "") ys := StrLaws.glued_eq_join _ _
  rw [e]
  exact join_cps' ys
end FW

set_option Elab.async false
set_option linter.all false
set_option maxRecDepth 100000
set_option maxHeartbeats 4000000
/-! t[::-1] of a tuple -/
namespace HT
open PySem PySem.Spec PyProof.Rows
section
variable {prog : Program} {w : World} {A : Around} {E : Value → Shared → Prop} {s : Shared}
theorem applied_rev {sl : Addr} {vs : Value} {n : Nat} {Q : Int × Int × Nat → Shared → Prop} (hs : s.heap.IsSliceOf sl .none .none vs) (ps : IsPart vs (some (-1 : Int)))
    (h : Q ((n : Int) - 1, (-1 : Int), n) s) : wpAny (model prog w) A (Builtin.Slice.sliceApplied (.ref sl) (pure (n : Int))) Q E s := by
  obtain ⟨os, hos, hcs, hds⟩ := id hs
  unfold Builtin.Slice.sliceApplied Builtin.Slice.sliceFields
  refine wpAny_bind (wpAny_bind (wpAny_field hos hds (x := .none) rfl (wpAny_bind (wpAny_field hos hds (x := .none) rfl (wpAny_bind (wpAny_field hos hds (x := vs) rfl (wpAny_pure ?_)))))))
  refine wpAny_bind (slicePart_ ps ?_)
  show wpAny _ _ (if ((-1 : Int) == 0) = true then _ else _) _ _ s
  rw [if_neg (by decide)]
  refine wpAny_bind (slicePart_none (wpAny_bind (slicePart_none (wpAny_bind (wpAny_pure ?_)))))
  show wpAny _ _ (match Builtin.Slice.sliceAdjust none none (-1 : Int) (n : Int) with | (lo, hi) => pure (lo, (-1 : Int), Builtin.Slice.slicePlaces lo hi (-1))) _ _ s
  have e1 : Builtin.Slice.sliceAdjust none none (-1 : Int) (n : Int) = ((n : Int) - 1, (-1 : Int)) := by
    unfold Builtin.Slice.sliceAdjust
    have g1 : ((-1 : Int) < 0) := by decide
    simp only [g1, if_true]
  have e2 : Builtin.Slice.slicePlaces ((n : Int) - 1) (-1 : Int) (-1 : Int) = n := by
    unfold Builtin.Slice.slicePlaces
    rw [if_neg (by decide)]
    by_cases h0 : n = 0
    · rw [if_neg (by omega)]; omega
    · rw [if_pos (by omega)]
      show ((((n : Int) - 1 - -1 - 1) / 1 + 1)).toNat = n
      rw [Int.ediv_one]
      omega
  rw [e1]
  show wpAny _ _ (pure ((n : Int) - 1, (-1 : Int), Builtin.Slice.slicePlaces ((n : Int) - 1) (-1 : Int) (-1 : Int))) _ _ s
  rw [e2]
  exact wpAny_pure h
theorem rev_map {α : Type} (xs : List α) : ((List.range xs.length).filterMap fun (m : Nat) => xs[(((xs.length : Nat) : Int) - 1 + (m : Int) * (-1)).toNat]?) = xs.reverse := by
  have h : ∀ n, n ≤ xs.length → ((List.range n).filterMap fun (m : Nat) => xs[(((xs.length : Nat) : Int) - 1 + (m : Int) * (-1)).toNat]?) = xs.reverse.take n := by
    intro n
    induction n with
    | zero => intro _; simp
    | succ n ih =>
      intro hn
      rw [List.range_succ, List.filterMap_append, ih (by omega)]
      have e : (((xs.length : Nat) : Int) - 1 + (n : Int) * (-1)).toNat = xs.length - 1 - n := by omega
      have hg : xs.reverse[n]? = xs[xs.length - 1 - n]? := List.getElem?_reverse (by omega)
      have hs : xs[xs.length - 1 - n]? = some (xs[xs.length - 1 - n]'(by omega)) := List.getElem?_eq_getElem (by omega)
      rw [List.take_succ, hg]
      congr 1
      simp only [List.filterMap_cons, List.filterMap_nil, e, hs]
      rfl
  rw [h _ (Nat.le_refl _)]
  exact List.take_of_length_le (by simp)
theorem item_rev {t sl : Addr} {items : Array Value} {vs : Value} {Q : Value → Shared → Prop} (ht : IsTup s.heap t items) (hs : s.heap.IsSliceOf sl .none .none vs) (ps : IsPart vs (some (-1 : Int)))
    (h2 : Q (.ref s.heap.objs.size) { s with heap := s.heap.push { cls := .type "tuple", data := .seq items.toList.reverse.toArray } })
    (hsz : items.size ≤ sizeLine) : wpAny (model prog w) A (getItem (.ref t) (.ref sl)) Q E s := by
  have htake : sizeOk (.seq items.toList.reverse.toArray) := by
    show items.toList.reverse.toArray.size ≤ sizeLine
    rw [List.size_toArray, List.length_reverse, Array.length_toList]
    exact hsz
  obtain ⟨os, hos, hcs, hds⟩ := id hs
  have hTs : s.TypeIs (.ref sl) "slice" := ⟨os, hos, hcs⟩
  unfold getItem; try with_reducible refine wpAny_holding ?_
  first | refine wpAny_bind (wpAny_pure ?_) | skip
  refine wpAny_bind (wpAny_sequenceKey ht.typeIs (by decide) ?_); refine wpAny_bind (wpAny_callSpecial?_slot (name := Str.ofString "__getitem__") ht.typeIs PyProof.Rows.slot_tuple_getitem (wpAny_call_entry PyProof.Rows.slot_tuple_getitem ht.typeIs entry_tuple_getitem ?_ (args_tuple_getitem _ _)))
  show wpAny _ _ (Builtin.Tuple.tupleItemsOf (.ref t) >>= _) _ _ s; refine wpAny_bind (tupleItemsOf_ ht ?_)
  refine wpAny_bind (wpAny_typeOf hTs ?_); rw [if_pos (by decide)]; refine wpAny_bind (applied_rev hs ps ?_)
  show wpAny _ _ (if ((items.size : Int) - 1 == 0 && (-1 : Int) == 1 && items.size == items.size) = true then _ else _) _ _ s
  have hno : ¬ (((items.size : Int) - 1 == 0 && (-1 : Int) == 1 && items.size == items.size) = true) := by
    intro q
    rw [Bool.and_eq_true, Bool.and_eq_true] at q
    have q2 : (-1 : Int) = 1 := eq_of_beq q.1.2
    omega
  have ep : ((List.range items.size).filterMap fun (m : Nat) => items[((items.size : Int) - 1 + (m : Int) * (-1)).toNat]?).toArray = items.toList.reverse.toArray := by
    rw [← rev_map, Array.length_toList]
    congr 2
    funext m
    rw [Array.getElem?_toList]
  rw [if_neg hno, ep]
  first | exact wpAny_bind (m := Builtin.Tuple.tupleExact _) (wpAny_newObj_type (wpAny_pure ⟨_, rfl, wpAny_pure h2⟩) htake) | exact wpAny_bind (m := Builtin.Tuple.tupleExact _) (wpAny_newObj_type (wpAny_bind (wpAny_pure (wpAny_pure ⟨_, rfl, wpAny_pure h2⟩))) htake) | exact wpAny_bind (wpAny_bind (m := Builtin.Tuple.tupleExact _) (wpAny_newObj_type (wpAny_pure (wpAny_pure ⟨_, rfl, wpAny_pure h2⟩)) htake)) | exact wpAny_bind (wpAny_bind (m := Builtin.Tuple.tupleExact _) (wpAny_newObj_type (wpAny_pure ⟨_, rfl, wpAny_pure h2⟩) htake))
end
end HT
namespace FW
open PySem PySem.Spec PyProof.Rows L2
/-- t[::-1] -/
def rRevT (K : PySem.W.Frag) (x z : V) (H : Hp) (Q : VK) : Prop := ∃ (a : Addr) (xs : List V), x = .ref a ∧ z = .int (-1) ∧ SqT K H a xs ∧ Nw (.tup xs.reverse) H Q
def tRevT (K : PySem.W.Frag) (te ts : TE) : TE := fun σ H Q => te σ H fun x H1 => ts σ H1 fun z H3 => rRevT K x z H3 Q
theorem vals_rev {xs : List V} {its : List Value} (r : Vals xs its) : Vals xs.reverse its.reverse := by
  induction r with
  | nil => exact .nil
  | cons h _ ih =>
    rw [List.reverse_cons, List.reverse_cons]
    exact ih.append (.cons h .nil)
section
variable {X : Cx}
theorem pe_revT {e st : Expr} {te ts : TE} {p2 pos : Pos} (he : PE X e te) (hst : PE X st ts) : PE X (.Subscript e (.Slice none none (some st) p2) pos) (tRevT X.K te ts) := by
  refine ⟨fun pins s σ H Q I h => Subscript_ (thn (he.run pins s σ H _ I h) fun v s1 ⟨x, H1, I1, r1, q1⟩ => ?_)⟩
  refine wpAny_Slice ?_
  rw [evalPart_none]
  refine wpAny_pure ?_
  refine wpAny_pure ?_
  refine thn (hst.run pins s1 σ H1 _ I1 q1) fun vs s3 ⟨z, H3, I3, r3, a, xs, ex, ez, hx, g2⟩ => ?_
  subst ex ez
  cases r1
  obtain ⟨t2, rfl⟩ := r3
  have I4 : Inv X pins σ H3 { s3 with heap := s3.heap.push { cls := .type "slice", data := .fields #[.none, .none, .int (-1 : Int) t2] } } := I3.kept (t' := s3.toks) fun b ob q => Heap.get?_push_of_some _ q
  obtain ⟨its, r, ht, hz⟩ := I4.tuple hx
  have hlen : its.toArray.size = xs.length := by rw [List.size_toArray]; exact r.length.symm
  show wpAny (model X.prog X.w) X.A (subscriptTail e (.Slice none none (some st) p2) (.ref a) (.ref s3.heap.objs.size)) (EP X pins σ Q) X.xe _
  refine tail_any (ops := [.ref a, .ref s3.heap.objs.size]) ht.typeIs PyProof.Rows.slot_tuple_getitem.lookup ?_ (by with_unfolding_all rfl)
  refine HT.item_rev ht (Heap.IsSliceOf.new _ _ _ _) (.int _ t2) ?_ (by rw [hlen]; exact hz)
  refine ⟨.ref _, _, I4.laid (t' := s3.toks) (o := .tup xs.reverse) (fun b ob q => Heap.get?_push_of_some _ q) (Nat.le_refl _) ?_, rfl, g2 _ (I4.hok.fresh (Nat.le_refl _))⟩
  exact ⟨by rw [List.length_reverse]; exact hz, _, vals_rev r, IsTup.new _ _⟩
end
section
variable {K : PySem.W.Frag} {σ : L2.St} {H : Hp} {Q : VK}
theorem w_revT {te ts : TE} (h : te σ H fun x H1 => ts σ H1 fun z H3 => rRevT K x z H3 Q) : tRevT K te ts σ H Q := h
theorem w_revT' {a : Addr} {xs : List V} (h1 : H a = some (.tup xs)) (h : ∀ p H1, H p = none → H1 p = some (.tup xs.reverse) → Same H H1 → Q (.ref p) H1) : rRevT K (.ref a) (.int (-1)) H Q := ⟨a, xs, rfl, rfl, .of h1, w_new h⟩
end
end FW

set_option Elab.async false
set_option linter.all false
set_option maxRecDepth 100000
set_option maxHeartbeats 4000000
/-! text * number, tuple * number, texts put together -/
namespace FW
open PySem PySem.Spec PyProof.Rows L2
def rRepS : R2 := fun x y H Q => ∃ (z : Str) (k : Int), x = .str z ∧ y = .int k ∧ z.length ≤ 16 ∧ 0 ≤ k ∧ k ≤ 1000 ∧ Q (.str (Txt.mul z k)) H
theorem op_repS {X : Cx} : OpR X (binaryOp .Mult) rRepS := by
  intro pins s σ H x y v u Q I rx ry h
  obtain ⟨z, k, rfl, rfl, hz, h0, h1, q⟩ := h
  obtain ⟨t, rfl⟩ := rx
  obtain ⟨t', rfl⟩ := ry
  exact PySem.W.KXi.mul rfl hz (by omega) (by omega) (fun t' k' _ _ => ⟨.str (Txt.mul z k), H, I.tok _, ⟨_, rfl⟩, q⟩)
def rAddS : R2 := fun x y H Q => ∃ i j : Str, x = .str i ∧ y = .str j ∧ i.length + j.length ≤ sizeLine ∧ Q (.str (i ++ j)) H
theorem o_addS {X : Cx} : OpR X (binaryOp .Add) rAddS := op_add_str
section
variable {K : PySem.W.Frag} {H : Hp} {Q : VK}
theorem w_repS {z : Str} {k : Int} (h1 : z.length ≤ 16) (h2 : 0 ≤ k) (h3 : k ≤ 1000) (h : Q (.str (Txt.mul z k)) H) : rRepS (.str z) (.int k) H Q := ⟨z, k, rfl, rfl, h1, h2, h3, h⟩
theorem w_addS {i j : Str} (h1 : i.length + j.length ≤ sizeLine) (h : Q (.str (i ++ j)) H) : rAddS (.str i) (.str j) H Q := ⟨i, j, rfl, rfl, h1, h⟩
theorem w_repT {l : Addr} {k : Int} {xs : List V} (h1 : H l = some (.tup xs)) (h2 : xs ≠ []) (h3 : 2 ≤ k) (h4 : k ≤ 1000) (h5 : xs.length ≤ 1000) (h : Nw (.tup (List.replicate k.toNat xs).flatten) H Q) : rRepT K (.ref l) (.int k) H Q := ⟨l, k, xs, rfl, rfl, .of h1, h2, h3, h4, h5, h⟩
end
end FW

set_option Elab.async false
set_option linter.all false
set_option maxRecDepth 100000
set_option maxHeartbeats 4000000
/-! dicts whose keys are nested tuples of ints, texts and None -/
namespace FW
open PySem PySem.Spec PyProof.Rows L2
mutual
/-- the thing v is the key k -/
inductive NAt (H : Hp) : NestedKey → V → Prop
  | non : NAt H .none .non
  | int (i : Int) : NAt H (.num i) (.int i)
  | str (x : Str) : NAt H (.text x) (.str x)
  | tup {a : Addr} {ks : List NestedKey} {xs : List V} : H a = some (.tup xs) → NAll H ks xs → NAt H (.tup ks) (.ref a)
inductive NAll (H : Hp) : List NestedKey → List V → Prop
  | nil : NAll H [] []
  | cons {k : NestedKey} {v : V} {ks : List NestedKey} {vs : List V} : NAt H k v → NAll H ks vs → NAll H (k :: ks) (v :: vs)
end
mutual
theorem NAt.kt {H H' : Hp} (t : KT H H') : ∀ (k : NestedKey) (v : V), NAt H k v → NAt H' k v
  | .none, _, h => by cases h; exact .non
  | .num i, _, h => by cases h; exact .int i
  | .text x, _, h => by cases h; exact .str x
  | .tup ks, _, h => by
    cases h with
    | tup e all => exact .tup (t _ _ e) (NAll.kt t ks _ all)
theorem NAll.kt {H H' : Hp} (t : KT H H') : ∀ (ks : List NestedKey) (vs : List V), NAll H ks vs → NAll H' ks vs
  | [], _, h => by cases h; exact .nil
  | k :: ks, _, h => by
    cases h with
    | cons a b => exact .cons (NAt.kt t k _ a) (NAll.kt t ks _ b)
end
mutual
theorem NAt.inj {H : Hp} : ∀ (k k' : NestedKey) (v : V), NAt H k v → NAt H k' v → k = k'
  | .none, _, _, h, h' => by cases h; cases h'; rfl
  | .num i, _, _, h, h' => by cases h; cases h'; rfl
  | .text x, _, _, h, h' => by cases h; cases h'; rfl
  | .tup ks, _, _, h, h' => by
    cases h with
    | tup e all =>
      cases h' with
      | tup e' all' =>
        rw [e] at e'
        cases e'
        rw [NAll.inj ks _ _ all all']
theorem NAll.inj {H : Hp} : ∀ (ks ks' : List NestedKey) (vs : List V), NAll H ks vs → NAll H ks' vs → ks = ks'
  | [], _, _, h, h' => by cases h; cases h'; rfl
  | k :: ks, _, _, h, h' => by
    cases h with
    | cons a b =>
      cases h' with
      | cons a' b' => rw [NAt.inj k _ _ a a', NAll.inj ks _ _ b b']
end
section
variable {X : Cx} {pins : List (Addr × Obj)} {σ : L2.St} {H : Hp} {s : Shared}
mutual
theorem NAt.is (I : Inv X pins σ H s) : ∀ (k : NestedKey) (v : V) (u : Value), NAt H k v → RelV v u → NestedIs s.heap k u
  | .none, _, _, h, r => by
    cases h
    cases r
    exact .none
  | .num i, _, _, h, r => by
    cases h
    obtain ⟨t, rfl⟩ := r
    exact .int i t
  | .text x, _, _, h, r => by
    cases h
    obtain ⟨t, rfl⟩ := r
    exact .text x t
  | .tup ks, _, _, h, r => by
    cases h with
    | @tup a _ xs e all =>
      cases r
      obtain ⟨_, its, rel, o, h1, h2, n, h3⟩ := (show ObjOk X.prog X.w H s.heap a (.tup xs) from I.hok a _ e)
      exact .tup h1 h2 h3 (NAll.is I ks _ _ all rel)
theorem NAll.is (I : Inv X pins σ H s) : ∀ (ks : List NestedKey) (vs : List V) (us : List Value), NAll H ks vs → Vals vs us → NestedAll s.heap ks us
  | [], _, _, h, r => by
    cases h
    cases r
    exact .nil
  | k :: ks, _, _, h, r => by
    cases h with
    | cons a b =>
      cases r with
      | cons ra rb => exact .cons (NAt.is I k _ _ a ra) (NAll.is I ks _ _ b rb)
end
end
abbrev NEnt := NestedKey × Addr × V
def NVal (xs : List NEnt) (k : NestedKey) : Option V := (xs.find? fun x => decide (x.1 = k)).map (·.2.2)
def NPut (xs : List NEnt) (k : NestedKey) (a : Addr) (v : V) : List NEnt := if (NVal xs k).isSome then xs.map (fun x => if x.1 = k then (x.1, x.2.1, v) else x) else xs ++ [(k, a, v)]
abbrev NRel : List NEnt → List (NestedKey × Addr × Value) → Prop := Paired fun p q => p.1 = q.1 ∧ p.2.1 = q.2.1 ∧ RelV p.2.2 q.2.2
theorem NRel.val {xs : List NEnt} {ys : List (NestedKey × Addr × Value)} (r : NRel xs ys) (k : NestedKey) : RelO (NVal xs k) ((atKey ys k).map (·.2)) := by
  induction r with
  | nil => exact True.intro
  | @cons p q ps qs h t ih =>
    obtain ⟨h1, _, h2⟩ := h
    by_cases e : p.1 = k
    · have e' : q.1 = k := h1.symm.trans e
      have b : atKey (q :: qs) k = some q.2 := by simp [atKey, List.find?_cons, e']
      have c : NVal (p :: ps) k = some p.2.2 := by simp [NVal, List.find?_cons, e]
      rw [c, b]
      exact h2
    · have e' : ¬ q.1 = k := fun z => e (h1.trans z)
      have b : atKey (q :: qs) k = atKey qs k := by simp [atKey, List.find?_cons, e']
      have c : NVal (p :: ps) k = NVal ps k := by simp [NVal, List.find?_cons, e]
      rw [c, b]
      exact ih
theorem NRel.put {xs : List NEnt} {ys : List (NestedKey × Addr × Value)} (r : NRel xs ys) (k : NestedKey) (b : Addr) {y : V} {u : Value} (ry : RelV y u) : NRel (NPut xs k b y) (storedH ys k b u) := by
  have e : (NVal xs k).isSome = (atKey ys k).isSome := by rw [(r.val k).isSome_eq, Option.isSome_map]
  unfold NPut storedH
  rw [e]
  by_cases q : (atKey ys k).isSome = true
  · rw [if_pos q, if_pos q]
    clear e q
    induction r with
    | nil => exact .nil
    | @cons p q ps qs h t ih =>
      rw [List.map_cons, List.map_cons]
      refine .cons ?_ ih
      obtain ⟨h1, h2, h3⟩ := h
      unfold putAt
      by_cases e : p.1 = k
      · rw [if_pos e, if_pos (h1.symm.trans e)]
        exact ⟨h1, h2, ry⟩
      · rw [if_neg e, if_neg (fun z => e (h1.trans z))]
        exact ⟨h1, h2, h3⟩
  · rw [if_neg q, if_neg q]
    exact Paired.snoc r ⟨rfl, rfl, ry⟩
/-- the dict at a, keyed by nested tuples -/
def NO (P : Program) (w : World) (a : Addr) (xs : List NEnt) : HO := .ext fun h => xs.length ≤ sizeLine ∧ (a == sysModules) = false ∧ ∃ ys : List (NestedKey × Addr × Value), NRel xs ys ∧
  ∃ o es ep, h.get? a = some o ∧ o.ExactDict ∧ o.data = .dict es ep ∧ es.toList = ys.map (entryOfKey (nestedKind P w)) ∧ (ys.map (·.1)).Nodup
structure NDict (P : Program) (w : World) (H : Hp) (a : Addr) (xs : List NEnt) : Prop where
  at' : H a = some (NO P w a xs)
  keys : ∀ p ∈ xs, NAt H p.1 (.ref p.2.1) ∧ p.1.depth ≤ 8
theorem NDict.kp {P : Program} {w : World} {M : List Addr} {H H' : Hp} {a : Addr} {xs : List NEnt} (d : NDict P w H a xs) (k : Kp M H H') (t : KT H H') (h : a ∉ M) : NDict P w H' a xs :=
  ⟨k _ _ h d.at', fun p hp => ⟨NAt.kt t _ _ (d.keys p hp).1, (d.keys p hp).2⟩⟩
section
variable {X : Cx} {pins : List (Addr × Obj)} {σ : L2.St} {H : Hp} {s : Shared} {a : Addr} {xs : List NEnt}
theorem nd_of (I : Inv X pins σ H s) (d : NDict X.prog X.w H a xs) : xs.length ≤ sizeLine ∧ (a == sysModules) = false ∧ ∃ ys, NRel xs ys ∧ s.heap.DictOfH (nestedKind X.prog X.w) a ys := by
  obtain ⟨⟨z, y, ys, r, o, es, ep, h1, h2, h3, h4, h5⟩, hex, hst⟩ := (show ObjOk X.prog X.w H s.heap a (NO X.prog X.w a xs) from I.hok a _ d.at')
  refine ⟨z, y, ys, r, o, es, ep, h1, h2, h3, h4, ?_, h5⟩
  have hk := d.keys
  clear h4 h5 z d hex hst
  induction r with
  | nil => intro x hx; cases hx
  | @cons p q ps qs h t ih =>
    intro x hx
    rcases List.mem_cons.mp hx with rfl | hx
    · obtain ⟨g1, g2⟩ := hk p (by simp)
      have e1 : p.1 = x.1 := h.1
      have e2 : p.2.1 = x.2.1 := h.2.1
      rw [e1] at g1 g2
      rw [e2] at g1
      exact ⟨NAt.is I _ _ _ g1 rfl, g2⟩
    · exact ih (fun p hp => hk p (by simp [hp])) x hx
theorem nd_type (I : Inv X pins σ H s) (d : NDict X.prog X.w H a xs) : s.TypeIs (.ref a) "dict" ∧ (∀ b, Value.ref a = .ref b → ∃ ob, s.heap.get? b = some ob ∧ ob.dict = none) := by
  obtain ⟨_, _, ys, _, dd⟩ := nd_of I d
  refine ⟨dd.typeIs, fun b q => ?_⟩
  cases q
  obtain ⟨ob, _, _, h1, h2, _⟩ := dd
  exact ⟨ob, h1, h2.2.1⟩
theorem nk_is (I : Inv X pins σ H s) {b : Addr} {k : NestedKey} (h : NAt H k (.ref b)) (h8 : k.depth ≤ 8) : (nestedKind X.prog X.w).is s.heap k b := ⟨NAt.is I _ _ _ h rfl, h8⟩
variable {b : Addr} {k : NestedKey} {A : Around} {E : Value → Shared → Prop} {v : V} {r : Value}
theorem n_in {Q : Value → Shared → Prop} (hu : A.units + 9 < cLine) (I : Inv X pins σ H s) (d : NDict X.prog X.w H a xs) (hk : NAt H k (.ref b)) (h8 : k.depth ≤ 8) (h : ∀ s', Inv X pins σ H s' → Q (.bool (NVal xs k).isSome) s') :
    wpAny (model X.prog X.w) A (compareOp .In (.ref b) (.ref a)) Q E s := by
  obtain ⟨z, hd, ys, rel, dd⟩ := nd_of I d
  refine wpAny_in_heap (knd := nestedKind X.prog X.w) (show A.in1.units + 8 < cLine from by show A.units + 1 + 8 < cLine; omega) (nk_is I hk h8) hd dd ?_
  have q := (rel.val k).isSome_eq
  rw [Option.isSome_map] at q
  rw [← q]
  exact h _ (I.tok _)
theorem n_getItem {Q : Value → Shared → Prop} (hu : A.units + 9 < cLine) (I : Inv X pins σ H s) (d : NDict X.prog X.w H a xs) (hk : NAt H k (.ref b)) (h8 : k.depth ≤ 8) (l : NVal xs k = some v) (h : ∀ w' s', Inv X pins σ H s' → RelV v w' → Q w' s') :
    wpAny (model X.prog X.w) A (getItem (.ref a) (.ref b)) Q E s := by
  obtain ⟨z, hd, ys, rel, dd⟩ := nd_of I d
  obtain ⟨w', hw, rw'⟩ := RelO.some_of (v := v) (o := (atKey ys k).map (·.2)) (by rw [← l]; exact rel.val k)
  obtain ⟨p, hp, hp2⟩ := Option.map_eq_some_iff.mp hw
  refine wpAny_getItem_heap (knd := nestedKind X.prog X.w) (show A.in1.units + 8 < cLine from by show A.units + 1 + 8 < cLine; omega) (nk_is I hk h8) dd hp ?_
  rw [hp2]
  exact h w' _ (I.tok _) rw'
theorem n_get1 {Q : Value → Shared → Prop} (hu : A.units + 9 < cLine) (I : Inv X pins σ H s) (d : NDict X.prog X.w H a xs) (hk : NAt H k (.ref b)) (h8 : k.depth ≤ 8) (h : ∀ w' s', Inv X pins σ H s' → RelV ((NVal xs k).getD .non) w' → Q w' s') :
    wpAny (model X.prog X.w) A (call (.builtin "dict.get") [.ref a, .ref b]) Q E s := by
  obtain ⟨z, hd, ys, rel, dd⟩ := nd_of I d
  refine call_meetsIn PySem.F.slot_dict_get dd.typeIs PySem.F.entry_dict_get (PySem.F.args_dict_get_2 _ _) (meetsH_dict_get (nestedKind X.prog X.w) a b hd) ⟨?_, k, ys, nk_is I hk h8, dd, h _ _ (I.tok _) ?_⟩
  · show A.units + 1 + 8 < cLine
    omega
  · exact (rel.val k).getD rfl
theorem n_setItem {Q : Unit → Shared → Prop} (hu : A.units + 9 < cLine) (I : Inv X pins σ H s) (d : NDict X.prog X.w H a xs) (hk : NAt H k (.ref b)) (h8 : k.depth ≤ 8) (hl : xs.length < sizeLine) (rv : RelV v r) (h : ∀ s', Inv X pins σ (upd H a (NO X.prog X.w a (NPut xs k b v))) s' → Q () s') :
    wpAny (model X.prog X.w) A (setItem (.ref a) (.ref b) r) Q E s := by
  obtain ⟨z, hd, ys, rel, dd⟩ := nd_of I d
  have hz : ys.length ≤ sizeLine := by rw [← Paired.length rel]; exact z
  have hl' : (NPut xs k b v).length ≤ sizeLine := by
    unfold NPut
    split
    · rw [List.length_map]; exact z
    · rw [List.length_append]; exact hl
  refine wpAny_setItem_heap (knd := nestedKind X.prog X.w) (hsz := hz) (show A.in1.units + 8 < cLine from by show A.units + 1 + 8 < cLine; omega) (nk_is I hk h8) dd fun h' dd' hs => h _ ?_
  obtain ⟨q, es, ep, hq, h2, h3, h4, _, h5⟩ := dd'
  refine d_write I (by rw [d.at']; exact True.intro) hs ⟨q, hq⟩ ⟨⟨hl', hd, _, rel.put k b rv, q, es, ep, hq, h2, h3, h4, h5⟩, ⟨q, hq⟩, ?_⟩
  rintro h1 h2' ⟨g1, g2, ys', g3, o, es, ep, g4, g5⟩ keep
  exact ⟨g1, g2, ys', g3, o, es, ep, keep _ g4, g5⟩
end
/-! ### the rules -/
def rNIn (P : Program) (w : World) (x y : V) (H : Hp) (Q : VK) : Prop := ∃ a b xs k, x = .ref a ∧ y = .ref b ∧ NDict P w H a xs ∧ NAt H k (.ref b) ∧ k.depth ≤ 8 ∧ Q (.bl (NVal xs k).isSome) H
def rNGet (P : Program) (w : World) (x y : V) (H : Hp) (Q : VK) : Prop := ∃ a b xs k v, x = .ref a ∧ y = .ref b ∧ NDict P w H a xs ∧ NAt H k (.ref b) ∧ k.depth ≤ 8 ∧ NVal xs k = some v ∧ Q v H
def rNIs (P : Program) (w : World) (x : V) (H : Hp) (R : Addr → Hp → Prop) : Prop := ∃ a xs, x = .ref a ∧ NDict P w H a xs ∧ R a H
def rNGet1 (P : Program) (w : World) (a : Addr) (y : V) (H : Hp) (Q : VK) : Prop := ∃ b xs k, y = .ref b ∧ NDict P w H a xs ∧ NAt H k (.ref b) ∧ k.depth ≤ 8 ∧ Q ((NVal xs k).getD .non) H
def rNPut (P : Program) (w : World) (x y v : V) (H : Hp) (R : Hp → Prop) : Prop := ∃ a b xs k, x = .ref a ∧ y = .ref b ∧ NDict P w H a xs ∧ NAt H k (.ref b) ∧ k.depth ≤ 8 ∧ xs.length < sizeLine ∧ R (upd H a (NO P w a (NPut xs k b v)))
def tNIn (P : Program) (w : World) (ty td : TE) : TE := fun σ H Q => ty σ H fun y H1 => td σ H1 fun x H2 => rNIn P w x y H2 Q
def tNGet (P : Program) (w : World) (td ty : TE) : TE := fun σ H Q => td σ H fun x H1 => ty σ H1 fun y H2 => rNGet P w x y H2 Q
def tNGet1 (P : Program) (w : World) (td ty : TE) : TE := fun σ H Q => td σ H fun x H1 => rNIs P w x H1 fun a H1 => ty σ H1 fun y H2 => rNGet1 P w a y H2 Q
def sNPut (P : Program) (w : World) (td ty tv : TE) : TS := fun D σ H => tv σ H fun v H1 => td σ H1 fun x H2 => ty σ H2 fun y H3 => rNPut P w x y v H3 fun H4 => D.nx σ H4
def tNNew (P : Program) (w : World) : TE := fun _ H Q => ∀ p, H p = none → Q (.ref p) (upd H p (NO P w p []))
section
variable {X : Cx} {o i e value : Expr} {pos pos' tpos apos cpos : Pos} {td ty tv : TE}
theorem pc_nin (hu : X.A.units + 64 < cLine) (hi : PE X i ty) (ho : PE X o td) : PC X .In i o (tNIn X.prog X.w ty td) := by
  refine ⟨fun pins s σ H Q I h => ?_⟩
  refine thn (hi.run pins s σ H _ I h) fun iv s1 ⟨y, H1, I1, ry, q1⟩ => thn (ho.run pins s1 σ H1 _ I1 q1) fun u s2 ⟨x, H2, I2, rx, a, b, xs, k, ex, ey, d, hk, h8, q2⟩ => ?_
  subst ex ey
  obtain rfl : u = Value.ref a := rx
  obtain rfl : iv = Value.ref b := ry
  exact n_in (by omega) I2 d hk h8 fun s3 I3 => ⟨.bl _, H2, I3, rfl, q2⟩
theorem pe_nget (hu : X.A.units + 64 < cLine) (ho : PE X o td) (hi : PE X i ty) (hs : NoSl i) : PE X (.Subscript o i pos) (tNGet X.prog X.w td ty) := by
  refine ⟨fun pins s σ H Q I h => ?_⟩
  refine subD_of PySem.F.slot_dict_getitem.lookup hs (thn (ho.run pins s σ H _ I h) fun u s1 ⟨x, H1, I1, rx, q1⟩ => thn (hi.run pins s1 σ H1 _ I1 q1) fun iv s2 ⟨y, H2, I2, ry, a, b, xs, k, v, ex, ey, d, hk, h8, l, q2⟩ => ?_)
  subst ex ey
  obtain rfl : u = Value.ref a := rx
  obtain rfl : iv = Value.ref b := ry
  exact ⟨(nd_type I2 d).1, n_getItem (by omega) I2 d hk h8 l fun w' s3 I3 rw' => ⟨v, H2, I3, rw', q2⟩⟩
theorem ps_nput (hu : X.A.units + 64 < cLine) (ho : PE X o td) (hi : PE X i ty) (hv : PE X value tv) (hs : swapsWith value (some (.Subscript o i pos')) pos.line X.env = pure false) :
    PS X (.Assign [.Subscript o i pos'] value pos) (sNPut X.prog X.w td ty tv) := by
  refine ⟨fun pins s σ H D I h => ?_⟩
  refine wpAny_Assign_Subscript (thn (hv.run pins s σ H _ I h) fun r s1 ⟨v, H1, I1, rv, q1⟩ => thn (ho.run pins s1 σ H1 _ I1 q1) fun u s2 ⟨x, H2, I2, rx, q2⟩ => thn (hi.run pins s2 σ H2 _ I2 q2) fun iv s3 ⟨y, H3, I3, ry, a, b, xs, k, ex, ey, d, hk, h8, hl, q3⟩ => ?_) hs
  subst ex ey
  obtain rfl : u = Value.ref a := rx
  obtain rfl : iv = Value.ref b := ry
  exact n_setItem (by omega) I3 d hk h8 hl rv fun s4 I4 => ⟨σ, _, I4, q3⟩
theorem pe_nget1 (hu : X.A.units + 64 < cLine) (ho : PE X o td) (he : PE X e ty) (m : M1 X o "get" apos e cpos) : PE X (.Call (.Attribute o "get" apos) [e] [] cpos) (tNGet1 X.prog X.w td ty) := by
  refine ⟨fun pins s σ H Q I h => ?_⟩
  refine wpAny_Call_method m.base m.few m.line PySem.F.plainAttrs_dict PySem.F.slot_dict_get PySem.F.type_dict_get (thn (ho.run pins s σ H _ I h) fun u s1 ⟨x, H1, I1, rx, a, xs, ex, d, q1⟩ => ?_)
  subst ex
  obtain rfl : u = Value.ref a := rx
  obtain ⟨t1, t2⟩ := nd_type I1 d
  refine ⟨t1, t2, ?_⟩
  rw [m.trees]
  refine Calls.callWith_builtin rfl (Calls.evalArgs_plain (Calls.spliced_cons (thn (he.run pins s1 σ H1 _ I1 q1) fun iv s2 ⟨y, H2, I2, ry, b, xs', k, ey, d', hk, h8, q2⟩ => Calls.spliced_nil ?_)))
  subst ey
  obtain rfl : iv = Value.ref b := ry
  exact n_get1 (by omega) I2 d' hk h8 fun w' s3 I3 rw' => ⟨_, H2, I3, rw', q2⟩
theorem pe_nnew : PE X (.Dict [] [] pos) (tNNew X.prog X.w) := ⟨fun pins s σ H Q I h =>
  wpAny_Dict_empty ⟨.ref s.heap.objs.size, _, I.laid (a := s.heap.objs.size) (o := NO X.prog X.w s.heap.objs.size []) (t' := s.toks) (fun _ _ q => Heap.get?_push_of_some _ q) (Nat.le_refl _)
    ⟨⟨Nat.zero_le _, beq_eq_false_iff_ne.mpr (Ne.symm (Nat.ne_of_lt I.big)), [], .nil, _, #[], 0, Heap.get?_push_size _ rfl, ⟨rfl, rfl, rfl⟩, rfl, rfl, List.nodup_nil⟩, ⟨_, Heap.get?_push_size _ rfl⟩, by
      rintro h1 h2' ⟨g1, g2, ys', g3, o, es, ep, g4, g5⟩ keep
      exact ⟨g1, g2, ys', g3, o, es, ep, keep _ g4, g5⟩⟩, rfl, h _ (I.hok.fresh (Nat.le_refl _))⟩⟩
end
section
variable {P : Program} {w : World} {K : PySem.W.Frag} {σ : L2.St} {H : Hp} {Q : VK} {nx bk ct : L2.St → Hp → Prop} {rt : VK} {v : V}
theorem w_nin {ty td : TE} (h : ty σ H fun y H1 => td σ H1 fun x H2 => rNIn P w x y H2 Q) : tNIn P w ty td σ H Q := h
theorem w_nget {td ty : TE} (h : td σ H fun x H1 => ty σ H1 fun y H2 => rNGet P w x y H2 Q) : tNGet P w td ty σ H Q := h
theorem w_nget1 {td ty : TE} (h : td σ H fun x H1 => rNIs P w x H1 fun a H1 => ty σ H1 fun y H2 => rNGet1 P w a y H2 Q) : tNGet1 P w td ty σ H Q := h
theorem w_nput {td ty tv : TE} (h : tv σ H fun v H1 => td σ H1 fun x H2 => ty σ H2 fun y H3 => rNPut P w x y v H3 fun H4 => nx σ H4) : sNPut P w td ty tv ⟨nx, rt, bk, ct⟩ σ H := h
theorem w_seqNP {td ty tv : TE} {u : TS} (h : tv σ H fun v H1 => td σ H1 fun x H2 => ty σ H2 fun y H3 => rNPut P w x y v H3 fun H4 => u ⟨nx, rt, bk, ct⟩ σ H4) : tSeq (sNPut P w td ty tv) u ⟨nx, rt, bk, ct⟩ σ H := h
theorem w_nin' {a b : Addr} {xs : List NEnt} {k : NestedKey} (d : NDict P w H a xs) (hk : NAt H k (.ref b)) (h8 : k.depth ≤ 8) (h : Q (.bl (NVal xs k).isSome) H) : rNIn P w (.ref a) (.ref b) H Q := ⟨a, b, xs, k, rfl, rfl, d, hk, h8, h⟩
theorem w_nget' {a b : Addr} {xs : List NEnt} {k : NestedKey} (d : NDict P w H a xs) (hk : NAt H k (.ref b)) (h8 : k.depth ≤ 8) (l : NVal xs k = some v) (h : Q v H) : rNGet P w (.ref a) (.ref b) H Q := ⟨a, b, xs, k, v, rfl, rfl, d, hk, h8, l, h⟩
theorem w_nis' {a : Addr} {xs : List NEnt} {R : Addr → Hp → Prop} (d : NDict P w H a xs) (h : R a H) : rNIs P w (.ref a) H R := ⟨a, xs, rfl, d, h⟩
theorem w_nget1' {a b : Addr} {xs : List NEnt} {k : NestedKey} (d : NDict P w H a xs) (hk : NAt H k (.ref b)) (h8 : k.depth ≤ 8) (h : Q ((NVal xs k).getD .non) H) : rNGet1 P w a (.ref b) H Q := ⟨b, xs, k, rfl, d, hk, h8, h⟩
theorem w_nput' {a b : Addr} {xs : List NEnt} {k : NestedKey} {R : Hp → Prop} (d : NDict P w H a xs) (hk : NAt H k (.ref b)) (h8 : k.depth ≤ 8) (hl : xs.length < sizeLine) (h : ∀ H1, NDict P w H1 a (NPut xs k b v) → Off a H H1 → R H1) : rNPut P w (.ref a) (.ref b) v H R := by
  refine ⟨a, b, xs, k, rfl, rfl, d, hk, h8, hl, h _ ⟨upd_same, fun p hp => ?_⟩ fun x hx => upd_ne hx⟩
  have t : KT H (upd H a (NO P w a (NPut xs k b v))) := fun c ys ec => upd_get (ne_of ec d.at' (fun z => nomatch z)) ec
  have hp' : (NAt H p.1 (.ref p.2.1) ∧ p.1.depth ≤ 8) := by
    unfold NPut at hp
    split at hp
    · obtain ⟨q, hq, rfl⟩ := List.mem_map.mp hp
      have := d.keys q hq
      split <;> exact this
    · rcases List.mem_append.mp hp with hp | hp
      · exact d.keys p hp
      · have e : p = (k, b, v) := by simpa using hp
        subst e
        exact ⟨hk, h8⟩
  exact ⟨NAt.kt t _ _ hp'.1, hp'.2⟩
theorem w_nnew (h : ∀ p H1, H p = none → NDict P w H1 p [] → Same H H1 → Q (.ref p) H1) : tNNew P w σ H Q := fun p hp => h p _ hp ⟨upd_same, fun q hq => by cases hq⟩ (Same.new hp)
end
end FW

set_option Elab.async false
set_option linter.all false
set_option maxRecDepth 100000
set_option maxHeartbeats 4000000
/-! sets of ints out of lists, sorted at any length -/
namespace FW
open PySem PySem.Spec PyProof.Rows L2
/-- an empty set, as set.__new__ lays it -/
abbrev es0 (w : World) : Obj := { cls := .type "set", dict := none, data := .set #[] 0 (.fresh 0 0 (!w.params.followText "set-order")) }
section
variable {P : Program} {w : World} {A : Around} {E : Value → Shared → Prop} {s : Shared}
theorem set_of_list {l : Addr} {xs : Array Value} (ns : List Int) {Q : Value → Shared → Prop} (calm : A.handled = none) (isL : s.heap.IsList l xs) (are : IntsAre xs.toList ns) (few : ns.length + 1 < scanBound)
    (fin : ∀ (g : Heap) (tk c : Nat), SetR w g s.heap.objs.size (fun j => decide (j ∈ ns)) c → c ≤ ns.length → (∀ b o, s.heap.get? b = some o → g.get? b = some o) → Q (.ref s.heap.objs.size) { s with heap := g, toks := tk }) :
    wpAny (model P w) A (call (.type "set") [.ref l]) Q E s := by
  have size : xs.size = ns.length := by rw [← Array.length_toList]; exact IntsAre.length are
  obtain ⟨c0, tl, c1⟩ := F.called_set.mro
  have c2 := F.called_set.made
  have c3 := F.called_set.sub
  have c4 := F.called_set.notType
  have c5 := F.called_set.canCreate
  have c6 := F.typeCall_set_1 (.ref l)
  refine wpAny_call (codeAny_of_tree ?_)
  show wpAny (model P w) _ (callAny (.type "set") ⟨[.ref l], []⟩) _ _ s
  refine wpAny_pure ⟨Code.quiet_builtin _ (by decide +kernel), ?_⟩
  refine codeAny_builtin F.entry_type_call ?_
  rw [Around.under_plain (weight_type_call_type "set" [.ref l] []) rfl]
  repeat (any_goals (first | assumption | wp_step))
  refine codeAny_mono (code_set_led1 (w := w) (.ref l) (E := E) (Q₁ := fun y t => y = .ref s.heap.objs.size ∧ t = { s with heap := s.heap.push (es0 w) }) ⟨rfl, rfl⟩) fun r t hr => ?_
  match r, hr with
  | .error e, hr => exact hr
  | .ok (.ret y), hr =>
    obtain ⟨ey, et⟩ := hr
    subst ey et
    have at0 : (s.heap.push (es0 w)).get? s.heap.objs.size = some (es0 w) := Heap.get?_push_size _ rfl
    have ty0 : Shared.TypeIs { s with heap := s.heap.push (es0 w) } (.ref s.heap.objs.size) "set" := ⟨_, at0, rfl⟩
    have d1 := F.called_set.init.lookup
    have d2 := F.called_set.init.bind (.ref s.heap.objs.size)
    repeat (any_goals (first | assumption | wp_step))
    refine codeAny_mono (codeAny_call_builtin (R := wants (fun y t => y = .none ∧ ∃ g tk c, t = { s with heap := g, toks := tk } ∧ SetR w g s.heap.objs.size (fun j => decide (j ∈ ns)) c ∧ c ≤ ns.length ∧ (∀ b o, s.heap.get? b = some o → g.get? b = some o)) E) F.called_set.init.plain F.entry_set_init (check_set_init_1 ty0 ?_)) fun r2 t2 hr2 => ?_
    · obtain ⟨⟨kl, dc, dt, sl⟩, hol, hcl, nl, hdl⟩ := isL
      simp only at hcl hdl
      subst hcl
      subst hdl
      have at1 : (s.heap.push (es0 w)).get? l = some { cls := .type "list", dict := dc, data := .seq xs nl, slots := sl } := Heap.get?_push_of_some _ hol
      have n1 := F.sub_list_set
      have n2 := F.sub_list_frozenset
      have n3 : (Value.type "list" == Value.type "dict") = false := by decide
      have isL1 : (s.heap.push (es0 w)).IsList l xs := ⟨_, at1, rfl, nl, rfl⟩
      unfold Builtin.«set.__init__» noKeywords Builtin.Frozenset.updateFrom
      generalize gi : pyIter = it
      wp_walk
      subst gi
      refine wpAny_pyIter_list isL1 ?_
      refine wpAny_bind (wpAny_runValue ?_)
      have ll : l < s.heap.objs.size := Heap.lt_size hol
      have calm3 : A.in1.in1.in1.handled = none := by simp [calm]
      have sz1 : (s.heap.push (es0 w)).objs.size = s.heap.objs.size + 1 := Heap.size_push ..
      have ne1 : l ≠ (s.heap.push (es0 w)).objs.size := by rw [sz1]; exact Nat.ne_of_lt (Nat.lt_succ_of_lt ll)
      have ne2 : s.heap.objs.size ∉ [(s.heap.push (es0 w)).objs.size, l] := by
        rw [sz1]
        simp only [List.mem_cons, List.not_mem_nil, or_false, not_or]
        exact ⟨Nat.ne_of_lt (Nat.lt_succ_self _), Nat.ne_of_gt ll⟩
      have vals : ∀ (i : Nat) (v : Value), xs[i]? = some v → ∃ k t, ns[i]? = some k ∧ v = .int k t := fun i v hv => by
        have hi : i < ns.length := by rw [← size]; exact (Array.getElem?_eq_some_iff.mp hv).1
        obtain ⟨t, e⟩ := PyProof.Rows.IntsAre.int_at are i v (by rw [Array.getElem?_toList]; exact hv)
        exact ⟨ns[i], t, List.getElem?_eq_getElem hi, by rw [e, List.getD_eq_getElem?_getD, List.getElem?_eq_getElem hi]; rfl⟩
      refine set_update_ints (Walks.list calm3 _ l ne1 xs).toS s.heap.objs.size ne2 ns size few vals xs.size 0 _ (Nat.sub_zero _) (Nat.zero_le _) ⟨⟨_, Heap.get?_push_size _ rfl, rfl, rfl⟩, isL1.push _⟩ ⟨0, Nat.le_refl 0, setR_new_at (Heap.get?_push_of_some _ at0)⟩ ?_
      intro t c mv hc hS
      obtain ⟨g, g2, g3, tk, g5⟩ := t
      have q1 : g2 = s.gens := mv.gens
      have q2 : g3 = s.drawn := mv.drawn
      have q3 : g5 = s.os := mv.os
      subst q1 q2 q3
      show wpAny _ _ _ _ _ _
      refine wpAny_pure ?_
      show wpAny _ _ (ret Value.none) _ _ _
      rw [size] at hc
      refine wpAny_pure ⟨rfl, g, tk, c, rfl, hS, hc, fun b o e => ?_⟩
      have lb : b < s.heap.objs.size := Heap.lt_size e
      exact mv.heap b o (by rw [sz1]; simp only [List.mem_cons, List.not_mem_nil, or_false, not_or]; exact ⟨Nat.ne_of_lt lb, Nat.ne_of_lt (Nat.lt_succ_of_lt lb)⟩) (Heap.get?_push_of_some _ (Heap.get?_push_of_some _ e))
    · match r2, hr2 with
      | .error e, hr2 => exact hr2
      | .ok (.ret y), hr2 =>
        obtain ⟨ey, g, tk, c, et, hS, hc, keep⟩ := hr2
        subst ey et
        repeat (any_goals (first | assumption | wp_step))
        exact fin _ _ _ hS hc keep
      | .ok .next, hr2 => exact hr2.elim
      | .ok .brk, hr2 => exact hr2.elim
      | .ok .cont, hr2 => exact hr2.elim
  | .ok .next, hr => exact hr.elim
  | .ok .brk, hr => exact hr.elim
  | .ok .cont, hr => exact hr.elim
end
def rSetL (K : PySem.W.Frag) (w : World) (vs : List V) (H : Hp) (Q : VK) : Prop := ∃ (l : Addr) (ns : List Int), vs = [.ref l] ∧ SqL K H l (ns.map V.int) ∧ ns.length ≤ 4000 ∧ ∀ (p : Addr) (c : Nat), H p = none → c ≤ ns.length → Q (.ref p) (upd H p (SetO w p (fun j => decide (j ∈ ns)) c))
def rSortS (w : World) (vs : List V) (H : Hp) (Q : VK) : Prop := ∃ (a : Addr) (S : Int → Bool) (n : Nat), vs = [V.ref a] ∧ H a = some (SetO w a S n) ∧ n ≤ 4000 ∧ ∀ (ns : List Int) (p : Addr), ns.Pairwise (· < ·) → (∀ k : Int, k ∈ ns ↔ S k = true) → H p = none → Q (.ref p) (upd H p (.lst (ns.map V.int)))
section
variable {X : Cx}
theorem c_setL (calm : X.calm = true) : CallR X (.type "set") (rSetL X.K X.w) := by
  intro pins s σ H vs us Q I r h
  obtain ⟨l, ns, rfl, hl, hn, q⟩ := h
  rw [Vals.ref1 r]
  obtain ⟨its, rv, pl, hz⟩ := I.list hl
  refine set_of_list ns (I.ok.hd calm) pl.isList (by simpa using RZ.intsAre_vals rv) (by unfold scanBound; omega) fun g tk c R hc keep => ?_
  have free : H s.heap.objs.size = none := I.hok.fresh (Nat.le_refl _)
  exact ⟨.ref s.heap.objs.size, _, I.laid (t' := tk) keep (Nat.le_refl _) (setO_new R), rfl, q _ c free hc⟩
theorem c_sortS (calm : X.calm = true) : CallR X (.builtin "sorted") (rSortS X.w) := by
  intro pins s σ H vs us Q I r h
  obtain ⟨a, S, n, rfl, ha, hn4, q⟩ := h
  rw [Vals.ref1 r]
  obtain ⟨o, es, ep, t, ho, hex, hd, good, nd, hm, hb, hf, hn, ris, led⟩ := setO_get I ha
  refine Calls.call_function_entry kind_sorted plain_sorted entry_sorted (args_sorted1 _) ?_
  unfold Builtin.«sorted»; refine wpAny_bind (m := checkCount "sorted" 1 1 _) (wpAny_pure ?_)
  refine wpAny_bind (collect_set (A := X.A.in1) (I.ok.hd calm) ⟨o, ho, hex.1, hd⟩ hf hb ris led fun s1 xs k1 z1 g1 o1 pm => ?_)
  have xl : xs.length = n := by rw [pm.length_eq, List.length_map, Array.length_toList]; exact hn
  have xI : IntsAre xs (xs.map Builtin.Re.reRawOf) := L2.ints_of xs fun v hv => by
    obtain ⟨e, he, rfl⟩ := List.mem_map.mp (pm.mem_iff.mp hv)
    obtain ⟨k, tk, h1, _⟩ := good e he
    exact ⟨k, tk, h1⟩
  have pk : (xs.map Builtin.Re.reRawOf).Perm (es.toList.map keyOf) := by
    have q := pm.map Builtin.Re.reRawOf
    rwa [List.map_map] at q
  have hz : xs.length ≤ sizeLine := by rw [xl, sizeLine_eq]; omega
  refine wpAny_bind (wpAny_newList ?_ hz)
  have atL : (s1.heap.push (seqObj "list" xs.toArray 0)).get? s1.heap.objs.size = some (seqObj "list" xs.toArray 0) := Heap.get?_push_size _ rfl
  refine wpAny_bind (wpAny_holding (wpAny_call_entry slot_list_sort ⟨_, atL, rfl⟩ entry_list_sort (SrtO.list_sort_ord (s := { s1 with heap := s1.heap.push (seqObj "list" xs.toArray 0) }) SrtO.swo_int atL hz (fun h2 => SrtO.ints_sortable xI h2) fun out h1 h2 => ⟨_, rfl, ?_⟩) (args_list_sort _)))
  obtain ⟨i1, i2, i3⟩ := SrtO.ints_out xI h1 h2
  obtain ⟨e', he'⟩ := sortedHeap_at (vs := xs) (out := out.toArray) atL
  have pn : (out.map SrtO.iv).Perm (es.toList.map keyOf) := i2.trans pk
  have hlen : ((out.map SrtO.iv).map V.int).length ≤ sizeLine := by rw [List.length_map, i2.length_eq, List.length_map]; exact hz
  have free : H s1.heap.objs.size = none := I.hok.fresh z1
  have keep : ∀ b u, s.heap.get? b = some u → (sortedHeap (s1.heap.push (seqObj "list" xs.toArray 0)) s1.heap.objs.size xs out.toArray).get? b = some u := fun b u e => by
    have e1 := k1 b u e
    have lb : b < s1.heap.objs.size := Heap.lt_size e1
    rw [sortedHeap_old (Nat.ne_of_lt lb) (by rw [size_push']; exact Nat.lt_succ_of_lt lb)]
    exact Heap.get?_push_of_some _ e1
  have J : Inv X pins σ (upd H s1.heap.objs.size (.lst ((out.map SrtO.iv).map V.int))) { s with heap := sortedHeap (s1.heap.push (seqObj "list" xs.toArray 0)) s1.heap.objs.size xs out.toArray, gens := s1.gens, drawn := s1.drawn, toks := s1.toks } := I.call (ch := []) (Un.laid keep z1 free) (I.hok.laid (o := .lst ((out.map SrtO.iv).map V.int)) keep z1 ⟨hlen, out, e', vals_of_ints i1, he'⟩) (by rw [g1]; exact I.bare) (fun _ z => nomatch z)
  refine wpAny_pure ⟨_, rfl, .ref s1.heap.objs.size, upd H s1.heap.objs.size (.lst ((out.map SrtO.iv).map V.int)), ?_, rfl, q _ _ (lt_of_le_nodup _ i3 (pn.nodup_iff.mpr nd)) (fun k => by rw [pn.mem_iff, ← hm k]) free⟩
  cases s1
  cases s
  cases o1
  exact J
end
section
variable {K : PySem.W.Frag} {w : World} {H : Hp} {Q : VK}
theorem w_setOf {l : Addr} {ns : List Int} (h1 : SqL K H l (ns.map V.int)) (h2 : ns.length ≤ 4000) (h : ∀ p c H1, H p = none → c ≤ ns.length → H1 p = some (SetO w p (fun j => decide (j ∈ ns)) c) → Same H H1 → Q (.ref p) H1) : rSetL K w [.ref l] H Q :=
  ⟨l, ns, rfl, h1, h2, fun p c hp hc => h p c _ hp hc upd_same (Same.new hp)⟩
theorem w_sortS {a : Addr} {S : Int → Bool} {n : Nat} (h1 : H a = some (SetO w a S n)) (h2 : n ≤ 4000) (h : ∀ (ns : List Int) p H1, ns.Pairwise (· < ·) → (∀ k : Int, k ∈ ns ↔ S k = true) → H p = none → H1 p = some (.lst (ns.map V.int)) → Same H H1 → Q (.ref p) H1) : rSortS w [.ref a] H Q :=
  ⟨a, S, n, rfl, h1, h2, fun ns p hs hm hp => h ns p _ hs hm hp upd_same (Same.new hp)⟩
end
end FW

set_option Elab.async false
set_option linter.all false
set_option maxRecDepth 100000
set_option maxHeartbeats 4000000
/-! objects of own classes; max with a default; data in lists -/
namespace FW
open PySem PySem.Spec PyProof.Rows L2
/-! ### max(list, default=d) -/
def rMaxD (K : PySem.W.Frag) (vs zs : List V) (H : Hp) (Q : VK) : Prop := ∃ (a : Addr) (ns : List Int) (d : Int), vs = [.ref a] ∧ zs = [.int d] ∧ SqL K H a (ns.map V.int) ∧ (ns = [] → Q (.int d) H) ∧ ∀ m, m ∈ ns → (∀ y ∈ ns, y ≤ m) → Q (.int m) H
theorem maxOf_ge (ys : List Int) : ∀ y : Int, ∀ z ∈ y :: ys, z ≤ PySem.W.maxOf y ys := by
  induction ys with
  | nil => intro y z hz; have : z = y := by simpa using hz
           subst this; exact Int.le_refl _
  | cons x ys ih =>
    intro y z hz
    show z ≤ PySem.W.maxOf (if PySem.W.DatumOrd.lt y x = true then x else y) ys
    have e : PySem.W.DatumOrd.lt y x = decide (y < x) := rfl
    rw [e]
    by_cases h : y < x
    · rw [if_pos (decide_eq_true h)]
      have h1 := ih x
      rcases List.mem_cons.mp hz with rfl | hz
      · have := h1 x (by simp)
        omega
      · exact h1 z hz
    · rw [if_neg (fun q => h (of_decide_eq_true q))]
      have h1 := ih y
      rcases List.mem_cons.mp hz with rfl | hz
      · exact h1 z (by simp)
      · rcases List.mem_cons.mp hz with rfl | hz
        · have := h1 y (by simp)
          omega
        · exact h1 z (by simp [hz])
section
variable {X : Cx} {pins : List (Addr × Obj)} {σ : L2.St} {H : Hp} {s : Shared}
theorem hold_ints (h : Heap) : ∀ (ns : List Int) (its : List Value), Vals (ns.map V.int) its → PySem.W.HoldAll h its ns
  | [], _, r => by cases r; exact PySem.W.HoldAll.nil
  | n :: ns, _, r => by
    cases r with
    | cons r1 rr =>
      obtain ⟨t, rfl⟩ := r1
      exact PySem.W.HoldAll.cons ⟨_, Reads.int n t⟩ (hold_ints h ns _ rr)
theorem int_at {ns : List Int} {its : List Value} (r : Vals (ns.map V.int) its) {i : Nat} {v : Value} (h : its[i]? = some v) : ∃ k t, ns[i]? = some k ∧ v = .int k t := by
  induction ns generalizing its i with
  | nil =>
    cases r
    simp at h
  | cons n ns ih =>
    cases r with
    | cons r1 rr =>
      obtain ⟨t, rfl⟩ := r1
      cases i with
      | zero => exact ⟨n, t, rfl, by simpa using h.symm⟩
      | succ i => exact ih rr (by simpa using h)
theorem c_maxD (calm : X.calm = true) (hu : X.A.units + 64 < cLine) : CallRK X (.builtin "max") ["default"] (rMaxD X.K) := by
  intro pins s σ H vs zs us ws Q I r rz ⟨a, ns, d, e1, e2, hs, q0, q1⟩
  subst e1 e2
  obtain ⟨its, rv, hl, _⟩ := I.list hs
  rw [Vals.ref1 r]
  cases rz with
  | cons r1 rr =>
    cases rr
    obtain ⟨t, rfl⟩ := r1
    have hdp : PySem.W.Datum.depth Int ≤ 50 := by decide
    refine PySem.W.max_list_datum_default (d := .int d t) (xs := ns) (I.ok.hd calm) hl.isList (by simpa using hold_ints s.heap ns its rv) (by omega) (fun e h' tk hk => ?_) fun y ys i v h' tk e hi hv hk => ?_
    · exact ⟨.int d, H, I.kept (t' := tk) hk, ⟨_, rfl⟩, q0 e⟩
    · obtain ⟨k, t', hk', rfl⟩ := int_at rv (by simpa using hi)
      have ek : k = PySem.W.maxOf y ys := by
        obtain ⟨as, ra⟩ := hv
        cases ra
        rfl
      refine ⟨.int k, H, I.kept (t' := tk) hk, ⟨_, rfl⟩, q1 k (List.mem_of_getElem? hk') fun z hz => ?_⟩
      rw [ek]
      exact maxOf_ge ys y z (by rw [← e]; exact hz)
end
/-! ### fields, methods, makings -/
/-- a class as the top has left it, with the names of its fields -/
structure Kl (K : PySem.W.Frag) (mg : Str → Option Value) (x : Str) (C : Addr) (as : List Str) : Prop where
  g : mg x = some (.ref C)
  cl : Cls K C
  na : ∀ f ∈ as, NoAttr K C f
/-- a method -/
structure DfM (K : PySem.W.Frag) (C : Addr) (m qual : Str) (st : Stmt) (ps : List Str) (f : Addr) (fd : FuncData) : Prop where
  fn : Fun K m qual st f fd
  b : Binds K fd ps []
  m : Meth K C m f
def rFld (K : PySem.W.Frag) (f : Str) (x : V) (H : Hp) (Q : VK) : Prop := ∃ a C dx fs v, x = .ref a ∧ H a = some (.ins C dx fs) ∧ Cls K C ∧ NoAttr K C f ∧ fs.lookup f = some v ∧ Q v H
def rFldS (K : PySem.W.Frag) (f : Str) (x y : V) (H : Hp) (R : Hp → Prop) : Prop := ∃ a C dx fs, x = .ref a ∧ H a = some (.ins C dx fs) ∧ Cls K C ∧ NoAttr K C f ∧ fs.length < 1000 ∧ R (upd H a (.ins C dx (putF f y fs)))
def rMeth (C : Addr) (m : Str) (x : V) (H : Hp) (A : Prop) : Prop := ∃ a dx fs, x = .ref a ∧ H a = some (.ins C dx fs) ∧ fs.lookup m = none ∧ A
def rMake (C : Addr) (sp : Sp) (vs : List V) (H : Hp) (Q : VK) (E : XK) : Prop := ∀ x dx, H x = none → H dx = none → dx ≠ x → sp (.ref x :: vs) (upd (upd H dx (.own x)) x (.ins C dx [])) (fun v H2 => v = .non ∧ Q (.ref x) H2) E
section
variable {K : PySem.W.Frag} {σ : L2.St} {H : Hp} {Q : VK} {nx bk ct : L2.St → Hp → Prop} {rt : VK} {v : V}
theorem w_fld {ta : TE} {f : Str} (h : ta σ H fun x H1 => rFld K f x H1 Q) : tFld K ta f σ H Q := h
theorem w_fld' {f : Str} {a C dx : Addr} {fs : List (Str × V)} (h1 : H a = some (.ins C dx fs)) (h2 : Cls K C) (h3 : NoAttr K C f) (h4 : fs.lookup f = some v) (h : Q v H) : rFld K f (.ref a) H Q := ⟨a, C, dx, fs, v, rfl, h1, h2, h3, h4, h⟩
theorem w_fldS {ta tv : TE} {f : Str} (h : tv σ H fun y H1 => ta σ H1 fun x H2 => rFldS K f x y H2 fun H3 => nx σ H3) : sFld K ta tv f ⟨nx, rt, bk, ct⟩ σ H := h
theorem w_seqFS {ta tv : TE} {f : Str} {u : TS} (h : tv σ H fun y H1 => ta σ H1 fun x H2 => rFldS K f x y H2 fun H3 => u ⟨nx, rt, bk, ct⟩ σ H3) : tSeq (sFld K ta tv f) u ⟨nx, rt, bk, ct⟩ σ H := h
theorem w_fldS' {f : Str} {a C dx : Addr} {fs : List (Str × V)} {R : Hp → Prop} (h1 : H a = some (.ins C dx fs)) (h2 : Cls K C) (h3 : NoAttr K C f) (h4 : fs.length < 1000) (h : ∀ H1, H1 a = some (.ins C dx (putF f v fs)) → Off a H H1 → R H1) : rFldS K f (.ref a) v H R :=
  ⟨a, C, dx, fs, rfl, h1, h2, h3, h4, h _ upd_same fun x hx => upd_ne hx⟩
theorem w_meth {C : Addr} {m : Str} {sp : Sp} {E : XK} {ta : TE} {t : TA} (h : ta σ H fun x H1 => rMeth C m x H1 (t σ H1 fun vs H2 => sp (x :: (vs ++ [])) H2 Q E)) : tMeth C m sp [] E ta t σ H Q := by
  unfold tMeth
  exact h
theorem w_meth' {C a dx : Addr} {m : Str} {fs : List (Str × V)} {A : Prop} (h1 : H a = some (.ins C dx fs)) (h2 : fs.lookup m = none) (h : A) : rMeth C m (.ref a) H A := ⟨a, dx, fs, rfl, h1, h2, h⟩
theorem w_make {C : Addr} {sp : Sp} {E : XK} {t : TA} (h : t σ H fun vs H1 => rMake C sp (vs ++ []) H1 Q E) : tMake C sp [] E t σ H Q := h
theorem w_make' {C : Addr} {sp : Sp} {vs : List V} {E : XK} (h : ∀ x dx H1, H x = none → H dx = none → dx ≠ x → H1 x = some (.ins C dx []) → Same H H1 → sp (.ref x :: vs) H1 (fun v H2 => v = .non ∧ Q (.ref x) H2) E) : rMake C sp vs H Q E := fun x dx hx hd hne =>
  h x dx _ hx hd hne upd_same fun b o e => by
    rw [upd_ne (ne_of_none e hx), upd_ne (ne_of_none e hd)]
    exact e
theorem w_maxD {r : List V → List V → Hp → VK → Prop} {t tk : TA} (h : t σ H fun vs H1 => tk σ H1 fun zs H2 => r vs zs H2 Q) : tCKw r t tk σ H Q := h
theorem w_maxD' {a : Addr} {ns : List Int} {d : Int} (h1 : SqL K H a (ns.map V.int)) (h0 : ns = [] → Q (.int d) H) (h : ∀ m, m ∈ ns → (∀ y ∈ ns, y ≤ m) → Q (.int m) H) : rMaxD K [.ref a] [.int d] H Q := ⟨a, ns, d, rfl, rfl, h1, h0, h⟩
end
theorem pe_fldK {X : Cx} {K : PySem.W.Frag} {e : Expr} {f : Str} {pos : Pos} {ta : TE} (hk : X.K = K) (he : PE X e ta) (hb : attributeBase e f X.env (eval e X.env) = eval e X.env) : PE X (.Attribute e f pos) (tFld K ta f) := by
  subst hk
  exact pe_fld he hb
/-- all but the new object keeps -/
theorem fld_put1 (f : Str) (v : V) : putF f v [] = [(f, v)] := rfl
end FW

set_option Elab.async false
set_option linter.all false
set_option maxRecDepth 100000
set_option maxHeartbeats 4000000
/-! l[::-1] of a list; set of a tuple of ints; two promises of one def -/
namespace FW
open PySem PySem.Spec PyProof.Rows L2
theorem pick_back (its : List Value) : slicePick its.toArray none none (some (-1)) = its.reverse.toArray := by
  have e1 : sliceBounds none none (some (-1)) its.toArray.size = ((its.length : Int) - 1, -1, -1) := by
    unfold sliceBounds
    rw [List.size_toArray]
    rfl
  unfold slicePick
  rw [e1]
  congr 1
  show List.filterMap (fun i => its.toArray[i]?) (sliceRange ((its.length : Int) - 1) (-1) (-1)) = its.reverse
  rw [← HT.rev_map]
  have e2 : sliceRange ((its.length : Int) - 1) (-1) (-1) = (List.range its.length).map fun (m : Nat) => (((its.length : Nat) : Int) - 1 + (m : Int) * (-1)).toNat := by
    unfold sliceRange
    have g1 : ¬ ((-1 : Int) > 0) := by decide
    simp only [g1, if_false]
    by_cases h0 : its.length = 0
    · rw [h0]; rfl
    · have e3 : (((its.length : Int) - 1 - -1 - -1 - 1) / - -1) = (its.length : Int) := by
        rw [show (- -1 : Int) = 1 by decide, Int.ediv_one]; omega
      rw [if_pos (by omega), e3, Int.toNat_natCast]
      refine List.map_congr_left fun k _ => ?_
      congr 1
      omega
  rw [e2, List.filterMap_map]
  congr 1
  funext m
  show its.toArray[_]? = its[_]?
  rw [List.getElem?_toArray]
def rRevL (K : PySem.W.Frag) (x z : V) (H : Hp) (Q : VK) : Prop := ∃ (a : Addr) (xs : List V), x = .ref a ∧ z = .int (-1) ∧ SqL K H a xs ∧ Nw (.lst xs.reverse) H Q
def tRevL (K : PySem.W.Frag) (te ts : TE) : TE := fun σ H Q => te σ H fun x H1 => ts σ H1 fun z H3 => rRevL K x z H3 Q
section
variable {X : Cx}
theorem pe_revL {e st : Expr} {te ts : TE} {p2 pos : Pos} (he : PE X e te) (hst : PE X st ts) : PE X (.Subscript e (.Slice none none (some st) p2) pos) (tRevL X.K te ts) := by
  refine ⟨fun pins s σ H Q I h => Subscript_ (thn (he.run pins s σ H _ I h) fun v s1 ⟨x, H1, I1, r1, q1⟩ => ?_)⟩
  refine wpAny_Slice ?_
  rw [evalPart_none]
  refine wpAny_pure ?_
  refine wpAny_pure ?_
  refine thn (hst.run pins s1 σ H1 _ I1 q1) fun vs s3 ⟨z, H3, I3, r3, a, xs, ex, ez, hx, g2⟩ => ?_
  subst ex ez
  cases r1
  obtain ⟨t2, rfl⟩ := r3
  have J : Inv X pins σ H3 { s3 with heap := s3.heap.push { cls := .type "slice", data := .fields #[.none, .none, .int (-1 : Int) t2] } } := I3.kept (t' := s3.toks) fun b ob q => Heap.get?_push_of_some _ q
  obtain ⟨its, r, isL, hz⟩ := J.list hx
  have hlen := r.length
  show wpAny (model X.prog X.w) X.A (subscriptTail e (.Slice none none (some st) p2) (.ref a) (.ref s3.heap.objs.size)) (EP X pins σ Q) X.xe _
  refine tail_any (ops := [.ref a, .ref s3.heap.objs.size]) isL.isList.typeIs slot_list_getitem.lookup ?_ (by with_unfolding_all rfl)
  refine wpAny_getItem_list_slice isL.isList (Heap.IsSliceOf.new _ _ _ _) .none .none (.int _ t2) (by decide) ?_ (by rw [List.size_toArray] <;> omega)
  rw [pick_back]
  refine ⟨.ref _, _, J.laid (t' := s3.toks) (o := .lst xs.reverse) (fun b ob q => Heap.get?_push_of_some _ q) (Nat.le_refl _) ?_, rfl, g2 _ (J.hok.fresh (Nat.le_refl _))⟩
  exact ⟨by rw [List.length_reverse]; exact hz, _, 0, vals_rev r, Heap.get?_push_size _ rfl⟩
end
def rSetT (K : PySem.W.Frag) (w : World) (vs : List V) (H : Hp) (Q : VK) : Prop := ∃ (l : Addr) (ns : List Int), vs = [.ref l] ∧ SqT K H l (ns.map V.int) ∧ ns.length ≤ 4000 ∧ ∀ (p : Addr) (c : Nat), H p = none → c ≤ ns.length → Q (.ref p) (upd H p (SetO w p (fun j => decide (j ∈ ns)) c))
theorem c_setT {X : Cx} (calm : X.calm = true) : CallR X (.type "set") (rSetT X.K X.w) := by
  intro pins s σ H vs us Q I r h
  obtain ⟨l, ns, rfl, hl, hn, q⟩ := h
  rw [Vals.ref1 r]
  obtain ⟨its, rv, pl, hz⟩ := I.tuple hl
  refine call_set_tupI ns (I.ok.hd calm) (show s.heap.IsTuple l its.toArray from pl) (by simpa using RZ.intsAre_vals rv) (by unfold scanBound; omega) fun g tk c R hc keep => ?_
  have free : H s.heap.objs.size = none := I.hok.fresh (Nat.le_refl _)
  exact ⟨.ref s.heap.objs.size, _, I.laid (t' := tk) keep (Nat.le_refl _) (setO_new R), rfl, q _ c free hc⟩
section
variable {K : PySem.W.Frag} {w : World} {σ : L2.St} {H : Hp} {Q : VK}
theorem w_revL {te ts : TE} (h : te σ H fun x H1 => ts σ H1 fun z H3 => rRevL K x z H3 Q) : tRevL K te ts σ H Q := h
theorem w_revL' {a : Addr} {xs : List V} (h1 : H a = some (.lst xs)) (h : ∀ p H1, H p = none → H1 p = some (.lst xs.reverse) → Same H H1 → Q (.ref p) H1) : rRevL K (.ref a) (.int (-1)) H Q := ⟨a, xs, rfl, rfl, .of h1, w_new h⟩
theorem w_setOfT {l : Addr} {ns : List Int} (h1 : SqT K H l (ns.map V.int)) (h2 : ns.length ≤ 4000) (h : ∀ p c H1, H p = none → c ≤ ns.length → H1 p = some (SetO w p (fun j => decide (j ∈ ns)) c) → Same H H1 → Q (.ref p) H1) : rSetT K w [.ref l] H Q :=
  ⟨l, ns, rfl, h1, h2, fun p c hp hc => h p c _ hp hc upd_same (Same.new hp)⟩
end
theorem FnOk.or {P : Program} {w : World} {K : PySem.W.Frag} {mg : Str → Option Value} {base : Heap} {CX : CXT} {k : Nat} {f : Addr} {fd : FuncData} {ps : List Str} {sp sp' : Sp} (F : FnOk P w K mg base CX k f fd ps sp) (G : FnOk P w K mg base CX k f fd ps sp') : FnOk P w K mg base CX k f fd ps (fun vs H Q E => sp vs H Q E ∨ sp' vs H Q E) :=
  ⟨fun vs H Q E q => q.elim (F.len vs H Q E) (G.len vs H Q E), fun A outer s H args us vs Q E hr he hb hv hs => hs.elim (F.run A outer s H args us vs Q E hr he hb hv) (G.run A outer s H args us vs Q E hr he hb hv)⟩
end FW

set_option Elab.async false
set_option linter.all false
set_option maxRecDepth 100000
set_option maxHeartbeats 4000000
/-! d.items() of a dict of texts and ints, and sorted of it -/
namespace FW
open PySem PySem.Spec PyProof.Rows L2
def rItemsK : V → List V → Hp → VK → Prop := fun x xs H Q => ∃ (a : Addr) (kvs : List (Key × V)), x = .ref a ∧ xs = [] ∧ H a = some (.dK kvs) ∧ ∀ p, H p = none → Q (.ref p) (upd H p (L2.DX.itemsO p a))
theorem mt_itemsK {X : Cx} : MtR X "dict.items" rItemsK := by
  intro pins s σ H x xs v us Q I rx rxs h
  obtain ⟨a, kvs, rfl, rfl, ha, q⟩ := h
  cases rx
  cases rxs
  obtain ⟨z, lo, vs, rel, dd⟩ := dk_of I.hok ha
  refine call_meetsIn PySem.F.slot_dict_items dd.typeIs PySem.F.entry_dict_items (PySem.F.args_dict_items_1 _) (meets_dict_items (mixKind X.prog X.w) a lo) ⟨⟨vs, dd⟩, ?_⟩
  have hf : H s.heap.objs.size = none := I.hok.fresh (Nat.le_refl _)
  exact ⟨.ref s.heap.objs.size, upd H s.heap.objs.size (L2.DX.itemsO s.heap.objs.size a), I.laid (t' := s.toks) (fun b u e => Heap.get?_push_of_some _ e) (Nat.le_refl _) (L2.DX.itemsO_ok (Heap.get?_push_size _ rfl)), rfl, q _ hf⟩
/-! ### the order of pairs of a text and an int -/
abbrev TI := Addr × Str × Int
def encTI (b : TI) : PyData := .tuple [.str b.2.1, .int b.2.2]
abbrev txLt (x y : Str) : Prop := x.cps.toList < y.cps.toList
theorem eqv_strs (x y : Str) : PyData.eqv (.str x) (.str y) = true ↔ x = y := by
  simp [PyData.eqv]
theorem le_TI (a b : TI) : PySem.W.dataLe false encTI a b = !(decide (txLt b.2.1 a.2.1) || (decide (a.2.1 = b.2.1) && decide (b.2.2 < a.2.2))) := by
  show (!PySem.W.dataLt (encTI b) (encTI a)) = _
  unfold encTI
  rw [PySem.W.dataLt_pair (by simp [PySem.W.alike]) (by simp [PySem.W.alike]), PySem.W.dataLt_str, PySem.W.dataLt_int]
  by_cases h : b.2.1 = a.2.1
  · rw [if_pos ((eqv_strs _ _).mpr h)]
    have h1 : ¬ txLt b.2.1 a.2.1 := by rw [h]; exact List.lt_irrefl _
    have h2 : a.2.1 = b.2.1 := h.symm
    rw [decide_eq_false h1, decide_eq_true h2]
    simp only [PyData.eqv, beq_iff_eq, Bool.false_or, Bool.true_and]
    by_cases e : b.2.2 = a.2.2
    · rw [if_pos e, decide_eq_false (by omega)]
    · rw [if_neg e]
  · rw [if_neg (fun z => h ((eqv_strs _ _).mp z))]
    have h2 : ¬ a.2.1 = b.2.1 := fun e => h e.symm
    rw [decide_eq_false h2, Bool.false_and, Bool.or_false]
theorem tx_tri {x y : Str} (h : ¬ txLt x y) : txLt y x ∨ x = y := by
  by_cases h2 : txLt y x
  · exact .inl h2
  · exact .inr (PySem.W.str_of_cps (List.le_antisymm (List.not_lt.mp h2) (List.not_lt.mp h)))
theorem le_TI_iff (a b : TI) : PySem.W.dataLe false encTI a b = true ↔ (txLt a.2.1 b.2.1 ∨ (a.2.1 = b.2.1 ∧ a.2.2 ≤ b.2.2)) := by
  rw [le_TI]
  simp only [Bool.not_eq_true', Bool.or_eq_false_iff, decide_eq_false_iff_not, Bool.and_eq_false_iff]
  constructor
  · rintro ⟨h1, h2⟩
    rcases tx_tri h1 with h | h
    · exact .inl h
    · right
      refine ⟨h.symm, ?_⟩
      rcases h2 with h2 | h2
      · exact absurd h.symm h2
      · omega
  · rintro (h | ⟨h1, h2⟩)
    · refine ⟨List.lt_asymm h, .inl fun e => ?_⟩
      rw [e] at h
      exact List.lt_irrefl _ h
    · refine ⟨?_, .inr (by omega)⟩
      rw [h1]
      exact List.lt_irrefl _
theorem totTI : PySem.W.TotalLe (PySem.W.dataLe false encTI) where
  trans a b c h1 h2 := by
    rw [le_TI_iff] at *
    rcases h1 with h1 | ⟨h1, g1⟩
    · rcases h2 with h2 | ⟨h2, g2⟩
      · exact .inl (List.lt_trans h1 h2)
      · exact .inl (h2 ▸ h1)
    · rcases h2 with h2 | ⟨h2, g2⟩
      · exact .inl (h1 ▸ h2)
      · exact .inr ⟨h1.trans h2, by omega⟩
  total a b := by
    rw [le_TI_iff, le_TI_iff]
    by_cases h : txLt a.2.1 b.2.1
    · exact .inl (.inl h)
    · rcases tx_tri h with h | h
      · exact .inr (.inl h)
      · by_cases g : a.2.2 ≤ b.2.2
        · exact .inl (.inr ⟨h, g⟩)
        · exact .inr (.inr ⟨h.symm, by omega⟩)
theorem sorted_TI {bs : List TI} (nd : (bs.map (·.2.1)).Nodup) : (bs.mergeSort (PySem.W.dataLe false encTI)).Pairwise (fun x y => txLt x.2.1 y.2.1) := by
  have h := PySem.W.sort_pairwise totTI bs
  have hp := List.mergeSort_perm bs (PySem.W.dataLe false encTI)
  have nd2 : ((bs.mergeSort (PySem.W.dataLe false encTI)).map (·.2.1)).Nodup := ((hp.map (·.2.1)).nodup_iff).mpr nd
  unfold List.Nodup at nd2
  rw [List.pairwise_map] at nd2
  refine (h.and nd2).imp fun {x y} ⟨h1, h2⟩ => ?_
  rcases (le_TI_iff _ _).mp h1 with h | ⟨h, _⟩
  · exact h
  · exact absurd h h2
/-! ### the tuples laid -/
def kvTI (qs : List (Str × Int)) : List (Key × V) := qs.map fun q => ((Sum.inr q.1 : Key), V.int q.2)
theorem tups_laid {X : Cx} {pins : List (Addr × Obj)} {σ : L2.St} {H : Hp} {s : Shared} {h' : Heap} {tk : Nat} {kvs : List (Key × V)} {vs : List (Key × Value)} {as : List Addr} (I : Inv X pins σ H s) (kv : KV kvs vs)
    (hk : ∀ b o, s.heap.get? b = some o → h'.get? b = some o) (hl : as.length = vs.length) (hG : PySem.W.KdxG (mixKind X.prog X.w) vs s.heap.objs.size h' as) :
    (∀ t ∈ as, H t = none) ∧ (∀ b o, H b = some o → LiI.putT H as kvs b = some o) ∧ Paired (fun (t : Addr) (q : Key × V) => LiI.putT H as kvs t = some (.tup [kV q.1, q.2])) as kvs ∧ Inv X pins σ (LiI.putT H as kvs) { s with heap := h', toks := tk } := by
  have lk : kvs.length = vs.length := Paired.length kv
  have nd : as.Nodup := List.Pairwise.imp (fun {a b} (h : a < b) => Nat.ne_of_lt h) hG.rise
  have new : ∀ t ∈ as, H t = none := fun t ht => I.hok.fresh (Nat.le_of_lt (hG.above t ht))
  have atP := LiI.putT_at as kvs H (by omega) nd
  have off : ∀ b, b ∉ as → LiI.putT H as kvs b = H b := fun b h1 => LiI.putT_off as kvs _ h1
  have kp : ∀ b u, H b = some u → (LiI.putT H as kvs) b = some u := fun b u e => by
    rw [off b (fun z => by rw [new b z] at e; cases e)]
    exact e
  refine ⟨new, kp, atP, ?_⟩
  refine I.call' (ch := []) rfl ⟨fun b o q _ _ _ => hk b o q, fun b o q _ _ _ => ⟨o.slots, hk b o q⟩, fun b o q n _ => ?_, fun b o q _ => ⟨o, hk b o q⟩, fun b xs q => kp b _ q, fun b o u q => kp b _ q, fun b ps q => ⟨#[], by rw [kp b _ q]; simp⟩⟩ (fun b u q => ?_) I.bare fun b z => by simp at z
  · rw [off b fun z => absurd (Heap.lt_size q) (Nat.not_lt.mpr (Nat.le_of_lt (hG.above b z)))]
    exact n
  · by_cases hb : b ∈ as
    · obtain ⟨j, pk, e1, e2, e3⟩ := LiI.paired_ix atP hb
      rw [e3] at q
      cases q
      obtain ⟨key, k, x, f1, f2, f3⟩ := hG.pairs j b e1
      obtain ⟨qv, g1, g2, g3⟩ := LiI.paired_get kv e2
      rw [f1] at g1
      cases g1
      have rk : RelV (kV pk.1) key := by
        rw [g2]
        exact relV_key (show keyIs k key = true from f2)
      exact ⟨by show 2 ≤ sizeLine; decide, [key, x], .cons rk (.cons g3 .nil), ⟨_, f3, rfl, _, rfl⟩⟩
    · rw [off b hb] at q
      exact (I.hok b u q).stay (fun d v _ y => hk d v y) (fun d y => kp d _ y) fun d xs y => kp d _ y
def rSortI (vs : List V) (H : Hp) (Q : VK) : Prop := ∃ (a d : Addr) (qs : List (Str × Int)), vs = [.ref a] ∧ H a = some (L2.DX.itemsO a d) ∧ H d = some (.dK (kvTI qs)) ∧ (qs.map (·.1)).Nodup ∧
  ∀ (H' : Hp) (p : Addr) (ts : List TI), (∀ b o, H b = some o → H' b = some o) → H p = none → H' p = some (.lst (ts.map fun t => .ref t.1)) → (∀ t ∈ ts, H' t.1 = some (.tup [.str t.2.1, .int t.2.2])) → (ts.map (·.2)).Perm qs → ts.Pairwise (fun x y => txLt x.2.1 y.2.1) → Q (.ref p) H'
theorem each_refs {out : List Value} {bs : List TI} (h : PySem.W.EachIs (fun v (b : TI) => v = Value.ref b.1) out bs) : out = bs.map fun b => Value.ref b.1 := by
  induction h with
  | nil => rfl
  | cons h1 _ ih => rw [h1, ih]; rfl
theorem zip_map2 {as : List Addr} {qs : List (Str × Int)} (h : as.length = qs.length) : (as.zip qs).map (·.2) = qs := List.map_snd_zip (by omega)
theorem c_sortI {X : Cx} (hcalm : X.calm = true) (hu : X.A.units + 64 < cLine) : CallR X (.builtin "sorted") rSortI := by
  intro pins s σ H xs us Q I r ⟨a, d, qs, ex, hv, hd, nd, q⟩
  subst ex
  obtain ⟨u, eu, rx⟩ := vals1 r
  subst eu
  cases rx
  obtain ⟨z, lo, vs, rel, dd⟩ := dk_of I.hok hd
  obtain ⟨ep, hat⟩ := dd.dictAt
  obtain ⟨hview, _, _⟩ : ObjOk X.prog X.w H s.heap a (L2.DX.itemsO a d) := I.hok a _ hv
  have lk : (kvTI qs).length = vs.length := Paired.length rel
  have lq : (kvTI qs).length = qs.length := List.length_map ..
  refine Calls.call_function_entry kind_sorted plain_sorted entry_sorted (args_sorted1 _) ?_
  unfold Builtin.«sorted»
  refine wpAny_bind (m := checkCount "sorted" 1 1 _) (wpAny_pure ?_)
  refine wpAny_bind (PySem.W.kdx_collect (A := X.A.in1) (knd := mixKind X.prog X.w) (kvs := vs) (ep := ep) (I.ok.hd hcalm) hview hat (by omega) fun h' tk as hk hl hG => ?_)
  obtain ⟨new, kp, atP, I1⟩ := tups_laid (tk := tk) I rel hk hl hG
  have hz : (as.map Value.ref).length ≤ sizeLine := by rw [List.length_map]; omega
  refine wpAny_bind (wpAny_newList ?_ hz)
  have hoL : (h'.push (seqObj "list" (as.map Value.ref).toArray 0)).get? h'.objs.size = some (seqObj "list" (as.map Value.ref).toArray 0) := Heap.get?_push_size _ rfl
  have hlz : as.length = qs.length := by omega
  have e0 : (as.zip qs).map (fun b : TI => Value.ref b.1) = as.map Value.ref := by
    rw [← List.map_fst_zip (l₁ := as) (l₂ := qs) (by omega), List.map_map]
    rw [List.map_fst_zip (by omega)]
    rfl
  have eR : PySem.W.EachIs (fun v (b : TI) => v = Value.ref b.1) (as.map Value.ref) (as.zip qs) := by
    rw [← e0]
    generalize (as.zip qs : List TI) = l
    induction l with
    | nil => exact .nil
    | cons b l ih => exact .cons rfl ih
  have rd : ∀ b ∈ (as.zip qs : List TI), ∃ ws, Reads (h'.push (seqObj "list" (as.map Value.ref).toArray 0)) (.ref b.1) (encTI b) ws ∧ h'.objs.size ∉ ws := by
    intro b hb
    obtain ⟨j, hj⟩ := List.mem_iff_getElem?.mp hb
    obtain ⟨j1, j2⟩ := List.getElem?_zip_eq_some.mp hj
    obtain ⟨key, k, x, f1, f2, f3⟩ := hG.pairs j b.1 j1
    obtain ⟨qv, g1, g2, g3⟩ := LiI.paired_get rel (i := j) (x := ((Sum.inr b.2.1 : Key), V.int b.2.2)) (by unfold kvTI; rw [List.getElem?_map, j2]; rfl)
    rw [f1] at g1
    cases g1
    obtain ⟨t2, rfl⟩ := g3
    rcases keyIs_shape (show keyIs k key = true from f2) with ⟨i, t, ek, ev⟩ | ⟨y, t, ek, ev⟩
    · rw [ek] at g2
      cases g2
    · rw [ek] at g2
      cases g2
      rw [ev] at f3
      exact ⟨_, .tuple (Heap.get?_push_of_some _ f3) rfl rfl (.cons (.str _ _) (.cons (.int _ _) .nil)), by simp⟩
  have er : PySem.W.EachIs (fun v (b : TI) => ∃ ws, Reads (h'.push (seqObj "list" (as.map Value.ref).toArray 0)) v (encTI b) ws ∧ h'.objs.size ∉ ws) (as.map Value.ref) (as.zip qs) :=
    (PySem.W.each_mem eR).mono fun v b ⟨h1, h2⟩ => by
      rw [h1]
      exact rd b h2
  have hal : PySem.W.AllAlike ((as.zip qs : List TI).map encTI) := PySem.W.AllAlike.of fun b b' => by simp [encTI, PySem.W.alike, PySem.W.alikeAll]
  have hso : PySem.W.Sortable ((as.zip qs : List TI).map encTI) := PySem.W.Sortable.tuples fun b => ⟨_, _, rfl⟩
  have lz : (as.zip qs : List TI).length = qs.length := by rw [List.length_zip]; omega
  show wpAny _ _ _ _ _ { s with heap := h'.push (seqObj "list" (as.map Value.ref).toArray 0), toks := tk }
  refine wpAny_bind (wpAny_holding (PySem.W.list_sort_data (s := { s with heap := h'.push (seqObj "list" (as.map Value.ref).toArray 0), toks := tk }) (R := fun v (b : TI) => v = Value.ref b.1) (enc := encTI) (bs := as.zip qs) hoL eR er hal hso (by rw [lz]; omega) (fun b _ => ?_) fun out ho eo => ?_))
  · have : (encTI b).depth ≤ 8 := by
      show PyData.depthAll [.str b.2.1, .int b.2.2] + 1 ≤ 8
      simp only [PyData.depthAll, PyData.depth]
      decide
    show X.A.in1.units + 1 + (encTI b).depth < cLine
    have e : X.A.in1.units = X.A.units + 1 := rfl
    omega
  · have eo' := each_refs eo
    subst eo'
    generalize hts : (as.zip qs : List TI).mergeSort (PySem.W.dataLe false encTI) = ts
    have hp : ts.Perm (as.zip qs) := by rw [← hts]; exact List.mergeSort_perm _ _
    have hsrt : ts.Pairwise (fun x y => txLt x.2.1 y.2.1) := by
      rw [← hts]
      refine sorted_TI ?_
      have : (as.zip qs : List TI).map (·.2.1) = qs.map (·.1) := by
        have e : (as.zip qs : List TI).map (·.2.1) = ((as.zip qs : List TI).map (·.2)).map (·.1) := by rw [List.map_map]; rfl
        rw [e, zip_map2 hlz]
      rw [this]
      exact nd
    obtain ⟨e', he'⟩ := sortedHeap_at (vs := as.map Value.ref) (out := (ts.map fun b => Value.ref b.1).toArray) hoL
    have lts : ts.length = qs.length := by rw [hp.length_eq, lz]
    have hf1 : LiI.putT H as (kvTI qs) h'.objs.size = none := I1.hok.fresh (Nat.le_refl _)
    have hf0 : H h'.objs.size = none := by
      cases e : H h'.objs.size with
      | none => rfl
      | some o => rw [kp _ _ e] at hf1; cases hf1
    have vts : Vals ((ts.map fun t => V.ref t.1) : List V) (ts.map fun b => Value.ref b.1) := by
      generalize ts = l
      induction l with
      | nil => exact .nil
      | cons b l ih => exact .cons rfl ih
    have hlen : ((ts.map fun t => V.ref t.1) : List V).length ≤ sizeLine := by rw [List.length_map]; omega
    refine wpAny_pure ⟨_, rfl, .ref h'.objs.size, upd (LiI.putT H as (kvTI qs)) h'.objs.size (.lst (ts.map fun t => V.ref t.1)), I1.laid (t' := tk) (fun b u e => ?_) (Nat.le_refl _) (show ObjOk X.prog X.w _ _ _ (.lst (ts.map fun t => V.ref t.1)) from ⟨hlen, _, e', vts, he'⟩), rfl, q _ _ ts (fun b o e => ?_) hf0 upd_same (fun t ht => ?_) ?_ hsrt⟩
    · have hb : b < h'.objs.size := Heap.lt_size e
      rw [sortedHeap_old (Nat.ne_of_lt hb) (by rw [size_push']; exact Nat.lt_succ_of_lt hb)]
      exact Heap.get?_push_of_some _ e
    · rw [upd_ne (fun z => by rw [z, hf0] at e; cases e)]
      exact kp b o e
    · have hm := hp.mem_iff.mp ht
      obtain ⟨j, hj⟩ := List.mem_iff_getElem?.mp hm
      obtain ⟨j1, j2⟩ := List.getElem?_zip_eq_some.mp hj
      obtain ⟨y, y1, y2⟩ := LiI.paired_get atP j1
      unfold kvTI at y1
      rw [List.getElem?_map, j2] at y1
      have y3 := Option.some.inj y1
      subst y3
      rw [upd_ne (fun z => by rw [z, hf1] at y2; cases y2)]
      exact y2
    · have := hp.map (·.2)
      rwa [zip_map2 hlz] at this
theorem w_sortI {H : Hp} {Q : VK} {a d : Addr} {qs : List (Str × Int)} (hv : H a = some (L2.DX.itemsO a d)) (hd : H d = some (.dK (kvTI qs))) (nd : (qs.map (·.1)).Nodup)
    (h : ∀ (H' : Hp) (p : Addr) (ts : List TI), Same H H' → H p = none → H' p = some (.lst (ts.map fun t => .ref t.1)) → (∀ t ∈ ts, H' t.1 = some (.tup [.str t.2.1, .int t.2.2])) → (ts.map (·.2)).Perm qs → ts.Pairwise (fun x y => txLt x.2.1 y.2.1) → Q (.ref p) H') : rSortI [.ref a] H Q := ⟨a, d, qs, rfl, hv, hd, nd, h⟩
theorem w_itemsK {H : Hp} {Q : VK} {a : Addr} {kvs : List (Key × V)} (ha : H a = some (.dK kvs)) (h : ∀ p H1, H p = none → H1 p = some (L2.DX.itemsO p a) → Same H H1 → Q (.ref p) H1) : rItemsK (.ref a) [] H Q := ⟨a, kvs, rfl, rfl, ha, fun p hp => h p _ hp upd_same (Same.new hp)⟩
end FW

set_option Elab.async false
set_option linter.all false
set_option maxRecDepth 100000
set_option maxHeartbeats 4000000
/-! a def of an own class called through the class: C.m(x, ..) -/
namespace FW
open PySem PySem.Spec PyProof.Rows L2
/-- a class's reading, with the names of fields, whatever its name -/
structure Kf (K : PySem.W.Frag) (C : Addr) (as : List Str) : Prop where
  cl : Cls K C
  na : ∀ f ∈ as, NoAttr K C f
theorem Kl.kf {K : PySem.W.Frag} {mg : Str → Option Value} {x : Str} {C : Addr} {as : List Str} (k : Kl K mg x C as) : Kf K C as := ⟨k.cl, k.na⟩
def tClsF (C : Addr) (sp : Sp) (dvs : List V) (E : XK) (ta : TE) (t : TA) : TE := fun σ H Q => ta σ H fun x H1 => x = .ref C ∧ t σ H1 fun vs H2 => sp (vs ++ dvs) H2 Q E
theorem pe_clsF {X : Cx} {CX : CXT} {k : Nat} {C f : Addr} {fd : FuncData} {ps : List Str} {mc : Value} {sp : Sp} {E : XK} {o e : Expr} {es : List Expr} {m : Str} {pos apos : Pos} {ta : TE} {t : TA} {pl : Sem Bool} {ds : List Value} {dvs : List V}
    (he : PE X o ta) (r : ClX.CRead X.K C mc) (c : ClX.CVal X.K C mc m (.ref f) (.ref f)) (hk : PySem.W.keepIn X.K (.ref f) = true) (F : FnOk X.prog X.w X.K X.mg X.base CX k f fd ps sp) (hr : Room k X.A) (hb : Binds X.K fd ps ds) (hd : Vals dvs ds) (hx : Passes CX X E) (ha : PA X (e :: es) t)
    (hst : starEach (e :: es) X.env = (false, eval e X.env) :: starEach es X.env := by rfl) (hpl : (backTo pos (starEach es X.env)).any (·.1) = false := by rfl)
    (ht : eval (.Call (.Attribute o m apos) (e :: es) [] pos) X.env = (do
      let ov ← eval o X.env
      standAt apos.atName
      let (f, first) ← holding [ov] (getMethod ov m pl)
      callWith pos f first (backTo pos (starEach (e :: es) X.env)) (backToKw pos (keywordEach [] X.env))) := by rfl) :
    PE X (.Call (.Attribute o m apos) (e :: es) [] pos) (tClsF C sp dvs E ta t) := by
  refine ⟨fun pins s σ H Q I h => ?_⟩
  refine PySem.W.methodCall_KW (pl := pl) (thn (he.run pins s σ H _ I h) fun u s1 ⟨x, H1, I1, rx, ex, q⟩ => ?_) ht
  subst ex
  obtain rfl : u = Value.ref C := rx
  refine PySem.W.method_cls I1.kIn r.ga (ClX.getcval_ok I1 r c fun s2 I2 => ?_)
  refine PySem.W.callWith_K (h₀ := X.base) I2.ok.mod.kin hk (thn (ha.run pos pins s2 σ H1 _ I2 q) fun us s3 ⟨vs, H2, I3, rv, q2⟩ => ⟨I3.kIn, ?_⟩) hst hpl
  exact run_fn F hr hb hd hx I3 rv q2
theorem w_clsF {σ : L2.St} {H : Hp} {Q : VK} {C : Addr} {sp : Sp} {E : XK} {t : TA} (h : t σ H fun vs H2 => sp (vs ++ []) H2 Q E) : tClsF C sp [] E (tC (.ref C)) t σ H Q := ⟨rfl, h⟩
end FW

set_option Elab.async false
set_option linter.all false
set_option maxRecDepth 100000
set_option maxHeartbeats 4000000
/-! len and str by an own class's defs; != of one object with itself -/
namespace FW
open PySem PySem.Spec PyProof.Rows L2
section
variable {X : Cx} {CX : CXT} {k : Nat} {f C : Addr} {fd : FuncData} {ps : List Str} {sp : Sp} {E : XK}
/-- the callee runs, called by a builtin -/
theorem run_fnB {A : Around} {pins : List (Addr × Obj)} {σ : L2.St} {H : Hp} {s : Shared} {Q : VK} {us : List Value} {vs : List V} (F : FnOk X.prog X.w X.K X.mg X.base CX k f fd ps sp) (hr : Room k A) (he : Env0 X.prog X.w X.K X.mg X.base A X.stack s H) (hb : Binds X.K fd ps []) (hx : Passes CX X E)
    (I : Inv X pins σ H s) (r : Vals vs us) (h : sp vs H Q E) : wpAny (model X.prog X.w) A (call (.ref f) us) (EP X pins σ Q) X.xe s := by
  have len2 : (us ++ []).length = ps.length := by
    rw [List.append_nil, ← r.length]
    exact F.len _ _ _ _ h
  have bd := hb s us I.kIn len2
  rw [List.append_nil] at bd
  refine wpAny_call (codeAny_mono (F.run A X.stack s H ⟨us, []⟩ us vs Q E hr he bd r h) fun o t ho => ?_)
  match o, ho with
  | .error e, ho => exact hx pins σ H s e t I ho
  | .ok (.ret u), ho => exact I.after ho
  | .ok .next, ho => exact False.elim ho
  | .ok .brk, ho => exact False.elim ho
  | .ok .cont, ho => exact False.elim ho
def rLenO (C : Addr) (sp : Sp) (E : XK) (xs : List V) (H : Hp) (Q : VK) : Prop := ∃ a dx fs, xs = [.ref a] ∧ H a = some (.ins C dx fs) ∧ sp [.ref a] H (fun v H2 => ∃ n : Nat, v = .int (n : Int) ∧ n ≤ 1000000 ∧ Q (.int (n : Int)) H2) E
theorem c_lenO (hm : Meth X.K C "__len__" f) (F : FnOk X.prog X.w X.K X.mg X.base CX k f fd ps sp) (hr : Room (k + 1) X.A) (hb : Binds X.K fd ps []) (hx : Passes CX X E) : CallR X (.builtin "len") (rLenO C sp E) := by
  intro pins s σ H vs us Q I r h
  obtain ⟨a, dx, fs, rfl, ha, q⟩ := h
  have r0 := r
  rw [Vals.ref1 r] at r0 ⊢
  obtain ⟨mA, O, _, _, _, _⟩ := ins_get I.hok ha
  obtain ⟨od, J, _⟩ := O.look
  obtain ⟨m, fr⟩ := I.fr
  refine PySem.W.len_K fr I.ok.mod.kin J hm.at_ hm.fn (thn (run_fnB F hr.in1 I.env0.in1 hb hx I r0 q) fun v t ⟨x, H2, I2, rx, n, ex, hn, q2⟩ => ?_)
  subst ex
  obtain ⟨tk, rfl⟩ := (show ∃ tk, v = Value.int (n : Int) tk from rx)
  exact ⟨⟨by omega, by omega⟩, .int n, H2, I2.tok _, ⟨_, rfl⟩, q2⟩
def rStrO (C : Addr) (sp : Sp) (E : XK) (xs : List V) (H : Hp) (Q : VK) : Prop := ∃ a dx fs, xs = [.ref a] ∧ H a = some (.ins C dx fs) ∧ sp [.ref a] H (fun v H2 => ∃ z : Str, v = .str z ∧ Q (.str z) H2) E
theorem c_strO (hm : Meth X.K C "__str__" f) (F : FnOk X.prog X.w X.K X.mg X.base CX k f fd ps sp) (hr : Room (k + 2) X.A) (hu : X.A.in1.in1.units < cLine) (hb : Binds X.K fd ps []) (hx : Passes CX X E) : CallR X (.type "str") (rStrO C sp E) := by
  intro pins s σ H vs us Q I r h
  obtain ⟨a, dx, fs, rfl, ha, q⟩ := h
  have r0 := r
  rw [Vals.ref1 r] at r0 ⊢
  obtain ⟨mA, O, _, _, _, _⟩ := ins_get I.hok ha
  obtain ⟨od, J, _⟩ := O.look
  refine PySem.W.kso_call hu I.kIn J hm.at_ hm.fn (thn (run_fnB F hr.in1.in1 I.env0.in1.in1 hb hx I r0 q) fun v t ⟨x, H2, I2, rx, z, ex, q2⟩ => ?_)
  subst ex
  obtain ⟨tk, rfl⟩ := (show ∃ tk, v = Value.str z tk from rx)
  exact ⟨.str z, H2, I2, ⟨_, rfl⟩, q2⟩
end
theorem room_u2 {k : Nat} {A : Around} (r : Room k A) : A.in1.in1.units < cLine := by
  have := r.un
  show A.units + 1 + 1 < _
  omega
def rStrI (xs : List V) (H : Hp) (Q : VK) : Prop := ∃ i, xs = [V.int i] ∧ i.natAbs.log2 < 1920 ∧ Q (.str (toString i)) H
theorem w_strI {H : Hp} {Q : VK} {i : Int} (h1 : i.natAbs.log2 < 1920) (h : Q (.str (toString i)) H) : rStrI [.int i] H Q := ⟨i, rfl, h1, h⟩
theorem w_lenO {H : Hp} {Q : VK} {C : Addr} {sp : Sp} {E : XK} {a dx : Addr} {fs : List (Str × V)} (ha : H a = some (.ins C dx fs)) (h : sp [.ref a] H (fun v H2 => ∃ n : Nat, v = .int (n : Int) ∧ n ≤ 1000000 ∧ Q (.int (n : Int)) H2) E) : rLenO C sp E [.ref a] H Q := ⟨a, dx, fs, rfl, ha, h⟩
theorem w_strO {H : Hp} {Q : VK} {C : Addr} {sp : Sp} {E : XK} {a dx : Addr} {fs : List (Str × V)} (ha : H a = some (.ins C dx fs)) (h : sp [.ref a] H (fun v H2 => ∃ z : Str, v = .str z ∧ Q (.str z) H2) E) : rStrO C sp E [.ref a] H Q := ⟨a, dx, fs, rfl, ha, h⟩
/-! ### one object compared with itself -/
section
variable {M : Model} {prog : Program} {w : World} {A : Around} {E : Value → Shared → Prop} {s : Shared} {K : PySem.W.Frag} {x C : Addr} {ox : Obj} {od : Option Obj}
theorem ent_eqS {Q : Fin → Shared → Prop} (hq : Q (.done (.ret (.bool true))) s) : wpAny M A (Builtin.«object.__eq__» ⟨[.ref x, .ref x], []⟩) Q E s := objEq_entry_same hq
theorem call_eqS {Q : Value → Shared → Prop} (X : K.In s.heap) (I : PySem.W.InstAt s.heap x ox C od) (hm : PySem.W.mroIn K C (.type "object") = some true) (hq : Q (.bool true) s) :
    wpAny (model prog w) A (call (.builtin "object.__eq__") [.ref x, .ref x]) Q E s :=
  wpAny_call (codeAny_call_builtin F.cmp_object.eq.plain F.cmpEntry_eq (PySem.W.check_slot F.cmpKind_eq F.cmpSplit_eq (I.type.andThen (PySem.W.looks_mroIn X hm)) (F.cmpArgs_eq _ _) (ent_eqS hq)))
theorem ifB_ne {args : List Value} {Q : Option Value → Shared → Prop} (X : K.In s.heap) (I : PySem.W.InstAt s.heap x ox C od) (hs : PySem.W.findIn K (.ref C) "__ne__" = some (some (.builtin "object.__ne__")))
    (h : wpAny M A (call (.builtin "object.__ne__") (.ref x :: args)) (fun v => Q (some v)) E s) : wpAny M A (callSpecialIfBound? (.ref x) "__ne__" args) Q E s := by
  simp only [bindSpecialIfBound?, callSpecialIfBound?]
  have at1 := PySem.W.looks_findIn (M := M) X hs
  refine wpAny_holding (wpAny_bind (wpAny_bind (wpAny_bind (I.type.here (at1.here (wpAny_bind (wpAny_askSetting (wpAny_ite ?_))))))))
  have last : wpAny M A (call (.builtin "object.__ne__") ([.ref x] ++ args) >>= fun v => pure (some v)) Q E s := wpAny_bind (wpAny_mono h (fun v s' g => wpAny_pure g) fun _ _ g => g)
  split
  · exact wpAny_bind (wpAny_of_eq (F.cmp_object.ne.bind _) (wpAny_pure (by exact last)))
  · exact wpAny_tryCatch (wpAny_bind (wpAny_of_eq (F.cmp_object.ne.bind _) (wpAny_pure (by exact last))))
theorem ent_neS {Q : Fin → Shared → Prop} (hu : A.units < cLine) (X : K.In s.heap) (I : PySem.W.InstAt s.heap x ox C od) (hm : PySem.W.mroIn K C (.type "object") = some true) (hs : PySem.W.findIn K (.ref C) "__eq__" = some (some (.builtin "object.__eq__"))) (hq : Q (.done (.ret (.bool false))) s) :
    wpAny (model prog w) A (Builtin.«object.__ne__» ⟨[.ref x, .ref x], []⟩) Q E s := by
  unfold Builtin.«object.__ne__»
  refine wpAny_bind (m := slotArgs "__ne__" 1 _) (wpAny_pure ?_)
  refine wpAny_bind (wpAny_cRoomFor hu ?_)
  refine wpAny_bind (m := callSpecialIfBound? (.ref x) "__eq__" [.ref x]) (HN.ifBound_objEq X I hs (call_eqS X I hm ?_))
  show wpAny _ _ (truthy (.bool true) >>= fun b => ret (.bool (!b))) _ _ _
  exact wpAny_bind (wpAny_truthy_bool (wpAny_pure hq))
theorem rc_neS (hu : A.units + 1 < cLine) (X : K.In s.heap) (I : PySem.W.InstAt s.heap x ox C od) (hm : PySem.W.mroIn K C (.type "object") = some true) (hs : PySem.W.findIn K (.ref C) "__eq__" = some (some (.builtin "object.__eq__"))) (hn : PySem.W.findIn K (.ref C) "__ne__" = some (some (.builtin "object.__ne__")))
    {Q : Value → Shared → Prop} (hq : Q (.bool false) s) : wpAny (model prog w) A (richCompare .NotEq (.ref x) (.ref x)) Q E s := by
  have one : wpAny (model prog w) A (tryCompare (.ref x) "__ne__" (.ref x)) (fun r s' => r = some (.bool false) ∧ s' = s) E s := by
    unfold tryCompare
    refine wpAny_bind (ifB_ne X I hn ?_)
    refine wpAny_call (codeAny_call_builtin F.cmp_object.ne.plain F.cmpEntry_ne (PySem.W.check_slot F.cmpKind_ne F.cmpSplit_ne (I.type.andThen (PySem.W.looks_mroIn X hm)) (F.cmpArgs_ne _ _) (ent_neS (A := A.in1) (by first | exact hu | (simp; omega)) X I hm hs ?_)))
    exact wpAny_pure ⟨rfl, rfl⟩
  simp only [oneThing_ref, richCompare, cmpInfo_NotEq]
  refine wpAny_holding (wpAny_bind (wpAny_cRoomFor (by omega) (wpAny_bind (I.type.here (wpAny_bind (I.type.here ?_))))))
  rw [if_neg (by simp)]
  refine wpAny_bind (wpAny_pure ?_)
  simp only [Bool.false_eq_true, if_false]
  refine wpAny_bind (m := tryCompare (.ref x) _ (.ref x)) (wpAny_mono one (fun r s1 z => ?_) fun _ _ e => e)
  obtain ⟨z1, z2⟩ := z
  subst z1
  subst z2
  exact wpAny_pure hq
end
/-- an own class that compares by identity -/
structure EqI (K : PySem.W.Frag) (C : Addr) : Prop where
  mr : PySem.W.mroIn K C (.type "object") = some true
  eq : PySem.W.findIn K (.ref C) "__eq__" = some (some (.builtin "object.__eq__"))
  ne : PySem.W.findIn K (.ref C) "__ne__" = some (some (.builtin "object.__ne__"))
def rNeS (K : PySem.W.Frag) : R2 := fun x y H Q => ∃ a C dx fs, x = .ref a ∧ y = .ref a ∧ H a = some (.ins C dx fs) ∧ EqI K C ∧ Q (.bl false) H
theorem op_neS {X : Cx} (hu : X.A.units + 1 < cLine) : OpR X (compareOp .NotEq) (rNeS X.K) := by
  intro pins s σ H x y u v Q I rx ry h
  obtain ⟨a, C, dx, fs, rfl, rfl, ha, ei, q⟩ := h
  obtain rfl : u = Value.ref a := rx
  obtain rfl : v = Value.ref a := ry
  obtain ⟨mA, O, _, _, _, _⟩ := ins_get I.hok ha
  obtain ⟨od, J, _⟩ := O.look
  exact rc_neS hu I.kIn J ei.mr ei.eq ei.ne ⟨.bl false, H, I, rfl, q⟩
end FW

set_option Elab.async false
set_option linter.all false
set_option maxRecDepth 100000
set_option maxHeartbeats 4000000
namespace FW
open PySem L2
def top (i : Nat) : Stmt := PySem.Challenge.pw_fewasks_k44_prices.main.body.getD i (.Pass ⟨0, 0, 0, 0⟩)
abbrev s_is_int : Stmt := top 10
abbrev N_is_int : List Str := ["thing", "least"]
theorem sc_is_int : FnScope N_is_int ["thing", "least"] (defScope s_is_int) := ⟨rfl, rfl, rfl, by decide +kernel, rfl, by decide +kernel, by decide +kernel⟩
abbrev s_is_text : Stmt := top 11
abbrev N_is_text : List Str := ["thing", "most", "sign"]
theorem sc_is_text : FnScope N_is_text ["thing", "most"] (defScope s_is_text) := ⟨rfl, rfl, rfl, by decide +kernel, rfl, by decide +kernel, by decide +kernel⟩
abbrev s_is_label : Stmt := top 12
abbrev N_is_label : List Str := ["thing", "sign"]
theorem sc_is_label : FnScope N_is_label ["thing"] (defScope s_is_label) := ⟨rfl, rfl, rfl, by decide +kernel, rfl, by decide +kernel, by decide +kernel⟩
abbrev s_rise : Stmt := top 13
abbrev N_rise : List Str := ["row", "k"]
theorem sc_rise : FnScope N_rise ["row"] (defScope s_rise) := ⟨rfl, rfl, rfl, by decide +kernel, rfl, by decide +kernel, by decide +kernel⟩
abbrev s_are_ints : Stmt := top 14
abbrev N_are_ints : List Str := ["thing", "part"]
theorem sc_are_ints : FnScope N_are_ints ["thing"] (defScope s_are_ints) := ⟨rfl, rfl, rfl, by decide +kernel, rfl, by decide +kernel, by decide +kernel⟩
abbrev s_rising_ints : Stmt := top 15
abbrev N_rising_ints : List Str := ["thing"]
theorem sc_rising_ints : FnScope N_rising_ints ["thing"] (defScope s_rising_ints) := ⟨rfl, rfl, rfl, by decide +kernel, rfl, by decide +kernel, by decide +kernel⟩
abbrev s_is_pair : Stmt := top 16
abbrev N_is_pair : List Str := ["thing"]
theorem sc_is_pair : FnScope N_is_pair ["thing"] (defScope s_is_pair) := ⟨rfl, rfl, rfl, by decide +kernel, rfl, by decide +kernel, by decide +kernel⟩
abbrev s_are_rows : Stmt := top 17
abbrev N_are_rows : List Str := ["thing", "row"]
theorem sc_are_rows : FnScope N_are_rows ["thing"] (defScope s_are_rows) := ⟨rfl, rfl, rfl, by decide +kernel, rfl, by decide +kernel, by decide +kernel⟩
abbrev s_made_by : Stmt := top 22
abbrev N_made_by : List Str := ["thing", "row"]
theorem sc_made_by : FnScope N_made_by ["thing"] (defScope s_made_by) := ⟨rfl, rfl, rfl, by decide +kernel, rfl, by decide +kernel, by decide +kernel⟩
abbrev s_is_script : Stmt := top 23
abbrev N_is_script : List Str := ["thing", "many", "piece", "made"]
theorem sc_is_script : FnScope N_is_script ["thing"] (defScope s_is_script) := ⟨rfl, rfl, rfl, by decide +kernel, rfl, by decide +kernel, by decide +kernel⟩
abbrev s_price : Stmt := top 24
abbrev N_price : List Str := ["script", "take", "put", "cost", "piece"]
theorem sc_price : FnScope N_price ["script", "take", "put"] (defScope s_price) := ⟨rfl, rfl, rfl, by decide +kernel, rfl, by decide +kernel, by decide +kernel⟩
abbrev s_rows_in : Stmt := top 28
abbrev N_rows_in : List Str := ["book", "leaf"]
theorem sc_rows_in : FnScope N_rows_in ["book", "leaf"] (defScope s_rows_in) := ⟨rfl, rfl, rfl, by decide +kernel, rfl, by decide +kernel, by decide +kernel⟩
abbrev s_plain_price : Stmt := top 29
abbrev N_plain_price : List Str := ["book", "leaf"]
theorem sc_plain_price : FnScope N_plain_price ["book", "leaf"] (defScope s_plain_price) := ⟨rfl, rfl, rfl, by decide +kernel, rfl, by decide +kernel, by decide +kernel⟩
abbrev s_price_of : Stmt := top 30
abbrev N_price_of : List Str := ["book", "choice", "over", "cost", "leaf", "base", "script"]
theorem sc_price_of : FnScope N_price_of ["book", "choice", "over"] (defScope s_price_of) := ⟨rfl, rfl, rfl, by decide +kernel, rfl, by decide +kernel, by decide +kernel⟩
abbrev s_Book___init__ : Stmt := inClass (top 34) 0
abbrev N_Book___init__ : List Str := ["self"]
theorem sc_Book___init__ : FnScope N_Book___init__ ["self"] (defScope s_Book___init__) := ⟨rfl, rfl, rfl, by decide +kernel, rfl, by decide +kernel, by decide +kernel⟩
abbrev s_Book_named : Stmt := inClass (top 34) 2
abbrev N_Book_named : List Str := ["self", "content"]
theorem sc_Book_named : FnScope N_Book_named ["self", "content"] (defScope s_Book_named) := ⟨rfl, rfl, rfl, by decide +kernel, rfl, by decide +kernel, by decide +kernel⟩
abbrev s_Book_thing : Stmt := inClass (top 34) 4
abbrev N_Book_thing : List Str := ["self", "name"]
theorem sc_Book_thing : FnScope N_Book_thing ["self", "name"] (defScope s_Book_thing) := ⟨rfl, rfl, rfl, by decide +kernel, rfl, by decide +kernel, by decide +kernel⟩
abbrev s_Book_kind : Stmt := inClass (top 34) 5
abbrev N_Book_kind : List Str := ["self", "name"]
theorem sc_Book_kind : FnScope N_Book_kind ["self", "name"] (defScope s_Book_kind) := ⟨rfl, rfl, rfl, by decide +kernel, rfl, by decide +kernel, by decide +kernel⟩
abbrev s_is_name : Stmt := top 35
abbrev N_is_name : List Str := ["book", "thing"]
theorem sc_is_name : FnScope N_is_name ["book", "thing"] (defScope s_is_name) := ⟨rfl, rfl, rfl, by decide +kernel, rfl, by decide +kernel, by decide +kernel⟩
abbrev s_is_kind : Stmt := top 36
abbrev N_is_kind : List Str := ["book", "thing", "kind"]
theorem sc_is_kind : FnScope N_is_kind ["book", "thing", "kind"] (defScope s_is_kind) := ⟨rfl, rfl, rfl, by decide +kernel, rfl, by decide +kernel, by decide +kernel⟩
abbrev s_is_entry : Stmt := top 37
abbrev N_is_entry : List Str := ["book", "thing"]
theorem sc_is_entry : FnScope N_is_entry ["book", "thing"] (defScope s_is_entry) := ⟨rfl, rfl, rfl, by decide +kernel, rfl, by decide +kernel, by decide +kernel⟩
abbrev s_is_tree : Stmt := top 38
abbrev N_is_tree : List Str := ["book", "entries", "entry"]
theorem sc_is_tree : FnScope N_is_tree ["book", "entries"] (defScope s_is_tree) := ⟨rfl, rfl, rfl, by decide +kernel, rfl, by decide +kernel, by decide +kernel⟩
abbrev s_depth_of : Stmt := top 39
abbrev N_depth_of : List Str := ["book", "content", "label", "name"]
theorem sc_depth_of : FnScope N_depth_of ["book", "content"] (defScope s_depth_of) := ⟨rfl, rfl, rfl, by decide +kernel, rfl, by decide +kernel, by decide +kernel⟩
abbrev s_is_version : Stmt := top 40
abbrev N_is_version : List Str := ["book", "content", "parents", "parent"]
theorem sc_is_version : FnScope N_is_version ["book", "content"] (defScope s_is_version) := ⟨rfl, rfl, rfl, by decide +kernel, rfl, by decide +kernel, by decide +kernel⟩
abbrev s_is_content : Stmt := top 41
abbrev N_is_content : List Str := ["book", "thing"]
theorem sc_is_content : FnScope N_is_content ["book", "thing"] (defScope s_is_content) := ⟨rfl, rfl, rfl, by decide +kernel, rfl, by decide +kernel, by decide +kernel⟩
abbrev s_row_price : Stmt := top 43
abbrev N_row_price : List Str := ["book", "row", "content"]
theorem sc_row_price : FnScope N_row_price ["book", "row"] (defScope s_row_price) := ⟨rfl, rfl, rfl, by decide +kernel, rfl, by decide +kernel, by decide +kernel⟩
abbrev s_law_deck : Stmt := top 45
abbrev N_law_deck : List Str := ["_law_script"]
theorem sc_law_deck : FnScope N_law_deck ["_law_script"] (defScope s_law_deck) := ⟨rfl, rfl, rfl, by decide +kernel, rfl, by decide +kernel, by decide +kernel⟩
abbrev s_law_mixed : Stmt := top 46
abbrev N_law_mixed : List Str := ["_law_cell", "_law_turn"]
theorem sc_law_mixed : FnScope N_law_mixed ["_law_cell", "_law_turn"] (defScope s_law_mixed) := ⟨rfl, rfl, rfl, by decide +kernel, rfl, by decide +kernel, by decide +kernel⟩
abbrev s_law_draw : Stmt := top 47
abbrev N_law_draw : List Str := ["_law_deck_here", "_law_many", "_law_cells", "_law_found", "_law_number"]
theorem sc_law_draw : FnScope N_law_draw ["_law_deck_here", "_law_many"] (defScope s_law_draw) := ⟨rfl, rfl, rfl, by decide +kernel, rfl, by decide +kernel, by decide +kernel⟩
abbrev s_law_text : Stmt := top 48
abbrev N_law_text : List Str := ["_law_deck_here", "_law_size", "_law_signs", "_law_k"]
theorem sc_law_text : FnScope N_law_text ["_law_deck_here", "_law_size"] (defScope s_law_text) := ⟨rfl, rfl, rfl, by decide +kernel, rfl, by decide +kernel, by decide +kernel⟩
abbrev s_law_label : Stmt := top 49
abbrev N_law_label : List Str := ["_law_deck_here", "_law_letters", "_law_k"]
theorem sc_law_label : FnScope N_law_label ["_law_deck_here"] (defScope s_law_label) := ⟨rfl, rfl, rfl, by decide +kernel, rfl, by decide +kernel, by decide +kernel⟩
abbrev s_law_give : Stmt := top 50
abbrev N_law_give : List Str := ["_law_things", "_law_content"]
theorem sc_law_give : FnScope N_law_give ["_law_things", "_law_content"] (defScope s_law_give) := ⟨rfl, rfl, rfl, by decide +kernel, rfl, by decide +kernel, by decide +kernel⟩
abbrev s_law_rows : Stmt := top 51
abbrev N_law_rows : List Str := ["_law_deck_here", "_law_elder", "_law_rows_here", "_law_k"]
theorem sc_law_rows : FnScope N_law_rows ["_law_deck_here", "_law_elder"] (defScope s_law_rows) := ⟨rfl, rfl, rfl, by decide +kernel, rfl, by decide +kernel, by decide +kernel⟩
abbrev s_law_entries : Stmt := top 52
abbrev N_law_entries : List Str := ["_law_deck_here", "_law_lows", "_law_entries_here", "_law_k"]
theorem sc_law_entries : FnScope N_law_entries ["_law_deck_here", "_law_lows"] (defScope s_law_entries) := ⟨rfl, rfl, rfl, by decide +kernel, rfl, by decide +kernel, by decide +kernel⟩
abbrev s_law_book : Stmt := top 53
abbrev N_law_book : List Str := ["_law_things", "_law_book_here", "_law_content"]
theorem sc_law_book : FnScope N_law_book ["_law_things"] (defScope s_law_book) := ⟨rfl, rfl, rfl, by decide +kernel, rfl, by decide +kernel, by decide +kernel⟩
abbrev s_law_int : Stmt := top 54
abbrev N_law_int : List Str := ["_law_thing"]
theorem sc_law_int : FnScope N_law_int ["_law_thing"] (defScope s_law_int) := ⟨rfl, rfl, rfl, by decide +kernel, rfl, by decide +kernel, by decide +kernel⟩
abbrev s_law_same : Stmt := top 55
abbrev N_law_same : List Str := ["_law_found", "_law_due", "_law_k"]
theorem sc_law_same : FnScope N_law_same ["_law_found", "_law_due"] (defScope s_law_same) := ⟨rfl, rfl, rfl, by decide +kernel, rfl, by decide +kernel, by decide +kernel⟩
abbrev s_law_script_price : Stmt := top 56
abbrev N_law_script_price : List Str := ["_law_script", "_law_cost", "_law_piece"]
theorem sc_law_script_price : FnScope N_law_script_price ["_law_script"] (defScope s_law_script_price) := ⟨rfl, rfl, rfl, by decide +kernel, rfl, by decide +kernel, by decide +kernel⟩
abbrev s_law_leaves : Stmt := top 57
abbrev N_law_leaves : List Str := ["_law_deck_here", "_law_most", "_law_things", "_law_rows_here", "_law_k"]
theorem sc_law_leaves : FnScope N_law_leaves ["_law_deck_here", "_law_most"] (defScope s_law_leaves) := ⟨rfl, rfl, rfl, by decide +kernel, rfl, by decide +kernel, by decide +kernel⟩
abbrev s_law_choice_price : Stmt := top 58
abbrev N_law_choice_price : List Str := ["_law_things", "_law_choice", "_law_extra", "_law_cost", "_law_row"]
theorem sc_law_choice_price : FnScope N_law_choice_price ["_law_things", "_law_choice", "_law_extra"] (defScope s_law_choice_price) := ⟨rfl, rfl, rfl, by decide +kernel, rfl, by decide +kernel, by decide +kernel⟩
abbrev s_law_parted : Stmt := top 59
abbrev N_law_parted : List Str := ["_law_deck_here", "_law_things", "_law_leaves_here", "_law_bases", "_law_name", "_law_side"]
theorem sc_law_parted : FnScope N_law_parted ["_law_deck_here", "_law_things"] (defScope s_law_parted) := ⟨rfl, rfl, rfl, by decide +kernel, rfl, by decide +kernel, by decide +kernel⟩
abbrev s_law_own_script : Stmt := top 60
abbrev N_law_own_script : List Str := ["_law_deck_here", "_law_base", "_law_rows_here", "_law_script", "_law_k", "_law_many", "_law_found", "_law_at"]
theorem sc_law_own_script : FnScope N_law_own_script ["_law_deck_here", "_law_base", "_law_rows_here"] (defScope s_law_own_script) := ⟨rfl, rfl, rfl, by decide +kernel, rfl, by decide +kernel, by decide +kernel⟩
abbrev s_law_own_choice : Stmt := top 61
abbrev N_law_own_choice : List Str := ["_law_deck_here", "_law_things", "_law_leaves_here", "_law_bases", "_law_choice", "_law_k", "_law_some", "_law_base", "_law_script"]
theorem sc_law_own_choice : FnScope N_law_own_choice ["_law_deck_here", "_law_things", "_law_leaves_here", "_law_bases"] (defScope s_law_own_choice) := ⟨rfl, rfl, rfl, by decide +kernel, rfl, by decide +kernel, by decide +kernel⟩
abbrev s_law : Stmt := top 62
abbrev N_law : List Str := ["_law_script", "_law_deck_here", "_law_extra", "_law_things", "_law_parted_here", "_law_choice", "_law_tree", "_law_root", "_law_names", "_law_name", "_law_last", "_law_book_here", "_law_row", "_law_told", "_law_due", "_law_k"]
theorem sc_law : FnScope N_law ["_law_script"] (defScope s_law) := ⟨rfl, rfl, rfl, by decide +kernel, rfl, by decide +kernel, by decide +kernel⟩
structure Df (K : PySem.W.Frag) (mg : Str → Option Value) (x : Str) (st : Stmt) (ps : List Str) (f : Addr) (fd : FuncData) : Prop where
  fn : Fun K x x st f fd
  b : Binds K fd ps []
  g : mg x = some (.ref f)
structure Txt (K : PySem.W.Frag) (mg : Str → Option Value) : Prop where
  n_len : mg "len" = none
  n_list : mg "list" = none
  n_isinstance : mg "isinstance" = none
  n_int : mg "int" = none
  n_bool : mg "bool" = none
  n_str : mg "str" = none
  n_tuple : mg "tuple" = none
  n_dict : mg "dict" = none
  n_range : mg "range" = none
  n_all : mg "all" = none
  n_min : mg "min" = none
  n_max : mg "max" = none
  n_sorted : mg "sorted" = none
  g_SIGNS : ∃ t, mg "SIGNS" = some (.str " !\"#$&'()*+,-./0123456789:;<=>?@ABCDEFGHIJKLMNOPQRSTUVWXYZ[\\]^_`abcdefghijklmnopqrstuvwxyz{|}~" t)
  g_LETTERS : ∃ t, mg "LETTERS" = some (.str "abcdefghijklmnopqrstuvwxyz" t)
  g_MOST : ∃ t, mg "MOST" = some (.int 400 t)
  g_DEEP : ∃ t, mg "DEEP" = some (.int 8 t)
  g_TAKE : ∃ t, mg "TAKE" = some (.int 3 t)
  g_PUT : ∃ t, mg "PUT" = some (.int 2 t)
  g_ROWS : ∃ t, mg "ROWS" = some (.int 40 t)
  g_OVER : ∃ t, mg "OVER" = some (.int 2 t)
  g_PACK : ∃ t, mg "PACK" = some (.int 24 t)
local macro_rules | `(tactic| walk_at "sq") => `(tactic| first | assumption | exact SqL.of (by assumption) | exact SqT.of (by assumption))
local macro_rules | `(tactic| walk_at "c") => `(tactic| first | ((with_reducible refine cdivw ?_ ?_) <;> first | decide | omega | assumption) | ((with_reducible refine cmul_r ?_ ?_) <;> first | decide | omega) | ((with_reducible refine cmul_l ?_ ?_) <;> first | decide | omega) | with_reducible assumption | decide | omega | exact ⟨by decide, by decide, by first | decide | omega⟩)
local macro_rules | `(tactic| walk_at "at") => `(tactic| first | assumption | exact rfl)
local macro_rules | `(tactic| walk_at "ty") => `(tactic| first | exact .base (.int _) | exact .base (.bl _) | exact .base (.str _) | exact .base .non | exact .base (.tup (by assumption)) | exact .base (.lst (by assumption)) | exact .base (.dK (by assumption)))
local macro_rules | `(tactic| walk_at "kb") => `(tactic| first | exact kb_int_int | exact kb_int_bool | exact kb_int_str | exact kb_int_tuple | exact kb_int_list | exact kb_int_dict | exact kb_bool_int | exact kb_bool_bool | exact kb_bool_str | exact kb_bool_tuple | exact kb_bool_list | exact kb_bool_dict | exact kb_str_int | exact kb_str_bool | exact kb_str_str | exact kb_str_tuple | exact kb_str_list | exact kb_str_dict | exact kb_tuple_int | exact kb_tuple_bool | exact kb_tuple_str | exact kb_tuple_tuple | exact kb_tuple_list | exact kb_tuple_dict | exact kb_list_int | exact kb_list_bool | exact kb_list_str | exact kb_list_tuple | exact kb_list_list | exact kb_list_dict | exact kb_dict_int | exact kb_dict_bool | exact kb_dict_str | exact kb_dict_tuple | exact kb_dict_list | exact kb_dict_dict | exact kb_NoneType_int | exact kb_NoneType_bool | exact kb_NoneType_str | exact kb_NoneType_tuple | exact kb_NoneType_list | exact kb_NoneType_dict)
local macro_rules | `(tactic| walk_at "s") => `(tactic| first
  | with_reducible refine w_seqA ?_
  | with_reducible refine w_seqD ?_
  | with_reducible refine w_seqF ?_
  | with_reducible refine w_seqW ?_
  | with_reducible refine w_seqG ?_
  | with_reducible refine w_seqP ?_
  | with_reducible refine w_asg ?_
  | ((with_reducible refine' w_var ?hv ?_); (case hv => exact rfl))
  | with_reducible refine w_c ?_
  | ((with_reducible refine w_name ?_); dsimp only [List.set_cons_zero, List.set_cons_succ])
  | with_reducible refine w_name ?_
  | with_reducible refine w_op ?_
  | with_reducible refine w_un ?_
  | with_reducible refine w_neg ?_
  | with_reducible refine w_i0 ?_
  | ((with_reducible refine w_i ?hc ?_); (case hc => walk_at "c"))
  | with_reducible refine w_eqI ?_
  | with_reducible refine w_neI ?_
  | ((with_reducible refine' w_ixL ?h1 ?h2 ?_); (case h1 => walk_at "sq"); (case h2 => walk_at "at"))
  | ((with_reducible refine' w_ixT ?h1 ?h2 ?_); (case h1 => walk_at "sq"); (case h2 => walk_at "at"))
  | ((with_reducible refine' w_ixSL ?h1 ?h2 ?_); (case h1 => walk_at "sq"); (case h2 => walk_at "at"))
  | ((with_reducible refine' w_ixST ?h1 ?h2 ?_); (case h1 => walk_at "sq"); (case h2 => walk_at "at"))
  | with_reducible refine w_neB ?_
  | with_reducible refine w_eqN ?_
  | with_reducible refine w_sub ?_
  | with_reducible refine w_if ?_
  | with_reducible refine w_test ?_
  | with_reducible refine w_tb ?_
  | with_reducible refine w_bl ?_
  | with_reducible refine w_and ?_
  | with_reducible refine w_or ?_
  | with_reducible refine w_not ?_
  | with_reducible refine w_andV ?_
  | with_reducible refine w_orV ?_
  | with_reducible refine w_notV ?_
  | with_reducible refine w_ret ?_
  | with_reducible refine w_drop ?_
  | with_reducible refine w_next ?_
  | with_reducible refine w_cb ?_
  | with_reducible refine w_nil ?_
  | with_reducible refine w_cons ?_
  | with_reducible refine w_call ?_
  | with_reducible refine w_lst ?_
  | with_reducible refine w_tup ?_
  | with_reducible refine w_bm ?_
  | ((with_reducible refine' w_tyL ?h1 ?_); (case h1 => assumption))
  | ((with_reducible refine' w_lenL ?h1 ?_); (case h1 => walk_at "sq"))
  | ((with_reducible refine' w_lenT ?h1 ?_); (case h1 => walk_at "sq"))
  | ((with_reducible refine w_sz ?h1 ?_); (case h1 => first | decide | (simp only [List.length_cons, List.length_nil]; decide)))
  | with_reducible refine w_min2 ?_
  | with_reducible refine w_max2 ?_
  | with_reducible refine w_tupRg ?_
  | with_reducible refine w_rg2 ?_
  | with_reducible refine w_rg2' ?_
  | with_reducible refine w_bits ?_
  | with_reducible refine w_bits' ?_
  | with_reducible refine w_for ?_
  | with_reducible refine w_rng1 ?_
  | ((with_reducible refine w_rng1' ?h1 ?h2 ?_); (case h1 => omega); (case h2 => omega))
  | with_reducible refine w_rng2 ?_
  | ((with_reducible refine w_rng2' ?h1 ?_); (case h1 => omega))
  | with_reducible refine w_itL ?_
  | ((with_reducible refine' w_itL' ?h1 ?_); (case h1 => walk_at "sq"))
  | with_reducible refine w_itT ?_
  | ((with_reducible refine' w_itT' ?h1 ?_); (case h1 => walk_at "sq"))
  | with_reducible refine w_lc ?_
  | ((with_reducible refine' w_isi ?ty ?hk ?_); (case ty => walk_at "ty"); (case hk => walk_at "kb"))
  | with_reducible refine iteT ?_
  | with_reducible refine iteF ?_
  | with_reducible refine w_nT ?_
  | with_reducible refine w_nF ?_
  | with_reducible refine w_eqS ?_
  | with_reducible refine w_eqB ?_
  | ((with_reducible refine' w_sum ?h1 ?_); (case h1 => walk_at "sq"))
  | ((with_reducible refine' w_gtup ?h1 ?h2 ?_); (case h1 => walk_at "sq"); (case h2 => exact rfl))
  | with_reducible refine w_gcons ?_
  | with_reducible refine w_gnil ?_
  | with_reducible refine w_din ?_
  | with_reducible refine w_dnotin ?_
  | with_reducible refine w_dget ?_
  | ((with_reducible refine' w_dinI ?h1 ?_); (case h1 => assumption))
  | ((with_reducible refine' w_dnotinI ?h1 ?_); (case h1 => assumption))
  | ((with_reducible refine' w_dgetI ?h1 ?h2 ?_); (case h1 => assumption); (case h2 => assumption))
  | with_reducible refine w_dnewK ?_
  | with_reducible refine w_dput ?_
  | with_reducible refine w_dget2 ?_
  | ((with_reducible refine' w_isD ?h1 ?_); (case h1 => assumption))
  | ((with_reducible refine' w_dget2I ?h1 ?_); (case h1 => assumption))
  | with_reducible refine w_dsetd ?_
  | ((with_reducible refine' w_leT2 ?h1 ?h2 ?_); (case h1 => walk_at "sq"); (case h2 => walk_at "sq"))
  | ((with_reducible refine' w_inT ?h1 ?_); (case h1 => walk_at "sq"))
  | ((with_reducible refine' w_ninT ?h1 ?_); (case h1 => walk_at "sq"))
  | ((with_reducible refine' w_inL ?h1 ?_); (case h1 => walk_at "sq"))
  | ((with_reducible refine' w_ninL ?h1 ?_); (case h1 => walk_at "sq"))
  | with_reducible refine w_pair ?_
  | with_reducible refine w_pnil ?_
  | with_reducible refine w_callS ?_
  | with_reducible refine w_try ?_
  | with_reducible refine w_isB ?_
  | with_reducible refine w_isN ?_
  | with_reducible refine w_notN ?_
  | with_reducible refine w_chain ?_
  | with_reducible refine w_tru ?_
  | ((with_reducible refine' w_trL ?h1 ?_); (case h1 => walk_at "sq"))
  | ((with_reducible refine' w_trT ?h1 ?_); (case h1 => walk_at "sq"))
  | with_reducible refine w_dc ?_
  | with_reducible refine w_dc2 ?_
  | with_reducible refine w_dget1 ?_
  | ((with_reducible refine' w_dget1I ?h1 ?_); (case h1 => assumption))
  | with_reducible refine w_rev ?_
  | ((with_reducible refine' w_rev' ?h1 ?_); (case h1 => walk_at "sq"))
  | with_reducible refine w_slice ?_
  | with_reducible refine w_noPart ?_
  | with_reducible refine w_part ?_
  | with_reducible refine w_part' ?_
  | with_reducible refine w_enum ?_
  | ((with_reducible refine' w_enum' ?h1 ?_); (case h1 => walk_at "sq"))
  | with_reducible refine w_bm0 ?_
  | with_reducible refine w_retN ?_
  | with_reducible refine w_tyes ?_
  | with_reducible refine w_keys ?_
  | ((with_reducible refine' w_keys' ?h1 ?_); (case h1 => assumption))
  | ((with_reducible refine' w_dinF ?h1 ?_); (case h1 => assumption))
  | ((with_reducible refine' w_dgetF ?h1 ?h2 ?_); (case h1 => assumption); (case h2 => assumption))
  | ((with_reducible refine' w_any ?h1 ?_); (case h1 => walk_at "sq"))
  | with_reducible refine w_zipA ?_
  | ((with_reducible refine' w_zipT' ?h1 ?h2 ?_); (case h1 => walk_at "sq"); (case h2 => walk_at "sq"))
  | with_reducible refine w_dct ?_
  | with_reducible refine w_tryG ?_
  | with_reducible refine w_inS ?_
  | with_reducible refine w_neS ?_
  | with_reducible refine w_ltS ?_
  | with_reducible refine w_gtS ?_
  | ((with_reducible refine' w_augI ?hv ?_); (case hv => exact rfl))
  | ((with_reducible refine w_ipI ?_); dsimp only [List.set_cons_zero, List.set_cons_succ])
  | with_reducible refine w_callD ?_
  | with_reducible refine w_m1 ?_
  | with_reducible refine w_isS ?_
  | with_reducible refine w_istr ?_
  | with_reducible refine w_istr' ?_
  | ((with_reducible refine' w_all ?h1 ?_); (case h1 => walk_at "sq"))
  | ((with_reducible refine' w_glst ?h1 ?h2 ?_); (case h1 => walk_at "sq"); (case h2 => exact rfl))
  | with_reducible refine w_callN ?_
  | with_reducible refine w_step ?_
  | dsimp only [Bool.not_true, Bool.not_false]
  )
local macro_rules | `(tactic| walk_at "p") => `(tactic| first | assumption | omega | (simp only [List.length_cons, List.length_nil, List.length_map]; omega) | exact rfl | decide)
local macro_rules | `(tactic| walk_at "d") => `(tactic| first
  | ((with_reducible refine w_yes ?hp ?_); (case hp => walk_at "p"))
  | ((with_reducible refine w_no ?hp ?_); (case hp => walk_at "p"))
  | ((with_reducible refine w_nyes ?hp ?_); (case hp => walk_at "p"))
  | ((with_reducible refine w_nno ?hp ?_); (case hp => walk_at "p")))
local macro_rules | `(tactic| walk_at "g") => `(tactic| repeat walk_at "s")
local macro_rules | `(tactic| walk_at "dg") => `(tactic| (walk_at "d"; repeat walk_at "s"))
local macro_rules | `(tactic| walk_at "x") => `(tactic| ((try dsimp only [cxOf, Cx.nox, Cx.wish]); repeat walk_at "s"))
local macro_rules | `(tactic| walk_at "s") => `(tactic| with_reducible refine w_revT ?_)
local macro_rules | `(tactic| walk_at "s") => `(tactic| first
  | with_reducible refine w_fld ?_
  | ((with_reducible refine' w_fld' ?h1 ?h2 ?h3 ?h4 ?_); (case h1 => assumption); (case h2 => assumption); (case h3 => assumption); (case h4 => exact rfl))
  | with_reducible refine w_seqFS ?_
  | with_reducible refine w_fldS ?_
  | with_reducible refine w_meth ?_
  | ((with_reducible refine' w_meth' ?h1 ?h2 ?_); (case h1 => assumption); (case h2 => exact rfl))
  | with_reducible refine w_make ?_
  | with_reducible refine w_nin ?_
  | with_reducible refine w_nget ?_
  | with_reducible refine w_nget1 ?_
  | with_reducible refine w_seqNP ?_
  | with_reducible refine w_nput ?_
  | with_reducible refine w_maxD ?_
  )
local macro_rules | `(tactic| walk_at "s") => `(tactic| first
  | with_reducible refine w_revL ?_
  )
def spDeck (K : PySem.W.Frag) : Sp := fun vs H Q _ => ∃ (a : Addr) (ns : List Int), vs = [.ref a] ∧ SqL K H a (ns.map V.int) ∧
  ∀ H' d c, Same H H' → H d = none → H c = none → Deck H' d c 0 → Q (.ref d) H'
def spMixed : Sp := fun vs H Q _ => ∃ (x t : Int), vs = [.int x, .int t] ∧ 0 ≤ t ∧ t ≤ 2 ^ 41 ∧ ∀ i, Q (.int i) H
def spDraw : Sp := fun vs H Q _ => ∃ (d c : Addr) (n : Nat) (m : Int), vs = [.ref d, .int m] ∧ Deck H d c n ∧ n < MOSTD ∧ 0 < m ∧ m < 2 ^ 64 ∧
  ∀ (i : Nat) H', (i : Int) < m → Deck H' d c (n + 1) → Off d H H' → Q (.int i) H'
theorem w_deck {K : PySem.W.Frag} {H : Hp} {Q : VK} {E : XK} {a : Addr} {ns : List Int} (h1 : SqL K H a (ns.map V.int)) (h : ∀ H' d c, Same H H' → H d = none → H c = none → Deck H' d c 0 → Q (.ref d) H') : spDeck K ([V.ref a] ++ []) H Q E := ⟨a, ns, rfl, h1, h⟩
theorem w_draw {H : Hp} {Q : VK} {E : XK} {d c : Addr} {n : Nat} {m : Int} (D : Deck H d c n) (hn : n < MOSTD) (h0 : 0 < m) (h1 : m < 2 ^ 64) (h : ∀ (i : Nat) H', (i : Int) < m → Deck H' d c (n + 1) → Off d H H' → Q (.int i) H') : spDraw ([V.ref d, V.int m] ++ []) H Q E := ⟨d, c, n, m, rfl, D, hn, h0, h1, h⟩
theorem dk0 {c : Addr} {a b t : V} : atI [V.ref c, a, b, t] 0 = some (.ref c) := rfl
theorem dk1 {c a b t : V} : atI [c, a, b, t] 1 = some a := rfl
theorem dk2 {c a b t : V} : atI [c, a, b, t] 2 = some b := rfl
theorem dk3 {c a b t : V} : atI [c, a, b, t] 3 = some t := rfl
section
variable {P : Program} {w : World} {K : PySem.W.Frag} {mg : Str → Option Value} {base : Heap}
theorem ok_deck {f : Addr} {fd : FuncData} (T : Txt K mg) (F : Fun K "_law_deck" "_law_deck" s_law_deck f fd) : FnOk P w K mg base CX0 1 f fd ["_law_script"] (spDeck K) := by
  refine F.ok sc_law_deck (fun vs H Q E h => ?_) (fun cdv A outer s H vs Q E hr h => ?_)
  · obtain ⟨a, ns, rfl, _⟩ := h
    rfl
  · obtain ⟨a, ns, rfl, hS, q⟩ := h
    refine ⟨_,
      (pss_one
        (ps_ret (pe_lst (pa_cons (pe_callTy (r := rListOf K) c_listOf (by rfl) T.n_list (by decide +kernel) (pa_cons (pv 0) pa_nil)) (pa_cons pe_int (pa_cons pe_int (pa_cons pe_int pa_nil)))))))
      , ?_⟩
    walk_at "x"
    refine w_listL hS fun c H1 hc e1 k1 => ?_
    walk_at "g"
    refine w_new fun d H2 hd e2 k2 => ?_
    refine q _ d c (Same.trans k1 k2) (k1.free hd) hc ⟨⟨ns, 0, 0, 0, e2, k2 _ _ e1, Nat.le_refl _⟩, ne_of_none e1 hd⟩
theorem ok_mixed {f : Addr} {fd : FuncData} (T : Txt K mg) (F : Fun K "_law_mixed" "_law_mixed" s_law_mixed f fd) : FnOk P w K mg base CX0 1 f fd ["_law_cell", "_law_turn"] spMixed := by
  refine F.ok sc_law_mixed (fun vs H Q E h => ?_) (fun cdv A outer s H vs Q E hr h => ?_)
  · obtain ⟨x, t, rfl, _⟩ := h
    rfl
  · obtain ⟨x, t, rfl, h0, h1, q⟩ := h
    refine ⟨_,
      (pss_one
        (ps_ret (pe_op op_mod (pe_op op_pow (pe_op op_add (pe_op op_add (pe_op op_mod (pv 0) pe_int) (pe_op op_mul (pv 1) pe_int)) pe_int) pe_int) pe_int)))
      , ?_⟩
    have e := Int.emod_lt_of_pos x (show (0 : Int) < 2147483629 by decide)
    have e2 := Int.emod_nonneg x (show (2147483629 : Int) ≠ 0 by decide)
    walk_at "x"
    exact q _
theorem ok_draw {f fM : Addr} {fd fdM : FuncData} (T : Txt K mg) (F : Fun K "_law_draw" "_law_draw" s_law_draw f fd) (D_law_mixed : Df K mg "_law_mixed" s_law_mixed ["_law_cell", "_law_turn"] fM fdM) : FnOk P w K mg base CX0 2 f fd ["_law_deck_here", "_law_many"] spDraw := by
  have G_law_mixed : FnOk P w K mg base CX0 1 fM fdM ["_law_cell", "_law_turn"] spMixed := ok_mixed T D_law_mixed.fn
  refine F.ok sc_law_draw (fun vs H Q E h => ?_) (fun cdv A outer s H vs Q E hr h => ?_)
  · obtain ⟨d, c, n, m, rfl, _⟩ := h
    rfl
  · obtain ⟨d, c, n, m, rfl, ⟨⟨cs, a, b, t, e1, e2, e3⟩, ne⟩, hn, hm, hm2, q⟩ := h
    have hn' : t < 1099511627776 := Nat.lt_of_le_of_lt e3 hn
    refine ⟨_,
      (pss_cons
        (ps_set (i := 2) sc_law_draw.nd rfl (.inl rfl) (pe_ix (r := rIxL K) ix_list (pv 0) pe_int (fun _ _ => rfl)))
      (pss_cons
        (ps_asg (pe_op op_add (pe_ix (r := rIxL K) ix_list (pv 0) pe_int (fun _ _ => rfl)) pe_int) (pg_sub (pv 0) pe_int set_list))
      (pss_cons
        (ps_if (PW.pt (pw_and (pt_cmpR op_eq (pe_ix (r := rIxL K) ix_list (pv 0) pe_int (fun _ _ => rfl)) pe_int (nomark _)) (pw_and1 (pt_cmpR op_lt (pe_ix (r := rIxL K) ix_list (pv 0) pe_int (fun _ _ => rfl)) (pe_callB (r := rLen K) c_len (by rfl) T.n_len (by decide +kernel) (pa_cons (pv 2) pa_nil)) (nomark _)))))
          (pss_cons
            (ps_asg (pe_op op_add (pe_ix (r := rIxL K) ix_list (pv 0) pe_int (fun _ _ => rfl)) pe_int) (pg_sub (pv 0) pe_int set_list))
          (pss_cons
            (ps_if (pt_cmpR op_lt (pe_ix (r := rIxL K) ix_list (pv 2) (pe_op op_sub (pe_ix (r := rIxL K) ix_list (pv 0) pe_int (fun _ _ => rfl)) pe_int) (fun _ _ => rfl)) (pe_op op_pow pe_int pe_int) (nomark _))
              (pss_one
                (ps_ret (pe_op op_mod (pe_call G_law_mixed (hr.mono (by omega)) (by rfl) D_law_mixed.g D_law_mixed.fn.kp D_law_mixed.b .nil pass0 (pa_cons (pe_ix (r := rIxL K) ix_list (pv 2) (pe_op op_sub (pe_ix (r := rIxL K) ix_list (pv 0) pe_int (fun _ _ => rfl)) pe_int) (fun _ _ => rfl)) (pa_cons (pe_ix (r := rIxL K) ix_list (pv 0) pe_int (fun _ _ => rfl)) pa_nil))) (pv 1))))
              pss_nil)
          (pss_one
            (ps_asg (pe_ix (r := rIxL K) ix_list (pv 2) (pe_op op_sub (pe_ix (r := rIxL K) ix_list (pv 0) pe_int (fun _ _ => rfl)) pe_int) (fun _ _ => rfl)) (pg_sub (pv 0) pe_int set_list)))))
          pss_nil)
      (pss_cons
        (ps_if (pt_cmpR op_gt (pe_ix (r := rIxL K) ix_list (pv 0) pe_int (fun _ _ => rfl)) pe_int (nomark _))
          (pss_cons
            (ps_set (i := 3) sc_law_draw.nd rfl (.inl rfl) (pe_op op_mod (pe_ix (r := rIxL K) ix_list (pv 0) pe_int (fun _ _ => rfl)) (pv 1)))
          (pss_cons
            (ps_asg (pe_op op_fdivW (pe_ix (r := rIxL K) ix_list (pv 0) pe_int (fun _ _ => rfl)) (pv 1)) (pg_sub (pv 0) pe_int set_list))
          (pss_one
            (ps_ret (pv 3)))))
          pss_nil)
      (pss_cons
        (ps_set (i := 4) sc_law_draw.nd rfl (.inl rfl) (pe_op op_mul (pe_ix (r := rIxL K) ix_list (pv 0) pe_int (fun _ _ => rfl)) pe_int))
      (pss_cons
        (ps_if (pt_cmpR op_gt (pe_callB (r := rLen K) c_len (by rfl) T.n_len (by decide +kernel) (pa_cons (pv 2) pa_nil)) pe_int (nomark _))
          (pss_one
            (ps_set (i := 4) sc_law_draw.nd rfl (.inl rfl) (pe_op op_add (pv 4) (pe_op op_mod (pe_ix (r := rIxL K) ix_list (pv 2) (pe_op op_mod (pe_op op_mul (pe_ix (r := rIxL K) ix_list (pv 0) pe_int (fun _ _ => rfl)) pe_int) (pe_callB (r := rLen K) c_len (by rfl) T.n_len (by decide +kernel) (pa_cons (pv 2) pa_nil))) (fun _ _ => rfl)) pe_int))))
          pss_nil)
      (pss_one
        (ps_ret (pe_op op_mod (pe_call G_law_mixed (hr.mono (by omega)) (by rfl) D_law_mixed.g D_law_mixed.fn.kp D_law_mixed.b .nil pass0 (pa_cons (pv 4) (pa_cons (pe_ix (r := rIxL K) ix_list (pv 0) pe_int (fun _ _ => rfl)) pa_nil))) (pv 1))))))))))
      , ?_⟩
    rw [show L2.start N_law_draw [V.ref d, V.int m] = [some (.ref d), some (.int m), none, none, none] from rfl]
    -- cells = deck[0]; deck[3] = deck[3] + 1
    walk_at "x"
    refine w_setL e1 rfl rfl fun H1 g0 o0 => ?_
    have fin : ∀ (H' : Hp) (a' : Nat) (b' i : Int), 0 ≤ i → i < m → H' d = some (.lst [.ref c, .int a', .int b', .int (t + 1)]) → Off d H H' → Q (.int i) H' := fun H' a' b' i i0 i1 g1 g2 => by
      have z := q i.toNat H' (by omega) ⟨⟨cs, a', b', t + 1, g1, (g2 c ne).trans e2, by omega⟩, ne⟩ g2
      rw [Int.toNat_of_nonneg i0] at z
      exact z
    have md : ∀ x : Int, 0 ≤ x % m ∧ x % m < m := fun x => ⟨Int.emod_nonneg x (by omega), Int.emod_lt_of_pos x hm⟩
    have g0 : H1 d = some (.lst [.ref c, .int a, .int b, .int ((t : Int) + 1)]) := g0
    have c1 : H1 c = some (.lst (cs.map V.int)) := (o0 c ne).trans e2
    -- if deck[2] == 0 and deck[1] < len(cells): ..
    refine w_seqJ (fun σ' H2 => σ' = [some (.ref d), some (.int m), some (.ref c), none, none] ∧ ∃ (a' : Nat) (b' : Int), H2 d = some (.lst [.ref c, .int a', .int b', .int ((t : Int) + 1)]) ∧ Off d H H2) ?_ ?_
    · rintro σ' H2 ⟨rfl, a', b', g2, o2⟩
      have c2 : H2 c = some (.lst (cs.map V.int)) := (o2 c ne).trans e2
      refine w_seqJ (fun σ' H3 => σ' = [some (.ref d), some (.int m), some (.ref c), none, none] ∧ H3 = H2) ?_ ?_
      · rintro σ' H3 ⟨rfl, rfl⟩
        -- number = deck[3] * 48271; if len(cells) > 0: ..
        walk_at "g"
        refine w_seqJ (fun σ' H4 => (∃ z : Int, σ' = [some (.ref d), some (.int m), some (.ref c), none, some (.int z)]) ∧ H4 = H3) ?_ ?_
        · rintro σ' H4 ⟨⟨z, rfl⟩, rfl⟩
          walk_at "g"
          refine ⟨_, _, rfl, by omega, by omega, fun y => ?_⟩
          walk_at "g"
          exact fin _ a' b' _ (md y).1 (md y).2 g2 o2
        · intro U hU
          walk_at "g"
          refine w_ite (fun hl => ?_) (fun hl => ?_)
          · obtain ⟨v, hv1, hv2⟩ := at_lt (xs := cs.map V.int) (i := ((t : Int) + 1) * 7 % ((cs.map V.int).length : Int)) (Int.emod_nonneg _ (by omega)) (Int.emod_lt_of_pos _ hl)
            rw [List.getElem?_map] at hv1
            obtain ⟨y, _, rfl⟩ := Option.map_eq_some_iff.mp hv1
            walk_at "g"
            exact hU _ _ ⟨⟨_, rfl⟩, rfl⟩
          · exact hU _ _ ⟨⟨_, rfl⟩, rfl⟩
      · intro U hU
        walk_at "g"
        refine w_ite (fun hl => ?_) (fun hl => ?_)
        · walk_at "g"
          refine w_setL g2 rfl rfl fun H9 g9 o9 => ?_
          walk_at "g"
          exact fin _ a' (b' / m) _ (md b').1 (md b').2 g9 (o2.trans o9)
        · exact hU _ _ ⟨rfl, rfl⟩
    · intro U hU
      have no : U [some (.ref d), some (.int m), some (.ref c), none, none] H1 := hU _ _ ⟨rfl, a, b, g0, o0⟩
      walk_at "g"
      refine w_ite (fun hl => ?_) (fun _ => no)
      walk_at "g"
      refine w_ite (fun hl2 => ?_) (fun _ => no)
      obtain ⟨v, hv1, hv2⟩ := at_lt (xs := cs.map V.int) (i := ((a + 1 : Nat) : Int) - 1) (by omega) (by omega)
      rw [List.getElem?_map] at hv1
      obtain ⟨y, _, rfl⟩ := Option.map_eq_some_iff.mp hv1
      walk_at "g"
      refine w_setL g0 rfl rfl fun H2 g2 o2 => ?_
      have g2 : H2 d = some (.lst [.ref c, .int ((a + 1 : Nat) : Int), .int b, .int ((t : Int) + 1)]) := g2
      have o2 : Off d H H2 := o0.trans o2
      have c2 : H2 c = some (.lst (cs.map V.int)) := (o2 c ne).trans e2
      refine w_seq ?_
      walk_at "g"
      refine w_ite (fun hl => ?_) (fun hl => ?_)
      · walk_at "g"
        refine ⟨_, _, rfl, by omega, by omega, fun y => ?_⟩
        walk_at "g"
        exact fin _ (a + 1) b _ (md y).1 (md y).2 g2 o2
      · walk_at "g"
        refine w_setL g2 rfl rfl fun H9 g9 o9 => ?_
        exact hU _ _ ⟨rfl, a + 1, y, g9, o2.trans o9⟩
end
/-! ### pieces and scripts -/
theorem map_at {α : Type} {f : α → V} {xs : List α} {i : Nat} {v : V} (h : (xs.map f)[i]? = some v) : ∃ x, xs[i]? = some x ∧ v = f x := by
  rw [List.getElem?_map] at h
  obtain ⟨y, h1, h2⟩ := Option.map_eq_some_iff.mp h
  exact ⟨y, h1, h2.symm⟩
theorem le_sum : ∀ {l : List Nat} {x : Nat}, x ∈ l → x ≤ l.sum
  | [], x, h => by cases h
  | y :: l, x, h => by
    rw [List.sum_cons]
    rcases List.mem_cons.mp h with rfl | h
    · omega
    · have := le_sum h
      omega
abbrev SG : Str := Str.ofString " !\"#$&'()*+,-./0123456789:;<=>?@ABCDEFGHIJKLMNOPQRSTUVWXYZ[\\]^_`abcdefghijklmnopqrstuvwxyz{|}~"
def LineOk (z : Str) : Prop := z.length ≤ 40 ∧ ∀ c ∈ z.cps.toList, c ∈ SG.cps.toList
inductive Pc where
  | take (b m : Nat)
  | put (ls : List Str)
def Pc.size : Pc → Nat
  | .take _ m => m
  | .put ls => ls.length
def Pc.make (base : List Str) : Pc → List Str
  | .take b m => (base.drop b).take m
  | .put ls => ls
def Pc.fits (n : Nat) : Pc → Prop
  | .take b m => b + m ≤ n
  | .put _ => True
def Pc.ok : Pc → Prop
  | .take _ m => 1 ≤ m
  | .put ls => ls ≠ [] ∧ ∀ z ∈ ls, LineOk z
def Pc.cost (t p : Int) : Pc → Int
  | .take _ _ => t
  | .put ls => p * (ls.length : Int)
theorem Pc.ok.pos {p : Pc} (h : p.ok) : 1 ≤ p.size := by
  cases p with
  | take b m => exact h
  | put ls =>
    have := List.length_pos_iff.mpr h.1
    exact this
def sizes (ps : List Pc) : Nat := (ps.map Pc.size).sum
def makes (base : List Str) (ps : List Pc) : List Str := (ps.map (Pc.make base)).flatten
def costs (t p : Int) (ps : List Pc) : Int := (ps.map (Pc.cost t p)).sum
theorem sizes_snoc (ps : List Pc) (p : Pc) : sizes (ps ++ [p]) = sizes ps + p.size := by unfold sizes; simp
theorem makes_snoc (base : List Str) (ps : List Pc) (p : Pc) : makes base (ps ++ [p]) = makes base ps ++ p.make base := by unfold makes; simp
theorem costs_snoc (t q : Int) (ps : List Pc) (p : Pc) : costs t q (ps ++ [p]) = costs t q ps + p.cost t q := by unfold costs; simp
theorem sizes_take (ps : List Pc) (i : Nat) : sizes (ps.take i) ≤ sizes ps := by
  have e : sizes ps = sizes (ps.take i) + sizes (ps.drop i) := by
    have : sizes (ps.take i ++ ps.drop i) = sizes (ps.take i) + sizes (ps.drop i) := by unfold sizes; rw [List.map_append, List.sum_append]
    rw [List.take_append_drop] at this
    exact this
  omega
theorem take_at {α : Type} {l : List α} {i : Nat} {x : α} (h : l[i]? = some x) : l.take (i + 1) = l.take i ++ [x] := by rw [List.take_add_one, h]; rfl
theorem sizes_ge : ∀ {ps : List Pc}, (∀ p ∈ ps, p.ok) → ps.length ≤ sizes ps
  | [], _ => by simp [sizes]
  | p :: ps, h => by
    have h1 := (h p (by simp)).pos
    have h2 := sizes_ge (ps := ps) fun q hq => h q (by simp [hq])
    unfold sizes at *
    simp only [List.map_cons, List.sum_cons, List.length_cons]
    omega
theorem make_len {base : List Str} {p : Pc} (h : p.fits base.length) : (p.make base).length = p.size := by
  cases p with
  | take b m =>
    show ((base.drop b).take m).length = m
    have h' : b + m ≤ base.length := h
    rw [List.length_take, List.length_drop]
    omega
  | put ls => rfl
theorem makes_len {base : List Str} : ∀ {ps : List Pc}, (∀ p ∈ ps, p.fits base.length) → (makes base ps).length = sizes ps
  | [], _ => rfl
  | p :: ps, h => by
    have h1 := make_len (h p (by simp))
    have h2 := makes_len (ps := ps) fun q hq => h q (by simp [hq])
    unfold makes sizes at *
    simp only [List.map_cons, List.flatten_cons, List.length_append, List.sum_cons]
    omega
def RwAt (H : Hp) (a : Addr) (ls : List Str) : Prop := H a = some (.tup (ls.map V.str))
def PcAt (H : Hp) (a : Addr) : Pc → Prop
  | .take b m => H a = some (.tup [.str "take", .int (b : Int), .int (m : Int)])
  | .put ls => ∃ r, H a = some (.tup [.str "put", .ref r]) ∧ RwAt H r ls
theorem PcAt.kt {H H' : Hp} {a : Addr} {p : Pc} (h : PcAt H a p) (k : KT H H') : PcAt H' a p := by
  cases p with
  | take b m => exact k _ _ h
  | put ls =>
    obtain ⟨r, h1, h2⟩ := h
    exact ⟨r, k _ _ h1, k _ _ h2⟩
structure ScAt (H : Hp) (s : Addr) (ps : List (Addr × Pc)) : Prop where
  at' : H s = some (.tup (ps.map fun q => .ref q.1))
  pc : ∀ q ∈ ps, PcAt H q.1 q.2
theorem ScAt.kt {H H' : Hp} {s : Addr} {ps : List (Addr × Pc)} (h : ScAt H s ps) (k : KT H H') : ScAt H' s ps := ⟨k _ _ h.at', fun q hq => (h.pc q hq).kt k⟩
structure ScOk (ps : List Pc) : Prop where
  ok : ∀ p ∈ ps, p.ok
  few : sizes ps ≤ 40
/-- data whose texts are not too long -/
inductive DatT (B : Nat) (H : Hp) : V → Prop where
  | leaf {x : V} {a : String} (t : Ty H x a) (h : a ≠ "tuple") (z : ∀ z, x = .str z → z.length ≤ B) : DatT B H x
  | tup {p : Addr} {xs : List V} (e : H p = some (.tup xs)) (l : xs.length ≤ B) (h : ∀ y ∈ xs, DatT B H y) : DatT B H (.ref p)
theorem DatT.ty {B : Nat} {H : Hp} {x : V} (h : DatT B H x) : ∃ a, Ty H x a := by
  cases h with
  | leaf t _ _ => exact ⟨_, t⟩
  | tup e _ _ => exact ⟨_, .tup e⟩
theorem DatT.len {B : Nat} {H : Hp} {z : Str} (h : DatT B H (.str z)) : z.length ≤ B := by
  cases h with
  | leaf _ _ hz => exact hz z rfl
theorem DatT.kd {B : Nat} {H H' : Hp} {x : V} (h : DatT B H x) (k : KD H H') : DatT B H' x := by
  induction h with
  | leaf t h z => exact .leaf (t.kd k) h z
  | tup e l _ ih => exact .tup (k.t _ _ e) l fun y hy => ih y hy
theorem DatT.cases {B : Nat} {H : Hp} {x : V} (h : DatT B H x) : (∃ a, Ty H x a ∧ a ≠ "tuple") ∨ ∃ (p : Addr) (xs : List V), x = .ref p ∧ H p = some (.tup xs) ∧ xs.length ≤ B ∧ ∀ y ∈ xs, DatT B H y := by
  cases h with
  | leaf t h _ => exact .inl ⟨_, t, h⟩
  | tup e l h => exact .inr ⟨_, _, rfl, e, l, h⟩
theorem DatT.back {B : Nat} {H H1 : Hp} {a : Addr} {xs : List V} (d : DatT B H (.ref a)) (k : Same H H1) (e : H1 a = some (.tup xs)) : H a = some (.tup xs) := by
  rcases d.cases with ⟨s, t, hne⟩ | ⟨p, ys, e1, e2, _⟩
  · cases t with
    | lst h => have z := k _ _ h; rw [e] at z; cases z
    | tup h => exact absurd rfl hne
    | dK h => have z := k _ _ h; rw [e] at z; cases z
  · cases e1
    have z := k _ _ e2
    rw [e] at z
    cases z
    exact e2
theorem DatT.elem {B : Nat} {H : Hp} {a : Addr} {xs : List V} (d : DatT B H (.ref a)) (e : H a = some (.tup xs)) : xs.length ≤ B ∧ ∀ y ∈ xs, DatT B H y := by
  rcases d.cases with ⟨s, t, hne⟩ | ⟨p, ys, e1, e2, h⟩
  · exact absurd (t.ofTup e) hne
  · cases e1
    rw [e] at e2
    cases e2
    exact h
theorem DatT.strs {B : Nat} {H : Hp} {a : Addr} {ls : List Str} (h : RwAt H a ls) (hl : ls.length ≤ B) (hz : ∀ z ∈ ls, z.length ≤ B) : DatT B H (.ref a) := .tup h (by rw [List.length_map]; exact hl) fun y hy => by
  obtain ⟨z, hz', rfl⟩ := List.mem_map.mp hy
  exact .leaf (.str z) (by decide) fun z' e => by cases e; exact hz z hz'
theorem PcAt.dat {B : Nat} {H : Hp} {a : Addr} {p : Pc} (h : PcAt H a p) (hB : 4 ≤ B) (hs : p.size ≤ B) (hz : ∀ ls, p = .put ls → ∀ z ∈ ls, z.length ≤ B) : DatT B H (.ref a) := by
  cases p with
  | take b m =>
    refine .tup h (by simp only [List.length_cons, List.length_nil]; omega) fun y hy => ?_
    have hy' : y = .str "take" ∨ y = .int (b : Int) ∨ y = .int (m : Int) := by simpa using hy
    rcases hy' with rfl | rfl | rfl
    · exact .leaf (.str _) (by decide) fun z e => by cases e; exact Nat.le_trans (show (Str.ofString "take").length ≤ 4 by decide) hB
    · exact .leaf (.int _) (by decide) fun z e => by cases e
    · exact .leaf (.int _) (by decide) fun z e => by cases e
  | put ls =>
    obtain ⟨r, h1, h2⟩ := h
    refine .tup h1 (by simp only [List.length_cons, List.length_nil]; omega) fun y hy => ?_
    have hy' : y = .str "put" ∨ y = .ref r := by simpa using hy
    rcases hy' with rfl | rfl
    · exact .leaf (.str _) (by decide) fun z e => by cases e; exact Nat.le_trans (show (Str.ofString "put").length ≤ 4 by decide) hB
    · exact DatT.strs h2 hs (hz ls rfl)
theorem ScAt.dat {B : Nat} {H : Hp} {s : Addr} {ps : List (Addr × Pc)} (h : ScAt H s ps) (k : ScOk (ps.map (·.2))) (hB : 40 ≤ B) : DatT B H (.ref s) := by
  have hl := sizes_ge k.ok
  have hf := k.few
  rw [List.length_map] at hl
  refine .tup h.at' (by rw [List.length_map]; omega) fun y hy => ?_
  obtain ⟨q, hq, rfl⟩ := List.mem_map.mp hy
  have hqm : q.2 ∈ ps.map (·.2) := List.mem_map_of_mem hq
  have hsz : q.2.size ≤ sizes (ps.map (·.2)) := by
    unfold sizes
    exact le_sum (List.mem_map_of_mem hqm)
  refine (h.pc q hq).dat (by omega) (by omega) fun ls e z hz => ?_
  have := k.ok _ hqm
  rw [e] at this
  have := (this.2 z hz).1
  omega
/-- a piece, as a thing of any kind -/
def PcV (H : Hp) (x : V) (p : Pc) : Prop := ∃ a, x = .ref a ∧ PcAt H a p ∧ p.ok
def ScV (H : Hp) (x : V) (ps : List (Addr × Pc)) : Prop := ∃ s, x = .ref s ∧ ScAt H s ps ∧ ScOk (ps.map (·.2))
theorem PcAt.det {H : Hp} {a : Addr} {p q : Pc} (h : PcAt H a p) (h' : PcAt H a q) : p = q := by
  cases p with
  | take b m =>
    cases q with
    | take b' m' =>
      have e := Option.some.inj (h.symm.trans h')
      injection e with e
      have e1 : (b : Int) = b' := by simpa using (List.cons.inj (List.cons.inj e).2).1
      have e2 : (m : Int) = m' := by simpa using (List.cons.inj (List.cons.inj (List.cons.inj e).2).2).1
      rw [show b = b' by omega, show m = m' by omega]
    | put ls =>
      obtain ⟨r, h1, _⟩ := h'
      have e := Option.some.inj (h.symm.trans h1)
      injection e with e
      have := congrArg List.length e
      simp at this
  | put ls =>
    obtain ⟨r, h1, h2⟩ := h
    cases q with
    | take b' m' =>
      have e := Option.some.inj (h1.symm.trans h')
      injection e with e
      have := congrArg List.length e
      simp at this
    | put ls' =>
      obtain ⟨r', h1', h2'⟩ := h'
      have e := Option.some.inj (h1.symm.trans h1')
      injection e with e
      have e1 : r = r' := by simpa using (List.cons.inj (List.cons.inj e).2).1
      subst e1
      have e2 := Option.some.inj (h2.symm.trans h2')
      injection e2 with e2
      have inj : ∀ {xs ys : List Str}, xs.map V.str = ys.map V.str → xs = ys := by
        intro xs
        induction xs with
        | nil => intro ys h; cases ys with | nil => rfl | cons _ _ => simp at h
        | cons x xs ih =>
          intro ys h
          cases ys with
          | nil => simp at h
          | cons y ys =>
            rw [List.map_cons, List.map_cons, List.cons.injEq] at h
            rw [V.str.inj h.1, ih h.2]
      rw [inj e2]
def spIsInt : Sp := fun vs H Q _ => ∃ (x : V) (a : String), vs = [x, .int 0] ∧ Ty H x a ∧ (∀ n : Nat, x = .int (n : Int) → Q (.bl true) H) ∧ ((∀ n : Nat, x ≠ .int (n : Int)) → Q (.bl false) H)
def spIsText : Sp := fun vs H Q _ => ∃ (x : V) (B : Nat), vs = [x, .int 40] ∧ DatT B H x ∧ B ≤ 1000000 ∧ (∀ z, x = .str z → LineOk z → ∀ H', Same H H' → Q (.bl true) H') ∧ ((∀ z, x = .str z → ¬ LineOk z) → ∀ H', Same H H' → Q (.bl false) H')
def spMadeBy : Sp := fun vs H Q _ => ∃ (x : V) (B : Nat), vs = [x] ∧ DatT B H x ∧ B ≤ 1000000 ∧ (∀ p, PcV H x p → ∀ H', Same H H' → Q (.int (p.size : Int)) H') ∧ ((∀ p, ¬ PcV H x p) → ∀ H', Same H H' → Q (.int 0) H')
def spIsScript : Sp := fun vs H Q _ => ∃ (x : V) (B : Nat), vs = [x] ∧ DatT B H x ∧ B ≤ 1000000 ∧ (∀ ps, ScV H x ps → ∀ H', Same H H' → Q (.bl true) H') ∧ ((∀ ps, ¬ ScV H x ps) → ∀ H', Same H H' → Q (.bl false) H')
theorem ln_size {B : Nat} (h : B ≤ 1000000) {n : Nat} (h2 : n ≤ B) : n ≤ sizeLine := Nat.le_trans (Nat.le_trans h2 h) (by decide)
theorem Ty.kStr {H : Hp} {x : V} {a : String} (t : Ty H x a) : kitB a "str" = some (decide (a = "str")) := by
  cases t with
  | non => exact kb_NoneType_str
  | bl b => exact kb_bool_str
  | int i => exact kb_int_str
  | str z => exact kb_str_str
  | lst e => exact kb_list_str
  | tup e => exact kb_tuple_str
  | dK e => exact kb_dict_str
theorem w_isStr {K : PySem.W.Frag} {H : Hp} {Q : VK} {x : V} {a : String} (t : Ty H x a) (h : Q (.bl (decide (a = "str"))) H) : rIsi K [x, .ty "str"] H Q := w_isi t.tx t.kStr h
theorem Ty.isStr {H : Hp} {x : V} {a : String} (t : Ty H x a) (e : a = "str") : ∃ z, x = .str z := by
  cases t with
  | str z => exact ⟨z, rfl⟩
  | non => exact absurd e (by decide)
  | bl _ => exact absurd e (by decide)
  | tup _ => exact absurd e (by decide)
  | int _ => exact absurd e (by decide)
  | lst _ => exact absurd e (by decide)
  | dK _ => exact absurd e (by decide)
theorem Ty.ofStr {H : Hp} {z : Str} {a : String} (t : Ty H (.str z) a) : a = "str" := by
  cases t with
  | str i => rfl
theorem Ty.ofBl {H : Hp} {z : Bool} {a : String} (t : Ty H (.bl z) a) : a = "bool" := by
  cases t with
  | bl i => rfl
section
variable {P : Program} {w : World} {K : PySem.W.Frag} {mg : Str → Option Value} {base : Heap}
theorem ok_isint {f : Addr} {fd : FuncData} (T : Txt K mg) (D : DfD K mg "is_int" s_is_int ["thing", "least"] [.int 0] f fd) : FnOk P w K mg base CX0 1 f fd ["thing", "least"] spIsInt := by
  refine okD D.fn sc_is_int (fun vs H Q E h => ?_) (fun cdv A outer s H vs Q E hr h => ?_)
  · obtain ⟨x, a, rfl, _⟩ := h
    rfl
  · obtain ⟨x, a, rfl, t, q1, q2⟩ := h
    refine ⟨_,
      (pss_one
        (ps_ret (pe_and (pe_callB (r := rIsi K) call_isi (by rfl) T.n_isinstance (by decide +kernel) (pa_cons (pv 0) (pa_cons (pe_bltn (v := .ty "int") (u := .type "int") (by rfl) T.n_int (by decide +kernel) rfl) pa_nil))) (pe_and (pe_not (pe_callB (r := rIsi K) call_isi (by rfl) T.n_isinstance (by decide +kernel) (pa_cons (pv 0) (pa_cons (pe_bltn (v := .ty "bool") (u := .type "bool") (by rfl) T.n_bool (by decide +kernel) rfl) pa_nil)))) (pe_one (pe_cmpR op_ge (pv 0) (pv 1) (nomark _)))))))
      , ?_⟩
    rw [show L2.start N_is_int [x, V.int 0] = [some x, some (.int 0)] from rfl]
    walk_at "x"
    refine w_isInt t ?_
    walk_at "g"
    refine w_itB (fun hb => ?_) (fun hb => ?_)
    · walk_at "g"
      refine w_isBool t ?_
      walk_at "g"
      refine w_itN (fun hn => ?_) (fun hn => ?_)
      · rw [decide_eq_false hn, Bool.or_false, decide_eq_true_iff] at hb
        obtain ⟨i, rfl⟩ := t.isInt hb
        walk_at "g"
        by_cases h : i ≥ 0
        · rw [decide_eq_true h]
          exact q1 i.toNat (by rw [Int.toNat_of_nonneg h])
        · rw [decide_eq_false h]
          exact q2 fun n e => by cases e; exact h (by omega)
      · exact q2 fun n e => by
          subst e
          rw [t.ofInt] at hn
          exact absurd hn (by decide)
    · exact q2 fun n e => by
        subst e
        rw [t.ofInt] at hb
        exact absurd hb (by decide)
theorem ok_istext {f : Addr} {fd : FuncData} (T : Txt K mg) (D : DfD K mg "is_text" s_is_text ["thing", "most"] [.int 40] f fd) : FnOk P w K mg base CX0 1 f fd ["thing", "most"] spIsText := by
  obtain ⟨tk_SIGNS, g_SIGNS⟩ := T.g_SIGNS
  refine okD D.fn sc_is_text (fun vs H Q E h => ?_) (fun cdv A outer s H vs Q E hr h => ?_)
  · obtain ⟨x, B, rfl, _⟩ := h
    rfl
  · obtain ⟨x, B, rfl, hd, hB, q1, q2⟩ := h
    obtain ⟨a, t⟩ := hd.ty
    refine ⟨_,
      (pss_one
        (ps_ret (pe_and (pe_callB (r := rIsi K) call_isi (by rfl) T.n_isinstance (by decide +kernel) (pa_cons (pv 0) (pa_cons (pe_bltn (v := .ty "str") (u := .type "str") (by rfl) T.n_str (by decide +kernel) rfl) pa_nil))) (pe_and (pe_cmpR op_le (pe_callB c_lenS (by rfl) T.n_len (by decide +kernel) (pa_cons (pv 0) pa_nil)) (pv 1) (nomark _)) (pe_one (pe_callB (r := rAll K) (cr_all rfl) (by rfl) T.n_all (by decide +kernel) (pa_cons (pe_lc (own := [("sign", 2)]) (g := (gName 2)) rfl sc_is_text.nd (pi_str (pv 0)) (blkOk_by (own := [("sign", 2)]) (N := N_is_text) (sc := defScope s_is_text) (by decide +kernel)) (fun _ _ _ _ _ => (pg_name (i := 2) sc_is_text.nd rfl (.inl rfl))) (fun _ _ _ _ _ => pts_nil) (fun _ _ _ _ _ => (pe_cmpR o_inS (pv 2) (pe_glob (v := .str " !\"#$&'()*+,-./0123456789:;<=>?@ABCDEFGHIJKLMNOPQRSTUVWXYZ[\\]^_`abcdefghijklmnopqrstuvwxyz{|}~") rfl g_SIGNS ⟨_, rfl⟩) rfl))) pa_nil)))))))
      , ?_⟩
    rw [show L2.start N_is_text [x, V.int 40] = [some x, some (.int 40), none] from rfl]
    walk_at "x"
    refine w_isStr t ?_
    walk_at "g"
    refine w_ite (fun hs => ?_) (fun hs => ?_)
    rotate_left
    · exact q2 (fun z e => by subst e; exact absurd t.ofStr hs) H (fun _ _ z => z)
    obtain ⟨z, rfl⟩ := t.isStr hs
    have hzl := hd.len
    walk_at "g"
    refine w_lenS (ln_size hB hzl) ?_
    walk_at "g"
    refine w_ite (fun h40 => ?_) (fun h40 => ?_)
    rotate_left
    · exact q2 (fun z' e hl => by cases e; exact h40 (by have := hl.1; omega)) H (fun _ _ z => z)
    walk_at "g"
    refine lcp_map (walk_str z) [] ((z.cps.toList.map fun c => decide (c ∈ SG.cps.toList)).map V.bl) (by simp) (by show z.length ≤ 1000000; omega) (fun _ _ => trivial) ?_ (by simp) ?_
    · rintro i x H1 H2 R hi k1 ⟨rfl, c, hc, rfl⟩ hR
      refine w_name ⟨rfl, ?_⟩
      walk_at "g"
      refine hR _ _ ?_ Kp.refl
      rw [List.getElem?_map, List.getElem?_map, Array.getElem?_toList, hc]
      rfl
    · intro L H1 hL k1 eL
      walk_at "g"
      have hk := k1.same
      by_cases h : ∀ c ∈ z.cps.toList, c ∈ SG.cps.toList
      · have e : (z.cps.toList.map fun c => decide (c ∈ SG.cps.toList)).all id = true := by
          rw [List.all_eq_true]
          intro b hb
          obtain ⟨c, hc, rfl⟩ := List.mem_map.mp hb
          exact decide_eq_true (h c hc)
        rw [e]
        exact q1 z rfl ⟨by omega, h⟩ _ hk
      · have e : (z.cps.toList.map fun c => decide (c ∈ SG.cps.toList)).all id = false := by
          rw [Bool.eq_false_iff]
          intro hall
          rw [List.all_eq_true] at hall
          exact h fun c hc => of_decide_eq_true (hall _ (List.mem_map_of_mem (f := fun c => decide (c ∈ SG.cps.toList)) hc))
        rw [e]
        exact q2 (fun z' e' hl => by cases e'; exact h hl.2) _ hk
theorem ok_madeby {f fI fT : Addr} {fd fdI fdT : FuncData} (T : Txt K mg) (F : Fun K "made_by" "made_by" s_made_by f fd) (D_is_int : DfD K mg "is_int" s_is_int ["thing", "least"] [.int 0] fI fdI) (D_is_text : DfD K mg "is_text" s_is_text ["thing", "most"] [.int 40] fT fdT) : FnOk P w K mg base CX0 2 f fd ["thing"] spMadeBy := by
  obtain ⟨ds_is_int, V_is_int, B_is_int⟩ := D_is_int.b
  obtain ⟨ds_is_text, V_is_text, B_is_text⟩ := D_is_text.b
  have G_is_int : FnOk P w K mg base CX0 1 fI fdI ["thing", "least"] spIsInt := ok_isint T D_is_int
  have G_is_text : FnOk P w K mg base CX0 1 fT fdT ["thing", "most"] spIsText := ok_istext T D_is_text
  refine F.ok sc_made_by (fun vs H Q E h => ?_) (fun cdv A outer s H vs Q E hr h => ?_)
  · obtain ⟨x, B, rfl, _⟩ := h
    rfl
  · obtain ⟨x, B, rfl, hd, hB, q1, q2⟩ := h
    refine ⟨_,
      (pss_cons
        (ps_if (PW.pt (pw_or (pt_not (pt_val (pe_callB (r := rIsi K) call_isi (by rfl) T.n_isinstance (by decide +kernel) (pa_cons (pv 0) (pa_cons (pe_bltn (v := .ty "tuple") (u := .type "tuple") (by rfl) T.n_tuple (by decide +kernel) rfl) pa_nil))))) (pw_or (pt_cmpR op_eq (pe_callB (r := rLen K) c_len (by rfl) T.n_len (by decide +kernel) (pa_cons (pv 0) pa_nil)) pe_int (nomark _)) (pw_or1 (pt_not (pt_val (pe_callB (r := rIsi K) call_isi (by rfl) T.n_isinstance (by decide +kernel) (pa_cons (pe_ix (r := rIxT K) ix_tup (pv 0) pe_int (fun _ _ => rfl)) (pa_cons (pe_bltn (v := .ty "str") (u := .type "str") (by rfl) T.n_str (by decide +kernel) rfl) pa_nil)))))))))
          (pss_one
            (ps_ret pe_int))
          pss_nil)
      (pss_cons
        (ps_if (PW.pt (pw_and (pt_cmpR op_eq (pe_ix (r := rIxT K) ix_tup (pv 0) pe_int (fun _ _ => rfl)) pe_str (nomark _)) (pw_and1 (pt_cmpR op_eq (pe_callB (r := rLen K) c_len (by rfl) T.n_len (by decide +kernel) (pa_cons (pv 0) pa_nil)) pe_int (nomark _)))))
          (pss_cons
            (ps_if (PW.pt (pw_and (pt_val (pe_call G_is_int (hr.mono (by omega)) (by rfl) D_is_int.g D_is_int.kp B_is_int V_is_int pass0 (pa_cons (pe_ix (r := rIxT K) ix_tup (pv 0) pe_int (fun _ _ => rfl)) pa_nil))) (pw_and1 (pt_val (pe_call G_is_int (hr.mono (by omega)) (by rfl) D_is_int.g D_is_int.kp B_is_int V_is_int pass0 (pa_cons (pe_ix (r := rIxT K) ix_tup (pv 0) pe_int (fun _ _ => rfl)) pa_nil))))))
              (pss_one
                (ps_ret (pe_ix (r := rIxT K) ix_tup (pv 0) pe_int (fun _ _ => rfl))))
              pss_nil)
          (pss_one
            (ps_ret pe_int)))
          pss_nil)
      (pss_cons
        (ps_if (PW.pt (pw_and (pt_cmpR op_eq (pe_ix (r := rIxT K) ix_tup (pv 0) pe_int (fun _ _ => rfl)) pe_str (nomark _)) (pw_and (pt_cmpR op_eq (pe_callB (r := rLen K) c_len (by rfl) T.n_len (by decide +kernel) (pa_cons (pv 0) pa_nil)) pe_int (nomark _)) (pw_and1 (pt_val (pe_callB (r := rIsi K) call_isi (by rfl) T.n_isinstance (by decide +kernel) (pa_cons (pe_ix (r := rIxT K) ix_tup (pv 0) pe_int (fun _ _ => rfl)) (pa_cons (pe_bltn (v := .ty "tuple") (u := .type "tuple") (by rfl) T.n_tuple (by decide +kernel) rfl) pa_nil))))))))
          (pss_one
            (ps_if (pt_val (pe_callB (r := rAll K) (cr_all rfl) (by rfl) T.n_all (by decide +kernel) (pa_cons (pe_lc (own := [("row", 1)]) (g := (gName 1)) rfl sc_made_by.nd (pi_tup (pe_ix (r := rIxT K) ix_tup (pv 0) pe_int (fun _ _ => rfl))) (blkOk_by (own := [("row", 1)]) (N := N_made_by) (sc := defScope s_made_by) (by decide +kernel)) (fun _ _ _ _ _ => (pg_name (i := 1) sc_made_by.nd rfl (.inl rfl))) (fun _ _ _ _ _ => pts_nil) (fun _ _ _ _ _ => (pe_call G_is_text (hr.mono (by omega)) (by rfl) D_is_text.g D_is_text.kp B_is_text V_is_text pass0 (pa_cons (pv 1) pa_nil)))) pa_nil)))
              (pss_one
                (ps_ret (pe_callB (r := rLen K) c_len (by rfl) T.n_len (by decide +kernel) (pa_cons (pe_ix (r := rIxT K) ix_tup (pv 0) pe_int (fun _ _ => rfl)) pa_nil))))
              pss_nil))
          pss_nil)
      (pss_one
        (ps_ret pe_int)))))
      , ?_⟩
    rw [show L2.start N_made_by [x] = [some x, none] from rfl]
    refine w_seq ?_
    walk_at "x"
    rcases hd.cases with ⟨ay, ty, hne⟩ | ⟨a, xs, rfl, ea, hxB, hxs⟩
    · refine w_isTup ty ?_
      rw [decide_eq_false hne]
      walk_at "g"
      refine q2 ?_ H (fun _ _ z => z)
      rintro p ⟨a, rfl, h, _⟩
      cases p with
      | take b m => exact hne (ty.ofTup h)
      | put ls =>
        obtain ⟨r, h1, _⟩ := h
        exact hne (ty.ofTup h1)
    -- what a piece would be
    have isPc : ∀ {p : Pc}, PcV H (.ref a) p → (∃ b m : Nat, xs = [.str "take", .int (b : Int), .int (m : Int)] ∧ p = .take b m ∧ 1 ≤ m) ∨ ∃ r ls, xs = [.str "put", .ref r] ∧ p = .put ls ∧ RwAt H r ls ∧ ls ≠ [] ∧ ∀ z ∈ ls, LineOk z := by
      rintro p ⟨a', e, h, hok⟩
      cases e
      cases p with
      | take b m =>
        have e := Option.some.inj (ea.symm.trans h)
        injection e with e
        exact .inl ⟨b, m, e, rfl, hok⟩
      | put ls =>
        obtain ⟨r, h1, h2⟩ := h
        have e := Option.some.inj (ea.symm.trans h1)
        injection e with e
        exact .inr ⟨r, ls, e, rfl, h2, hok.1, hok.2⟩
    have no : (∀ p, ¬ PcV H (.ref a) p) → Q (.int 0) H := fun h => q2 h H (fun _ _ z => z)
    walk_at "g"
    refine w_ite (fun h0 => ?_) (fun h0 => ?_)
    · walk_at "g"
      refine no fun p hp => ?_
      rcases isPc hp with ⟨b, m, e, _⟩ | ⟨r, ls, e, _⟩
      · rw [e] at h0
        simp only [List.length_cons, List.length_nil] at h0
        omega
      · rw [e] at h0
        simp only [List.length_cons, List.length_nil] at h0
        omega
    obtain ⟨x0, xr, rfl⟩ : ∃ x0 xr, xs = x0 :: xr := by
      cases xs with
      | nil => exact absurd rfl h0
      | cons x0 xr => exact ⟨x0, xr, rfl⟩
    obtain ⟨a0, t0⟩ := (hxs x0 (by simp)).ty
    have at0 : atI (x0 :: xr) 0 = some x0 := atI_nat (j := 0) rfl
    walk_at "g"
    refine w_isStr t0 ?_
    walk_at "g"
    refine w_itN (fun hs => ?_) (fun hs => ?_)
    · walk_at "g"
      refine no fun p hp => ?_
      rcases isPc hp with ⟨b, m, e, _⟩ | ⟨r, ls, e, _⟩
      · rw [(List.cons.inj e).1] at t0; exact hs t0.ofStr
      · rw [(List.cons.inj e).1] at t0; exact hs t0.ofStr
    obtain ⟨wd, rfl⟩ := t0.isStr hs
    walk_at "g"
    refine w_seqJ (fun σ' H' => σ' = [some (.ref a), none] ∧ H' = H ∧ ¬ (wd = "take" ∧ xr.length = 2)) ?_ ?_
    rotate_left
    · intro U hU
      walk_at "g"
      refine w_ite (fun h1 => ?_) (fun h1 => ?_)
      rotate_left
      · walk_at "g"
        exact hU _ _ ⟨rfl, rfl, fun z => h1 z.1⟩
      walk_at "g"
      refine w_ite (fun h2 => ?_) (fun h2 => ?_)
      rotate_left
      · walk_at "g"
        exact hU _ _ ⟨rfl, rfl, fun z => h2 (by rw [List.length_cons, z.2]; rfl)⟩
      obtain ⟨x1, x2, rfl⟩ : ∃ x1 x2, xr = [x1, x2] := by
        match xr, h2 with
        | [x1, x2], _ => exact ⟨x1, x2, rfl⟩
        | [], h => simp only [List.length_cons, List.length_nil] at h; omega
        | [_], h => simp only [List.length_cons, List.length_nil] at h; omega
        | _ :: _ :: _ :: _, h => simp only [List.length_cons] at h; omega
      subst h1
      obtain ⟨a1, t1⟩ := (hxs x1 (by simp)).ty
      obtain ⟨a2, t2⟩ := (hxs x2 (by simp)).ty
      have at1 : atI [V.str "take", x1, x2] 1 = some x1 := atI_nat (j := 1) rfl
      have at2 : atI [V.str "take", x1, x2] 2 = some x2 := atI_nat (j := 2) rfl
      refine w_seq ?_
      walk_at "g"
      refine ⟨x1, a1, rfl, t1, fun b hb => ?_, fun hb => ?_⟩
      · walk_at "g"
        refine ⟨x2, a2, rfl, t2, fun m hm => ?_, fun hm => ?_⟩
        · walk_at "g"
          subst hb hm
          by_cases hm0 : m = 0
          · subst hm0
            refine no fun p hp => ?_
            rcases isPc hp with ⟨b', m', e, _, hm'⟩ | ⟨r, ls, e, _⟩
            · have e2 : ((0 : Nat) : Int) = (m' : Int) := by simpa using (List.cons.inj (List.cons.inj (List.cons.inj e).2).2).1
              omega
            · have := congrArg List.length e
              simp at this
          · exact q1 (.take b m) ⟨a, rfl, ea, by show 1 ≤ m; omega⟩ H (fun _ _ z => z)
        · walk_at "g"
          refine no fun p hp => ?_
          rcases isPc hp with ⟨b', m', e, _⟩ | ⟨r, ls, e, _⟩
          · exact hm m' (by simpa using (List.cons.inj (List.cons.inj (List.cons.inj e).2).2).1)
          · have := congrArg List.length e
            simp at this
      · walk_at "g"
        refine no fun p hp => ?_
        rcases isPc hp with ⟨b', m', e, _⟩ | ⟨r, ls, e, _⟩
        · exact hb b' (by simpa using (List.cons.inj (List.cons.inj e).2).1)
        · have := congrArg List.length e
          simp at this
    rintro σ' H' ⟨rfl, rfl, hnt⟩
    have no2 : (∀ r ls, xr = [.ref r] → wd = "put" → RwAt H' r ls → (∀ z ∈ ls, LineOk z) → ls = []) → ∀ p, ¬ PcV H' (.ref a) p := fun hn p hp => by
      rcases isPc hp with ⟨b', m', e, _⟩ | ⟨r, ls, e, _, h1, h2, h3⟩
      · refine hnt ⟨V.str.inj (List.cons.inj e).1, ?_⟩
        rw [(List.cons.inj e).2]
        rfl
      · exact h2 (hn r ls (List.cons.inj e).2 (V.str.inj (List.cons.inj e).1) h1 h3)
    refine w_seqJ (fun σ' H1 => (∃ y, σ' = [some (.ref a), y]) ∧ Same H' H1 ∧ ∀ p, ¬ PcV H' (.ref a) p) ?_ ?_
    · rintro σ' H1 ⟨⟨y, rfl⟩, k1, hn⟩
      walk_at "g"
      exact q2 hn _ k1
    intro U hU
    walk_at "g"
    refine w_ite (fun h1 => ?_) (fun h1 => ?_)
    rotate_left
    · walk_at "g"
      exact hU _ _ ⟨⟨_, rfl⟩, fun _ _ z => z, no2 fun r ls _ e => absurd e h1⟩
    walk_at "g"
    refine w_ite (fun h2 => ?_) (fun h2 => ?_)
    rotate_left
    · walk_at "g"
      exact hU _ _ ⟨⟨_, rfl⟩, fun _ _ z => z, no2 fun r ls e => by rw [e] at h2; exact absurd rfl h2⟩
    obtain ⟨x1, rfl⟩ : ∃ x1, xr = [x1] := by
      match xr, h2 with
      | [x1], _ => exact ⟨x1, rfl⟩
      | [], h => simp only [List.length_cons, List.length_nil] at h; omega
      | _ :: _ :: _, h => simp only [List.length_cons] at h; omega
    subst h1
    have at1 : atI [V.str "put", x1] 1 = some x1 := atI_nat (j := 1) rfl
    walk_at "g"
    have hd1 := hxs x1 (by simp)
    rcases hd1.cases with ⟨ay, ty, hne⟩ | ⟨b, ys, rfl, eb, hyB, hys⟩
    · refine w_isTup ty ?_
      rw [decide_eq_false hne]
      walk_at "g"
      exact hU _ _ ⟨⟨_, rfl⟩, fun _ _ z => z, no2 fun r ls e _ hr' => by
        have e1 : x1 = .ref r := by simpa using e
        subst e1
        exact absurd (ty.ofTup hr') hne⟩
    walk_at "g"
    refine lcp_gen (walk_tup (K := K) (a := b) (xs := ys)) [] (fun i y _ => ∃ bb : Bool, y = .bl bb ∧ ∀ z, ys[i]? = some z → (bb = true ↔ ∃ z', z = .str z' ∧ LineOk z')) (fun _ _ => True) (by omega) (fun _ _ _ _ _ h => h) (fun _ _ _ _ _ _ => trivial) (fun _ H1 k _ => .of (k _ _ (by simp) eb)) trivial ?_ (by simp) ?_
    · rintro i x H1 H2 R hi k1 t1 _ ⟨rfl, hx⟩ hR
      have hdx := (hys x (List.mem_of_getElem? hx)).kd (KD.of k1.same)
      refine w_name ⟨rfl, ?_⟩
      walk_at "g"
      refine ⟨x, B, rfl, hdx, hB, fun z e hl H3 k3 => ?_, fun hn H3 k3 => ?_⟩
      · exact hR _ _ ⟨true, rfl, fun z' hz' => ⟨fun _ => ⟨z, by rw [hx] at hz'; cases hz'; exact ⟨e, hl⟩⟩, fun _ => rfl⟩⟩ (Kp.of k3) (KT.of k3) trivial
      · exact hR _ _ ⟨false, rfl, fun z' hz' => ⟨fun h => Bool.noConfusion h, fun ⟨z'', e, hl⟩ => by rw [hx] at hz'; cases hz'; exact absurd hl (hn z'' e)⟩⟩ (Kp.of k3) (KT.of k3) trivial
    · intro L H1 vs hvl hvp hL k1' t1 _ eL
      have k1 := k1'.same
      obtain ⟨bs, rfl⟩ : ∃ bs : List Bool, vs = bs.map V.bl := by
        have : ∀ {vs : List V}, (∀ y ∈ vs, ∃ b : Bool, y = .bl b) → ∃ bs : List Bool, vs = bs.map V.bl := by
          intro vs
          induction vs with
          | nil => intro _; exact ⟨[], rfl⟩
          | cons v vs ih =>
            intro h
            obtain ⟨b, rfl⟩ := h v (by simp)
            obtain ⟨bs, rfl⟩ := ih fun y hy => h y (by simp [hy])
            exact ⟨b :: bs, rfl⟩
        refine this fun y hy => ?_
        obtain ⟨i, hi, e⟩ := List.getElem_of_mem hy
        obtain ⟨bb, e2, _⟩ := hvp i y (by rw [List.getElem?_eq_getElem hi, e])
        exact ⟨bb, e2⟩
      have ea1 := k1 _ _ ea
      have eb1 := k1 _ _ eb
      rw [List.length_map] at hvl
      have hb : ∀ (i : Nat) (z : V), ys[i]? = some z → (bs[i]? = some true ↔ ∃ z', z = .str z' ∧ LineOk z') := fun i z hz => by
        have hi : i < bs.length := by rw [hvl]; exact (List.getElem?_eq_some_iff.mp hz).1
        obtain ⟨bb, e, h⟩ := hvp i (.bl bs[i]) (by rw [List.getElem?_map, List.getElem?_eq_getElem hi]; rfl)
        cases e
        rw [List.getElem?_eq_getElem hi, Option.some.injEq]
        exact h z hz
      walk_at "g"
      refine w_itB (fun hall => ?_) (fun hall => ?_)
      · walk_at "g"
        have allTrue : ∀ i, i < bs.length → bs[i]? = some true := fun i hi => by
          rw [List.all_eq_true] at hall
          rw [List.getElem?_eq_getElem hi]
          exact congrArg some (hall _ (List.getElem_mem hi))
        obtain ⟨ls, hls, hlo⟩ : ∃ ls : List Str, ys = ls.map V.str ∧ ∀ z ∈ ls, LineOk z := by
          have : ∀ {ys : List V}, (∀ y ∈ ys, ∃ z, y = .str z ∧ LineOk z) → ∃ ls : List Str, ys = ls.map V.str ∧ ∀ z ∈ ls, LineOk z := by
            intro ys
            induction ys with
            | nil => intro _; exact ⟨[], rfl, by simp⟩
            | cons v vs ih =>
              intro h
              obtain ⟨b, rfl, hb⟩ := h v (by simp)
              obtain ⟨bs, rfl, hbs⟩ := ih fun y hy => h y (by simp [hy])
              exact ⟨b :: bs, rfl, fun z hz => by
                rcases List.mem_cons.mp hz with rfl | hz
                · exact hb
                · exact hbs z hz⟩
          refine this fun y hy => ?_
          obtain ⟨i, hi, e⟩ := List.getElem_of_mem hy
          have ey : ys[i]? = some y := by rw [List.getElem?_eq_getElem hi, e]
          exact (hb i y ey).mp (allTrue i (by omega))
        have er : RwAt H' b ls := by show H' b = some (.tup (ls.map V.str)); rw [← hls]; exact eb
        have el : ls.length = ys.length := by rw [hls, List.length_map]
        by_cases h0' : ls = []
        · subst h0'
          have : ys = [] := by rw [hls]; rfl
          subst this
          refine q2 (no2 fun r ls' e _ hr' _ => ?_) _ k1
          have e1 : b = r := by simpa using e
          subst e1
          have e2 := Option.some.inj (er.symm.trans hr')
          injection e2 with e2
          cases ls' with
          | nil => rfl
          | cons _ _ => simp at e2
        · have := q1 (.put ls) ⟨a, rfl, ⟨b, ea, er⟩, h0', hlo⟩ _ k1
          rw [show ((Pc.put ls).size : Int) = (ys.length : Int) by show ((ls.length : Nat) : Int) = _; rw [el]] at this
          exact this
      · walk_at "g"
        refine hU _ _ ⟨⟨_, rfl⟩, k1, no2 fun r ls e _ hr' hlo => ?_⟩
        have e1 : b = r := by simpa using e
        subst e1
        have e2 := Option.some.inj (eb.symm.trans hr')
        injection e2 with e2
        exfalso
        rw [Bool.eq_false_iff] at hall
        refine hall (List.all_eq_true.mpr fun bb hbb => ?_)
        obtain ⟨i, hi, e⟩ := List.getElem_of_mem hbb
        have hi2 : i < ys.length := by omega
        have := (hb i ys[i] (List.getElem?_eq_getElem hi2)).mpr (by
          subst e2
          have hi3 : i < ls.length := by rw [List.length_map] at hi2; exact hi2
          exact ⟨ls[i], by rw [List.getElem_map], hlo _ (List.getElem_mem hi3)⟩)
        rw [List.getElem?_eq_getElem hi, Option.some.injEq] at this
        rw [← e]
        exact this
theorem ok_isscript {f fM fI fT : Addr} {fd fdM fdI fdT : FuncData} (T : Txt K mg) (F : Fun K "is_script" "is_script" s_is_script f fd) (D_made_by : Df K mg "made_by" s_made_by ["thing"] fM fdM) (D_is_int : DfD K mg "is_int" s_is_int ["thing", "least"] [.int 0] fI fdI) (D_is_text : DfD K mg "is_text" s_is_text ["thing", "most"] [.int 40] fT fdT) : FnOk P w K mg base CX0 3 f fd ["thing"] spIsScript := by
  obtain ⟨tk_ROWS, g_ROWS⟩ := T.g_ROWS
  have G_made_by : FnOk P w K mg base CX0 2 fM fdM ["thing"] spMadeBy := ok_madeby T D_made_by.fn D_is_int D_is_text
  refine F.ok sc_is_script (fun vs H Q E h => ?_) (fun cdv A outer s H vs Q E hr h => ?_)
  · obtain ⟨x, B, rfl, _⟩ := h
    rfl
  · obtain ⟨x, B, rfl, hd, hB, q1, q2⟩ := h
    refine ⟨_,
      (pss_cons
        (ps_if (pt_not (pt_val (pe_callB (r := rIsi K) call_isi (by rfl) T.n_isinstance (by decide +kernel) (pa_cons (pv 0) (pa_cons (pe_bltn (v := .ty "tuple") (u := .type "tuple") (by rfl) T.n_tuple (by decide +kernel) rfl) pa_nil)))))
          (pss_one
            (ps_ret pe_bl))
          pss_nil)
      (pss_cons
        (ps_set (i := 1) sc_is_script.nd rfl (.inl rfl) pe_int)
      (pss_cons
        (ps_for PassesOwn.never rfl (pi_tup (pv 0)) (pg_name (i := 2) sc_is_script.nd rfl (.inl rfl))
          (pss_cons
            (ps_set (i := 3) sc_is_script.nd rfl (.inl rfl) (pe_call G_made_by (hr.mono (by omega)) (by rfl) D_made_by.g D_made_by.fn.kp D_made_by.b .nil pass0 (pa_cons (pv 2) pa_nil)))
          (pss_cons
            (ps_aug (i := 1) sc_is_script.nd rfl (.inl rfl) (pv 3) ip_add)
          (pss_one
            (ps_if (PW.pt (pw_or (pt_cmpR op_eq (pv 3) pe_int (nomark _)) (pw_or1 (pt_cmpR op_gt (pv 1) (pe_glob (v := .int 40) rfl g_ROWS ⟨_, rfl⟩) (nomark _)))))
              (pss_one
                (ps_ret pe_bl))
              pss_nil)))))
      (pss_one
        (ps_ret pe_bl)))))
      , ?_⟩
    rw [show L2.start N_is_script [x] = [some x, none, none, none] from rfl]
    refine w_seq ?_
    walk_at "x"
    rcases hd.cases with ⟨ay, ty, hne⟩ | ⟨a, xs, rfl, ea, hxB, hxs⟩
    · refine w_isTup ty ?_
      rw [decide_eq_false hne]
      walk_at "g"
      refine q2 ?_ H (fun _ _ z => z)
      rintro ps ⟨s, rfl, h, _⟩
      exact hne (ty.ofTup h.at')
    walk_at "g"
    have back : ∀ {H1 : Hp} {y : V} {p : Pc}, y ∈ xs → Same H H1 → PcV H1 y p → PcV H y p := by
      rintro H1 y p hy k ⟨b, rfl, h, ok⟩
      have db := hxs _ hy
      cases p with
      | take u m => exact ⟨b, rfl, db.back k h, ok⟩
      | put ls =>
        obtain ⟨r, h1, h2⟩ := h
        have h1' := db.back k h1
        exact ⟨b, rfl, ⟨r, h1', ((db.elem h1').2 (.ref r) (by simp)).back k h2⟩, ok⟩
    have parts : ∀ {ps : List (Addr × Pc)}, ScV H (.ref a) ps → xs = ps.map fun q => .ref q.1 := by
      rintro ps ⟨s', e, h, _⟩
      cases e
      have e := Option.some.inj (ea.symm.trans h.at')
      injection e
    refine lp_tup (xs := xs) (fun i σ H' => Same H H' ∧ ∃ (y2 y3 : Option V) (ps : List (Addr × Pc)), σ = [some (.ref a), some (.int (sizes (ps.map (·.2)) : Int)), y2, y3] ∧ xs.take i = ps.map (fun q => .ref q.1) ∧ (∀ q ∈ ps, PcAt H q.1 q.2 ∧ q.2.ok) ∧ sizes (ps.map (·.2)) ≤ 40) ?_ ?_ ?_ ?_
    · exact ⟨fun _ _ z => z, _, _, [], rfl, rfl, by simp, by simp [sizes]⟩
    · rintro i σ H' _ ⟨k, _⟩
      exact .of (k _ _ ea)
    · rintro i y σ H1 hy ⟨k1, y2, y3, ps, rfl, htk, hpc, hsz⟩
      have hym := List.mem_of_getElem? hy
      have hdy := (hxs y hym).kd (KD.of k1)
      -- what stands ahead in a script is what was found
      have ahead : ∀ {ps' : List (Addr × Pc)}, ScV H (.ref a) ps' → ∃ p, PcV H y p ∧ sizes (ps.map (·.2)) + p.size ≤ 40 := by
        intro ps' h
        have e := parts h
        obtain ⟨s', e', h1, h2⟩ := h
        cases e'
        rw [e] at hy htk
        obtain ⟨q, hq, rfl⟩ := map_at hy
        have hqm := List.mem_of_getElem? hq
        refine ⟨q.2, ⟨q.1, rfl, h1.pc q hqm, h2.ok _ (List.mem_map_of_mem hqm)⟩, ?_⟩
        have same : ∀ (l l' : List (Addr × Pc)), (l.map fun q => V.ref q.1) = (l'.map fun q => V.ref q.1) → (∀ q ∈ l, PcAt H q.1 q.2) → (∀ q ∈ l', PcAt H q.1 q.2) → l.map (·.2) = l'.map (·.2) := by
          intro l
          induction l with
          | nil => intro l' h _ _; cases l' with | nil => rfl | cons _ _ => simp at h
          | cons x l ih =>
            intro l' h hx hx'
            cases l' with
            | nil => simp at h
            | cons x' l' =>
              rw [List.map_cons, List.map_cons, List.cons.injEq] at h
              have e1 : x.1 = x'.1 := V.ref.inj h.1
              have p1 := hx x (by simp)
              rw [e1] at p1
              rw [List.map_cons, List.map_cons, p1.det (hx' x' (by simp)), ih l' h.2 (fun q hq => hx q (by simp [hq])) (fun q hq => hx' q (by simp [hq]))]
        have e2 : ps.map (·.2) = (ps'.take i).map (·.2) := same _ _ (by rw [← htk, List.map_take]) (fun q hq => (hpc q hq).1) fun q hq => h1.pc q (List.mem_of_mem_take hq)
        have e3 : (ps'.take (i + 1)).map (·.2) = (ps'.take i).map (·.2) ++ [q.2] := by rw [take_at hq, List.map_append]; rfl
        have e4 := sizes_take (ps'.map (·.2)) (i + 1)
        rw [← List.map_take, e3, sizes_snoc, ← e2] at e4
        have := h2.few
        omega
      walk_at "g"
      refine ⟨y, B, rfl, hdy, hB, fun p hp H2 k2 => ?_, fun hn H2 k2 => ?_⟩
      · have hp' := back hym k1 hp
        have hpos := hp'.choose_spec.2.2.pos
        walk_at "g"
        refine w_no (by omega) ?_
        walk_at "g"
        refine w_ite (fun h40 => ?_) (fun h40 => ?_)
        · walk_at "g"
          refine q2 (fun ps' h => ?_) _ (Same.trans k1 k2)
          obtain ⟨p', hp2, hle⟩ := ahead h
          obtain ⟨b1, e1, h1, _⟩ := hp'
          obtain ⟨b2, e2, h2, _⟩ := hp2
          rw [e1] at e2
          cases e2
          rw [h2.det h1] at hle
          omega
        · walk_at "g"
          obtain ⟨b1, rfl, h1, ok1⟩ := hp'
          refine ⟨Same.trans k1 k2, some (.ref b1), some (.int (p.size : Int)), ps ++ [(b1, p)], ?_, ?_, fun q hq => ?_, ?_⟩
          · rw [List.map_append, show List.map (fun x : Addr × Pc => x.2) [(b1, p)] = [p] from rfl, sizes_snoc]
            simp
          · rw [take_at hy, htk, List.map_append]
            rfl
          · rcases List.mem_append.mp hq with h | h
            · exact hpc q h
            · have e : q = (b1, p) := by simpa using h
              subst e
              exact ⟨h1, ok1⟩
          · rw [List.map_append, show List.map (fun x : Addr × Pc => x.2) [(b1, p)] = [p] from rfl, sizes_snoc]
            omega
      · walk_at "g"
        refine w_yes rfl ?_
        walk_at "g"
        refine q2 (fun ps' h => ?_) _ (Same.trans k1 k2)
        obtain ⟨p', ⟨b2, rfl, h2, ok2⟩, _⟩ := ahead h
        exact hn p' ⟨b2, rfl, h2.kt (KT.of k1), ok2⟩
    · rintro σ H1 ⟨k1, y2, y3, ps, rfl, htk, hpc, hsz⟩
      rw [List.take_length] at htk
      walk_at "g"
      refine q1 ps ⟨a, rfl, ⟨by rw [← htk]; exact ea, fun q hq => (hpc q hq).1⟩, ⟨fun p hp => ?_, hsz⟩⟩ _ k1
      obtain ⟨q, hq, rfl⟩ := List.mem_map.mp hp
      exact (hpc q hq).2
end
def spPrice : Sp := fun vs H Q _ => ∃ (s : Addr) (t p : Int) (ps : List (Addr × Pc)), vs = [.ref s, .int t, .int p] ∧ 0 ≤ p ∧ p < 2 ^ 60 ∧ ScAt H s ps ∧ ScOk (ps.map (·.2)) ∧ ∀ H', Same H H' → Q (.int (costs t p (ps.map (·.2)))) H'
section
variable {P : Program} {w : World} {K : PySem.W.Frag} {mg : Str → Option Value} {base : Heap}
theorem ok_price {f fS fM fI fT : Addr} {fd fdS fdM fdI fdT : FuncData} (T : Txt K mg) (F : FunD K "price" "price" (defArgs s_price) (defBody s_price) (defScope s_price) [] [("take", .int 3), ("put", .int 2)] f fd) (D_is_script : Df K mg "is_script" s_is_script ["thing"] fS fdS) (D_made_by : Df K mg "made_by" s_made_by ["thing"] fM fdM) (D_is_int : DfD K mg "is_int" s_is_int ["thing", "least"] [.int 0] fI fdI) (D_is_text : DfD K mg "is_text" s_is_text ["thing", "most"] [.int 40] fT fdT) : FnOk P w K mg base CX0 4 f fd ["script", "take", "put"] spPrice := by
  have G_is_script : FnOk P w K mg base CX0 3 fS fdS ["thing"] spIsScript := ok_isscript T D_is_script.fn D_made_by D_is_int D_is_text
  refine okD F sc_price (fun vs H Q E h => ?_) (fun cdv A outer s H vs Q E hr h => ?_)
  · obtain ⟨s, t, p, ps, rfl, _⟩ := h
    rfl
  · obtain ⟨s', t, p, ps, rfl, hp0, hp1, hS, hO, q⟩ := h
    refine ⟨_,
      (pss_cons
        (ps_if (pt_not (pt_val (pe_call G_is_script (hr.mono (by omega)) (by rfl) D_is_script.g D_is_script.fn.kp D_is_script.b .nil pass0 (pa_cons (pv 0) pa_nil))))
          pss_never
          pss_nil)
      (pss_cons
        (ps_set (i := 3) sc_price.nd rfl (.inl rfl) pe_int)
      (pss_cons
        (ps_for PassesOwn.never rfl (pi_tup (pv 0)) (pg_name (i := 4) sc_price.nd rfl (.inl rfl))
          (pss_one
            (ps_if (pt_cmpR op_eq (pe_ix (r := rIxT K) ix_tup (pv 4) pe_int (fun _ _ => rfl)) pe_str (nomark _))
              (pss_one
                (ps_aug (i := 3) sc_price.nd rfl (.inl rfl) (pv 1) ip_add))
              (pss_one
                (ps_aug (i := 3) sc_price.nd rfl (.inl rfl) (pe_op op_mul (pv 2) (pe_callB (r := rLen K) c_len (by rfl) T.n_len (by decide +kernel) (pa_cons (pe_ix (r := rIxT K) ix_tup (pv 4) pe_int (fun _ _ => rfl)) pa_nil))) ip_add)))))
      (pss_one
        (ps_ret (pv 3))))))
      , ?_⟩
    rw [show L2.start N_price [V.ref s', V.int t, V.int p] = [some (.ref s'), some (.int t), some (.int p), none, none] from rfl]
    refine w_seq ?_
    walk_at "x"
    refine ⟨.ref s', 40, rfl, hS.dat hO (Nat.le_refl _), by omega, fun _ _ H1 k1 => ?_, fun hn => absurd ⟨s', rfl, hS, hO⟩ (hn ps)⟩
    have st := k1 _ _ hS.at'
    walk_at "g"
    refine lp_tup (xs := ps.map fun q => .ref q.1) (fun i σ H' => H' = H1 ∧ ∃ y4 : Option V, σ = [some (.ref s'), some (.int t), some (.int p), some (.int (costs t p ((ps.take i).map (·.2)))), y4]) ⟨rfl, _, rfl⟩ ?_ ?_ ?_
    · rintro i σ H' _ ⟨rfl, _⟩
      exact .of st
    · rintro i y σ H' hy ⟨rfl, y4, rfl⟩
      obtain ⟨z, hz, rfl⟩ := map_at hy
      have hzm := List.mem_of_getElem? hz
      have hpc := (hS.pc z hzm).kt (KT.of k1)
      have tk : (ps.take (i + 1)).map (·.2) = (ps.take i).map (·.2) ++ [z.2] := by rw [take_at hz, List.map_append]; rfl
      obtain ⟨za, zp⟩ := z
      cases zp with
      | take u m =>
        have hpc' : H' za = some (.tup [.str "take", .int (u : Int), .int (m : Int)]) := hpc
        walk_at "g"
        refine w_yes rfl ?_
        walk_at "g"
        refine ⟨rfl, some (.ref za), ?_⟩
        rw [tk, costs_snoc]
        rfl
      | put ls =>
        obtain ⟨r, hpc1, hpc2⟩ := hpc
        have hpc2' : H' r = some (.tup (ls.map V.str)) := hpc2
        walk_at "g"
        refine w_no (by decide) ?_
        walk_at "g"
        refine ⟨rfl, some (.ref za), ?_⟩
        rw [tk, costs_snoc, List.length_map]
        rfl
    · rintro σ H' ⟨rfl, y4, rfl⟩
      rw [List.length_map, List.take_length]
      walk_at "g"
      exact q _ k1
end
/-! ### contents and books -/
inductive Ct where
  | leaf (rows : List Str)
  | tree (es : List (Str × Nat))
  | ver (ps : List Nat) (root stamp : Nat)
abbrev nV (n : Nat) : V := .int (n : Int)
def CtAt (H : Hp) (a : Addr) : Ct → Prop
  | .leaf rows => ∃ r, H a = some (.tup [.str "leaf", .ref r]) ∧ RwAt H r rows
  | .tree es => ∃ (r : Addr) (qs : List (Addr × Str × Nat)), H a = some (.tup [.str "tree", .ref r]) ∧ H r = some (.tup (qs.map fun q => .ref q.1)) ∧ qs.map (·.2) = es ∧ ∀ q ∈ qs, H q.1 = some (.tup [.str q.2.1, nV q.2.2])
  | .ver ps root stamp => ∃ r, H a = some (.tup [.str "version", .ref r, nV root, nV stamp]) ∧ H r = some (.tup (ps.map nV))
theorem CtAt.kt {H H' : Hp} {a : Addr} {c : Ct} (h : CtAt H a c) (k : KT H H') : CtAt H' a c := by
  cases c with
  | leaf rows =>
    obtain ⟨r, h1, h2⟩ := h
    exact ⟨r, k _ _ h1, k _ _ h2⟩
  | tree es =>
    obtain ⟨r, qs, h1, h2, h3, h4⟩ := h
    exact ⟨r, qs, k _ _ h1, k _ _ h2, h3, fun q hq => k _ _ (h4 q hq)⟩
  | ver ps root stamp =>
    obtain ⟨r, h1, h2⟩ := h
    exact ⟨r, k _ _ h1, k _ _ h2⟩
def Ct.word : Ct → Str
  | .leaf _ => "leaf"
  | .tree _ => "tree"
  | .ver _ _ _ => "version"
def Ct.key : Ct → NestedKey
  | .leaf rows => .tup [.text "leaf", .tup (rows.map .text)]
  | .tree es => .tup [.text "tree", .tup (es.map fun e => .tup [.text e.1, .num (e.2 : Int)])]
  | .ver ps root stamp => .tup [.text "version", .tup (ps.map fun n : Nat => .num (n : Int)), .num (root : Int), .num (stamp : Int)]
theorem nall_strs {H : Hp} : ∀ rows : List Str, NAll H (rows.map .text) (rows.map V.str)
  | [] => .nil
  | z :: r => .cons (.str z) (nall_strs r)
theorem nall_nats {H : Hp} : ∀ ns : List Nat, NAll H (ns.map fun n : Nat => .num (n : Int)) (ns.map nV)
  | [] => .nil
  | z :: r => .cons (.int _) (nall_nats r)
theorem nall_ents {H : Hp} : ∀ qs : List (Addr × Str × Nat), (∀ q ∈ qs, H q.1 = some (.tup [.str q.2.1, nV q.2.2])) → NAll H ((qs.map (·.2)).map fun e => .tup [.text e.1, .num (e.2 : Int)]) (qs.map fun q => .ref q.1)
  | [], _ => .nil
  | q :: r, h => .cons (.tup (h q (by simp)) (.cons (.str _) (.cons (.int _) .nil))) (nall_ents r fun z hz => h z (by simp [hz]))
theorem CtAt.nk {H : Hp} {a : Addr} {c : Ct} (h : CtAt H a c) : NAt H c.key (.ref a) := by
  cases c with
  | leaf rows =>
    obtain ⟨r, h1, h2⟩ := h
    exact .tup h1 (.cons (.str _) (.cons (.tup h2 (nall_strs rows)) .nil))
  | tree es =>
    obtain ⟨r, qs, h1, h2, rfl, h4⟩ := h
    exact .tup h1 (.cons (.str _) (.cons (.tup h2 (nall_ents qs h4)) .nil))
  | ver ps root stamp =>
    obtain ⟨r, h1, h2⟩ := h
    exact .tup h1 (.cons (.str _) (.cons (.tup h2 (nall_nats ps)) (.cons (.int _) (.cons (.int _) .nil))))
theorem da_texts : ∀ rows : List Str, NestedKey.depthAll (rows.map .text) = 0
  | [] => rfl
  | z :: r => by rw [List.map_cons, NestedKey.depthAll, da_texts r]; rfl
theorem da_nats : ∀ ns : List Nat, NestedKey.depthAll (ns.map fun n : Nat => .num (n : Int)) = 0
  | [] => rfl
  | z :: r => by rw [List.map_cons, NestedKey.depthAll, da_nats r]; rfl
theorem da_ents : ∀ es : List (Str × Nat), NestedKey.depthAll (es.map fun e => .tup [.text e.1, .num (e.2 : Int)]) ≤ 1
  | [] => Nat.zero_le _
  | z :: r => by
    rw [List.map_cons, NestedKey.depthAll]
    have := da_ents r
    have e : NestedKey.depth (.tup [.text z.1, .num (z.2 : Int)]) = 1 := rfl
    rw [e]
    omega
theorem Ct.key_depth (c : Ct) : c.key.depth ≤ 8 := by
  cases c with
  | leaf rows =>
    show NestedKey.depthAll [.text "leaf", .tup (rows.map .text)] + 1 ≤ 8
    simp only [NestedKey.depthAll, NestedKey.depth, da_texts]
    decide
  | tree es =>
    show NestedKey.depthAll [.text "tree", .tup (es.map fun e => .tup [.text e.1, .num (e.2 : Int)])] + 1 ≤ 8
    have := da_ents es
    simp only [NestedKey.depthAll, NestedKey.depth]
    omega
  | ver ps root stamp =>
    show NestedKey.depthAll [.text "version", .tup (ps.map fun n : Nat => .num (n : Int)), .num (root : Int), .num (stamp : Int)] + 1 ≤ 8
    simp only [NestedKey.depthAll, NestedKey.depth, da_nats]
    decide
theorem text_inj : ∀ {xs ys : List Str}, xs.map NestedKey.text = ys.map NestedKey.text → xs = ys
  | [], [], _ => rfl
  | [], _ :: _, h => by simp at h
  | _ :: _, [], h => by simp at h
  | x :: xs, y :: ys, h => by
    rw [List.map_cons, List.map_cons, List.cons.injEq] at h
    injection h.1 with e
    rw [e, text_inj h.2]
theorem num_inj : ∀ {xs ys : List Nat}, (xs.map fun n : Nat => NestedKey.num (n : Int)) = (ys.map fun n : Nat => NestedKey.num (n : Int)) → xs = ys
  | [], [], _ => rfl
  | [], _ :: _, h => by simp at h
  | _ :: _, [], h => by simp at h
  | x :: xs, y :: ys, h => by
    rw [List.map_cons, List.map_cons, List.cons.injEq] at h
    injection h.1 with e
    rw [show x = y by omega, num_inj h.2]
theorem ent_inj : ∀ {xs ys : List (Str × Nat)}, (xs.map fun e => NestedKey.tup [.text e.1, .num (e.2 : Int)]) = (ys.map fun e => NestedKey.tup [.text e.1, .num (e.2 : Int)]) → xs = ys
  | [], [], _ => rfl
  | [], _ :: _, h => by simp at h
  | _ :: _, [], h => by simp at h
  | x :: xs, y :: ys, h => by
    rw [List.map_cons, List.map_cons, List.cons.injEq] at h
    injection h.1 with e
    have e1 := (List.cons.inj e).1
    have e2 := (List.cons.inj (List.cons.inj e).2).1
    injection e1 with e1
    injection e2 with e2
    rw [show x = y from Prod.ext e1 (by omega), ent_inj h.2]
theorem lit_ne1 : ¬ ((Str.ofString "leaf") = "tree") := by decide +kernel
theorem lit_ne2 : ¬ ((Str.ofString "leaf") = "version") := by decide +kernel
theorem lit_ne3 : ¬ ((Str.ofString "tree") = "version") := by decide +kernel
theorem lit_ne4 : ¬ ((Str.ofString "tree") = "leaf") := by decide +kernel
theorem lit_ne5 : ¬ ((Str.ofString "version") = "leaf") := by decide +kernel
theorem lit_ne6 : ¬ ((Str.ofString "version") = "tree") := by decide +kernel
theorem Ct.key_inj {c d : Ct} (h : c.key = d.key) : c = d := by
  cases c with
  | leaf rows =>
    cases d with
    | leaf rows' =>
      injection h with h
      have := (List.cons.inj (List.cons.inj h).2).1
      injection this with this
      rw [text_inj this]
    | tree es =>
      injection h with h
      have := (List.cons.inj h).1
      injection this with this
      exact absurd this lit_ne1
    | ver ps r s =>
      injection h with h
      have := (List.cons.inj h).1
      injection this with this
      exact absurd this lit_ne2
  | tree es =>
    cases d with
    | leaf rows' =>
      injection h with h
      have := (List.cons.inj h).1
      injection this with this
      exact absurd this lit_ne4
    | tree es' =>
      injection h with h
      have := (List.cons.inj (List.cons.inj h).2).1
      injection this with this
      rw [ent_inj this]
    | ver ps r s =>
      injection h with h
      have := (List.cons.inj h).1
      injection this with this
      exact absurd this lit_ne3
  | ver ps r s =>
    cases d with
    | leaf rows' =>
      injection h with h
      have := (List.cons.inj h).1
      injection this with this
      exact absurd this lit_ne5
    | tree es' =>
      injection h with h
      have := (List.cons.inj h).1
      injection this with this
      exact absurd this lit_ne6
    | ver ps' r' s' =>
      injection h with h
      have h1 := (List.cons.inj (List.cons.inj h).2).1
      have h2 := (List.cons.inj (List.cons.inj (List.cons.inj h).2).2).1
      have h3 := (List.cons.inj (List.cons.inj (List.cons.inj (List.cons.inj h).2).2).2).1
      injection h1 with h1
      injection h2 with h2
      injection h3 with h3
      rw [num_inj h1, show r = r' by omega, show s = s' by omega]
def entsF : Nat → List (Addr × Ct) → List NEnt
  | _, [] => []
  | i, q :: r => (q.2.key, q.1, nV i) :: entsF (i + 1) r
theorem entsF_len : ∀ (cs : List (Addr × Ct)) (i : Nat), (entsF i cs).length = cs.length
  | [], _ => rfl
  | q :: r, i => by show (entsF (i + 1) r).length + 1 = _; rw [entsF_len r]; rfl
theorem entsF_snoc (a : Addr) (c : Ct) : ∀ (cs : List (Addr × Ct)) (i : Nat), entsF i (cs ++ [(a, c)]) = entsF i cs ++ [(c.key, a, nV (i + cs.length))]
  | [], i => rfl
  | q :: r, i => by
    show (q.2.key, q.1, nV i) :: entsF (i + 1) (r ++ [(a, c)]) = (q.2.key, q.1, nV i) :: (entsF (i + 1) r ++ _)
    rw [entsF_snoc a c r (i + 1), List.length_cons, show i + 1 + r.length = i + (r.length + 1) by omega]
theorem ents_none {c : Ct} : ∀ (cs : List (Addr × Ct)) (i : Nat), (∀ q ∈ cs, q.2 ≠ c) → NVal (entsF i cs) c.key = none
  | [], _, _ => rfl
  | q :: r, i, h => by
    have hne : ¬ q.2.key = c.key := fun e => h q (by simp) (Ct.key_inj e)
    show NVal ((q.2.key, q.1, nV i) :: entsF (i + 1) r) c.key = none
    have : NVal ((q.2.key, q.1, nV i) :: entsF (i + 1) r) c.key = NVal (entsF (i + 1) r) c.key := by simp [NVal, List.find?_cons, hne]
    rw [this]
    exact ents_none r (i + 1) fun z hz => h z (by simp [hz])
theorem ents_some {c : Ct} {a : Addr} : ∀ (cs : List (Addr × Ct)) (i j : Nat), (cs.map (·.2)).Nodup → cs[j]? = some (a, c) → NVal (entsF i cs) c.key = some (nV (i + j))
  | [], _, _, _, h => by simp at h
  | q :: r, i, 0, _, h => by
    have e : q = (a, c) := by simpa using h
    subst e
    show NVal ((c.key, a, nV i) :: entsF (i + 1) r) c.key = some (nV (i + 0))
    simp [NVal, List.find?_cons]
  | q :: r, i, j + 1, nd, h => by
    rw [List.map_cons, List.nodup_cons] at nd
    have hr : r[j]? = some (a, c) := by simpa using h
    have hne : ¬ q.2.key = c.key := fun e => nd.1 (by rw [Ct.key_inj e]; exact List.mem_map.mpr ⟨(a, c), List.mem_of_getElem? hr, rfl⟩)
    show NVal ((q.2.key, q.1, nV i) :: entsF (i + 1) r) c.key = _
    have : NVal ((q.2.key, q.1, nV i) :: entsF (i + 1) r) c.key = NVal (entsF (i + 1) r) c.key := by simp [NVal, List.find?_cons, hne]
    rw [this, ents_some r (i + 1) j nd.2 hr, show i + 1 + j = i + (j + 1) by omega]
def depOf (ds : List Nat) : Ct → Nat
  | .tree es => 1 + (es.map fun e => ds.getD e.2 0).foldl max 0
  | _ => 0
def LabOk (z : Str) : Prop := 1 ≤ z.length ∧ z.length ≤ 8 ∧ ∀ c ∈ z.cps.toList, c ∈ (Str.ofString "abcdefghijklmnopqrstuvwxyz").cps.toList
/-- a good content behind those of cs -/
def CtOk (cs : List Ct) (ds : List Nat) : Ct → Prop
  | .leaf rows => rows.length ≤ 40 ∧ ∀ z ∈ rows, LineOk z
  | .tree es => es.length ≤ 20 ∧ (∀ e ∈ es, LabOk e.1 ∧ ∃ c, cs[e.2]? = some c ∧ c.word ≠ "version") ∧ es.Pairwise (fun x y => x.1.cps.toList < y.1.cps.toList) ∧ depOf ds (.tree es) ≤ 8
  | .ver ps root stamp => ps.Pairwise (· < ·) ∧ ps.length ≤ 4 ∧ (∀ p ∈ ps, ∃ c, cs[p]? = some c ∧ c.word = "version") ∧ (∃ c, cs[root]? = some c ∧ c.word = "tree") ∧ stamp ≤ 10 ^ 18
structure BookAt (P : Program) (w : World) (C : Addr) (H : Hp) (p dx lc ld lg : Addr) (cs : List (Addr × Ct)) (ds : List Nat) : Prop where
  ob : H p = some (.ins C dx [("contents", .ref lc), ("depths", .ref ld), ("given", .ref lg)])
  co : H lc = some (.lst (cs.map fun q => .ref q.1))
  de : H ld = some (.lst (ds.map nV))
  gi : NDict P w H lg (entsF 0 cs)
  ct : ∀ q ∈ cs, CtAt H q.1 q.2
  nd : (cs.map (·.2)).Nodup
  dl : ds.length = cs.length
  ne : lc ≠ ld
  few : cs.length ≤ 400
theorem BookAt.kp {P : Program} {w : World} {C : Addr} {M : List Addr} {H H' : Hp} {p dx lc ld lg : Addr} {cs : List (Addr × Ct)} {ds : List Nat} (B : BookAt P w C H p dx lc ld lg cs ds) (k : Kp M H H') (t : KT H H') (h1 : p ∉ M) (h2 : lc ∉ M) (h3 : ld ∉ M) (h4 : lg ∉ M) : BookAt P w C H' p dx lc ld lg cs ds :=
  ⟨k _ _ h1 B.ob, k _ _ h2 B.co, k _ _ h3 B.de, B.gi.kp k t h4, fun q hq => (B.ct q hq).kt t, B.nd, B.dl, B.ne, B.few⟩
theorem BookAt.same {P : Program} {w : World} {C : Addr} {H H' : Hp} {p dx lc ld lg : Addr} {cs : List (Addr × Ct)} {ds : List Nat} (B : BookAt P w C H p dx lc ld lg cs ds) (k : Same H H') : BookAt P w C H' p dx lc ld lg cs ds :=
  B.kp (M := []) (Kp.of k) (KT.of k) (by simp) (by simp) (by simp) (by simp)
def spIsLabel : Sp := fun vs H Q _ => ∃ z : Str, vs = [.str z] ∧ LabOk z ∧ ∀ H', Same H H' → Q (.bl true) H'
def spRiseT : Sp := fun vs H Q _ => ∃ (r : Addr) (ns : List Nat), vs = [.ref r] ∧ H r = some (.tup (ns.map nV)) ∧ ns.length ≤ 1000 ∧ (ns.Pairwise (· < ·) → ∀ H', Same H H' → Q (.bl true) H') ∧ (¬ ns.Pairwise (· < ·) → ∀ H', Same H H' → Q (.bl false) H')
def spRiseS : Sp := fun vs H Q _ => ∃ (r : Addr) (zs : List Str), vs = [.ref r] ∧ H r = some (.lst (zs.map V.str)) ∧ zs.length ≤ 1000 ∧ zs.Pairwise (fun x y => x.cps.toList < y.cps.toList) ∧ ∀ H', Same H H' → Q (.bl true) H'
def NatsV (H : Hp) (x : V) (ns : List Nat) : Prop := ∃ a, x = .ref a ∧ H a = some (.tup (ns.map nV))
def spAreInts : Sp := fun vs H Q _ => ∃ (x : V) (B : Nat), vs = [x] ∧ DatT B H x ∧ B ≤ 1000 ∧ (∀ ns, NatsV H x ns → ∀ H', Same H H' → Q (.bl true) H') ∧ ((∀ ns, ¬ NatsV H x ns) → ∀ H', Same H H' → Q (.bl false) H')
def spRisingInts : Sp := fun vs H Q _ => ∃ (x : V) (B : Nat), vs = [x] ∧ DatT B H x ∧ B ≤ 1000 ∧ (∀ ns, NatsV H x ns → ns.Pairwise (· < ·) → ∀ H', Same H H' → Q (.bl true) H') ∧ ((∀ ns, NatsV H x ns → ¬ ns.Pairwise (· < ·)) → ∀ H', Same H H' → Q (.bl false) H')
def spAreRows : Sp := fun vs H Q _ => ∃ (r : Addr) (rows : List Str), vs = [.ref r] ∧ RwAt H r rows ∧ rows.length ≤ 40 ∧ (∀ z ∈ rows, LineOk z) ∧ ∀ H', Same H H' → Q (.bl true) H'
theorem nV_inj : ∀ {xs ys : List Nat}, xs.map nV = ys.map nV → xs = ys
  | [], [], _ => rfl
  | [], _ :: _, h => by simp at h
  | _ :: _, [], h => by simp at h
  | x :: xs, y :: ys, h => by
    rw [List.map_cons, List.map_cons, List.cons.injEq] at h
    have e : (x : Int) = y := V.int.inj h.1
    rw [show x = y by omega, nV_inj h.2]
theorem nats_of : ∀ {ys : List V}, (∀ y ∈ ys, ∃ n : Nat, y = nV n) → ∃ ns : List Nat, ys = ns.map nV
  | [], _ => ⟨[], rfl⟩
  | y :: ys, h => by
    obtain ⟨n, rfl⟩ := h y (by simp)
    obtain ⟨ns, rfl⟩ := nats_of (ys := ys) fun z hz => h z (by simp [hz])
    exact ⟨n :: ns, rfl⟩
theorem bls_of {C : Nat → Bool → Prop} {vs : List V} (h : ∀ (i : Nat) (y : V), vs[i]? = some y → ∃ b : Bool, y = .bl b ∧ C i b) : ∃ bs : List Bool, vs = bs.map V.bl ∧ ∀ (i : Nat) (b : Bool), bs[i]? = some b → C i b := by
  induction vs generalizing C with
  | nil => exact ⟨[], rfl, by simp⟩
  | cons v vs ih =>
    obtain ⟨b, rfl, hb⟩ := h 0 v rfl
    obtain ⟨bs, rfl, hbs⟩ := ih (C := fun i => C (i + 1)) fun i y hy => h (i + 1) y (by simpa using hy)
    refine ⟨b :: bs, rfl, fun i b' hb' => ?_⟩
    cases i with
    | zero =>
      have : b = b' := by simpa using hb'
      subst this
      exact hb
    | succ i => exact hbs i b' (by simpa using hb')
theorem pw_adj {α : Type} {R : α → α → Prop} (tr : ∀ a b c, R a b → R b c → R a c) : ∀ {l : List α}, (∀ (i : Nat) (x y : α), l[i]? = some x → l[i + 1]? = some y → R x y) → l.Pairwise R
  | [], _ => .nil
  | [x], _ => List.pairwise_singleton _ _
  | x :: y :: r, h => by
    have ih := pw_adj tr (l := y :: r) fun i a b ha hb => h (i + 1) a b (by simpa using ha) (by simpa using hb)
    refine List.pairwise_cons.mpr ⟨fun z hz => ?_, ih⟩
    have h0 := h 0 x y rfl rfl
    rcases List.mem_cons.mp hz with rfl | hz
    · exact h0
    · exact tr _ _ _ h0 ((List.pairwise_cons.mp ih).1 z hz)
theorem adj_pw {α : Type} {R : α → α → Prop} {l : List α} (h : l.Pairwise R) {i : Nat} {x y : α} (hx : l[i]? = some x) (hy : l[i + 1]? = some y) : R x y := by
  obtain ⟨h1, e1⟩ := List.getElem?_eq_some_iff.mp hx
  obtain ⟨h2, e2⟩ := List.getElem?_eq_some_iff.mp hy
  have := List.pairwise_iff_getElem.mp h i (i + 1) h1 h2 (by omega)
  rw [e1, e2] at this
  exact this
theorem nV_at {ns : List Nat} {i : Nat} (h : i < ns.length) : (ns.map nV)[i]? = some (nV (ns[i])) := by rw [List.getElem?_map, List.getElem?_eq_getElem h]; rfl
section
variable {P : Program} {w : World} {K : PySem.W.Frag} {mg : Str → Option Value} {base : Heap}
theorem ok_islabel {f : Addr} {fd : FuncData} (T : Txt K mg) (F : Fun K "is_label" "is_label" s_is_label f fd) : FnOk P w K mg base CX0 1 f fd ["thing"] spIsLabel := by
  obtain ⟨tk_LETTERS, g_LETTERS⟩ := T.g_LETTERS
  refine F.ok sc_is_label (fun vs H Q E h => ?_) (fun cdv A outer s H vs Q E hr h => ?_)
  · obtain ⟨z, rfl, _⟩ := h
    rfl
  · obtain ⟨z, rfl, ⟨l1, l8, hz⟩, q⟩ := h
    refine ⟨_,
      (pss_one
        (ps_ret (pe_and (pe_callB (r := rIsi K) call_isi (by rfl) T.n_isinstance (by decide +kernel) (pa_cons (pv 0) (pa_cons (pe_bltn (v := .ty "str") (u := .type "str") (by rfl) T.n_str (by decide +kernel) rfl) pa_nil))) (pe_and (pe_chain op_le op_le pe_int (pe_callB c_lenS (by rfl) T.n_len (by decide +kernel) (pa_cons (pv 0) pa_nil)) pe_int) (pe_one (pe_callB (r := rAll K) (cr_all rfl) (by rfl) T.n_all (by decide +kernel) (pa_cons (pe_lc (own := [("sign", 1)]) (g := (gName 1)) rfl sc_is_label.nd (pi_str (pv 0)) (blkOk_by (own := [("sign", 1)]) (N := N_is_label) (sc := defScope s_is_label) (by decide +kernel)) (fun _ _ _ _ _ => (pg_name (i := 1) sc_is_label.nd rfl (.inl rfl))) (fun _ _ _ _ _ => pts_nil) (fun _ _ _ _ _ => (pe_cmpR o_inS (pv 1) (pe_glob (v := .str "abcdefghijklmnopqrstuvwxyz") rfl g_LETTERS ⟨_, rfl⟩) rfl))) pa_nil)))))))
      , ?_⟩
    rw [show L2.start N_is_label [V.str z] = [some (.str z), none] from rfl]
    walk_at "x"
    refine w_lenS (Nat.le_trans l8 (by decide)) ?_
    walk_at "g"
    refine w_yes (by omega) ?_
    walk_at "g"
    refine w_yes (by omega) ?_
    walk_at "g"
    refine lcp_map (walk_str z) [] ((z.cps.toList.map fun c => true).map V.bl) (by simp) (by show z.length ≤ 1000000; omega) (fun _ _ => trivial) ?_ (by simp) ?_
    · rintro i x H1 H2 R hi k1 ⟨rfl, c, hc, rfl⟩ hR
      have hc' : z.cps.toList[i]? = some c := by rw [Array.getElem?_toList]; exact hc
      refine w_name ⟨rfl, ?_⟩
      walk_at "g"
      refine hR _ _ ?_ Kp.refl
      rw [List.getElem?_map, List.getElem?_map, hc', decide_eq_true (hz c (List.mem_of_getElem? hc'))]
      rfl
    · intro L H1 hL k1 eL
      walk_at "g"
      rw [show (z.cps.toList.map fun c => true).all id = true by simp]
      exact q _ k1.same
theorem ok_riseT {f : Addr} {fd : FuncData} (T : Txt K mg) (F : Fun K "rise" "rise" s_rise f fd) : FnOk P w K mg base CX0 1 f fd ["row"] spRiseT := by
  refine F.ok sc_rise (fun vs H Q E h => ?_) (fun cdv A outer s H vs Q E hr h => ?_)
  · obtain ⟨r, ns, rfl, _⟩ := h
    rfl
  · obtain ⟨r, ns, rfl, hr', hl, q1, q2⟩ := h
    refine ⟨_,
      (pss_one
        (ps_ret (pe_callB (r := rAll K) (cr_all rfl) (by rfl) T.n_all (by decide +kernel) (pa_cons (pe_lc (own := [("k", 1)]) (g := (gName 1)) rfl sc_rise.nd (pi_range2 (by rfl) T.n_range (pa_cons pe_int (pa_cons (pe_callB (r := rLen K) c_len (by rfl) T.n_len (by decide +kernel) (pa_cons (pv 0) pa_nil)) pa_nil))) (blkOk_by (own := [("k", 1)]) (N := N_rise) (sc := defScope s_rise) (by decide +kernel)) (fun _ _ _ _ _ => (pg_name (i := 1) sc_rise.nd rfl (.inl rfl))) (fun _ _ _ _ _ => pts_nil) (fun _ _ _ _ _ => (pe_cmpR op_lt (pe_ix (r := rIxT K) ix_tup (pv 0) (pe_op op_sub (pv 1) pe_int) (fun _ _ => rfl)) (pe_ix (r := rIxT K) ix_tup (pv 0) (pv 1) (fun _ _ => rfl)) (nomark _)))) pa_nil))))
      , ?_⟩
    rw [show L2.start N_rise [V.ref r] = [some (.ref r), none] from rfl]
    walk_at "x"
    try refine w_rng2' (by simp only [List.length_map]; omega) ?_
    refine lcp_map (walk_range (lo := 1) (n := ((((ns.map nV).length : Nat) : Int) - 1).toNat)) [] (((List.range (ns.length - 1)).map fun i => decide (ns.getD i 0 < ns.getD (i + 1) 0)).map V.bl) (by simp only [List.length_map, List.length_range]; omega) (by simp only [List.length_map]; omega) (fun _ _ => trivial) ?_ (by simp) ?_
    · rintro i x H1 H2 R hi k1 ⟨rfl, rfl⟩ hR
      have hi' : i + 1 < ns.length := by
        simp only [List.length_map] at hi
        omega
      have hr1 := k1.same _ _ hr'
      have at1 : atI (ns.map nV) (1 + (i : Int) - 1) = some (.int ((ns.getD i 0 : Nat) : Int)) := by
        rw [show (1 : Int) + (i : Int) - 1 = ((i : Nat) : Int) by omega]
        refine atI_nat ?_
        rw [nV_at (by omega), List.getD_eq_getElem?_getD, List.getElem?_eq_getElem (by omega)]
        rfl
      have at2 : atI (ns.map nV) (1 + (i : Int)) = some (.int ((ns.getD (i + 1) 0 : Nat) : Int)) := by
        rw [show (1 : Int) + (i : Int) = ((i + 1 : Nat) : Int) by omega]
        refine atI_nat ?_
        rw [nV_at hi', List.getD_eq_getElem?_getD, List.getElem?_eq_getElem hi']
        rfl
      refine w_name ⟨rfl, ?_⟩
      walk_at "g"
      refine hR _ _ ?_ Kp.refl
      rw [List.getElem?_map, List.getElem?_map, List.getElem?_range (by omega)]
      show some (V.bl (decide (ns.getD i 0 < ns.getD (i + 1) 0))) = some (V.bl (decide (((ns.getD i 0 : Nat) : Int) < ((ns.getD (i + 1) 0 : Nat) : Int))))
      congr 2
      rw [Bool.eq_iff_iff, decide_eq_true_iff, decide_eq_true_iff]
      omega
    · intro L H1 hL k1 eL
      walk_at "g"
      have gd : ∀ {i : Nat} {x : Nat}, ns[i]? = some x → ns.getD i 0 = x := fun {i x} h => by rw [List.getD_eq_getElem?_getD, h]; rfl
      by_cases h : ns.Pairwise (· < ·)
      · have e : ((List.range (ns.length - 1)).map fun i => decide (ns.getD i 0 < ns.getD (i + 1) 0)).all id = true := by
          rw [List.all_eq_true]
          intro b hb
          obtain ⟨i, hi, rfl⟩ := List.mem_map.mp hb
          rw [List.mem_range] at hi
          refine decide_eq_true ?_
          have h1 := List.getElem?_eq_getElem (show i < ns.length by omega)
          have h2 := List.getElem?_eq_getElem (show i + 1 < ns.length by omega)
          rw [gd h1, gd h2]
          exact adj_pw h h1 h2
        rw [e]
        exact q1 h _ k1.same
      · have e : ((List.range (ns.length - 1)).map fun i => decide (ns.getD i 0 < ns.getD (i + 1) 0)).all id = false := by
          rw [Bool.eq_false_iff]
          intro hall
          rw [List.all_eq_true] at hall
          refine h (pw_adj (R := (· < ·)) (fun a b c h1 h2 => Nat.lt_trans h1 h2) fun i x y hx hy => ?_)
          have hi : i < ns.length - 1 := by have := (List.getElem?_eq_some_iff.mp hy).1; omega
          have := of_decide_eq_true (hall _ (List.mem_map.mpr ⟨i, List.mem_range.mpr hi, rfl⟩))
          rwa [gd hx, gd hy] at this
        rw [e]
        exact q2 h _ k1.same
theorem ok_riseS {f : Addr} {fd : FuncData} (T : Txt K mg) (F : Fun K "rise" "rise" s_rise f fd) : FnOk P w K mg base CX0 1 f fd ["row"] spRiseS := by
  refine F.ok sc_rise (fun vs H Q E h => ?_) (fun cdv A outer s H vs Q E hr h => ?_)
  · obtain ⟨r, zs, rfl, _⟩ := h
    rfl
  · obtain ⟨r, zs, rfl, hr', hl, hp, q⟩ := h
    refine ⟨_,
      (pss_one
        (ps_ret (pe_callB (r := rAll K) (cr_all rfl) (by rfl) T.n_all (by decide +kernel) (pa_cons (pe_lc (own := [("k", 1)]) (g := (gName 1)) rfl sc_rise.nd (pi_range2 (by rfl) T.n_range (pa_cons pe_int (pa_cons (pe_callB (r := rLen K) c_len (by rfl) T.n_len (by decide +kernel) (pa_cons (pv 0) pa_nil)) pa_nil))) (blkOk_by (own := [("k", 1)]) (N := N_rise) (sc := defScope s_rise) (by decide +kernel)) (fun _ _ _ _ _ => (pg_name (i := 1) sc_rise.nd rfl (.inl rfl))) (fun _ _ _ _ _ => pts_nil) (fun _ _ _ _ _ => (pe_cmpR o_ltS (pe_ix (r := rIxL K) ix_list (pv 0) (pe_op op_sub (pv 1) pe_int) (fun _ _ => rfl)) (pe_ix (r := rIxL K) ix_list (pv 0) (pv 1) (fun _ _ => rfl)) (nomark _)))) pa_nil))))
      , ?_⟩
    rw [show L2.start N_rise [V.ref r] = [some (.ref r), none] from rfl]
    walk_at "x"
    try refine w_rng2' (by simp only [List.length_map]; omega) ?_
    refine lcp_map (walk_range (lo := 1) (n := ((((zs.map V.str).length : Nat) : Int) - 1).toNat)) [] (((List.range (zs.length - 1)).map fun i => true).map V.bl) (by simp only [List.length_map, List.length_range]; omega) (by simp only [List.length_map]; omega) (fun _ _ => trivial) ?_ (by simp) ?_
    · rintro i x H1 H2 R hi k1 ⟨rfl, rfl⟩ hR
      have hi' : i + 1 < zs.length := by
        simp only [List.length_map] at hi
        omega
      have hr1 := k1.same _ _ hr'
      have g1 := List.getElem?_eq_getElem (show i < zs.length by omega)
      have g2 := List.getElem?_eq_getElem hi'
      have at1 : atI (zs.map V.str) (1 + (i : Int) - 1) = some (.str zs[i]) := by
        rw [show (1 : Int) + (i : Int) - 1 = ((i : Nat) : Int) by omega]
        exact atI_nat (by rw [List.getElem?_map, g1]; rfl)
      have at2 : atI (zs.map V.str) (1 + (i : Int)) = some (.str zs[i + 1]) := by
        rw [show (1 : Int) + (i : Int) = ((i + 1 : Nat) : Int) by omega]
        exact atI_nat (by rw [List.getElem?_map, g2]; rfl)
      refine w_name ⟨rfl, ?_⟩
      walk_at "g"
      refine hR _ _ ?_ Kp.refl
      rw [List.getElem?_map, List.getElem?_map, List.getElem?_range (by omega), decide_eq_true (adj_pw hp g1 g2)]
      rfl
    · intro L H1 hL k1 eL
      walk_at "g"
      rw [show ((List.range (zs.length - 1)).map fun i => true).all id = true by simp]
      exact q _ k1.same
theorem ok_areints {f fI : Addr} {fd fdI : FuncData} (T : Txt K mg) (F : Fun K "are_ints" "are_ints" s_are_ints f fd) (D_is_int : DfD K mg "is_int" s_is_int ["thing", "least"] [.int 0] fI fdI) : FnOk P w K mg base CX0 2 f fd ["thing"] spAreInts := by
  obtain ⟨ds_is_int, V_is_int, B_is_int⟩ := D_is_int.b
  have G_is_int : FnOk P w K mg base CX0 1 fI fdI ["thing", "least"] spIsInt := ok_isint T D_is_int
  refine F.ok sc_are_ints (fun vs H Q E h => ?_) (fun cdv A outer s H vs Q E hr h => ?_)
  · obtain ⟨x, B, rfl, _⟩ := h
    rfl
  · obtain ⟨x, B, rfl, hd, hB, q1, q2⟩ := h
    refine ⟨_,
      (pss_one
        (ps_ret (pe_and (pe_callB (r := rIsi K) call_isi (by rfl) T.n_isinstance (by decide +kernel) (pa_cons (pv 0) (pa_cons (pe_bltn (v := .ty "tuple") (u := .type "tuple") (by rfl) T.n_tuple (by decide +kernel) rfl) pa_nil))) (pe_one (pe_callB (r := rAll K) (cr_all rfl) (by rfl) T.n_all (by decide +kernel) (pa_cons (pe_lc (own := [("part", 1)]) (g := (gName 1)) rfl sc_are_ints.nd (pi_tup (pv 0)) (blkOk_by (own := [("part", 1)]) (N := N_are_ints) (sc := defScope s_are_ints) (by decide +kernel)) (fun _ _ _ _ _ => (pg_name (i := 1) sc_are_ints.nd rfl (.inl rfl))) (fun _ _ _ _ _ => pts_nil) (fun _ _ _ _ _ => (pe_call G_is_int (hr.mono (by omega)) (by rfl) D_is_int.g D_is_int.kp B_is_int V_is_int pass0 (pa_cons (pv 1) pa_nil)))) pa_nil))))))
      , ?_⟩
    rw [show L2.start N_are_ints [x] = [some x, none] from rfl]
    walk_at "x"
    rcases hd.cases with ⟨ay, ty, hne⟩ | ⟨a, xs, rfl, ea, hxB, hxs⟩
    · refine w_isTup ty ?_
      rw [decide_eq_false hne]
      walk_at "g"
      refine q2 ?_ _ (fun _ _ z => z)
      rintro ns ⟨a, rfl, h⟩
      exact hne (ty.ofTup h)
    walk_at "g"
    refine lcp_gen (walk_tup (K := K) (a := a) (xs := xs)) [] (fun i y _ => ∃ bb : Bool, y = .bl bb ∧ ∀ z, xs[i]? = some z → (bb = true ↔ ∃ n : Nat, z = nV n)) (fun _ _ => True) (by omega) (fun _ _ _ _ _ h => h) (fun _ _ _ _ _ _ => trivial) (fun _ H1 k _ => .of (k _ _ (by simp) ea)) trivial ?_ (by simp) ?_
    · rintro i y H2 H3 R hi k2 t2 _ ⟨rfl, hy⟩ hR
      obtain ⟨a1, t1⟩ := ((hxs y (List.mem_of_getElem? hy)).kd (KD.of k2.same)).ty
      refine w_name ⟨rfl, ?_⟩
      walk_at "g"
      refine ⟨y, a1, rfl, t1, fun n hn => ?_, fun hn => ?_⟩
      · refine hR _ _ ⟨true, rfl, fun z hz => ⟨fun _ => ⟨n, ?_⟩, fun _ => rfl⟩⟩ Kp.refl KT.refl trivial
        rw [hy] at hz
        cases hz
        exact hn
      · refine hR _ _ ⟨false, rfl, fun z hz => ⟨fun h => Bool.noConfusion h, fun ⟨n, e⟩ => ?_⟩⟩ Kp.refl KT.refl trivial
        rw [hy] at hz
        cases hz
        exact absurd e (hn n)
    · intro L H2 vs hvl hvp hL k2' t2 _ eL
      have k2 := k2'.same
      obtain ⟨bs, rfl, hbs⟩ := bls_of hvp
      rw [List.length_map] at hvl
      walk_at "g"
      by_cases hall : ∀ y ∈ xs, ∃ n : Nat, y = nV n
      · have e : bs.all id = true := by
          rw [List.all_eq_true]
          intro b hb
          obtain ⟨i, hi, rfl⟩ := List.getElem_of_mem hb
          have hi2 : i < xs.length := by omega
          exact ((hbs i bs[i] (List.getElem?_eq_getElem hi)) xs[i] (List.getElem?_eq_getElem hi2)).mpr (hall _ (List.getElem_mem hi2))
        rw [e]
        obtain ⟨ns, rfl⟩ := nats_of hall
        exact q1 ns ⟨a, rfl, ea⟩ _ k2
      · have e : bs.all id = false := by
          rw [Bool.eq_false_iff]
          intro h
          rw [List.all_eq_true] at h
          refine hall fun y hy => ?_
          obtain ⟨i, hi, rfl⟩ := List.getElem_of_mem hy
          have hi2 : i < bs.length := by omega
          exact ((hbs i bs[i] (List.getElem?_eq_getElem hi2)) xs[i] (List.getElem?_eq_getElem hi)).mp (h _ (List.getElem_mem hi2))
        rw [e]
        refine q2 ?_ _ k2
        rintro ns ⟨a', e', h⟩
        cases e'
        rw [ea] at h
        cases h
        exact hall fun y hy => by
          obtain ⟨n, _, rfl⟩ := List.mem_map.mp hy
          exact ⟨n, rfl⟩
theorem ok_risingints {f fA fR fI : Addr} {fd fdA fdR fdI : FuncData} (T : Txt K mg) (F : Fun K "rising_ints" "rising_ints" s_rising_ints f fd) (D_are_ints : Df K mg "are_ints" s_are_ints ["thing"] fA fdA) (D_rise : Df K mg "rise" s_rise ["row"] fR fdR) (D_is_int : DfD K mg "is_int" s_is_int ["thing", "least"] [.int 0] fI fdI) : FnOk P w K mg base CX0 3 f fd ["thing"] spRisingInts := by
  have G_are_ints : FnOk P w K mg base CX0 2 fA fdA ["thing"] spAreInts := ok_areints T D_are_ints.fn D_is_int
  have G_rise : FnOk P w K mg base CX0 1 fR fdR ["row"] spRiseT := ok_riseT T D_rise.fn
  refine F.ok sc_rising_ints (fun vs H Q E h => ?_) (fun cdv A outer s H vs Q E hr h => ?_)
  · obtain ⟨x, B, rfl, _⟩ := h
    rfl
  · obtain ⟨x, B, rfl, hd, hB, q1, q2⟩ := h
    refine ⟨_,
      (pss_one
        (ps_ret (pe_and (pe_call G_are_ints (hr.mono (by omega)) (by rfl) D_are_ints.g D_are_ints.fn.kp D_are_ints.b .nil pass0 (pa_cons (pv 0) pa_nil)) (pe_one (pe_call G_rise (hr.mono (by omega)) (by rfl) D_rise.g D_rise.fn.kp D_rise.b .nil pass0 (pa_cons (pv 0) pa_nil))))))
      , ?_⟩
    rw [show L2.start N_rising_ints [x] = [some x] from rfl]
    walk_at "x"
    refine ⟨x, B, rfl, hd, hB, fun ns hns H1 k1 => ?_, fun hn H1 k1 => ?_⟩
    · walk_at "g"
      have hns' := hns
      obtain ⟨a, rfl, ea⟩ := hns
      have hlen : ns.length ≤ 1000 := by
        have := (hd.elem ea).1
        rw [List.length_map] at this
        omega
      refine ⟨a, ns, rfl, k1 _ _ ea, hlen, fun hp H2 k2 => ?_, fun hp H2 k2 => ?_⟩
      · exact q1 ns hns' hp _ (Same.trans k1 k2)
      · refine q2 ?_ _ (Same.trans k1 k2)
        rintro ns' ⟨a', e, h⟩
        cases e
        rw [ea] at h
        have e2 := Option.some.inj h
        injection e2 with e2
        rw [← nV_inj e2]
        exact hp
    · walk_at "g"
      exact q2 (fun ns h => absurd h (hn ns)) _ k1
theorem ok_arerows {f fT : Addr} {fd fdT : FuncData} (T : Txt K mg) (F : Fun K "are_rows" "are_rows" s_are_rows f fd) (D_is_text : DfD K mg "is_text" s_is_text ["thing", "most"] [.int 40] fT fdT) : FnOk P w K mg base CX0 2 f fd ["thing"] spAreRows := by
  obtain ⟨ds_is_text, V_is_text, B_is_text⟩ := D_is_text.b
  have G_is_text : FnOk P w K mg base CX0 1 fT fdT ["thing", "most"] spIsText := ok_istext T D_is_text
  refine F.ok sc_are_rows (fun vs H Q E h => ?_) (fun cdv A outer s H vs Q E hr h => ?_)
  · obtain ⟨r, rows, rfl, _⟩ := h
    rfl
  · obtain ⟨r, rows, rfl, hr', hl, hz, q⟩ := h
    have hr0 : H r = some (.tup (rows.map V.str)) := hr'
    refine ⟨_,
      (pss_one
        (ps_ret (pe_and (pe_callB (r := rIsi K) call_isi (by rfl) T.n_isinstance (by decide +kernel) (pa_cons (pv 0) (pa_cons (pe_bltn (v := .ty "tuple") (u := .type "tuple") (by rfl) T.n_tuple (by decide +kernel) rfl) pa_nil))) (pe_and (pe_cmpR op_le (pe_callB (r := rLen K) c_len (by rfl) T.n_len (by decide +kernel) (pa_cons (pv 0) pa_nil)) pe_int (nomark _)) (pe_one (pe_callB (r := rAll K) (cr_all rfl) (by rfl) T.n_all (by decide +kernel) (pa_cons (pe_lc (own := [("row", 1)]) (g := (gName 1)) rfl sc_are_rows.nd (pi_tup (pv 0)) (blkOk_by (own := [("row", 1)]) (N := N_are_rows) (sc := defScope s_are_rows) (by decide +kernel)) (fun _ _ _ _ _ => (pg_name (i := 1) sc_are_rows.nd rfl (.inl rfl))) (fun _ _ _ _ _ => pts_nil) (fun _ _ _ _ _ => (pe_call G_is_text (hr.mono (by omega)) (by rfl) D_is_text.g D_is_text.kp B_is_text V_is_text pass0 (pa_cons (pv 1) pa_nil)))) pa_nil)))))))
      , ?_⟩
    rw [show L2.start N_are_rows [V.ref r] = [some (.ref r), none] from rfl]
    walk_at "x"
    refine w_yes (by rw [List.length_map]; omega) ?_
    walk_at "g"
    refine lcp_map (walk_tup (K := K) (a := r) (xs := rows.map V.str)) [] ((rows.map fun _ => true).map V.bl) (by simp) (by rw [List.length_map]; omega) (fun H' k => .of (k _ _ (by simp) hr0)) ?_ (by simp) ?_
    · rintro i x H1 H2 R hi k1 ⟨rfl, hx⟩ hR
      obtain ⟨z, hz', rfl⟩ := map_at hx
      have hzo := hz z (List.mem_of_getElem? hz')
      refine w_name ⟨rfl, ?_⟩
      walk_at "g"
      refine ⟨.str z, 40, rfl, .leaf (.str z) (by decide) (fun z' e => by cases e; exact hzo.1), by omega, fun _ _ _ H3 k3 => ?_, fun hn => absurd hzo (hn z rfl)⟩
      refine hR _ _ ?_ (Kp.of k3)
      rw [List.getElem?_map, List.getElem?_map, hz']
      rfl
    · intro L H1 hL k1 eL
      walk_at "g"
      rw [show (rows.map fun _ => true).all id = true by simp]
      exact q _ k1.same
end
/-! ### a book's own defs -/
def spIsName (P : Program) (w : World) (C : Addr) : Sp := fun vs H Q _ => ∃ (p dx lc ld lg : Addr) (cs : List (Addr × Ct)) (ds : List Nat) (x : V) (a : String), vs = [.ref p, x] ∧ BookAt P w C H p dx lc ld lg cs ds ∧ Ty H x a ∧ (∀ n : Nat, x = nV n → n < cs.length → Q (.bl true) H) ∧ ((∀ n : Nat, x = nV n → ¬ n < cs.length) → Q (.bl false) H)
def spIsKind (P : Program) (w : World) (C : Addr) : Sp := fun vs H Q _ => ∃ (p dx lc ld lg : Addr) (cs : List (Addr × Ct)) (ds : List Nat) (x : V) (a : String) (k : Str), vs = [.ref p, x, .str k] ∧ BookAt P w C H p dx lc ld lg cs ds ∧ Ty H x a ∧ (∀ (n : Nat) (q : Addr × Ct), x = nV n → cs[n]? = some q → Q (.bl (decide (q.2.word = k))) H) ∧ ((∀ n : Nat, x = nV n → ¬ n < cs.length) → Q (.bl false) H)
def spIsPair2 : Sp := fun vs H Q _ => ∃ (a : Addr) (x y : V), vs = [.ref a] ∧ H a = some (.tup [x, y]) ∧ Q (.bl true) H
def spIsEntry (P : Program) (w : World) (C : Addr) : Sp := fun vs H Q _ => ∃ (p dx lc ld lg e : Addr) (cs : List (Addr × Ct)) (ds : List Nat) (z : Str) (n : Nat) (q : Addr × Ct), vs = [.ref p, .ref e] ∧ BookAt P w C H p dx lc ld lg cs ds ∧ H e = some (.tup [.str z, nV n]) ∧ LabOk z ∧ cs[n]? = some q ∧ q.2.word ≠ "version" ∧ ∀ H', Same H H' → Q (.bl true) H'
def spDepth (C : Addr) : Sp := fun vs H Q _ => ∃ (p dx lc ld lg a : Addr) (ds : List Nat) (c : Ct), vs = [.ref p, .ref a] ∧ H p = some (.ins C dx [("contents", .ref lc), ("depths", .ref ld), ("given", .ref lg)]) ∧ H ld = some (.lst (ds.map nV)) ∧ CtAt H a c ∧ (∀ es, c = .tree es → es.length ≤ 20 ∧ ∀ e ∈ es, e.2 < ds.length) ∧ ∀ H', Same H H' → Q (nV (depOf ds c)) H'
def spIsTree (P : Program) (w : World) (C : Addr) : Sp := fun vs H Q _ => ∃ (p dx lc ld lg r : Addr) (cs : List (Addr × Ct)) (ds : List Nat) (qs : List (Addr × Str × Nat)), vs = [.ref p, .ref r] ∧ BookAt P w C H p dx lc ld lg cs ds ∧ H r = some (.tup (qs.map fun q => .ref q.1)) ∧ (∀ q ∈ qs, H q.1 = some (.tup [.str q.2.1, nV q.2.2])) ∧ CtOk (cs.map (·.2)) ds (.tree (qs.map (·.2))) ∧ ∀ H', Same H H' → Q (.bl true) H'
def spIsContent (P : Program) (w : World) (C : Addr) : Sp := fun vs H Q _ => ∃ (p dx lc ld lg a : Addr) (cs : List (Addr × Ct)) (ds : List Nat) (c : Ct), vs = [.ref p, .ref a] ∧ BookAt P w C H p dx lc ld lg cs ds ∧ CtAt H a c ∧ CtOk (cs.map (·.2)) ds c ∧ ∀ H', Same H H' → Q (.bl true) H'
def spIsVersion (P : Program) (w : World) (C : Addr) : Sp := fun vs H Q _ => ∃ (p dx lc ld lg a : Addr) (cs : List (Addr × Ct)) (ds : List Nat) (ps : List Nat) (root stamp : Nat), vs = [.ref p, .ref a] ∧ BookAt P w C H p dx lc ld lg cs ds ∧ CtAt H a (.ver ps root stamp) ∧ CtOk (cs.map (·.2)) ds (.ver ps root stamp) ∧ ∀ H', Same H H' → Q (.bl true) H'
def spBookInit (P : Program) (w : World) (C : Addr) : Sp := fun vs H Q _ => ∃ (p dx : Addr), vs = [.ref p] ∧ H p = some (.ins C dx []) ∧ ∀ (lc ld lg : Addr) (H' : Hp), H lc = none → H ld = none → H lg = none → BookAt P w C H' p dx lc ld lg [] [] → Kp [p] H H' → Q .non H'
/-- what naming a content makes of a book -/
def spNamed (P : Program) (w : World) (C : Addr) : Sp := fun vs H Q _ => ∃ (p dx lc ld lg a : Addr) (cs : List (Addr × Ct)) (ds : List Nat) (c : Ct), vs = [.ref p, .ref a] ∧ BookAt P w C H p dx lc ld lg cs ds ∧ CtAt H a c ∧ CtOk (cs.map (·.2)) ds c ∧ cs.length < 400 ∧
  (∀ (j : Nat) (b : Addr) (H' : Hp), cs[j]? = some (b, c) → Same H H' → Q (nV j) H') ∧ ((∀ q ∈ cs, q.2 ≠ c) → ∀ H', BookAt P w C H' p dx lc ld lg (cs ++ [(a, c)]) (ds ++ [depOf ds c]) → Kp [lc, ld, lg] H H' → KT H H' → Q (nV cs.length) H')
def spThing (P : Program) (w : World) (C : Addr) : Sp := fun vs H Q _ => ∃ (p dx lc ld lg : Addr) (cs : List (Addr × Ct)) (ds : List Nat) (n : Nat) (q : Addr × Ct), vs = [.ref p, nV n] ∧ BookAt P w C H p dx lc ld lg cs ds ∧ cs[n]? = some q ∧ Q (.ref q.1) H
def spKind (P : Program) (w : World) (C : Addr) : Sp := fun vs H Q _ => ∃ (p dx lc ld lg : Addr) (cs : List (Addr × Ct)) (ds : List Nat) (n : Nat) (q : Addr × Ct), vs = [.ref p, nV n] ∧ BookAt P w C H p dx lc ld lg cs ds ∧ cs[n]? = some q ∧ Q (.str q.2.word) H
def spPartsV (P : Program) (w : World) (C : Addr) : Sp := fun vs H Q _ => ∃ (p dx lc ld lg : Addr) (cs : List (Addr × Ct)) (ds : List Nat) (n : Nat) (a : Addr) (ps : List Nat) (root stamp : Nat), vs = [.ref p, nV n] ∧ BookAt P w C H p dx lc ld lg cs ds ∧ cs[n]? = some (a, .ver ps root stamp) ∧ ps.length ≤ 900 ∧ ∀ H' r, Same H H' → H' r = some (.tup ((ps ++ [root]).map nV)) → Q (.ref r) H'
theorem CtAt.head {H : Hp} {a : Addr} {c : Ct} (h : CtAt H a c) : ∃ xs, H a = some (.tup (.str c.word :: xs)) := by
  cases c with
  | leaf rows => obtain ⟨r, h1, _⟩ := h; exact ⟨_, h1⟩
  | tree es => obtain ⟨r, qs, h1, _⟩ := h; exact ⟨_, h1⟩
  | ver ps root stamp => obtain ⟨r, h1, _⟩ := h; exact ⟨_, h1⟩
theorem fold_max (m : Nat) : ∀ (ns : List Nat) (b : Nat), (m = b ∨ m ∈ ns) → b ≤ m → (∀ y ∈ ns, y ≤ m) → ns.foldl max b = m
  | [], b, h, _, _ => by
    rcases h with h | h
    · exact h.symm
    · cases h
  | n :: ns, b, h, hb, hall => by
    show ns.foldl max (max b n) = m
    have hn := hall n (by simp)
    refine fold_max m ns (max b n) ?_ (by omega) fun y hy => hall y (by simp [hy])
    rcases h with h | h
    · exact .inl (by omega)
    · rcases List.mem_cons.mp h with h | h
      · exact .inl (by omega)
      · exact .inr h
theorem small1k {n : Nat} (h : n ≤ 1000) : n ≤ sizeLine := Nat.le_trans h (by decide)
theorem small1kl {n : Nat} (h : n ≤ 1000) : n < sizeLine := Nat.lt_of_le_of_lt h (by decide)
section
variable {P : Program} {w : World} {K : PySem.W.Frag} {mg : Str → Option Value} {base : Heap} {C : Addr}
theorem ok_isname {f fI : Addr} {fd fdI : FuncData} (T : Txt K mg) (F : Fun K "is_name" "is_name" s_is_name f fd) (K_Book : Kl K mg "Book" C ["contents", "depths", "given"]) (D_is_int : DfD K mg "is_int" s_is_int ["thing", "least"] [.int 0] fI fdI) : FnOk P w K mg base CX0 2 f fd ["book", "thing"] (spIsName P w C) := by
  obtain ⟨ds_is_int, V_is_int, B_is_int⟩ := D_is_int.b
  have G_is_int : FnOk P w K mg base CX0 1 fI fdI ["thing", "least"] spIsInt := ok_isint T D_is_int
  have cl := K_Book.cl
  have n1 := K_Book.na "contents" (by simp)
  refine F.ok sc_is_name (fun vs H Q E h => ?_) (fun cdv A outer s H vs Q E hr h => ?_)
  · obtain ⟨p, dx, lc, ld, lg, cs, ds, x, a, rfl, _⟩ := h
    rfl
  · obtain ⟨p, dx, lc, ld, lg, cs, ds, x, a, rfl, B, t, q1, q2⟩ := h
    have ob := B.ob
    have co := B.co
    refine ⟨_,
      (pss_one
        (ps_ret (pe_and (pe_call G_is_int (hr.mono (by omega)) (by rfl) D_is_int.g D_is_int.kp B_is_int V_is_int pass0 (pa_cons (pv 1) pa_nil)) (pe_one (pe_cmpR op_lt (pv 1) (pe_callB (r := rLen K) c_len (by rfl) T.n_len (by decide +kernel) (pa_cons (pe_fldK (K := K) rfl (pv 0) rfl) pa_nil)) (nomark _))))))
      , ?_⟩
    rw [show L2.start N_is_name [V.ref p, x] = [some (.ref p), some x] from rfl]
    walk_at "x"
    refine ⟨x, a, rfl, t, fun n hn => ?_, fun hn => ?_⟩
    · subst hn
      walk_at "g"
      by_cases h : n < cs.length
      · rw [decide_eq_true (by rw [List.length_map]; omega)]
        exact q1 n rfl h
      · rw [decide_eq_false (by rw [List.length_map]; omega)]
        exact q2 fun m e => by
          have : (n : Int) = m := V.int.inj e
          omega
    · walk_at "g"
      exact q2 fun n e => absurd e (hn n)
theorem ok_iskind {f fN fI : Addr} {fd fdN fdI : FuncData} (T : Txt K mg) (F : Fun K "is_kind" "is_kind" s_is_kind f fd) (K_Book : Kl K mg "Book" C ["contents", "depths", "given"]) (D_is_name : Df K mg "is_name" s_is_name ["book", "thing"] fN fdN) (D_is_int : DfD K mg "is_int" s_is_int ["thing", "least"] [.int 0] fI fdI) : FnOk P w K mg base CX0 3 f fd ["book", "thing", "kind"] (spIsKind P w C) := by
  have G_is_name : FnOk P w K mg base CX0 2 fN fdN ["book", "thing"] (spIsName P w C) := ok_isname T D_is_name.fn K_Book D_is_int
  have cl := K_Book.cl
  have n1 := K_Book.na "contents" (by simp)
  refine F.ok sc_is_kind (fun vs H Q E h => ?_) (fun cdv A outer s H vs Q E hr h => ?_)
  · obtain ⟨p, dx, lc, ld, lg, cs, ds, x, a, k, rfl, _⟩ := h
    rfl
  · obtain ⟨p, dx, lc, ld, lg, cs, ds, x, a, k, rfl, B, t, q1, q2⟩ := h
    have ob := B.ob
    have co := B.co
    refine ⟨_,
      (pss_one
        (ps_ret (pe_and (pe_call G_is_name (hr.mono (by omega)) (by rfl) D_is_name.g D_is_name.fn.kp D_is_name.b .nil pass0 (pa_cons (pv 0) (pa_cons (pv 1) pa_nil))) (pe_one (pe_cmpR op_eq (pe_ix (r := rIxT K) ix_tup (pe_ix (r := rIxL K) ix_list (pe_fldK (K := K) rfl (pv 0) rfl) (pv 1) (fun _ _ => rfl)) pe_int (fun _ _ => rfl)) (pv 2) (nomark _))))))
      , ?_⟩
    rw [show L2.start N_is_kind [V.ref p, x, V.str k] = [some (.ref p), some x, some (.str k)] from rfl]
    walk_at "x"
    refine ⟨p, dx, lc, ld, lg, cs, ds, x, a, rfl, B, t, fun n hn hl => ?_, fun hn => ?_⟩
    · subst hn
      have hq := List.getElem?_eq_getElem hl
      generalize cs[n] = q at hq
      obtain ⟨xs, hh⟩ := (B.ct q (List.mem_of_getElem? hq)).head
      have at1 : atI (cs.map fun q => V.ref q.1) (n : Int) = some (.ref q.1) := atI_nat (by rw [List.getElem?_map, hq]; rfl)
      have at0 : atI (V.str q.2.word :: xs) 0 = some (.str q.2.word) := atI_nat (j := 0) rfl
      walk_at "g"
      exact q1 n q rfl hq
    · walk_at "g"
      exact q2 hn
theorem ok_ispair2 {f : Addr} {fd : FuncData} (T : Txt K mg) (F : Fun K "is_pair" "is_pair" s_is_pair f fd) : FnOk P w K mg base CX0 1 f fd ["thing"] spIsPair2 := by
  refine F.ok sc_is_pair (fun vs H Q E h => ?_) (fun cdv A outer s H vs Q E hr h => ?_)
  · obtain ⟨a, x, y, rfl, _⟩ := h
    rfl
  · obtain ⟨a, x, y, rfl, ha, q⟩ := h
    refine ⟨_,
      (pss_one
        (ps_ret (pe_and (pe_callB (r := rIsi K) call_isi (by rfl) T.n_isinstance (by decide +kernel) (pa_cons (pv 0) (pa_cons (pe_bltn (v := .ty "tuple") (u := .type "tuple") (by rfl) T.n_tuple (by decide +kernel) rfl) pa_nil))) (pe_one (pe_cmpR op_eq (pe_callB (r := rLen K) c_len (by rfl) T.n_len (by decide +kernel) (pa_cons (pv 0) pa_nil)) pe_int (nomark _))))))
      , ?_⟩
    rw [show L2.start N_is_pair [V.ref a] = [some (.ref a)] from rfl]
    walk_at "x"
    exact q
theorem ok_isentry {f fN fI fP fL : Addr} {fd fdN fdI fdP fdL : FuncData} (T : Txt K mg) (F : Fun K "is_entry" "is_entry" s_is_entry f fd) (K_Book : Kl K mg "Book" C ["contents", "depths", "given"]) (D_is_name : Df K mg "is_name" s_is_name ["book", "thing"] fN fdN) (D_is_int : DfD K mg "is_int" s_is_int ["thing", "least"] [.int 0] fI fdI) (D_is_pair : Df K mg "is_pair" s_is_pair ["thing"] fP fdP) (D_is_label : Df K mg "is_label" s_is_label ["thing"] fL fdL) : FnOk P w K mg base CX0 3 f fd ["book", "thing"] (spIsEntry P w C) := by
  have G_is_name : FnOk P w K mg base CX0 2 fN fdN ["book", "thing"] (spIsName P w C) := ok_isname T D_is_name.fn K_Book D_is_int
  have G_is_pair : FnOk P w K mg base CX0 1 fP fdP ["thing"] spIsPair2 := ok_ispair2 T D_is_pair.fn
  have G_is_label : FnOk P w K mg base CX0 1 fL fdL ["thing"] spIsLabel := ok_islabel T D_is_label.fn
  have cl := K_Book.cl
  have n1 := K_Book.na "contents" (by simp)
  refine F.ok sc_is_entry (fun vs H Q E h => ?_) (fun cdv A outer s H vs Q E hr h => ?_)
  · obtain ⟨p, dx, lc, ld, lg, e, cs, ds, z, n, q, rfl, _⟩ := h
    rfl
  · obtain ⟨p, dx, lc, ld, lg, e, cs, ds, z, n, q, rfl, B, he, hz, hq, hw, qq⟩ := h
    have he' : H e = some (.tup [.str z, .int (n : Int)]) := he
    refine ⟨_,
      (pss_cons
        (ps_if (PW.pt (pw_or (pt_not (pt_val (pe_call G_is_pair (hr.mono (by omega)) (by rfl) D_is_pair.g D_is_pair.fn.kp D_is_pair.b .nil pass0 (pa_cons (pv 1) pa_nil)))) (pw_or1 (pt_not (pt_val (pe_call G_is_label (hr.mono (by omega)) (by rfl) D_is_label.g D_is_label.fn.kp D_is_label.b .nil pass0 (pa_cons (pe_ix (r := rIxT K) ix_tup (pv 1) pe_int (fun _ _ => rfl)) pa_nil)))))))
          (pss_one
            (ps_ret pe_bl))
          pss_nil)
      (pss_one
        (ps_ret (pe_and (pe_call G_is_name (hr.mono (by omega)) (by rfl) D_is_name.g D_is_name.fn.kp D_is_name.b .nil pass0 (pa_cons (pv 0) (pa_cons (pe_ix (r := rIxT K) ix_tup (pv 1) pe_int (fun _ _ => rfl)) pa_nil))) (pe_one (pe_cmpR op_ne (pe_ix (r := rIxT K) ix_tup (pe_ix (r := rIxL K) ix_list (pe_fldK (K := K) rfl (pv 0) rfl) (pe_ix (r := rIxT K) ix_tup (pv 1) pe_int (fun _ _ => rfl)) (fun _ _ => rfl)) pe_int (fun _ _ => rfl)) pe_str (nomark _)))))))
      , ?_⟩
    rw [show L2.start N_is_entry [V.ref p, V.ref e] = [some (.ref p), some (.ref e)] from rfl]
    refine w_seq ?_
    walk_at "x"
    refine ⟨e, _, _, rfl, he', ?_⟩
    walk_at "g"
    refine ⟨z, rfl, hz, fun H1 k1 => ?_⟩
    have B1 := B.same k1
    have ob1 := B1.ob
    have co1 := B1.co
    have he1 := k1 _ _ he'
    have hl : n < cs.length := (List.getElem?_eq_some_iff.mp hq).1
    obtain ⟨xs, hh⟩ := (B1.ct q (List.mem_of_getElem? hq)).head
    have at1 : atI (cs.map fun q => V.ref q.1) (n : Int) = some (.ref q.1) := atI_nat (by rw [List.getElem?_map, hq]; rfl)
    have at0 : atI (V.str q.2.word :: xs) 0 = some (.str q.2.word) := atI_nat (j := 0) rfl
    walk_at "g"
    refine ⟨p, dx, lc, ld, lg, cs, ds, .int (n : Int), "int", rfl, B1, .int _, fun m hm hml => ?_, fun hm => absurd hl (hm n rfl)⟩
    walk_at "g"
    rw [decide_eq_false hw]
    exact qq _ k1
theorem ok_depth {f : Addr} {fd : FuncData} (T : Txt K mg) (F : Fun K "depth_of" "depth_of" s_depth_of f fd) (K_Book : Kl K mg "Book" C ["contents", "depths", "given"]) : FnOk P w K mg base CX0 1 f fd ["book", "content"] (spDepth C) := by
  have cl := K_Book.cl
  have n2 := K_Book.na "depths" (by simp)
  refine F.ok sc_depth_of (fun vs H Q E h => ?_) (fun cdv A outer s H vs Q E hr h => ?_)
  · obtain ⟨p, dx, lc, ld, lg, a, ds, c, rfl, _⟩ := h
    rfl
  · obtain ⟨p, dx, lc, ld, lg, a, ds, c, rfl, ob, de, hc, ht, q⟩ := h
    refine ⟨_,
      (pss_cons
        (ps_if (pt_cmpR op_ne (pe_ix (r := rIxT K) ix_tup (pv 1) pe_int (fun _ _ => rfl)) pe_str (nomark _))
          (pss_one
            (ps_ret pe_int))
          pss_nil)
      (pss_one
        (ps_ret (pe_op op_add pe_int (pe_callBK (r := rMaxD K) (c_maxD rfl hr.units) (by rfl) T.n_max (by decide +kernel) (pa_cons (pe_lc (own := [("label", 2), ("name", 3)]) (g := (gTup K 2 (gCons (gName 2) (gCons (gName 3) gNil)))) rfl sc_depth_of.nd (pi_tup (pe_ix (r := rIxT K) ix_tup (pv 1) pe_int (fun _ _ => rfl))) (blkOk_by (own := [("label", 2), ("name", 3)]) (N := N_depth_of) (sc := defScope s_depth_of) (by decide +kernel)) (fun _ _ _ _ _ => (pg_tup rfl (pgs_cons (pg_name (i := 2) sc_depth_of.nd rfl (.inl rfl)) (pgs_cons (pg_name (i := 3) sc_depth_of.nd rfl (.inl rfl)) pgs_nil)))) (fun _ _ _ _ _ => pts_nil) (fun _ _ _ _ _ => (pe_ix (r := rIxL K) ix_list (pe_fldK (K := K) rfl (pv 0) rfl) (pv 3) (fun _ _ => rfl)))) pa_nil) (pk_cons pe_int pk_nil))))))
      , ?_⟩
    rw [show L2.start N_depth_of [V.ref p, V.ref a] = [some (.ref p), some (.ref a), none, none] from rfl]
    refine w_seq ?_
    have sm : Same H H := fun _ _ z => z
    cases c with
    | leaf rows =>
      obtain ⟨r, h1, _⟩ := hc
      walk_at "x"
      refine w_nno lit_ne1 ?_
      walk_at "g"
      exact q _ sm
    | ver ps root stamp =>
      obtain ⟨r, h1, _⟩ := hc
      walk_at "x"
      refine w_nno lit_ne6 ?_
      walk_at "g"
      exact q _ sm
    | tree es =>
      obtain ⟨r, qs, h1, h2, rfl, h4⟩ := hc
      obtain ⟨hl20, hin⟩ := ht _ rfl
      rw [List.length_map] at hl20
      walk_at "x"
      refine w_nyes rfl ?_
      walk_at "g"
      refine lcp_map (walk_tup (K := K) (a := r) (xs := qs.map fun q => V.ref q.1)) [] ((qs.map fun q => ds.getD q.2.2 0).map nV) (by simp) (by rw [List.length_map]; omega) (fun H' k => .of (k _ _ (by simp) h2)) ?_ (by simp) ?_
      · rintro i x H1 H2 R hi k1 ⟨rfl, hx⟩ hR
        obtain ⟨z, hz, rfl⟩ := map_at hx
        have hzm := List.mem_of_getElem? hz
        have e1 : H2 z.1 = some (.tup [.str z.2.1, .int (z.2.2 : Int)]) := k1.same _ _ (h4 z hzm)
        have ob1 := k1.same _ _ ob
        have de1 := k1.same _ _ de
        have hlt : z.2.2 < ds.length := hin z.2 (List.mem_map_of_mem hzm)
        have at1 : atI (ds.map nV) (z.2.2 : Int) = some (nV (ds.getD z.2.2 0)) := by
          refine atI_nat ?_
          rw [nV_at hlt, List.getD_eq_getElem?_getD, List.getElem?_eq_getElem hlt]
          rfl
        refine w_gtup (.of e1) rfl (w_gcons (w_name (w_gcons (w_name (w_gnil ⟨rfl, ?_⟩)))))
        walk_at "g"
        refine hR _ _ ?_ Kp.refl
        rw [List.getElem?_map, List.getElem?_map, hz]
        rfl
      · intro L H1 hL k1 eL
        have eL' : H1 L = some (.lst (((qs.map fun q => ds.getD q.2.2 0).map fun n : Nat => (n : Int)).map V.int)) := by rw [List.map_map]; exact eL
        walk_at "g"
        refine w_maxD' (.of eL') (fun e0 => ?_) fun m hm hall => ?_
        · have e1 : qs = [] := by simpa using e0
          subst e1
          walk_at "g"
          exact q _ k1.same
        · obtain ⟨n, hn, rfl⟩ := List.mem_map.mp hm
          walk_at "g"
          have e : depOf ds (.tree (qs.map (·.2))) = 1 + n := by
            show 1 + ((qs.map (·.2)).map fun e => ds.getD e.2 0).foldl max 0 = 1 + n
            rw [List.map_map]
            rw [fold_max n (qs.map ((fun e : Str × Nat => ds.getD e.2 0) ∘ fun q : Addr × Str × Nat => q.2)) 0 (.inr hn) (Nat.zero_le _) fun y hy => by
              have := hall (y : Int) (List.mem_map.mpr ⟨y, hy, rfl⟩)
              omega]
          have := q _ k1.same
          rw [e] at this
          rw [show nV (1 + n) = V.int (1 + (n : Int)) from congrArg V.int (by omega)] at this
          exact this
theorem ok_istree {f fE fR fO fN fI fP fL : Addr} {fd fdE fdR fdO fdN fdI fdP fdL : FuncData} (T : Txt K mg) (F : Fun K "is_tree" "is_tree" s_is_tree f fd) (K_Book : Kl K mg "Book" C ["contents", "depths", "given"]) (D_is_entry : Df K mg "is_entry" s_is_entry ["book", "thing"] fE fdE) (D_rise : Df K mg "rise" s_rise ["row"] fR fdR) (D_depth_of : Df K mg "depth_of" s_depth_of ["book", "content"] fO fdO) (D_is_name : Df K mg "is_name" s_is_name ["book", "thing"] fN fdN) (D_is_int : DfD K mg "is_int" s_is_int ["thing", "least"] [.int 0] fI fdI) (D_is_pair : Df K mg "is_pair" s_is_pair ["thing"] fP fdP) (D_is_label : Df K mg "is_label" s_is_label ["thing"] fL fdL) : FnOk P w K mg base CX0 4 f fd ["book", "entries"] (spIsTree P w C) := by
  have G_is_entry : FnOk P w K mg base CX0 3 fE fdE ["book", "thing"] (spIsEntry P w C) := ok_isentry T D_is_entry.fn K_Book D_is_name D_is_int D_is_pair D_is_label
  have G_rise : FnOk P w K mg base CX0 1 fR fdR ["row"] spRiseS := ok_riseS T D_rise.fn
  have G_depth_of : FnOk P w K mg base CX0 1 fO fdO ["book", "content"] (spDepth C) := ok_depth T D_depth_of.fn K_Book
  obtain ⟨tk_DEEP, g_DEEP⟩ := T.g_DEEP
  refine F.ok sc_is_tree (fun vs H Q E h => ?_) (fun cdv A outer s H vs Q E hr h => ?_)
  · obtain ⟨p, dx, lc, ld, lg, r, cs, ds, qs, rfl, _⟩ := h
    rfl
  · obtain ⟨p, dx, lc, ld, lg, r, cs, ds, qs, rfl, B, hr', hqs, ⟨c1, c2, c3, c4⟩, q⟩ := h
    rw [List.length_map] at c1
    refine ⟨_,
      (pss_cons
        (ps_if (PW.pt (pw_or (pt_not (pt_val (pe_callB (r := rIsi K) call_isi (by rfl) T.n_isinstance (by decide +kernel) (pa_cons (pv 1) (pa_cons (pe_bltn (v := .ty "tuple") (u := .type "tuple") (by rfl) T.n_tuple (by decide +kernel) rfl) pa_nil))))) (pw_or1 (pt_cmpR op_gt (pe_callB (r := rLen K) c_len (by rfl) T.n_len (by decide +kernel) (pa_cons (pv 1) pa_nil)) pe_int (nomark _)))))
          (pss_one
            (ps_ret pe_bl))
          pss_nil)
      (pss_cons
        (ps_if (PW.pt (pw_or (pt_not (pt_val (pe_callB (r := rAll K) (cr_all rfl) (by rfl) T.n_all (by decide +kernel) (pa_cons (pe_lc (own := [("entry", 2)]) (g := (gName 2)) rfl sc_is_tree.nd (pi_tup (pv 1)) (blkOk_by (own := [("entry", 2)]) (N := N_is_tree) (sc := defScope s_is_tree) (by decide +kernel)) (fun _ _ _ _ _ => (pg_name (i := 2) sc_is_tree.nd rfl (.inl rfl))) (fun _ _ _ _ _ => pts_nil) (fun _ _ _ _ _ => (pe_call G_is_entry (hr.mono (by omega)) (by rfl) D_is_entry.g D_is_entry.fn.kp D_is_entry.b .nil pass0 (pa_cons (pv 0) (pa_cons (pv 2) pa_nil))))) pa_nil)))) (pw_or1 (pt_not (pt_val (pe_call G_rise (hr.mono (by omega)) (by rfl) D_rise.g D_rise.fn.kp D_rise.b .nil pass0 (pa_cons (pe_lc (own := [("entry", 2)]) (g := (gName 2)) rfl sc_is_tree.nd (pi_tup (pv 1)) (blkOk_by (own := [("entry", 2)]) (N := N_is_tree) (sc := defScope s_is_tree) (by decide +kernel)) (fun _ _ _ _ _ => (pg_name (i := 2) sc_is_tree.nd rfl (.inl rfl))) (fun _ _ _ _ _ => pts_nil) (fun _ _ _ _ _ => (pe_ix (r := rIxT K) ix_tup (pv 2) pe_int (fun _ _ => rfl)))) pa_nil)))))))
          (pss_one
            (ps_ret pe_bl))
          pss_nil)
      (pss_one
        (ps_ret (pe_cmpR op_le (pe_call G_depth_of (hr.mono (by omega)) (by rfl) D_depth_of.g D_depth_of.fn.kp D_depth_of.b .nil pass0 (pa_cons (pv 0) (pa_cons (pe_tup (pa_cons pe_str (pa_cons (pv 1) pa_nil))) pa_nil))) (pe_glob (v := .int 8) rfl g_DEEP ⟨_, rfl⟩) (nomark _))))))
      , ?_⟩
    rw [show L2.start N_is_tree [V.ref p, V.ref r] = [some (.ref p), some (.ref r), none] from rfl]
    refine w_seq ?_
    walk_at "x"
    refine w_no (by rw [List.length_map]; omega) ?_
    walk_at "g"
    refine w_seq ?_
    walk_at "g"
    refine lcp_map (walk_tup (K := K) (a := r) (xs := qs.map fun q => V.ref q.1)) [] ((qs.map fun _ => true).map V.bl) (by simp) (by rw [List.length_map]; omega) (fun H' k => .of (k _ _ (by simp) hr')) ?_ (by simp) ?_
    · rintro i x H1 H2 R hi k1 ⟨rfl, hx⟩ hR
      obtain ⟨z, hz, rfl⟩ := map_at hx
      have hzm := List.mem_of_getElem? hz
      obtain ⟨g1, c, g2, g3⟩ := c2 z.2 (List.mem_map_of_mem hzm)
      rw [List.getElem?_map] at g2
      obtain ⟨q', hq', rfl⟩ := Option.map_eq_some_iff.mp g2
      refine w_name ⟨rfl, ?_⟩
      walk_at "g"
      refine ⟨p, dx, lc, ld, lg, z.1, cs, ds, z.2.1, z.2.2, q', rfl, B.same k1.same, k1.same _ _ (hqs z hzm), g1, hq', g3, fun H3 k3 => ?_⟩
      refine hR _ _ ?_ (Kp.of k3)
      rw [List.getElem?_map, List.getElem?_map, hz]
      rfl
    · intro L H1 hL k1' eL
      have k1 := k1'.same
      have hr1 := k1 _ _ hr'
      walk_at "g"
      rw [show (qs.map fun _ => true).all id = true by simp]
      walk_at "g"
      refine lcp_map (walk_tup (K := K) (a := r) (xs := qs.map fun q => V.ref q.1)) [] ((qs.map fun q => q.2.1).map V.str) (by simp) (by rw [List.length_map]; omega) (fun H' k => .of (k _ _ (by simp) hr1)) ?_ (by simp) ?_
      · rintro i x H2 H3 R hi k2 ⟨rfl, hx⟩ hR
        obtain ⟨z, hz, rfl⟩ := map_at hx
        have hzm := List.mem_of_getElem? hz
        have e1 : H3 z.1 = some (.tup [.str z.2.1, .int (z.2.2 : Int)]) := k2.same _ _ (k1 _ _ (hqs z hzm))
        refine w_name ⟨rfl, ?_⟩
        walk_at "g"
        refine hR _ _ ?_ Kp.refl
        rw [List.getElem?_map, List.getElem?_map, hz]
        rfl
      · intro L2' H2 hL2 k2' eL2
        have k2 := k2'.same
        walk_at "g"
        refine ⟨L2', qs.map fun q => q.2.1, rfl, eL2, by rw [List.length_map]; omega, ?_, fun H3 k3 => ?_⟩
        · rw [List.pairwise_map] at c3 ⊢
          exact c3
        walk_at "g"
        refine w_new fun t H4 ht e4 k4 => ?_
        have k04 : Same H H4 := Same.trans k1 (Same.trans k2 (Same.trans k3 k4))
        walk_at "g"
        refine ⟨p, dx, lc, ld, lg, t, ds, .tree (qs.map (·.2)), rfl, k04 _ _ B.ob, k04 _ _ B.de, ⟨r, qs, e4, k04 _ _ hr', rfl, fun z hz => k04 _ _ (hqs z hz)⟩, fun es e => ?_, fun H5 k5 => ?_⟩
        · cases e
          refine ⟨by rw [List.length_map]; exact c1, fun z hz => ?_⟩
          obtain ⟨_, c, g2, _⟩ := c2 z hz
          have := (List.getElem?_eq_some_iff.mp g2).1
          rw [B.dl]
          rwa [List.length_map] at this
        walk_at "g"
        rw [decide_eq_true (by omega)]
        exact q _ (Same.trans k04 k5)
theorem ok_isversion {f fG fA fR fK fN fI : Addr} {fd fdG fdA fdR fdK fdN fdI : FuncData} (T : Txt K mg) (F : Fun K "is_version" "is_version" s_is_version f fd) (K_Book : Kl K mg "Book" C ["contents", "depths", "given"]) (D_rising_ints : Df K mg "rising_ints" s_rising_ints ["thing"] fG fdG) (D_are_ints : Df K mg "are_ints" s_are_ints ["thing"] fA fdA) (D_rise : Df K mg "rise" s_rise ["row"] fR fdR) (D_is_kind : Df K mg "is_kind" s_is_kind ["book", "thing", "kind"] fK fdK) (D_is_name : Df K mg "is_name" s_is_name ["book", "thing"] fN fdN) (D_is_int : DfD K mg "is_int" s_is_int ["thing", "least"] [.int 0] fI fdI) : FnOk P w K mg base CX0 4 f fd ["book", "content"] (spIsVersion P w C) := by
  obtain ⟨ds_is_int, V_is_int, B_is_int⟩ := D_is_int.b
  have G_is_int : FnOk P w K mg base CX0 1 fI fdI ["thing", "least"] spIsInt := ok_isint T D_is_int
  have G_rising_ints : FnOk P w K mg base CX0 3 fG fdG ["thing"] spRisingInts := ok_risingints T D_rising_ints.fn D_are_ints D_rise D_is_int
  have G_is_kind : FnOk P w K mg base CX0 3 fK fdK ["book", "thing", "kind"] (spIsKind P w C) := ok_iskind T D_is_kind.fn K_Book D_is_name D_is_int
  refine F.ok sc_is_version (fun vs H Q E h => ?_) (fun cdv A outer s H vs Q E hr h => ?_)
  · obtain ⟨p, dx, lc, ld, lg, a, cs, ds, ps, root, stamp, rfl, _⟩ := h
    rfl
  · obtain ⟨p, dx, lc, ld, lg, a, cs, ds, ps, root, stamp, rfl, B, ⟨r, h1, h2⟩, ⟨c1, c2, c3, ⟨cr, c4, c5⟩, c6⟩, q⟩ := h
    refine ⟨_,
      (pss_cons
        (ps_set (i := 2) sc_is_version.nd rfl (.inl rfl) (pe_ix (r := rIxT K) ix_tup (pv 1) pe_int (fun _ _ => rfl)))
      (pss_cons
        (ps_if (PW.pt (pw_or (pt_not (pt_val (pe_call G_rising_ints (hr.mono (by omega)) (by rfl) D_rising_ints.g D_rising_ints.fn.kp D_rising_ints.b .nil pass0 (pa_cons (pv 2) pa_nil)))) (pw_or1 (pt_cmpR op_gt (pe_callB (r := rLen K) c_len (by rfl) T.n_len (by decide +kernel) (pa_cons (pv 2) pa_nil)) pe_int (nomark _)))))
          (pss_one
            (ps_ret pe_bl))
          pss_nil)
      (pss_cons
        (ps_if (PW.pt (pw_or (pt_not (pt_val (pe_callB (r := rAll K) (cr_all rfl) (by rfl) T.n_all (by decide +kernel) (pa_cons (pe_lc (own := [("parent", 3)]) (g := (gName 3)) rfl sc_is_version.nd (pi_tup (pv 2)) (blkOk_by (own := [("parent", 3)]) (N := N_is_version) (sc := defScope s_is_version) (by decide +kernel)) (fun _ _ _ _ _ => (pg_name (i := 3) sc_is_version.nd rfl (.inl rfl))) (fun _ _ _ _ _ => pts_nil) (fun _ _ _ _ _ => (pe_call G_is_kind (hr.mono (by omega)) (by rfl) D_is_kind.g D_is_kind.fn.kp D_is_kind.b .nil pass0 (pa_cons (pv 0) (pa_cons (pv 3) (pa_cons pe_str pa_nil)))))) pa_nil)))) (pw_or1 (pt_not (pt_val (pe_call G_is_kind (hr.mono (by omega)) (by rfl) D_is_kind.g D_is_kind.fn.kp D_is_kind.b .nil pass0 (pa_cons (pv 0) (pa_cons (pe_ix (r := rIxT K) ix_tup (pv 1) pe_int (fun _ _ => rfl)) (pa_cons pe_str pa_nil)))))))))
          (pss_one
            (ps_ret pe_bl))
          pss_nil)
      (pss_one
        (ps_ret (pe_and (pe_call G_is_int (hr.mono (by omega)) (by rfl) D_is_int.g D_is_int.kp B_is_int V_is_int pass0 (pa_cons (pe_ix (r := rIxT K) ix_tup (pv 1) pe_int (fun _ _ => rfl)) pa_nil)) (pe_one (pe_cmpR op_le (pe_ix (r := rIxT K) ix_tup (pv 1) pe_int (fun _ _ => rfl)) (pe_op op_pow pe_int pe_int) (nomark _)))))))))
      , ?_⟩
    rw [show L2.start N_is_version [V.ref p, V.ref a] = [some (.ref p), some (.ref a), none, none] from rfl]
    walk_at "x"
    refine w_seq ?_
    walk_at "g"
    have dat : DatT 10 H (.ref r) := .tup h2 (by rw [List.length_map]; omega) fun y hy => by
      obtain ⟨n, _, rfl⟩ := List.mem_map.mp hy
      exact .leaf (.int _) (by decide) fun z e => by cases e
    refine ⟨.ref r, 10, rfl, dat, by decide, fun ns hns hp H1 k1 => ?_, fun hn => absurd c1 (hn ps ⟨r, rfl, h2⟩)⟩
    have h11 := k1 _ _ h1
    have h21 := k1 _ _ h2
    walk_at "g"
    refine w_no (by rw [List.length_map]; omega) ?_
    walk_at "g"
    refine w_seq ?_
    walk_at "g"
    refine lcp_map (walk_tup (K := K) (a := r) (xs := ps.map nV)) [] ((ps.map fun _ => true).map V.bl) (by simp) (by rw [List.length_map]; omega) (fun H' k => .of (k _ _ (by simp) h21)) ?_ (by simp) ?_
    · rintro i x H2 H3 R hi k2 ⟨rfl, hx⟩ hR
      obtain ⟨n, hn, rfl⟩ := map_at hx
      obtain ⟨c, g2, g3⟩ := c3 n (List.mem_of_getElem? hn)
      rw [List.getElem?_map] at g2
      obtain ⟨q', hq', rfl⟩ := Option.map_eq_some_iff.mp g2
      have hl : n < cs.length := (List.getElem?_eq_some_iff.mp hq').1
      refine w_name ⟨rfl, ?_⟩
      walk_at "g"
      refine ⟨p, dx, lc, ld, lg, cs, ds, nV n, "int", "version", rfl, (B.same k1).same k2.same, .int _, fun m qm em hm => ?_, fun hm => absurd hl (hm n rfl)⟩
      have en : n = m := by have : (n : Int) = m := V.int.inj em; omega
      subst en
      rw [hq'] at hm
      cases hm
      rw [decide_eq_true g3]
      refine hR _ _ ?_ Kp.refl
      rw [List.getElem?_map, List.getElem?_map, hn]
      rfl
    · intro L H2 hL k2' eL
      have k2 := k2'.same
      have h12 := k2 _ _ h11
      rw [List.getElem?_map] at c4
      obtain ⟨q', hq', rfl⟩ := Option.map_eq_some_iff.mp c4
      have hl : root < cs.length := (List.getElem?_eq_some_iff.mp hq').1
      walk_at "g"
      rw [show (ps.map fun _ => true).all id = true by simp]
      walk_at "g"
      refine ⟨p, dx, lc, ld, lg, cs, ds, nV root, "int", "tree", rfl, (B.same k1).same k2, .int _, fun m qm em hm => ?_, fun hm => absurd hl (hm root rfl)⟩
      have en : root = m := by have : (root : Int) = m := V.int.inj em; omega
      subst en
      rw [hq'] at hm
      cases hm
      rw [decide_eq_true c5]
      walk_at "g"
      refine ⟨nV stamp, "int", rfl, .int _, fun m em => ?_, fun hm => absurd rfl (hm stamp)⟩
      walk_at "g"
      rw [decide_eq_true (by rw [show (10 : Int) ^ Int.toNat 18 = 1000000000000000000 by decide]; omega)]
      exact q _ (Same.trans k1 k2)
end
section
variable {P : Program} {w : World} {K : PySem.W.Frag} {mg : Str → Option Value} {base : Heap} {C : Addr}
theorem ok_iscontent {f fT fV fO fW fE fR fP fL fG fA fK fN fI fX : Addr} {fd fdT fdV fdO fdW fdE fdR fdP fdL fdG fdA fdK fdN fdI fdX : FuncData} (T : Txt K mg) (F : Fun K "is_content" "is_content" s_is_content f fd) (K_Book : Kl K mg "Book" C ["contents", "depths", "given"]) (D_is_tree : Df K mg "is_tree" s_is_tree ["book", "entries"] fT fdT) (D_is_version : Df K mg "is_version" s_is_version ["book", "content"] fV fdV) (D_depth_of : Df K mg "depth_of" s_depth_of ["book", "content"] fO fdO) (D_are_rows : Df K mg "are_rows" s_are_rows ["thing"] fW fdW) (D_is_entry : Df K mg "is_entry" s_is_entry ["book", "thing"] fE fdE) (D_rise : Df K mg "rise" s_rise ["row"] fR fdR) (D_is_pair : Df K mg "is_pair" s_is_pair ["thing"] fP fdP) (D_is_label : Df K mg "is_label" s_is_label ["thing"] fL fdL) (D_rising_ints : Df K mg "rising_ints" s_rising_ints ["thing"] fG fdG) (D_are_ints : Df K mg "are_ints" s_are_ints ["thing"] fA fdA) (D_is_kind : Df K mg "is_kind" s_is_kind ["book", "thing", "kind"] fK fdK) (D_is_name : Df K mg "is_name" s_is_name ["book", "thing"] fN fdN) (D_is_int : DfD K mg "is_int" s_is_int ["thing", "least"] [.int 0] fI fdI) (D_is_text : DfD K mg "is_text" s_is_text ["thing", "most"] [.int 40] fX fdX) : FnOk P w K mg base CX0 5 f fd ["book", "thing"] (spIsContent P w C) := by
  have G_is_tree : FnOk P w K mg base CX0 4 fT fdT ["book", "entries"] (spIsTree P w C) := ok_istree T D_is_tree.fn K_Book D_is_entry D_rise D_depth_of D_is_name D_is_int D_is_pair D_is_label
  have G_is_version : FnOk P w K mg base CX0 4 fV fdV ["book", "content"] (spIsVersion P w C) := ok_isversion T D_is_version.fn K_Book D_rising_ints D_are_ints D_rise D_is_kind D_is_name D_is_int
  have G_are_rows : FnOk P w K mg base CX0 2 fW fdW ["thing"] spAreRows := ok_arerows T D_are_rows.fn D_is_text
  refine F.ok sc_is_content (fun vs H Q E h => ?_) (fun cdv A outer s H vs Q E hr h => ?_)
  · obtain ⟨p, dx, lc, ld, lg, a, cs, ds, c, rfl, _⟩ := h
    rfl
  · obtain ⟨p, dx, lc, ld, lg, a, cs, ds, c, rfl, B, hc, ok, q⟩ := h
    refine ⟨_,
      (pss_cons
        (ps_if (PW.pt (pw_or (pt_not (pt_val (pe_callB (r := rIsi K) call_isi (by rfl) T.n_isinstance (by decide +kernel) (pa_cons (pv 1) (pa_cons (pe_bltn (v := .ty "tuple") (u := .type "tuple") (by rfl) T.n_tuple (by decide +kernel) rfl) pa_nil))))) (pw_or (pt_cmpR op_lt (pe_callB (r := rLen K) c_len (by rfl) T.n_len (by decide +kernel) (pa_cons (pv 1) pa_nil)) pe_int (nomark _)) (pw_or1 (pt_not (pt_val (pe_callB (r := rIsi K) call_isi (by rfl) T.n_isinstance (by decide +kernel) (pa_cons (pe_ix (r := rIxT K) ix_tup (pv 1) pe_int (fun _ _ => rfl)) (pa_cons (pe_bltn (v := .ty "str") (u := .type "str") (by rfl) T.n_str (by decide +kernel) rfl) pa_nil)))))))))
          (pss_one
            (ps_ret pe_bl))
          pss_nil)
      (pss_cons
        (ps_if (pt_cmpR op_eq (pe_ix (r := rIxT K) ix_tup (pv 1) pe_int (fun _ _ => rfl)) pe_str (nomark _))
          (pss_one
            (ps_ret (pe_and (pe_cmpR op_eq (pe_callB (r := rLen K) c_len (by rfl) T.n_len (by decide +kernel) (pa_cons (pv 1) pa_nil)) pe_int (nomark _)) (pe_one (pe_call G_are_rows (hr.mono (by omega)) (by rfl) D_are_rows.g D_are_rows.fn.kp D_are_rows.b .nil pass0 (pa_cons (pe_ix (r := rIxT K) ix_tup (pv 1) pe_int (fun _ _ => rfl)) pa_nil))))))
          pss_nil)
      (pss_cons
        (ps_if (pt_cmpR op_eq (pe_ix (r := rIxT K) ix_tup (pv 1) pe_int (fun _ _ => rfl)) pe_str (nomark _))
          (pss_one
            (ps_ret (pe_and (pe_cmpR op_eq (pe_callB (r := rLen K) c_len (by rfl) T.n_len (by decide +kernel) (pa_cons (pv 1) pa_nil)) pe_int (nomark _)) (pe_one (pe_call G_is_tree (hr.mono (by omega)) (by rfl) D_is_tree.g D_is_tree.fn.kp D_is_tree.b .nil pass0 (pa_cons (pv 0) (pa_cons (pe_ix (r := rIxT K) ix_tup (pv 1) pe_int (fun _ _ => rfl)) pa_nil)))))))
          pss_nil)
      (pss_one
        (ps_ret (pe_and (pe_cmpR op_eq (pe_ix (r := rIxT K) ix_tup (pv 1) pe_int (fun _ _ => rfl)) pe_str (nomark _)) (pe_and (pe_cmpR op_eq (pe_callB (r := rLen K) c_len (by rfl) T.n_len (by decide +kernel) (pa_cons (pv 1) pa_nil)) pe_int (nomark _)) (pe_one (pe_call G_is_version (hr.mono (by omega)) (by rfl) D_is_version.g D_is_version.fn.kp D_is_version.b .nil pass0 (pa_cons (pv 0) (pa_cons (pv 1) pa_nil)))))))))))
      , ?_⟩
    rw [show L2.start N_is_content [V.ref p, V.ref a] = [some (.ref p), some (.ref a)] from rfl]
    refine w_seq ?_
    cases c with
    | leaf rows =>
      obtain ⟨r, h1, h2⟩ := hc
      walk_at "x"
      refine w_no (by simp only [List.length_cons, List.length_nil]; omega) ?_
      walk_at "g"
      refine w_seq ?_
      walk_at "g"
      refine w_yes rfl ?_
      walk_at "g"
      refine w_yes rfl ?_
      walk_at "g"
      refine ⟨r, rows, rfl, h2, ok.1, ok.2, q⟩
    | tree es =>
      obtain ⟨r, qs, h1, h2, rfl, h4⟩ := hc
      walk_at "x"
      refine w_no (by simp only [List.length_cons, List.length_nil]; omega) ?_
      walk_at "g"
      refine w_seq ?_
      walk_at "g"
      refine w_no lit_ne4 ?_
      walk_at "g"
      refine w_seq ?_
      walk_at "g"
      refine w_yes rfl ?_
      walk_at "g"
      refine w_yes rfl ?_
      walk_at "g"
      refine ⟨p, dx, lc, ld, lg, r, cs, ds, qs, rfl, B, h2, h4, ok, q⟩
    | ver ps root stamp =>
      have hc' := hc
      obtain ⟨r, h1, h2⟩ := hc
      walk_at "x"
      refine w_no (by simp only [List.length_cons, List.length_nil]; omega) ?_
      walk_at "g"
      refine w_seq ?_
      walk_at "g"
      refine w_no lit_ne5 ?_
      walk_at "g"
      refine w_seq ?_
      walk_at "g"
      refine w_no lit_ne6 ?_
      walk_at "g"
      refine w_yes rfl ?_
      walk_at "g"
      refine w_yes rfl ?_
      walk_at "g"
      refine ⟨p, dx, lc, ld, lg, a, cs, ds, ps, root, stamp, rfl, B, hc', ok, q⟩
theorem ok_bookinit {f : Addr} {fd : FuncData} (T : Txt K mg) (F : Fun K "__init__" "Book.__init__" s_Book___init__ f fd) (K_Book : Kl K mg "Book" C ["contents", "depths", "given"]) : FnOk P w K mg base CX0 1 f fd ["self"] (spBookInit P w C) := by
  have cl := K_Book.cl
  have n1 := K_Book.na "contents" (by simp)
  have n2 := K_Book.na "depths" (by simp)
  have n3 := K_Book.na "given" (by simp)
  refine F.ok sc_Book___init__ (fun vs H Q E h => ?_) (fun cdv A outer s H vs Q E hr h => ?_)
  · obtain ⟨p, dx, rfl, _⟩ := h
    rfl
  · obtain ⟨p, dx, rfl, hp, q⟩ := h
    refine ⟨_,
      (pss_cons
        (ps_fld (pv 0) (pe_lst pa_nil) rfl)
      (pss_cons
        (ps_fld (pv 0) (pe_lst pa_nil) rfl)
      (pss_one
        (ps_fld (pv 0) pe_nnew rfl))))
      , ?_⟩
    rw [show L2.start N_Book___init__ [V.ref p] = [some (.ref p)] from rfl]
    walk_at "x"
    refine w_new fun lc H1 hlc e1 k1 => ?_
    have hp1 := k1 _ _ hp
    walk_at "g"
    refine w_fldS' hp1 cl n1 (by decide) fun H2 o2 f2 => ?_
    have nlc : lc ≠ p := (ne_of_none hp hlc).symm
    walk_at "g"
    refine w_new fun ld H3 hld e3 k3 => ?_
    have o3 := k3 _ _ o2
    have nld : ld ≠ p := (ne_of_none o2 hld).symm
    have hld1 : H1 ld = none := by rw [← f2 ld nld]; exact hld
    walk_at "g"
    refine w_fldS' o3 cl n2 (show (1 : Nat) < 1000 by decide) fun H4 o4 f4 => ?_
    walk_at "g"
    refine w_nnew fun lg H5 hlg d5 k5 => ?_
    have o5 := k5 _ _ o4
    have nlg : lg ≠ p := (ne_of_none o4 hlg).symm
    have hlg3 : H3 lg = none := by rw [← f4 lg nlg]; exact hlg
    walk_at "g"
    refine w_fldS' o5 cl n3 (show (2 : Nat) < 1000 by decide) fun H6 o6 f6 => ?_
    have e2 := f2.get nlc e1
    have ndc : lc ≠ ld := ne_of_none e2 hld
    have e6 : H6 lc = some (.lst []) := f6.get nlc (k5 _ _ (f4.get nlc (k3 _ _ e2)))
    have e6d : H6 ld = some (.lst []) := f6.get nld (k5 _ _ (f4.get nld e3))
    have d6 : NDict P w H6 lg [] := ⟨f6.get nlg d5.at', fun q hq => by cases hq⟩
    have hld0 : H ld = none := by
      cases e : H ld with
      | none => rfl
      | some o => rw [k1 _ _ e] at hld1; cases hld1
    have hlg0 : H lg = none := by
      cases e : H lg with
      | none => rfl
      | some o =>
        have := k3 _ _ (f2.get nlg (k1 _ _ e))
        rw [this] at hlg3
        cases hlg3
    refine q lc ld lg H6 hlc hld0 hlg0 ⟨o6, e6, e6d, d6, by simp, by simp, rfl, ndc, by simp⟩ fun b o hb e => ?_
    have hb' : b ≠ p := by simpa using hb
    exact f6.get hb' (k5 _ _ (f4.get hb' (k3 _ _ (f2.get hb' (k1 _ _ e)))))
theorem ok_thing {f fN fI : Addr} {fd fdN fdI : FuncData} (T : Txt K mg) (F : Fun K "thing" "Book.thing" s_Book_thing f fd) (K_Book : Kl K mg "Book" C ["contents", "depths", "given"]) (D_is_name : Df K mg "is_name" s_is_name ["book", "thing"] fN fdN) (D_is_int : DfD K mg "is_int" s_is_int ["thing", "least"] [.int 0] fI fdI) : FnOk P w K mg base CX0 3 f fd ["self", "name"] (spThing P w C) := by
  have G_is_name : FnOk P w K mg base CX0 2 fN fdN ["book", "thing"] (spIsName P w C) := ok_isname T D_is_name.fn K_Book D_is_int
  have cl := K_Book.cl
  have n1 := K_Book.na "contents" (by simp)
  refine F.ok sc_Book_thing (fun vs H Q E h => ?_) (fun cdv A outer s H vs Q E hr h => ?_)
  · obtain ⟨p, dx, lc, ld, lg, cs, ds, n, q, rfl, _⟩ := h
    rfl
  · obtain ⟨p, dx, lc, ld, lg, cs, ds, n, qc, rfl, B, hq, q⟩ := h
    have ob := B.ob
    have co := B.co
    have hl : n < cs.length := (List.getElem?_eq_some_iff.mp hq).1
    have at1 : atI (cs.map fun q => V.ref q.1) (n : Int) = some (.ref qc.1) := atI_nat (by rw [List.getElem?_map, hq]; rfl)
    refine ⟨_,
      (pss_cons
        (ps_if (pt_not (pt_val (pe_call G_is_name (hr.mono (by omega)) (by rfl) D_is_name.g D_is_name.fn.kp D_is_name.b .nil pass0 (pa_cons (pv 0) (pa_cons (pv 1) pa_nil)))))
          pss_never
          pss_nil)
      (pss_one
        (ps_ret (pe_ix (r := rIxL K) ix_list (pe_fldK (K := K) rfl (pv 0) rfl) (pv 1) (fun _ _ => rfl)))))
      , ?_⟩
    rw [show L2.start N_Book_thing [V.ref p, nV n] = [some (.ref p), some (.int (n : Int))] from rfl]
    refine w_seq ?_
    walk_at "x"
    refine ⟨p, dx, lc, ld, lg, cs, ds, nV n, "int", rfl, B, .int _, fun m _ _ => ?_, fun hm => absurd hl (hm n rfl)⟩
    walk_at "g"
    exact q
theorem ok_kind {f fG fN fI : Addr} {fd fdG fdN fdI : FuncData} (T : Txt K mg) (F : Fun K "kind" "Book.kind" s_Book_kind f fd) (K_Book : Kl K mg "Book" C ["contents", "depths", "given"]) (D_Book_thing : DfM K C "thing" "Book.thing" s_Book_thing ["self", "name"] fG fdG) (D_is_name : Df K mg "is_name" s_is_name ["book", "thing"] fN fdN) (D_is_int : DfD K mg "is_int" s_is_int ["thing", "least"] [.int 0] fI fdI) : FnOk P w K mg base CX0 4 f fd ["self", "name"] (spKind P w C) := by
  have G_Book_thing : FnOk P w K mg base CX0 3 fG fdG ["self", "name"] (spThing P w C) := ok_thing T D_Book_thing.fn K_Book D_is_name D_is_int
  refine F.ok sc_Book_kind (fun vs H Q E h => ?_) (fun cdv A outer s H vs Q E hr h => ?_)
  · obtain ⟨p, dx, lc, ld, lg, cs, ds, n, q, rfl, _⟩ := h
    rfl
  · obtain ⟨p, dx, lc, ld, lg, cs, ds, n, qc, rfl, B, hq, q⟩ := h
    have ob := B.ob
    obtain ⟨xs, hh⟩ := (B.ct qc (List.mem_of_getElem? hq)).head
    have at0 : atI (V.str qc.2.word :: xs) 0 = some (.str qc.2.word) := atI_nat (j := 0) rfl
    refine ⟨_,
      (pss_one
        (ps_ret (pe_ix (r := rIxT K) ix_tup (pe_meth (pv 0) K_Book.cl D_Book_thing.m G_Book_thing (hr.mono (by omega)) D_Book_thing.b .nil pass0 (pa_cons (pv 1) pa_nil)) pe_int (fun _ _ => rfl))))
      , ?_⟩
    rw [show L2.start N_Book_kind [V.ref p, nV n] = [some (.ref p), some (.int (n : Int))] from rfl]
    walk_at "x"
    refine ⟨p, dx, lc, ld, lg, cs, ds, n, qc, rfl, B, hq, ?_⟩
    walk_at "g"
    exact q
theorem ok_named {f fC fO : Addr} {fd fdC fdO : FuncData} (T : Txt K mg) (F : Fun K "named" "Book.named" s_Book_named f fd) (K_Book : Kl K mg "Book" C ["contents", "depths", "given"]) (D_is_content : Df K mg "is_content" s_is_content ["book", "thing"] fC fdC) (D_depth_of : Df K mg "depth_of" s_depth_of ["book", "content"] fO fdO) (G_is_content : FnOk P w K mg base CX0 5 fC fdC ["book", "thing"] (spIsContent P w C)) : FnOk P w K mg base CX0 6 f fd ["self", "content"] (spNamed P w C) := by
  have G_depth_of : FnOk P w K mg base CX0 1 fO fdO ["book", "content"] (spDepth C) := ok_depth T D_depth_of.fn K_Book
  obtain ⟨tk_MOST, g_MOST⟩ := T.g_MOST
  have cl := K_Book.cl
  have n1 := K_Book.na "contents" (by simp)
  have n2 := K_Book.na "depths" (by simp)
  have n3 := K_Book.na "given" (by simp)
  refine F.ok sc_Book_named (fun vs H Q E h => ?_) (fun cdv A outer s H vs Q E hr h => ?_)
  · obtain ⟨p, dx, lc, ld, lg, a, cs, ds, c, rfl, _⟩ := h
    rfl
  · obtain ⟨p, dx, lc, ld, lg, a, cs, ds, c, rfl, B, hc, ok, hlt, q1, q2⟩ := h
    refine ⟨_,
      (pss_cons
        (ps_if (pt_not (pt_val (pe_call G_is_content (hr.mono (by omega)) (by rfl) D_is_content.g D_is_content.fn.kp D_is_content.b .nil pass0 (pa_cons (pv 0) (pa_cons (pv 1) pa_nil)))))
          pss_never
          pss_nil)
      (pss_cons
        (ps_if (pt_cmp (pc_nin hr.units (pv 1) (pe_fldK (K := K) rfl (pv 0) rfl)))
          (pss_one
            (ps_ret (pe_nget hr.units (pe_fldK (K := K) rfl (pv 0) rfl) (pv 1) (fun _ _ => rfl))))
          pss_nil)
      (pss_cons
        (ps_if (pt_cmpR op_ge (pe_callB (r := rLen K) c_len (by rfl) T.n_len (by decide +kernel) (pa_cons (pe_fldK (K := K) rfl (pv 0) rfl) pa_nil)) (pe_glob (v := .int 400) rfl g_MOST ⟨_, rfl⟩) (nomark _))
          pss_never
          pss_nil)
      (pss_cons
        (ps_nput hr.units (pe_fldK (K := K) rfl (pv 0) rfl) (pv 1) (pe_callB (r := rLen K) c_len (by rfl) T.n_len (by decide +kernel) (pa_cons (pe_fldK (K := K) rfl (pv 0) rfl) pa_nil)) rfl)
      (pss_cons
        (ps_expr (pe_bm PySem.F.plainAttrs_list PySem.F.slot_list_append PySem.F.type_list_append mt_append (pe_fldK (K := K) rfl (pv 0) rfl) (pa_cons (pv 1) pa_nil)))
      (pss_cons
        (ps_expr (pe_bm PySem.F.plainAttrs_list PySem.F.slot_list_append PySem.F.type_list_append mt_append (pe_fldK (K := K) rfl (pv 0) rfl) (pa_cons (pe_call G_depth_of (hr.mono (by omega)) (by rfl) D_depth_of.g D_depth_of.fn.kp D_depth_of.b .nil pass0 (pa_cons (pv 0) (pa_cons (pv 1) pa_nil))) pa_nil)))
      (pss_one
        (ps_ret (pe_op op_sub (pe_callB (r := rLen K) c_len (by rfl) T.n_len (by decide +kernel) (pa_cons (pe_fldK (K := K) rfl (pv 0) rfl) pa_nil)) pe_int)))))))))
      , ?_⟩
    rw [show L2.start N_Book_named [V.ref p, V.ref a] = [some (.ref p), some (.ref a)] from rfl]
    refine w_seq ?_
    walk_at "x"
    refine ⟨p, dx, lc, ld, lg, a, cs, ds, c, rfl, B, hc, ok, fun H1 k1 => ?_⟩
    have B1 := B.same k1
    have hc1 := hc.kt (KT.of k1)
    have ob1 := B1.ob
    have co1 := B1.co
    have de1 := B1.de
    walk_at "g"
    refine w_seq ?_
    walk_at "g"
    refine w_nin' B1.gi hc1.nk c.key_depth ?_
    walk_at "g"
    by_cases hin : ∀ q ∈ cs, q.2 ≠ c
    · rw [ents_none cs 0 hin, Option.isSome_none]
      walk_at "g"
      refine w_seq ?_
      walk_at "g"
      refine w_no (by rw [List.length_map]; omega) ?_
      walk_at "g"
      refine w_nput' B1.gi hc1.nk c.key_depth (by rw [entsF_len]; exact small1kl (by omega)) fun H2 d2 o2 => ?_
      have t2 : KT H1 H2 := fun b ys e => o2.get (ne_of e B1.gi.at' (fun z => nomatch z)) e
      have nlc : lc ≠ lg := ne_of co1 B1.gi.at' (fun z => nomatch z)
      have nld : ld ≠ lg := ne_of de1 B1.gi.at' (fun z => nomatch z)
      have npg : p ≠ lg := ne_of ob1 B1.gi.at' (fun z => nomatch z)
      have npc : p ≠ lc := ne_of ob1 co1 (fun z => nomatch z)
      have npd : p ≠ ld := ne_of ob1 de1 (fun z => nomatch z)
      have co2 := o2.get nlc co1
      have de2 := o2.get nld de1
      have ob2 := o2.get npg ob1
      have ep : NPut (entsF 0 cs) c.key a (V.int ((cs.map fun q => V.ref q.1).length : Int)) = entsF 0 (cs ++ [(a, c)]) := by
        unfold NPut
        rw [ents_none cs 0 hin, entsF_snoc, List.length_map, Nat.zero_add]
        rfl
      rw [ep] at d2
      walk_at "g"
      refine w_app co2 (by rw [List.length_map]; exact small1kl (by omega)) fun H3 e3 o3 => ?_
      have t3 : KT H2 H3 := KT.off o3 co2
      have de3 := o3.get B1.ne.symm de2
      have ob3 := o3.get npc ob2
      walk_at "g"
      have kt13 := t2.trans t3
      have ct3 : ∀ q ∈ cs ++ [(a, c)], CtAt H3 q.1 q.2 := fun q hq => by
        rcases List.mem_append.mp hq with h | h
        · exact (B1.ct q h).kt kt13
        · have e : q = (a, c) := by simpa using h
          subst e
          exact hc1.kt kt13
      refine ⟨p, dx, lc, ld, lg, a, ds, c, rfl, ob3, de3, hc1.kt kt13, fun es e => ?_, fun H4 k4 => ?_⟩
      · subst e
        refine ⟨ok.1, fun z hz => ?_⟩
        obtain ⟨_, c', g2, _⟩ := ok.2.1 z hz
        have := (List.getElem?_eq_some_iff.mp g2).1
        rw [B.dl]
        rwa [List.length_map] at this
      have de4 := k4 _ _ de3
      walk_at "g"
      refine w_app de4 (by rw [List.length_map, B.dl]; exact small1kl (by omega)) fun H5 e5 o5 => ?_
      have t5 : KT H4 H5 := KT.off o5 de4
      have ob5 := o5.get npd (k4 _ _ ob3)
      have co5 := o5.get B1.ne (k4 _ _ e3)
      have d5 : NDict P w H5 lg (entsF 0 (cs ++ [(a, c)])) := ((d2.kp (M := [lc]) (o3.kp (by simp)) t3 (by simpa using nlc.symm)).kp (M := []) (Kp.of k4) (KT.of k4) (by simp)).kp (M := [ld]) (o5.kp (by simp)) t5 (by simpa using nld.symm)
      have kt15 : KT H1 H5 := kt13.trans ((KT.of k4).trans t5)
      walk_at "g"
      have hlen : ((cs.map fun q => V.ref q.1) ++ [V.ref a]).length = cs.length + 1 := by rw [List.length_append, List.length_map]; rfl
      rw [hlen, show (((cs.length + 1 : Nat) : Int) - 1) = (cs.length : Int) by omega]
      refine q2 hin H5 ⟨ob5, by rw [co5, List.map_append]; rfl, by rw [e5, List.map_append]; rfl, d5, fun q hq => (ct3 q hq).kt ((KT.of k4).trans t5), ?_, by rw [List.length_append, List.length_append, B.dl]; rfl, B.ne, by rw [List.length_append]; simp only [List.length_cons, List.length_nil]; omega⟩ ?_ ((KT.of k1).trans kt15)
      · rw [List.map_append, List.nodup_append]
        refine ⟨B.nd, by simp, fun x hx y hy e => ?_⟩
        obtain ⟨z, hz, rfl⟩ := List.mem_map.mp hx
        have e' : y = c := by simpa using hy
        rw [e'] at e
        exact hin z hz e
      · intro b o hb e
        simp only [List.mem_cons, List.not_mem_nil, or_false, not_or] at hb
        exact o5.get hb.2.1 (k4 _ _ (o3.get hb.1 (o2.get hb.2.2 (k1 _ _ e))))
    · obtain ⟨z, hz, ez⟩ : ∃ q ∈ cs, q.2 = c := by
        refine Classical.byContradiction fun h => hin fun q hq e => h ⟨q, hq, e⟩
      obtain ⟨j, hj, ej⟩ := List.getElem_of_mem hz
      have hj' : cs[j]? = some (z.1, c) := by rw [List.getElem?_eq_getElem hj, ej, ← ez]
      have ev := ents_some cs 0 j B.nd hj'
      rw [Nat.zero_add] at ev
      rw [ev, Option.isSome_some]
      walk_at "g"
      refine w_nget' B1.gi hc1.nk c.key_depth ev ?_
      exact q1 j z.1 H1 hj' k1
end
def pars (cs : List (Addr × Ct)) (n : Nat) : List Nat := match cs[n]? with
  | some (_, .ver ps _ _) => ps
  | _ => []
def isV (cs : List (Addr × Ct)) (n : Nat) : Prop := ∃ a ps r s, cs[n]? = some (a, Ct.ver ps r s)
def hpar (cs : List (Addr × Ct)) (hs : List Nat) (n : Nat) : List Nat := (pars cs n).filter fun p => decide (p ∈ hs)
def edgs (cs : List (Addr × Ct)) (hs ns : List Nat) : List Nat := ns.filter fun n => decide ((hpar cs hs n).length < (pars cs n).length)
theorem isV.at {cs : List (Addr × Ct)} {n : Nat} (h : isV cs n) : ∃ a r s, cs[n]? = some (a, Ct.ver (pars cs n) r s) := by
  obtain ⟨a, ps, r, s, e⟩ := h
  refine ⟨a, r, s, ?_⟩
  unfold pars
  rw [e]
theorem isV.of {cs : List (Addr × Ct)} {n p : Nat} (h : p ∈ pars cs n) : isV cs n := by
  unfold pars at h
  split at h
  · rename_i a ps r s e
    exact ⟨a, ps, r, s, e⟩
  · cases h
/-- a version's parents are versions, few -/
structure BkOk (cs : List (Addr × Ct)) : Prop where
  par : ∀ n p, p ∈ pars cs n → isV cs p ∧ p < n
  few : ∀ n, (pars cs n).length ≤ 4
theorem isV.lt {cs : List (Addr × Ct)} {n : Nat} (h : isV cs n) : n < cs.length := by
  obtain ⟨a, ps, r, s, e⟩ := h
  exact (List.getElem?_eq_some_iff.mp e).1
theorem rise_len : ∀ (hs : List Nat) (a b : Nat), hs.Pairwise (· < ·) → (∀ n ∈ hs, a ≤ n) → (∀ n ∈ hs, n < b) → a ≤ b → hs.length + a ≤ b
  | [], a, b, _, _, _, h => by simpa using h
  | n :: r, a, b, hp, h1, h2, h => by
    rw [List.pairwise_cons] at hp
    have q1 := h1 n (by simp)
    have q2 := h2 n (by simp)
    have := rise_len r (n + 1) b hp.2 (fun m hm => hp.1 m hm) (fun m hm => h2 m (by simp [hm])) (by omega)
    rw [List.length_cons]
    omega
def natSel (p : Nat → Bool) (ns : List Nat) (i : Nat) : Option V := ns[i]?.bind fun n => if p n = true then some (nV n) else none
theorem natSel_all (p : Nat → Bool) : ∀ ns : List Nat, (List.range ns.length).filterMap (natSel p ns) = (ns.filter p).map nV
  | [] => rfl
  | n :: ns => by
    have e : (List.range (n :: ns).length).filterMap (natSel p (n :: ns)) = (natSel p (n :: ns) 0).toList ++ (List.range ns.length).filterMap (natSel p ns) := by
      rw [List.length_cons, List.range_succ_eq_map, List.filterMap_cons]
      have e2 : List.filterMap (natSel p (n :: ns)) (List.map Nat.succ (List.range ns.length)) = List.filterMap (natSel p ns) (List.range ns.length) := by
        rw [List.filterMap_map]
        rfl
      rw [e2]
      cases natSel p (n :: ns) 0 <;> rfl
    rw [e, natSel_all p ns]
    show (if p n = true then some (nV n) else none).toList ++ _ = _
    by_cases h : p n = true
    · rw [if_pos h, List.filter_cons_of_pos h]
      rfl
    · rw [if_neg h, List.filter_cons_of_neg h]
      rfl
theorem dp_nats {K : PySem.W.Frag} {H : Hp} : ∀ ns : List Nat, DpAll K H (ns.map nV) (ns.map fun n : Nat => PyData.int (n : Int))
  | [] => .nil
  | n :: r => .cons (.int _) (dp_nats r)
theorem nats_eqv : ∀ ls xs : List Nat, PyData.eqvAll (ls.map fun n : Nat => PyData.int (n : Int)) (xs.map fun n : Nat => PyData.int (n : Int)) = decide (ls = xs)
  | [], [] => rfl
  | [], x :: xs => by simp [PyData.eqvAll]
  | z :: ls, [] => by simp [PyData.eqvAll]
  | z :: ls, x :: xs => by
    rw [List.map_cons, List.map_cons, PyData.eqvAll, PyData.eqv, nats_eqv ls xs]
    by_cases h1 : z = x
    · subst h1
      simp
    · have : ¬ (z : Int) = x := by omega
      simp [h1, this]
theorem nats_lay : ∀ ns : List Nat, PyData.canLayAll0 (ns.map fun n : Nat => PyData.int (n : Int)) = true ∧ PyData.depthAll (ns.map fun n : Nat => PyData.int (n : Int)) ≤ 1
  | [] => ⟨rfl, by decide⟩
  | n :: r => by
    obtain ⟨h1, h2⟩ := nats_lay r
    refine ⟨?_, ?_⟩
    · rw [List.map_cons, PyData.canLayAll0, h1, PyData.canLay0]; rfl
    · rw [List.map_cons, PyData.depthAll, PyData.depth]; omega
theorem nats_shaped (ns : List Nat) : SeqAt.shaped (.tuple (ns.map fun n : Nat => PyData.int (n : Int))) = true := by
  obtain ⟨g1, g2⟩ := nats_lay ns
  unfold SeqAt.shaped
  rw [Bool.and_eq_true_iff]
  refine ⟨by rw [PyData.canLay0]; exact g1, decide_eq_true ?_⟩
  rw [PyData.depth]
  omega
theorem w_eqNats {K : PySem.W.Frag} {H : Hp} {Q : VK} {a z : Addr} {ls xs : List Nat} (h1 : H a = some (.tup (ls.map nV))) (h2 : H z = some (.tup (xs.map nV))) (h : Q (.bl (decide (ls = xs))) H) : rEqD K (.ref a) (.ref z) H Q := by
  refine ⟨_, _, .tup (.of h1) (dp_nats ls), .tup (.of h2) (dp_nats xs), nats_shaped _, nats_shaped _, ?_⟩
  have e : PyData.eqv (.tuple (ls.map fun n : Nat => PyData.int (n : Int))) (.tuple (xs.map fun n : Nat => PyData.int (n : Int))) = decide (ls = xs) := by rw [PyData.eqv]; exact nats_eqv ls xs
  rw [e]
  exact h
theorem nV_map (ns : List Nat) : ns.map nV = (ns.map fun n : Nat => (n : Int)).map V.int := by rw [List.map_map]; rfl
theorem int_mem {ns : List Nat} {n : Nat} : (n : Int) ∈ (ns.map fun n : Nat => (n : Int)) ↔ n ∈ ns := by
  constructor
  · intro h
    obtain ⟨m, hm, e⟩ := List.mem_map.mp h
    have : m = n := by omega
    rw [← this]
    exact hm
  · exact fun h => List.mem_map.mpr ⟨n, h, rfl⟩
theorem w_inNT {K : PySem.W.Frag} {H : Hp} {Q : VK} {p : Addr} {ns : List Nat} {n : Nat} (h1 : H p = some (.tup (ns.map nV))) (h : Q (.bl (decide (n ∈ ns))) H) : rIn K false (nV n) (.ref p) H Q := by
  refine w_inT (vs := ns.map fun n : Nat => (n : Int)) (.of (by rw [← nV_map]; exact h1)) ?_
  rw [decide_eq_decide.mpr int_mem]
  exact h
theorem w_ninNT {K : PySem.W.Frag} {H : Hp} {Q : VK} {p : Addr} {ns : List Nat} {n : Nat} (h1 : H p = some (.tup (ns.map nV))) (h : Q (.bl (!decide (n ∈ ns))) H) : rIn K true (nV n) (.ref p) H Q := by
  refine w_ninT (vs := ns.map fun n : Nat => (n : Int)) (.of (by rw [← nV_map]; exact h1)) ?_
  rw [decide_eq_decide.mpr int_mem]
  exact h
theorem w_inNL {K : PySem.W.Frag} {H : Hp} {Q : VK} {p : Addr} {ns : List Nat} {n : Nat} (h1 : H p = some (.lst (ns.map nV))) (h : Q (.bl (decide (n ∈ ns))) H) : rIn K false (nV n) (.ref p) H Q := by
  refine w_inL (vs := ns.map fun n : Nat => (n : Int)) (.of (by rw [← nV_map]; exact h1)) ?_
  rw [decide_eq_decide.mpr int_mem]
  exact h
theorem w_ninNL {K : PySem.W.Frag} {H : Hp} {Q : VK} {p : Addr} {ns : List Nat} {n : Nat} (h1 : H p = some (.lst (ns.map nV))) (h : Q (.bl (!decide (n ∈ ns))) H) : rIn K true (nV n) (.ref p) H Q := by
  refine w_ninL (vs := ns.map fun n : Nat => (n : Int)) (.of (by rw [← nV_map]; exact h1)) ?_
  rw [decide_eq_decide.mpr int_mem]
  exact h
theorem lp_zipS {K : PySem.W.Frag} {σ : L2.St} {H : Hp} {nx bk ct : L2.St → Hp → Prop} {rt : VK} {a b : Addr} {xs ys : List V} {g : TG} {tb : TS} (hl : ys.length ≤ xs.length) (Pv : Nat → L2.St → Hp → Prop) (h0 : Pv 0 σ H) (hq : ∀ i σ H, Pv i σ H → SqT K H a xs ∧ SqT K H b ys)
    (hs : ∀ i x y T σ H H', xs[i]? = some x → ys[i]? = some y → Pv i σ H → H T = none → H' T = some (.tup [x, y]) → Same H H' → g (.ref T) σ H' fun σ2 H2 => tb ⟨Pv (i + 1), rt, nx, Pv (i + 1)⟩ σ2 H2) (hd : ∀ σ H, Pv ys.length σ H → nx σ H) : Lp (RZ.ItzT K a b) g tb ⟨nx, rt, bk, ct⟩ σ H := by
  refine ⟨fun i m σ H => m = ys.length - i ∧ i ≤ ys.length ∧ Pv i σ H, ⟨ys.length, rfl, Nat.zero_le _, h0⟩, ?_⟩
  rintro i m σ H ⟨rfl, hi, p⟩
  obtain ⟨qx, qy⟩ := hq i σ H p
  by_cases hlt : i < ys.length
  · have hy : ys[i]? = some ys[i] := List.getElem?_eq_getElem hlt
    have hx : xs[i]? = some xs[i] := List.getElem?_eq_getElem (by omega)
    refine .inr ⟨⟨xs, ys, _, _, qx, qy, hx, hy⟩, Pv (i + 1), fun σ' H' p' => ⟨ys.length - (i + 1), by omega, rfl, hlt, p'⟩, fun v H' y => ?_⟩
    obtain ⟨T, x', y', rfl, hT, rfl, f1, f2⟩ := y
    exact hs i x' y' T σ H _ (f1 xs qx) (f2 ys qy) p hT upd_same (Same.new hT)
  · have e : i = ys.length := by omega
    subst e
    exact .inl ⟨⟨xs, ys, qx, qy, Or.inr (Nat.le_refl _)⟩, hd σ H p⟩
theorem cutV_init (xs : List V) (x : V) : cutV (xs ++ [x]) none (some (-1)) = xs := by
  have e : HT.sIx (xs ++ [x]).length (xs ++ [x]).length (some (-1)) = xs.length := by
    show (if (-1 : Int) < 0 then ((-1 : Int) + ((xs ++ [x]).length : Int)).toNat else min (-1 : Int).toNat (xs ++ [x]).length) = _
    rw [if_pos (by decide), List.length_append, List.length_cons, List.length_nil]
    omega
  unfold cutV
  rw [e, HT.sIx_none, List.drop_zero, Nat.sub_zero, List.take_left']
  rfl
theorem cutV_tail (xs : List V) : cutV xs (some 1) none = xs.drop 1 := by
  unfold cutV HT.sIx
  simp
  cases xs with
  | nil => rfl
  | cons x r => simp
def addK (ks : List Int) (x : Int) : List Int := if x ∈ ks then ks else ks ++ [x]
theorem mem_addK {ks : List Int} {x y : Int} : y ∈ addK ks x ↔ y ∈ ks ∨ y = x := by
  unfold addK
  by_cases h : x ∈ ks
  · rw [if_pos h]
    constructor
    · exact .inl
    · rintro (a | rfl)
      · exact a
      · exact h
  · rw [if_neg h]
    simp
theorem nd_addK {ks : List Int} {x : Int} (h : ks.Nodup) : (addK ks x).Nodup := by
  unfold addK
  by_cases e : x ∈ ks
  · rw [if_pos e]; exact h
  · rw [if_neg e]
    exact List.nodup_append.mpr ⟨h, by simp, fun a ha b hb => by
      have : b = x := by simpa using hb
      subst this
      exact fun z => e (z ▸ ha)⟩
theorem putK_keys {fk : List (Key × V)} {ks : List Int} {x : Int} {v : V} (h : fk.map (·.1) = ks.map (Sum.inl : Int → Key)) : (putK fk (Sum.inl x) v).map (·.1) = (addK ks x).map (Sum.inl : Int → Key) := by
  have he : (fk.any fun kv => decide (kv.1 = (Sum.inl x : Key))) = true ↔ x ∈ ks := by
    rw [List.any_eq_true]
    constructor
    · rintro ⟨kv, hk, e⟩
      have m : (Sum.inl x : Key) ∈ ks.map Sum.inl := by
        rw [← h, ← of_decide_eq_true e]
        exact List.mem_map_of_mem hk
      obtain ⟨y, hy, e2⟩ := List.mem_map.mp m
      exact Sum.inl.inj e2 ▸ hy
    · intro hx
      have m : (Sum.inl x : Key) ∈ fk.map (·.1) := by
        rw [h]
        exact List.mem_map_of_mem hx
      obtain ⟨kv, hk, e⟩ := List.mem_map.mp m
      exact ⟨kv, hk, decide_eq_true e⟩
  unfold putK addK
  by_cases e : x ∈ ks
  · rw [if_pos (he.mpr e), if_pos e, ← h, List.map_map]
    apply List.map_congr_left
    intro kv _
    show (if kv.1 = Sum.inl x then (kv.1, v) else kv).1 = kv.1
    by_cases q : kv.1 = (Sum.inl x : Key)
    · rw [if_pos q]
    · rw [if_neg q]
  · rw [if_neg (fun z => e (he.mp z)), if_neg e, List.map_append, List.map_append, h]
    rfl
theorem nodup_le : ∀ (ks vs : List Int), ks.Nodup → (∀ x ∈ ks, x ∈ vs) → ks.length ≤ vs.length
  | [], _, _, _ => Nat.zero_le _
  | k :: ks, vs, h, hs => by
    rw [List.nodup_cons] at h
    have hk := hs k (by simp)
    have ih := nodup_le ks (vs.erase k) h.2 fun x hx => (List.mem_erase_of_ne (fun z => h.1 (by rw [← z]; exact hx))).mpr (hs x (by simp [hx]))
    rw [List.length_erase_of_mem hk] at ih
    have : 0 < vs.length := List.length_pos_of_mem hk
    rw [List.length_cons]
    omega
structure FoundAt (H : Hp) (f : Addr) (ks : List Int) : Prop where
  at' : ∃ fk, H f = some (.dK fk) ∧ fk.map (·.1) = ks.map (Sum.inl : Int → Key)
  nd : ks.Nodup
theorem FoundAt.put {H1 : Hp} {f : Addr} {ks : List Int} {fk : List (Key × V)} {x : Int} {v : V} (hk : fk.map (·.1) = ks.map (Sum.inl : Int → Key)) (nd : ks.Nodup) (e : H1 f = some (.dK (putK fk (Sum.inl x) v))) : FoundAt H1 f (addK ks x) := ⟨⟨_, e, putK_keys hk⟩, nd_addK nd⟩
theorem val_keys {kvs : List (Key × V)} {ks : List Int} (h : kvs.map (·.1) = ks.map (Sum.inl : Int → Key)) (x : Int) : (valV kvs (Sum.inl x)).isSome = decide (x ∈ ks) := by
  rw [Bool.eq_iff_iff, decide_eq_true_iff]
  constructor
  · intro z
    obtain ⟨v, e⟩ := Option.isSome_iff_exists.mp z
    have m := valV_in e
    rw [h] at m
    obtain ⟨y, hy, e2⟩ := List.mem_map.mp m
    exact Sum.inl.inj e2 ▸ hy
  · intro z
    cases e : valV kvs (Sum.inl x) with
    | some v => rfl
    | none => exact absurd (by rw [h]; exact List.mem_map_of_mem z) (valV_not e)
/-! ### contents as plain data -/
def Ct.data : Ct → PyData
  | .leaf rows => .tuple [.str "leaf", .tuple (rows.map .str)]
  | .tree es => .tuple [.str "tree", .tuple (es.map fun e => .tuple [.str e.1, .int (e.2 : Int)])]
  | .ver ps root stamp => .tuple [.str "version", .tuple (ps.map fun n : Nat => .int (n : Int)), .int (root : Int), .int (stamp : Int)]
def Ct.txts : Ct → Prop
  | .leaf rows => ∀ z ∈ rows, PyData.strOk z = true
  | .tree es => ∀ e ∈ es, PyData.strOk e.1 = true
  | .ver _ _ _ => True
theorem dp_txts {K : PySem.W.Frag} {H : Hp} : ∀ ls : List Str, DpAll K H (ls.map V.str) (ls.map .str)
  | [] => .nil
  | z :: r => .cons (.str z) (dp_txts r)
theorem dp_ents {K : PySem.W.Frag} {H : Hp} : ∀ qs : List (Addr × Str × Nat), (∀ q ∈ qs, H q.1 = some (.tup [.str q.2.1, nV q.2.2])) → DpAll K H (qs.map fun q => .ref q.1) ((qs.map (·.2)).map fun e => .tuple [.str e.1, .int (e.2 : Int)])
  | [], _ => .nil
  | q :: r, h => .cons (.tup (.of (h q (by simp))) (.cons (.str _) (.cons (.int _) .nil))) (dp_ents r fun z hz => h z (by simp [hz]))
theorem CtAt.dp {K : PySem.W.Frag} {H : Hp} {a : Addr} {c : Ct} (h : CtAt H a c) : Dp K H (.ref a) c.data := by
  cases c with
  | leaf rows =>
    obtain ⟨r, h1, h2⟩ := h
    exact .tup (.of h1) (.cons (.str _) (.cons (.tup (.of h2) (dp_txts rows)) .nil))
  | tree es =>
    obtain ⟨r, qs, h1, h2, rfl, h4⟩ := h
    exact .tup (.of h1) (.cons (.str _) (.cons (.tup (.of h2) (dp_ents qs h4)) .nil))
  | ver ps root stamp =>
    obtain ⟨r, h1, h2⟩ := h
    exact .tup (.of h1) (.cons (.str _) (.cons (.tup (.of h2) (dp_nats ps)) (.cons (.int _) (.cons (.int _) .nil))))
theorem txts_eqv : ∀ ls xs : List Str, PyData.eqvAll (ls.map .str) (xs.map .str) = true ↔ ls = xs
  | [], [] => by simp [PyData.eqvAll]
  | [], x :: xs => by simp [PyData.eqvAll]
  | z :: ls, [] => by simp [PyData.eqvAll]
  | z :: ls, x :: xs => by
    rw [List.map_cons, List.map_cons, PyData.eqvAll, PyData.eqv, Bool.and_eq_true_iff, txts_eqv ls xs, beq_iff_eq, List.cons.injEq]
theorem ents_eqv : ∀ ls xs : List (Str × Nat), PyData.eqvAll (ls.map fun e => .tuple [.str e.1, .int (e.2 : Int)]) (xs.map fun e => .tuple [.str e.1, .int (e.2 : Int)]) = true ↔ ls = xs
  | [], [] => by simp [PyData.eqvAll]
  | [], x :: xs => by simp [PyData.eqvAll]
  | z :: ls, [] => by simp [PyData.eqvAll]
  | (z, n) :: ls, (x, m) :: xs => by
    rw [List.map_cons, List.map_cons, PyData.eqvAll, PyData.eqv, Bool.and_eq_true_iff, ents_eqv ls xs, List.cons.injEq, Prod.mk.injEq]
    simp only [PyData.eqvAll, PyData.eqv, Bool.and_true, Bool.and_eq_true, beq_iff_eq]
    constructor
    · rintro ⟨⟨h1, h2⟩, h3⟩
      exact ⟨⟨h1, by omega⟩, h3⟩
    · rintro ⟨⟨h1, h2⟩, h3⟩
      exact ⟨⟨h1, by omega⟩, h3⟩
theorem Ct.eqv_iff (c d : Ct) : PyData.eqv c.data d.data = true ↔ c = d := by
  cases c with
  | leaf r =>
    cases d with
    | leaf r' => simp [Ct.data, PyData.eqv, PyData.eqvAll, txts_eqv]
    | tree e' => simp [Ct.data, PyData.eqv, PyData.eqvAll, lit_ne1]
    | ver a b c => simp [Ct.data, PyData.eqv, PyData.eqvAll]
  | tree e =>
    cases d with
    | leaf r' => simp [Ct.data, PyData.eqv, PyData.eqvAll, lit_ne4]
    | tree e' => simp [Ct.data, PyData.eqv, PyData.eqvAll, ents_eqv]
    | ver a b c => simp [Ct.data, PyData.eqv, PyData.eqvAll]
  | ver a b c =>
    cases d with
    | leaf r' => simp [Ct.data, PyData.eqv, PyData.eqvAll]
    | tree e' => simp [Ct.data, PyData.eqv, PyData.eqvAll]
    | ver a' b' c' =>
      simp only [Ct.data, PyData.eqv, PyData.eqvAll, nats_eqv, Bool.and_true, Bool.and_eq_true, beq_iff_eq, decide_eq_true_iff, Ct.ver.injEq, true_and, beq_self_eq_true]
      constructor
      · rintro ⟨h1, h2, h3⟩
        exact ⟨h1, by omega, by omega⟩
      · rintro ⟨h1, h2, h3⟩
        exact ⟨h1, by omega, by omega⟩
theorem lay_txts : ∀ {ls : List Str}, (∀ z ∈ ls, PyData.strOk z = true) → PyData.canLayAll0 (ls.map .str) = true ∧ PyData.depthAll (ls.map .str) = 0
  | [], _ => ⟨rfl, rfl⟩
  | z :: ls, h => by
    obtain ⟨h1, h2⟩ := lay_txts (ls := ls) fun x hx => h x (by simp [hx])
    have hz := h z (by simp)
    simp only [List.map_cons, PyData.canLayAll0, PyData.depthAll, PyData.canLay0, PyData.depth, h1, h2, hz]
    exact ⟨rfl, rfl⟩
theorem lay_ents : ∀ {es : List (Str × Nat)}, (∀ e ∈ es, PyData.strOk e.1 = true) → PyData.canLayAll0 (es.map fun e => .tuple [.str e.1, .int (e.2 : Int)]) = true ∧ PyData.depthAll (es.map fun e => .tuple [.str e.1, .int (e.2 : Int)]) ≤ 1
  | [], _ => ⟨rfl, by decide⟩
  | z :: ls, h => by
    obtain ⟨h1, h2⟩ := lay_ents (es := ls) fun x hx => h x (by simp [hx])
    have hz := h z (by simp)
    rw [List.map_cons, PyData.canLayAll0, PyData.depthAll, h1]
    simp only [PyData.canLay0, PyData.canLayAll0, PyData.depth, PyData.depthAll, hz]
    exact ⟨rfl, by omega⟩
theorem Ct.lay {c : Ct} (h : c.txts) : PyData.canLay0 c.data = true ∧ PyData.depth c.data ≤ 4 := by
  have w1 : PyData.strOk (Str.ofString "leaf") = true := by decide +kernel
  have w2 : PyData.strOk (Str.ofString "tree") = true := by decide +kernel
  have w3 : PyData.strOk (Str.ofString "version") = true := by decide +kernel
  cases c with
  | leaf rows =>
    obtain ⟨h1, h2⟩ := lay_txts h
    simp only [Ct.data, PyData.canLay0, PyData.canLayAll0, PyData.depth, PyData.depthAll, h1, h2, w1]
    exact ⟨rfl, by decide⟩
  | tree es =>
    obtain ⟨h1, h2⟩ := lay_ents h
    simp only [Ct.data, PyData.canLay0, PyData.canLayAll0, PyData.depth, PyData.depthAll, h1, w2]
    exact ⟨rfl, by omega⟩
  | ver ps r s =>
    obtain ⟨h1, h2⟩ := nats_lay ps
    simp only [Ct.data, PyData.canLay0, PyData.canLayAll0, PyData.depth, PyData.depthAll, h1, w3]
    exact ⟨rfl, by omega⟩
theorem Ct.shaped {c : Ct} (h : c.txts) : SeqAt.shaped c.data = true := by
  obtain ⟨h1, h2⟩ := Ct.lay h
  unfold SeqAt.shaped
  rw [Bool.and_eq_true_iff]
  exact ⟨h1, decide_eq_true (by omega)⟩
theorem cts_lay : ∀ {cs : List Ct}, (∀ c ∈ cs, c.txts) → PyData.canLayAll0 (cs.map Ct.data) = true ∧ PyData.depthAll (cs.map Ct.data) ≤ 4
  | [], _ => ⟨rfl, by decide⟩
  | c :: cs, h => by
    obtain ⟨h1, h2⟩ := cts_lay (cs := cs) fun x hx => h x (by simp [hx])
    obtain ⟨g1, g2⟩ := Ct.lay (h c (by simp))
    rw [List.map_cons, PyData.canLayAll0, PyData.depthAll, h1, g1]
    exact ⟨rfl, by omega⟩
theorem cts_shaped {cs : List Ct} (h : ∀ c ∈ cs, c.txts) : SeqAt.shaped (.list (cs.map Ct.data)) = true := by
  obtain ⟨h1, h2⟩ := cts_lay h
  unfold SeqAt.shaped
  rw [Bool.and_eq_true_iff]
  refine ⟨by rw [PyData.canLay0]; exact h1, decide_eq_true ?_⟩
  rw [PyData.depth]
  omega
/-- the law's own list of contents -/
structure ThAt (H : Hp) (th : Addr) (cs : List (Addr × Ct)) : Prop where
  at' : H th = some (.lst (cs.map fun q => .ref q.1))
  ct : ∀ q ∈ cs, CtAt H q.1 q.2
theorem ThAt.kp {M : List Addr} {H H' : Hp} {th : Addr} {cs : List (Addr × Ct)} (h : ThAt H th cs) (k : Kp M H H') (t : KT H H') (n : th ∉ M) : ThAt H' th cs := ⟨k _ _ n h.at', fun q hq => (h.ct q hq).kt t⟩
theorem ThAt.same {H H' : Hp} {th : Addr} {cs : List (Addr × Ct)} (h : ThAt H th cs) (k : Same H H') : ThAt H' th cs := h.kp (M := []) (Kp.of k) (KT.of k) (by simp)
theorem dp_cts {K : PySem.W.Frag} {H : Hp} : ∀ cs : List (Addr × Ct), (∀ q ∈ cs, CtAt H q.1 q.2) → DpAll K H (cs.map fun q => .ref q.1) ((cs.map (·.2)).map Ct.data)
  | [], _ => .nil
  | q :: r, h => .cons (h q (by simp)).dp (dp_cts r fun z hz => h z (by simp [hz]))
theorem ThAt.dp {K : PySem.W.Frag} {H : Hp} {th : Addr} {cs : List (Addr × Ct)} (h : ThAt H th cs) : Dp K H (.ref th) (.list ((cs.map (·.2)).map Ct.data)) := .lst (.of h.at') (dp_cts cs h.ct)
/-! ### dicts of names -/
def FAt (H : Hp) (f : Addr) (F : Nat → Prop) : Prop := ∃ (fk : List (Key × V)) (ks : List Int), H f = some (.dK fk) ∧ fk.map (·.1) = ks.map (Sum.inl : Int → Key) ∧ ks.Nodup ∧ (∀ k ∈ ks, 0 ≤ k ∧ k < 1000) ∧ ∀ n : Nat, (n : Int) ∈ ks ↔ F n
theorem FAt.kp {M : List Addr} {H H' : Hp} {f : Addr} {F : Nat → Prop} (h : FAt H f F) (k : Kp M H H') (n : f ∉ M) : FAt H' f F := by
  obtain ⟨fk, ks, h1, h2⟩ := h
  exact ⟨fk, ks, k _ _ n h1, h2⟩
theorem FAt.same {H H' : Hp} {f : Addr} {F : Nat → Prop} (h : FAt H f F) (k : Same H H') : FAt H' f F := h.kp (M := []) (Kp.of k) (by simp)
theorem FAt.iff {H : Hp} {f : Addr} {F G : Nat → Prop} (h : FAt H f F) (e : ∀ n, F n ↔ G n) : FAt H f G := by
  obtain ⟨fk, ks, h1, h2, h3, h4, h5⟩ := h
  exact ⟨fk, ks, h1, h2, h3, h4, fun n => (h5 n).trans (e n)⟩
theorem FAt.obj {H : Hp} {f : Addr} {F : Nat → Prop} (h : FAt H f F) : ∃ fk, H f = some (.dK fk) := by
  obtain ⟨fk, ks, h1, _⟩ := h
  exact ⟨fk, h1⟩
theorem few_keys {ks : List Int} (nd : ks.Nodup) (h : ∀ k ∈ ks, 0 ≤ k ∧ k < 1000) : ks.length ≤ 1000 := by
  have := nodup_le ks ((List.range 1000).map fun n : Nat => (n : Int)) nd fun k hk => by
    obtain ⟨h1, h2⟩ := h k hk
    exact List.mem_map.mpr ⟨k.toNat, List.mem_range.mpr (by omega), by omega⟩
  rwa [List.length_map, List.length_range] at this
theorem w_fput {H : Hp} {f : Addr} {F : Nat → Prop} {n : Nat} {v : V} {R : Hp → Prop} (h1 : FAt H f F) (hn : n < 1000) (h : ∀ H1, FAt H1 f (fun m => F m ∨ m = n) → Off f H H1 → R H1) : rDPut (.ref f) (nV n) v H R := by
  obtain ⟨fk, ks, e, hk, nd, hb, hm⟩ := h1
  have hfl : fk.length = ks.length := by rw [← List.length_map (f := (·.1)), hk, List.length_map]
  have := few_keys nd hb
  refine w_dputI e (by rw [hfl]; exact small1kl this) fun H1 e1 o1 => h H1 ⟨_, _, e1, putK_keys hk, nd_addK nd, fun k hk' => ?_, fun m => ?_⟩ o1
  · rcases mem_addK.mp hk' with h | h
    · exact hb k h
    · omega
  · rw [mem_addK, hm]
    constructor
    · rintro (h | h)
      · exact .inl h
      · exact .inr (by omega)
    · rintro (h | h)
      · exact .inl h
      · exact .inr (by omega)
theorem w_fin {H : Hp} {f : Addr} {F : Nat → Prop} {i : Int} {Q : VK} (h1 : FAt H f F) (hy : ∀ n : Nat, i = n → F n → Q (.bl true) H) (hn : (∀ n : Nat, i = n → ¬ F n) → Q (.bl false) H) : rDIn (.ref f) (.int i) H Q := by
  obtain ⟨fk, ks, e, hk, nd, hb, hm⟩ := h1
  refine w_dinI e ?_
  rw [val_keys hk]
  by_cases h : i ∈ ks
  · rw [decide_eq_true h]
    obtain ⟨g1, g2⟩ := hb i h
    have e1 : i = ((i.toNat : Nat) : Int) := by omega
    exact hy i.toNat e1 ((hm i.toNat).mp (by rw [← e1]; exact h))
  · rw [decide_eq_false h]
    exact hn fun n e hF => h (by rw [e]; exact (hm n).mpr hF)
theorem w_fin' {H : Hp} {f : Addr} {F : Nat → Prop} {n : Nat} {Q : VK} (h1 : FAt H f F) (hy : F n → Q (.bl true) H) (hn : ¬ F n → Q (.bl false) H) : rDIn (.ref f) (nV n) H Q :=
  w_fin h1 (fun m e h => hy (by rw [show n = m by omega]; exact h)) fun h => hn (h n rfl)
theorem w_fnin {H : Hp} {f : Addr} {F : Nat → Prop} {i : Int} {Q : VK} (h1 : FAt H f F) (hy : ∀ n : Nat, i = n → F n → Q (.bl false) H) (hn : (∀ n : Nat, i = n → ¬ F n) → Q (.bl true) H) : rDNotIn (.ref f) (.int i) H Q := by
  obtain ⟨fk, ks, e, hk, nd, hb, hm⟩ := h1
  refine w_dnotinI e ?_
  rw [val_keys hk]
  by_cases h : i ∈ ks
  · rw [decide_eq_true h]
    obtain ⟨g1, g2⟩ := hb i h
    have e1 : i = ((i.toNat : Nat) : Int) := by omega
    exact hy i.toNat e1 ((hm i.toNat).mp (by rw [← e1]; exact h))
  · rw [decide_eq_false h]
    exact hn fun n e hF => h (by rw [e]; exact (hm n).mpr hF)
theorem ints_nats : ∀ {zs : List Int}, (∀ z ∈ zs, 0 ≤ z) → ∃ hs : List Nat, zs = hs.map fun n : Nat => (n : Int)
  | [], _ => ⟨[], rfl⟩
  | z :: zs, h => by
    obtain ⟨hs, rfl⟩ := ints_nats (zs := zs) fun y hy => h y (by simp [hy])
    exact ⟨z.toNat :: hs, by rw [List.map_cons, show ((z.toNat : Nat) : Int) = z by have := h z (by simp); omega]⟩
theorem lt_of_le_nd : ∀ {zs : List Int}, zs.Pairwise (· ≤ ·) → zs.Nodup → zs.Pairwise (· < ·)
  | [], _, _ => .nil
  | z :: zs, h, nd => by
    rw [List.pairwise_cons] at h ⊢
    rw [List.nodup_cons] at nd
    exact ⟨fun y hy => by
      have := h.1 y hy
      have : z ≠ y := fun e => nd.1 (by rw [e]; exact hy)
      omega, lt_of_le_nd h.2 nd.2⟩
theorem w_fsort {H : Hp} {f : Addr} {F : Nat → Prop} {Q : VK} (h1 : FAt H f F) (h : ∀ (ns : List Nat) p H1, ns.Pairwise (· < ·) → (∀ n, n ∈ ns ↔ F n) → ns.length ≤ 1000 → H p = none → H1 p = some (.lst (ns.map nV)) → Same H H1 → Q (.ref p) H1) : rSortA [.ref f] H Q := by
  obtain ⟨fk, ks, e, hk, nd, hb, hm⟩ := h1
  have fw := few_keys nd hb
  refine w_sortA e hk (by omega) fun ys p H1 hp hle hnone e1 k1 => ?_
  obtain ⟨ns, rfl⟩ := ints_nats (zs := ys) fun z hz => (hb z (hp.mem_iff.mp hz)).1
  have hlt := lt_of_le_nd hle (hp.nodup_iff.mpr nd)
  refine h ns p H1 ?_ (fun n => ?_) ?_ hnone (by rw [e1, nV_map]) k1
  · rw [List.pairwise_map] at hlt
    exact hlt.imp fun {a b} h => by omega
  · rw [← int_mem, hp.mem_iff, hm]
  · have := hp.length_eq
    rw [List.length_map] at this
    omega
theorem KX.offN {d L : Addr} {H H1 H2 : Hp} (k : KX d H H1) (o : Off L H1 H2) (h : H L = none) : KX d H H2 where
  t := fun b xs e => o.get (ne_of_none e h) (k.t b xs e)
  l := fun b xs e => by
    obtain ⟨ys, e1⟩ := k.l b xs e
    exact ⟨ys, o.get (ne_of_none e h) e1⟩
  d := fun b xs e => by
    obtain ⟨ys, e1⟩ := k.d b xs e
    exact ⟨ys, o.get (ne_of_none e h) e1⟩
  p := fun b u hb e => o.get (ne_of_none e h) (k.p b u hb e)
def spGive : Sp := fun vs H Q _ => ∃ (th a : Addr) (cs : List (Addr × Ct)) (c : Ct), vs = [.ref th, .ref a] ∧ ThAt H th cs ∧ (cs.map (·.2)).Nodup ∧ CtAt H a c ∧ cs.length < 1000 ∧ (∀ q ∈ cs, q.2.txts) ∧ c.txts ∧
  (∀ j b, cs[j]? = some (b, c) → Q (nV j) H) ∧ ((∀ q ∈ cs, q.2 ≠ c) → ∀ H', ThAt H' th (cs ++ [(a, c)]) → Off th H H' → Q (nV cs.length) H')
def spSome : Sp := fun vs H Q _ => ∃ (d c l : Addr) (n m : Nat) (names : List Nat), vs = [.ref d, .ref l, nV m] ∧ Deck H d c n ∧ n + m ≤ MOSTD ∧ H l = some (.lst (names.map nV)) ∧ l ≠ d ∧ l ≠ c ∧ names.length ≤ 1000 ∧ m ≤ 1000 ∧
  ∀ (H' : Hp) (t : Addr) (ns : List Nat), Deck H' d c (n + m) → KX d H H' → H' t = some (.tup (ns.map nV)) → ns.Pairwise (· < ·) → ns.length ≤ m → (∀ x ∈ ns, x ∈ names) → Q (.ref t) H'
def dsOf (cs : List Ct) : List Nat := cs.foldl (fun ds c => ds ++ [depOf ds c]) []
theorem dsOf_snoc (cs : List Ct) (c : Ct) : dsOf (cs ++ [c]) = dsOf cs ++ [depOf (dsOf cs) c] := by
  unfold dsOf
  rw [List.foldl_append]
  rfl
/-- every content is good behind those ahead of it -/
def ScnOk (cs : List Ct) : Prop := ∀ i c, cs[i]? = some c → CtOk (cs.take i) (dsOf (cs.take i)) c
def spLBook (P : Program) (w : World) (C : Addr) : Sp := fun vs H Q _ => ∃ (th : Addr) (cs : List (Addr × Ct)), vs = [.ref th] ∧ ThAt H th cs ∧ ScnOk (cs.map (·.2)) ∧ (cs.map (·.2)).Nodup ∧ cs.length ≤ 400 ∧
  ∀ H' p dx lc ld lg ds, H p = none → H lc = none → H ld = none → H lg = none → BookAt P w C H' p dx lc ld lg cs ds → Same H H' → Q (.ref p) H'
def spLHere : Sp := fun vs H Q _ => ∃ (l : Addr) (hs : List Nat), vs = [.ref l] ∧ H l = some (.lst (hs.map nV)) ∧ (∀ n ∈ hs, n < 1000) ∧ ∀ H' f, H f = none → Same H H' → FAt H' f (fun n => n ∈ hs) → Q (.ref f) H'
def spLParents : Sp := fun vs H Q _ => ∃ (th f : Addr) (cs : List (Addr × Ct)) (hs : List Nat) (n : Nat), vs = [.ref th, .ref f, nV n] ∧ ThAt H th cs ∧ FAt H f (fun n => n ∈ hs) ∧ isV cs n ∧ (pars cs n).length ≤ 1000 ∧ ∀ H' l, Same H H' → H l = none → H' l = some (.lst ((hpar cs hs n).map nV)) → Q (.ref l) H'
def spLVersions : Sp := fun vs H Q _ => ∃ (th f : Addr) (cs : List (Addr × Ct)) (hs : List Nat), vs = [.ref th, .ref f] ∧ ThAt H th cs ∧ FAt H f (fun n => n ∈ hs) ∧ (∀ n ∈ hs, n < cs.length) ∧ hs.length ≤ 1000 ∧
  ∀ (H' : Hp) (l : Addr) (vsn : List Nat), Same H H' → H l = none → H' l = some (.lst (vsn.map nV)) → vsn.Pairwise (· < ·) → (∀ n, n ∈ vsn ↔ n ∈ hs ∧ isV cs n) → vsn.length ≤ 1000 → Q (.ref l) H'
def spLBrims : Sp := fun vs H Q _ => ∃ (th f r : Addr) (cs : List (Addr × Ct)) (hs ns : List Nat), vs = [.ref th, .ref f, .ref r] ∧ ThAt H th cs ∧ FAt H f (fun n => n ∈ hs) ∧ H r = some (.tup (ns.map nV)) ∧ ns.length ≤ 1000 ∧ (∀ n ∈ ns, isV cs n) ∧ (∀ n, (pars cs n).length ≤ 1000) ∧ ∀ H' t, Same H H' → H t = none → H' t = some (.tup ((edgs cs hs ns).map nV)) → Q (.ref t) H'
theorem nodup_at {α : Type} {l : List α} (nd : l.Nodup) {i j : Nat} {hi : i < l.length} {hj : j < l.length} (h : l[i] = l[j]) : i = j := by
  refine Classical.byContradiction fun hne => ?_
  rcases Nat.lt_or_gt_of_ne hne with g | g
  · exact List.pairwise_iff_getElem.mp nd i j hi hj g h
  · exact List.pairwise_iff_getElem.mp nd j i hj hi g h.symm
theorem word_isV {cs : List (Addr × Ct)} {n : Nat} {q : Addr × Ct} (h : cs[n]? = some q) : q.2.word = "version" ↔ isV cs n := by
  obtain ⟨a, c⟩ := q
  constructor
  · intro hw
    cases c with
    | leaf _ => exact absurd hw lit_ne2
    | tree _ => exact absurd hw lit_ne3
    | ver ps r s => exact ⟨a, ps, r, s, h⟩
  · rintro ⟨a', ps, r, s, e⟩
    rw [h] at e
    cases e
    rfl
section
variable {P : Program} {w : World} {K : PySem.W.Frag} {mg : Str → Option Value} {base : Heap} {C : Addr}
theorem ok_give {f : Addr} {fd : FuncData} (T : Txt K mg) (F : Fun K "_law_give" "_law_give" s_law_give f fd) : FnOk P w K mg base CX0 1 f fd ["_law_things", "_law_content"] spGive := by
  refine F.ok sc_law_give (fun vs H Q E h => ?_) (fun cdv A outer s H vs Q E hr h => ?_)
  · obtain ⟨th, a, cs, c, rfl, _⟩ := h
    rfl
  · obtain ⟨th, a, cs, c, rfl, ht, nd, hc, hl, ho, hco, q1, q2⟩ := h
    have hth := ht.at'
    have hlay : ∀ d ∈ cs.map (·.2), d.txts := fun d hd => by
      obtain ⟨q, hq, rfl⟩ := List.mem_map.mp hd
      exact ho q hq
    refine ⟨_,
      (pss_cons
        (ps_if (pt_cmpR (r := rInD K) (op_inD (Nat.lt_of_le_of_lt (Nat.add_le_add_left (show 65 ≤ 100 by decide) _) (room100 hr))) (pv 1) (pv 0) rfl)
          (pss_one
            (ps_ret (pe_bm PySem.F.plainAttrs_list PySem.F.slot_list_index PySem.F.type_list_index (mt_indexD (Nat.lt_of_le_of_lt (Nat.add_le_add_left (show 65 ≤ 100 by decide) _) (room100 hr))) (pv 0) (pa_cons (pv 1) pa_nil))))
          pss_nil)
      (pss_cons
        (ps_expr (pe_bm PySem.F.plainAttrs_list PySem.F.slot_list_append PySem.F.type_list_append mt_append (pv 0) (pa_cons (pv 1) pa_nil)))
      (pss_one
        (ps_ret (pe_op op_sub (pe_callB (r := rLen K) c_len (by rfl) T.n_len (by decide +kernel) (pa_cons (pv 0) pa_nil)) pe_int)))))
      , ?_⟩
    rw [show L2.start N_law_give [V.ref th, V.ref a] = [some (.ref th), some (.ref a)] from rfl]
    refine w_seq ?_
    walk_at "x"
    refine ⟨c.data, _, hc.dp, ht.dp, Ct.shaped hco, cts_shaped hlay, ?_⟩
    walk_at "g"
    by_cases hin : ∀ q ∈ cs, q.2 ≠ c
    · have e : ((cs.map (·.2)).map Ct.data).any (fun z => PyData.eqv z c.data) = false := by
        rw [Bool.eq_false_iff]
        intro h
        rw [List.any_eq_true] at h
        obtain ⟨z, hz, e⟩ := h
        obtain ⟨d, hd, rfl⟩ := List.mem_map.mp hz
        obtain ⟨q, hq, rfl⟩ := List.mem_map.mp hd
        exact hin q hq ((Ct.eqv_iff _ _).mp e)
      rw [e]
      walk_at "g"
      refine w_app ht.at' (by rw [List.length_map]; exact small1kl (by omega)) fun H1 e1 o1 => ?_
      walk_at "g"
      rw [show (((cs.map fun q => V.ref q.1) ++ [V.ref a]).length : Int) - 1 = (cs.length : Int) by rw [List.length_append, List.length_map]; simp]
      refine q2 hin H1 ⟨by rw [e1, List.map_append]; rfl, fun q hq => ?_⟩ o1
      have t1 : KT H H1 := KT.off o1 ht.at'
      rcases List.mem_append.mp hq with h | h
      · exact (ht.ct q h).kt t1
      · have e : q = (a, c) := by simpa using h
        subst e
        exact hc.kt t1
    · obtain ⟨z, hz, ez⟩ : ∃ q ∈ cs, q.2 = c := by
        refine Classical.byContradiction fun h => hin fun q hq e => h ⟨q, hq, e⟩
      obtain ⟨j, hj, ej⟩ := List.getElem_of_mem hz
      have hj' : cs[j]? = some (z.1, c) := by rw [List.getElem?_eq_getElem hj, ej, ← ez]
      have e : ((cs.map (·.2)).map Ct.data).any (fun z => PyData.eqv z c.data) = true := by
        rw [List.any_eq_true]
        exact ⟨c.data, List.mem_map.mpr ⟨c, List.mem_map.mpr ⟨z, hz, ez⟩, rfl⟩, (Ct.eqv_iff _ _).mpr rfl⟩
      rw [e]
      walk_at "g"
      refine ⟨th, .ref a, c.data, _, j, c.data, rfl, rfl, ht.dp, hc.dp, cts_shaped hlay, Ct.shaped hco, by rw [List.getElem?_map, List.getElem?_map, hj']; rfl, (Ct.eqv_iff _ _).mpr rfl, fun m z' hm hz' => ?_, ?_⟩
      · rw [List.getElem?_map, List.getElem?_map] at hz'
        have hmj : m < cs.length := by omega
        rw [List.getElem?_eq_getElem hmj] at hz'
        have e2 : (cs[m]).2.data = z' := Option.some.inj hz'
        rw [← e2, Bool.eq_false_iff]
        intro h
        have e3 := (Ct.eqv_iff _ _).mp h
        have e4 : cs[j] = (z.1, c) := by
          have := List.getElem?_eq_getElem hj
          rw [hj'] at this
          exact (Option.some.inj this).symm
        have h1 : (cs.map (·.2))[m]'(by rw [List.length_map]; omega) = (cs.map (·.2))[j]'(by rw [List.length_map]; omega) := by
          rw [List.getElem_map, List.getElem_map, e3, e4]
        have := nodup_at nd h1
        omega
      · walk_at "g"
        exact q1 j z.1 hj'
theorem ok_lbook {f fI fN : Addr} {fd fdI fdN : FuncData} (T : Txt K mg) (F : Fun K "_law_book" "_law_book" s_law_book f fd) (K_Book : Kl K mg "Book" C ["contents", "depths", "given"]) (M_Book : Mk K C fI)
    (D_Book___init__ : DfM K C "__init__" "Book.__init__" s_Book___init__ ["self"] fI fdI) (D_Book_named : DfM K C "named" "Book.named" s_Book_named ["self", "content"] fN fdN) (G_Book_named : FnOk P w K mg base CX0 6 fN fdN ["self", "content"] (spNamed P w C)) : FnOk P w K mg base CX0 7 f fd ["_law_things"] (spLBook P w C) := by
  have G_Book___init__ : FnOk P w K mg base CX0 1 fI fdI ["self"] (spBookInit P w C) := ok_bookinit T D_Book___init__.fn K_Book
  refine F.ok sc_law_book (fun vs H Q E h => ?_) (fun cdv A outer s H vs Q E hr h => ?_)
  · obtain ⟨th, cs, rfl, _⟩ := h
    rfl
  · obtain ⟨th, cs, rfl, ht, hok, nd, hlen, q⟩ := h
    refine ⟨_,
      (pss_cons
        (ps_set (i := 1) sc_law_book.nd rfl (.inl rfl) (pe_make0 M_Book G_Book___init__ (hr.mono (by omega)) (by rfl) K_Book.g D_Book___init__.b .nil pass0))
      (pss_cons
        (ps_for PassesOwn.never rfl (pi_list (pv 0)) (pg_name (i := 2) sc_law_book.nd rfl (.inl rfl))
          (pss_one
            (ps_expr (pe_meth (pv 1) K_Book.cl D_Book_named.m G_Book_named (hr.mono (by omega)) D_Book_named.b .nil pass0 (pa_cons (pv 2) pa_nil)))))
      (pss_one
        (ps_ret (pv 1)))))
      , ?_⟩
    rw [show L2.start N_law_book [V.ref th] = [some (.ref th), none, none] from rfl]
    walk_at "x"
    refine w_make' fun p dx H1 hp hdx hne e1 k1 => ?_
    refine ⟨p, dx, rfl, e1, fun lc ld lg H2 hlc hld hlg B2 k2 => ⟨rfl, ?_⟩⟩
    have hlc0 := k1.free hlc
    have hld0 := k1.free hld
    have hlg0 := k1.free hlg
    have s2 : Same H H2 := fun b o e => k2 _ _ (by simpa using ne_of_none e hp) (k1 _ _ e)
    walk_at "g"
    refine w_itL' (.of (s2 _ _ ht.at')) ?_
    refine lp_list (xs := cs.map fun q => V.ref q.1) (fun i σ H' => (∃ y : Option V, σ = [some (.ref th), some (.ref p), y]) ∧ Same H H' ∧ BookAt P w C H' p dx lc ld lg (cs.take i) (dsOf ((cs.take i).map (·.2)))) ⟨⟨_, rfl⟩, s2, B2⟩ (fun i σ H' _ h => .of (h.2.1 _ _ ht.at')) ?_ ?_
    · rintro i x σ H3 hx ⟨⟨y, rfl⟩, s3, B3⟩
      obtain ⟨qc, hq, rfl⟩ := map_at hx
      have hi := (List.getElem?_eq_some_iff.mp hq).1
      have ob3 := B3.ob
      have etake : cs.take (i + 1) = cs.take i ++ [qc] := by rw [List.take_add_one, hq]; rfl
      have hlt : (cs.take i).length < 400 := by rw [List.length_take]; omega
      walk_at "g"
      refine ⟨p, dx, lc, ld, lg, qc.1, cs.take i, _, qc.2, rfl, B3, (ht.ct qc (List.mem_of_getElem? hq)).kt (KT.of s3), ?_, hlt, fun j b H4 hj k4 => ?_, fun hn H4 B4 k4 t4 => ?_⟩
      · have := hok i qc.2 (by rw [List.getElem?_map, hq]; rfl)
        rwa [← List.map_take] at this
      · exfalso
        have hj1 := (List.getElem?_eq_some_iff.mp hj).1
        rw [List.length_take] at hj1
        have hj2 : cs[j]? = some (b, qc.2) := by
          rw [List.getElem?_take] at hj
          rwa [if_pos (by omega)] at hj
        have h1 : (cs.map (·.2))[j]? = some qc.2 := by rw [List.getElem?_map, hj2]; rfl
        have h2 : (cs.map (·.2))[i]? = some qc.2 := by rw [List.getElem?_map, hq]; rfl
        obtain ⟨g1, g1'⟩ := List.getElem?_eq_some_iff.mp h1
        obtain ⟨g2, g2'⟩ := List.getElem?_eq_some_iff.mp h2
        have := nodup_at nd (g1'.trans g2'.symm)
        omega
      · walk_at "g"
        refine ⟨⟨_, rfl⟩, fun b o e => k4 _ _ ?_ (s3 _ _ e), ?_⟩
        · simp only [List.mem_cons, List.not_mem_nil, or_false, not_or]
          exact ⟨ne_of_none e hlc0, ne_of_none e hld0, ne_of_none e hlg0⟩
        · rw [etake, List.map_append, List.map_cons, List.map_nil, dsOf_snoc]
          exact B4
    · rintro σ H3 ⟨⟨y, rfl⟩, s3, B3⟩
      rw [List.length_map, List.take_length] at B3
      walk_at "g"
      exact q H3 p dx lc ld lg _ hp hlc0 hld0 hlg0 B3 s3
end
/-! ### labels, rows, entries of the drawn families -/
theorem seqIndex_nat {r n : Nat} (h : r < n) : seqIndex? (r : Int) n = some r := by
  unfold seqIndex?
  simp
  omega
theorem erase_map {α β : Type} (f : α → β) : ∀ (l : List α) (r : Nat), (l.map f).eraseIdx r = (l.eraseIdx r).map f
  | [], _ => by simp
  | x :: l, 0 => rfl
  | x :: l, r + 1 => by
    show f x :: (l.map f).eraseIdx r = f x :: (l.eraseIdx r).map f
    rw [erase_map f l r]
theorem small2000 {n : Nat} (h : n ≤ 2000) : n ≤ sizeLine := Nat.le_trans h (by decide)
theorem Deck.kxK {H H' : Hp} {d c : Addr} {n m : Nat} (D : Deck H d c n) (D' : Deck H' d c m) (k : Kp [d] H H') : KX d H H' := by
  obtain ⟨⟨xs, e⟩, _⟩ := D.at
  obtain ⟨⟨xs', e'⟩, _⟩ := D'.at
  refine ⟨⟨fun b ys h => ?_, fun b ys h => ?_, fun b ys h => ?_⟩, k⟩
  · exact k _ _ (by simpa using ne_of h e (fun z => nomatch z)) h
  · by_cases hb : b = d
    · subst hb
      exact ⟨_, e'⟩
    · exact ⟨_, k _ _ (by simpa using hb) h⟩
  · exact ⟨_, k _ _ (by simpa using ne_of h e (fun z => nomatch z)) h⟩
theorem Deck.ktK {H H' : Hp} {d c : Addr} {n : Nat} (D : Deck H d c n) (k : Kp [d] H H') : KT H H' := by
  obtain ⟨⟨xs, e⟩, _⟩ := D.at
  exact KT.kp k (by simp [e])
theorem w_bm0D {K : PySem.W.Frag} {σ : L2.St} {H : Hp} {Q : VK} {r : V → List V → Hp → VK → Prop} {to : TE} (h : to σ H fun x H1 => tyV K "dict" x H1 ∧ r x [] H1 Q) : tBM0 K "dict" r to σ H Q := h
theorem w_tyDK {K : PySem.W.Frag} {H : Hp} {p : Addr} {kvs : List (Key × V)} {A : Prop} (h1 : H p = some (.dK kvs)) (h : A) : tyV K "dict" (.ref p) H ∧ A := ⟨.inr (.inr (.inl ⟨rfl, .inl ⟨_, h1⟩⟩)), h⟩
def spText : Sp := fun vs H Q _ => ∃ (d c : Addr) (n : Nat) (m : Nat), vs = [.ref d, .int (m : Int)] ∧ Deck H d c n ∧ n + 42 ≤ MOSTD ∧ m ≤ 40 ∧ ∀ H' z, Deck H' d c (n + 42) → Kp [d] H H' → KT H H' → LineOk z → Q (.str z) H'
def spLabel : Sp := fun vs H Q _ => ∃ (d c : Addr) (n : Nat), vs = [.ref d] ∧ Deck H d c n ∧ n + 12 ≤ MOSTD ∧ ∀ H' z, Deck H' d c (n + 12) → Kp [d] H H' → KT H H' → LabOk z → Q (.str z) H'
def spRows : Sp := fun vs H Q _ => ∃ (d c t : Addr) (n : Nat) (ls : List Str), vs = [.ref d, .ref t] ∧ Deck H d c n ∧ n + 300 ≤ MOSTD ∧ RwAt H t ls ∧ ls.length ≤ 7 ∧ (∀ z ∈ ls, LineOk z) ∧
  ∀ H' r (ls' : List Str), Deck H' d c (n + 300) → KX d H H' → RwAt H' r ls' → ls'.length ≤ 7 → (∀ z ∈ ls', LineOk z) → Q (.ref r) H'
def spEntries : Sp := fun vs H Q _ => ∃ (d c l : Addr) (n : Nat) (lows : List Nat), vs = [.ref d, .ref l] ∧ Deck H d c n ∧ n + 60 ≤ MOSTD ∧ H l = some (.lst (lows.map nV)) ∧ l ≠ d ∧ lows ≠ [] ∧ lows.length ≤ 1000 ∧
  ∀ H' t (qs : List (Addr × Str × Nat)), Deck H' d c (n + 60) → KX d H H' → H' t = some (.tup (qs.map fun q => .ref q.1)) → (∀ q ∈ qs, H' q.1 = some (.tup [.str q.2.1, nV q.2.2])) → qs.length ≤ 3 → qs.Pairwise (fun x y => txLt x.2.1 y.2.1) → (∀ q ∈ qs, LabOk q.2.1 ∧ q.2.2 ∈ lows) → Q (.ref t) H'
theorem chs_of {S : List Nat} {ys : List V} (h : ∀ y ∈ ys, ∃ ch : Nat, y = .str ⟨#[ch]⟩ ∧ ch ∈ S) : ∃ zs : List Nat, ys = (zs.map fun ch => (⟨#[ch]⟩ : Str)).map V.str ∧ ∀ ch ∈ zs, ch ∈ S := by
  induction ys with
  | nil => exact ⟨[], rfl, by simp⟩
  | cons y ys ih =>
    obtain ⟨ch, rfl, hch⟩ := h y (by simp)
    obtain ⟨zs, rfl, hz⟩ := ih fun y hy => h y (by simp [hy])
    exact ⟨ch :: zs, rfl, fun c hc => by
      rcases List.mem_cons.mp hc with rfl | hc
      · exact hch
      · exact hz c hc⟩
theorem chs_sum (l : List Nat) : (l.map fun ch => ((⟨#[ch]⟩ : Str)).length).sum = l.length := by
  induction l with
  | nil => rfl
  | cons x l ih =>
    rw [List.map_cons, List.sum_cons, ih, List.length_cons]
    show 1 + l.length = _
    omega
theorem chs_flat (l : List Nat) : ((l.map fun ch => (⟨#[ch]⟩ : Str)).map fun y => y.cps.toList).flatten = l := by
  induction l with
  | nil => rfl
  | cons x l ih =>
    rw [List.map_cons, List.map_cons, List.flatten_cons, ih]
    rfl
abbrev LTR : Str := Str.ofString "abcdefghijklmnopqrstuvwxyz"
theorem strs_of {ys : List V} {p : Str → Prop} (h : ∀ y ∈ ys, ∃ z : Str, y = .str z ∧ p z) : ∃ zs : List Str, ys = zs.map V.str ∧ ∀ z ∈ zs, p z := by
  induction ys with
  | nil => exact ⟨[], rfl, by simp⟩
  | cons y ys ih =>
    obtain ⟨z, rfl, hz⟩ := h y (by simp)
    obtain ⟨zs, rfl, hs⟩ := ih fun y hy => h y (by simp [hy])
    exact ⟨z :: zs, rfl, fun c hc => by
      rcases List.mem_cons.mp hc with rfl | hc
      · exact hz
      · exact hs c hc⟩
theorem w_dputS {H : Hp} {a : Addr} {kvs : List (Key × V)} {z : Str} {v : V} {R : Hp → Prop} (e : H a = some (.dK kvs)) (hl : kvs.length < sizeLine) (h : ∀ H1, H1 a = some (.dK (putK kvs (Sum.inr z) v)) → Off a H H1 → R H1) : rDPut (.ref a) (.str z) v H R :=
  ⟨a, _, rfl, DPut.k (k := Sum.inr z) e hl, h _ upd_same fun x hx => upd_ne hx⟩
def putTI (qs : List (Str × Int)) (z : Str) (v : Int) : List (Str × Int) := if (qs.any fun q => decide (q.1 = z)) = true then qs.map (fun q => if q.1 = z then (q.1, v) else q) else qs ++ [(z, v)]
theorem putTI_kv (qs : List (Str × Int)) (z : Str) (v : Int) : putK (kvTI qs) (Sum.inr z) (V.int v) = kvTI (putTI qs z v) := by
  unfold putK putTI kvTI
  have e : ((qs.map fun q => ((Sum.inr q.1 : Key), V.int q.2)).any fun kv => decide (kv.1 = (Sum.inr z : Key))) = (qs.any fun q => decide (q.1 = z)) := by
    rw [List.any_map]
    congr 1
    funext q
    show decide ((Sum.inr q.1 : Key) = Sum.inr z) = decide (q.1 = z)
    by_cases h : q.1 = z
    · rw [decide_eq_true h, decide_eq_true (by rw [h])]
    · rw [decide_eq_false h, decide_eq_false (fun e => h (Sum.inr.inj e))]
  rw [e]
  by_cases h : (qs.any fun q => decide (q.1 = z)) = true
  · rw [if_pos h, if_pos h, List.map_map, List.map_map]
    refine List.map_congr_left fun q _ => ?_
    show (if (Sum.inr q.1 : Key) = Sum.inr z then ((Sum.inr q.1 : Key), V.int v) else ((Sum.inr q.1 : Key), V.int q.2)) = ((Sum.inr (if q.1 = z then (q.1, v) else q).1 : Key), V.int (if q.1 = z then (q.1, v) else q).2)
    by_cases g : q.1 = z
    · rw [if_pos (by rw [g]), if_pos g]
    · rw [if_neg (fun e => g (Sum.inr.inj e)), if_neg g]
  · rw [if_neg h, if_neg h, List.map_append]
    rfl
theorem putTI_nd {qs : List (Str × Int)} {z : Str} {v : Int} (nd : (qs.map (·.1)).Nodup) : ((putTI qs z v).map (·.1)).Nodup := by
  unfold putTI
  by_cases h : (qs.any fun q => decide (q.1 = z)) = true
  · rw [if_pos h, List.map_map]
    have : ((fun x : Str × Int => x.1) ∘ fun q => if q.1 = z then (q.1, v) else q) = fun q : Str × Int => q.1 := by
      funext q
      show (if q.1 = z then (q.1, v) else q).1 = q.1
      by_cases g : q.1 = z
      · rw [if_pos g]
      · rw [if_neg g]
    rw [this]
    exact nd
  · rw [if_neg h, List.map_append, List.nodup_append]
    refine ⟨nd, by simp, fun x hx y hy e => ?_⟩
    have : y = z := by simpa using hy
    subst this
    obtain ⟨q, hq, e2⟩ := List.mem_map.mp hx
    exact h (List.any_eq_true.mpr ⟨q, hq, decide_eq_true (e2.trans e)⟩)
theorem putTI_mem {qs : List (Str × Int)} {z : Str} {v : Int} {q : Str × Int} (h : q ∈ putTI qs z v) : q ∈ qs ∨ q = (z, v) := by
  unfold putTI at h
  by_cases g : (qs.any fun q => decide (q.1 = z)) = true
  · rw [if_pos g] at h
    obtain ⟨q', hq', e⟩ := List.mem_map.mp h
    by_cases f : q'.1 = z
    · rw [if_pos f] at e
      exact .inr (by rw [← e, f])
    · rw [if_neg f] at e
      exact .inl (by rw [← e]; exact hq')
  · rw [if_neg g] at h
    simpa using h
theorem putTI_len {qs : List (Str × Int)} {z : Str} {v : Int} : (putTI qs z v).length ≤ qs.length + 1 := by
  unfold putTI
  by_cases g : (qs.any fun q => decide (q.1 = z)) = true
  · rw [if_pos g, List.length_map]
    omega
  · rw [if_neg g, List.length_append]
    simp
section
variable {P : Program} {w : World} {K : PySem.W.Frag} {mg : Str → Option Value} {base : Heap}
theorem ok_text {f fM fD : Addr} {fd fdM fdD : FuncData} (T : Txt K mg) (F : Fun K "_law_text" "_law_text" s_law_text f fd) (D_law_mixed : Df K mg "_law_mixed" s_law_mixed ["_law_cell", "_law_turn"] fM fdM) (D_law_draw : Df K mg "_law_draw" s_law_draw ["_law_deck_here", "_law_many"] fD fdD) : FnOk P w K mg base CX0 3 f fd ["_law_deck_here", "_law_size"] spText := by
  have G_law_draw : FnOk P w K mg base CX0 2 fD fdD ["_law_deck_here", "_law_many"] spDraw := ok_draw T D_law_draw.fn D_law_mixed
  refine F.ok sc_law_text (fun vs H Q E h => ?_) (fun cdv A outer s H vs Q E hr h => ?_)
  · obtain ⟨d, c, n, m, rfl, _⟩ := h
    rfl
  · obtain ⟨d, c, n, m, rfl, D0, hn, hm, q⟩ := h
    refine ⟨_,
      (pss_cons
        (ps_set (i := 2) sc_law_text.nd rfl (.inr rfl) pe_str)
      (pss_cons
        (ps_if (pt_cmpR op_eq (pe_call G_law_draw (hr.mono (by omega)) (by rfl) D_law_draw.g D_law_draw.fn.kp D_law_draw.b .nil pass0 (pa_cons (pv 0) (pa_cons pe_int pa_nil))) pe_int (nomark _))
          (pss_one
            (ps_set (i := 2) sc_law_text.nd rfl (.inr rfl) pe_str))
          pss_nil)
      (pss_one
        (ps_ret (p_join pe_str (pe_lc (own := [("_law_k", 3)]) (g := (gName 3)) rfl sc_law_text.nd (pi_range1 (by rfl) T.n_range (pa_cons (pe_call G_law_draw (hr.mono (by omega)) (by rfl) D_law_draw.g D_law_draw.fn.kp D_law_draw.b .nil pass0 (pa_cons (pv 0) (pa_cons (pe_op op_add (pv 1) pe_int) pa_nil))) pa_nil)) (blkOk_by (own := [("_law_k", 3)]) (N := N_law_text) (sc := defScope s_law_text) (by decide +kernel)) (fun _ _ _ _ _ => (pg_name (i := 3) sc_law_text.nd rfl (.inl rfl))) (fun _ _ _ _ _ => pts_nil) (fun _ _ _ _ _ => (pe_ix ix_str (pv 2) (pe_call G_law_draw (hr.mono (by omega)) (by rfl) D_law_draw.g D_law_draw.fn.kp D_law_draw.b .nil pass0 (pa_cons (pv 0) (pa_cons (pe_callB c_lenS (by rfl) T.n_len (by decide +kernel) (pa_cons (pv 2) pa_nil)) pa_nil))) (fun _ _ => rfl)))))))))
      , ?_⟩
    rw [show L2.start N_law_text [V.ref d, V.int (m : Int)] = [some (.ref d), some (.int (m : Int)), none, none] from rfl]
    walk_at "x"
    refine w_seqJ (fun σ' H' => ∃ sg : Str, σ' = [some (.ref d), some (.int (m : Int)), some (.str sg), none] ∧ Deck H' d c (n + 1) ∧ Kp [d] H H' ∧ 0 < sg.length ∧ sg.length ≤ 100 ∧ ∀ c ∈ sg.cps.toList, c ∈ SG.cps.toList) ?_ ?_
    rotate_left
    · intro U hU
      walk_at "g"
      refine w_draw D0 (by omega) (by decide) (by decide) fun r H1 hr1 D1 o1 => ?_
      walk_at "g"
      refine w_ite (fun h => ?_) (fun h => ?_)
      · walk_at "g"
        exact hU _ _ ⟨_, rfl, D1, o1.kp (by simp), by decide, by decide, by decide⟩
      · walk_at "g"
        exact hU _ _ ⟨_, rfl, D1, o1.kp (by simp), by decide +kernel, by decide +kernel, fun c h => h⟩
    rintro σ' H1 ⟨sg, rfl, D1, k1, hs0, hs1, hsg⟩
    obtain ⟨⟨dx, ed1⟩, ⟨cx, ec1⟩⟩ := D1.at
    walk_at "g"
    refine w_draw D1 (by omega) (by omega) (by omega) fun r H2 hr2 D2 o2 => ?_
    obtain ⟨⟨dx2, ed2⟩, _⟩ := D2.at
    walk_at "g"
    refine lcp_gen (walk_range (lo := 0) (n := (r : Int).toNat)) [d] (fun i y _ => ∃ ch : Nat, y = .str ⟨#[ch]⟩ ∧ ch ∈ SG.cps.toList) (fun i H' => Deck H' d c (n + 2 + i)) (by omega) (fun _ _ _ _ _ h => h) (fun D hD i H1' o z => z.mut (D2.ne1 hD).1 (D2.ne1 hD).2) (fun _ _ _ _ => trivial) D2 ?_ (by intro b hb; have e : b = d := (by simpa using hb); subst e; exact ⟨_, ed2⟩) ?_
    · rintro i x H3 H4 R hi k3 t3 D3 ⟨rfl, rfl⟩ hR
      refine w_name ⟨rfl, ?_⟩
      walk_at "g"
      refine w_lenS (small2000 (by omega)) ?_
      walk_at "g"
      refine w_draw D3 (by unfold MOSTD at *; omega) (by omega) (by omega) fun r4 H5 hr4 D5 o5 => ?_
      obtain ⟨⟨dx3, ed3⟩, _⟩ := D3.at
      obtain ⟨ch, hch, ech⟩ : ∃ ch, sg.cps.toList[r4]? = some ch ∧ atI sg.cps.toList (r4 : Int) = some ch := by
        have hl : r4 < sg.cps.toList.length := by
          have : sg.length = sg.cps.toList.length := by show sg.cps.size = _; simp
          omega
        exact ⟨_, List.getElem?_eq_getElem hl, atI_nat (List.getElem?_eq_getElem hl)⟩
      walk_at "g"
      refine w_ixS (small2000 (by omega)) ech ?_
      exact hR _ _ ⟨ch, rfl, hsg ch (List.mem_of_getElem? hch)⟩ (o5.kp (by simp)) (KT.off o5 ed3) D5
    · intro L H3 ys hyl hyp hL k3 t3 D3 eL
      obtain ⟨zs, hzs, hzc⟩ : ∃ zs : List Nat, ys = (zs.map fun ch => (⟨#[ch]⟩ : Str)).map V.str ∧ ∀ ch ∈ zs, ch ∈ SG.cps.toList := by
        have : ∀ {ys : List V}, (∀ y ∈ ys, ∃ ch : Nat, y = .str ⟨#[ch]⟩ ∧ ch ∈ SG.cps.toList) → ∃ zs : List Nat, ys = (zs.map fun ch => (⟨#[ch]⟩ : Str)).map V.str ∧ ∀ ch ∈ zs, ch ∈ SG.cps.toList := by
          intro ys
          induction ys with
          | nil => intro _; exact ⟨[], rfl, by simp⟩
          | cons y ys ih =>
            intro h
            obtain ⟨ch, rfl, hch⟩ := h y (by simp)
            obtain ⟨zs, rfl, hz⟩ := ih fun y hy => h y (by simp [hy])
            exact ⟨ch :: zs, rfl, fun c hc => by
              rcases List.mem_cons.mp hc with rfl | hc
              · exact hch
              · exact hz c hc⟩
        refine this fun y hy => ?_
        obtain ⟨i, hi, e⟩ := List.getElem_of_mem hy
        exact hyp i y (by rw [List.getElem?_eq_getElem hi, e])
      have hzl : zs.length = (r : Int).toNat := by rw [← hyl, hzs]; simp
      subst hzs
      have hsum : ∀ l : List Nat, (l.map fun ch => ((⟨#[ch]⟩ : Str)).length).sum = l.length := by
        intro l
        induction l with
        | nil => rfl
        | cons x l ih =>
          rw [List.map_cons, List.sum_cons, ih, List.length_cons]
          show 1 + l.length = _
          omega
      have hflat : ∀ l : List Nat, ((l.map fun ch => (⟨#[ch]⟩ : Str)).map fun y => y.cps.toList).flatten = l := by
        intro l
        induction l with
        | nil => rfl
        | cons x l ih =>
          rw [List.map_cons, List.map_cons, List.flatten_cons, ih]
          rfl
      walk_at "g"
      refine w_joinL (.of eL) ?_ ?_
      · rw [List.map_map, List.length_map]
        have := hsum zs
        show (zs.map fun ch => ((⟨#[ch]⟩ : Str)).length).sum + zs.length * 0 ≤ _
        omega
      · have ec := join_cps (zs.map fun ch => (⟨#[ch]⟩ : Str))
        rw [hflat] at ec
        refine q H3 _ (D3.mono (by omega)) (k1.trans ((o2.kp (by simp)).trans k3)) ?_ ⟨?_, fun ch hch => ?_⟩
        · exact D0.ktK (k1.trans ((o2.kp (by simp)).trans k3))
        · show (Txt.join (Str.ofString "") (zs.map fun ch => (⟨#[ch]⟩ : Str))).cps.size ≤ 40
          rw [← Array.length_toList, ec]
          omega
        · rw [ec] at hch
          exact hzc ch hch
theorem ok_label {f fM fD : Addr} {fd fdM fdD : FuncData} (T : Txt K mg) (F : Fun K "_law_label" "_law_label" s_law_label f fd) (D_law_mixed : Df K mg "_law_mixed" s_law_mixed ["_law_cell", "_law_turn"] fM fdM) (D_law_draw : Df K mg "_law_draw" s_law_draw ["_law_deck_here", "_law_many"] fD fdD) : FnOk P w K mg base CX0 3 f fd ["_law_deck_here"] spLabel := by
  have G_law_draw : FnOk P w K mg base CX0 2 fD fdD ["_law_deck_here", "_law_many"] spDraw := ok_draw T D_law_draw.fn D_law_mixed
  refine F.ok sc_law_label (fun vs H Q E h => ?_) (fun cdv A outer s H vs Q E hr h => ?_)
  · obtain ⟨d, c, n, rfl, _⟩ := h
    rfl
  · obtain ⟨d, c, n, rfl, D0, hn, q⟩ := h
    refine ⟨_,
      (pss_cons
        (ps_if (pt_cmpR op_gt (pe_call G_law_draw (hr.mono (by omega)) (by rfl) D_law_draw.g D_law_draw.fn.kp D_law_draw.b .nil pass0 (pa_cons (pv 0) (pa_cons pe_int pa_nil))) pe_int (nomark _))
          (pss_one
            (ps_ret (pe_ix ix_str pe_str (pe_call G_law_draw (hr.mono (by omega)) (by rfl) D_law_draw.g D_law_draw.fn.kp D_law_draw.b .nil pass0 (pa_cons (pv 0) (pa_cons pe_int pa_nil))) (fun _ _ => rfl))))
          pss_nil)
      (pss_cons
        (ps_set (i := 1) sc_law_label.nd rfl (.inr rfl) pe_str)
      (pss_one
        (ps_ret (p_join pe_str (pe_lc (own := [("_law_k", 2)]) (g := (gName 2)) rfl sc_law_label.nd (pi_range1 (by rfl) T.n_range (pa_cons (pe_op op_add pe_int (pe_call G_law_draw (hr.mono (by omega)) (by rfl) D_law_draw.g D_law_draw.fn.kp D_law_draw.b .nil pass0 (pa_cons (pv 0) (pa_cons pe_int pa_nil)))) pa_nil)) (blkOk_by (own := [("_law_k", 2)]) (N := N_law_label) (sc := defScope s_law_label) (by decide +kernel)) (fun _ _ _ _ _ => (pg_name (i := 2) sc_law_label.nd rfl (.inl rfl))) (fun _ _ _ _ _ => pts_nil) (fun _ _ _ _ _ => (pe_ix ix_str (pv 1) (pe_call G_law_draw (hr.mono (by omega)) (by rfl) D_law_draw.g D_law_draw.fn.kp D_law_draw.b .nil pass0 (pa_cons (pv 0) (pa_cons pe_int pa_nil))) (fun _ _ => rfl)))))))))
      , ?_⟩
    rw [show L2.start N_law_label [V.ref d] = [some (.ref d), none, none] from rfl]
    refine w_seq ?_
    walk_at "x"
    refine w_draw D0 (by omega) (by decide) (by decide) fun r H1 hr1 D1 o1 => ?_
    walk_at "g"
    refine w_ite (fun h => ?_) (fun h => ?_)
    · walk_at "g"
      refine w_draw D1 (by omega) (by decide) (by decide) fun r2 H2 hr2 D2 o2 => ?_
      have hl : r2 < (Str.ofString "abcd").cps.toList.length := by
        have : (Str.ofString "abcd").cps.toList.length = 4 := by decide +kernel
        omega
      have ech : atI (Str.ofString "abcd").cps.toList (r2 : Int) = some (Str.ofString "abcd").cps.toList[r2] := atI_nat (List.getElem?_eq_getElem hl)
      walk_at "g"
      refine w_ixS (by decide +kernel) ech ?_
      walk_at "g"
      have k2 : Kp [d] H H2 := (o1.kp (by simp)).trans (o2.kp (by simp))
      refine q H2 _ (D2.mono (by omega)) k2 ((D0.kx D1 o1).trans (D1.kx D2 o2)).t ⟨Nat.le_refl 1, (show (1 : Nat) ≤ 8 by decide), fun ch hch => ?_⟩
      have hm : (Str.ofString "abcd").cps.toList[r2] ∈ (Str.ofString "abcd").cps.toList := List.getElem_mem hl
      have e : ch = (Str.ofString "abcd").cps.toList[r2] := by simpa using hch
      rw [← e] at hm
      have hsub : ∀ x ∈ (Str.ofString "abcd").cps.toList, x ∈ LTR.cps.toList := by decide +kernel
      exact hsub ch hm
    · walk_at "g"
      refine w_draw D1 (by omega) (by decide) (by decide) fun r2 H2 hr2 D2 o2 => ?_
      obtain ⟨⟨dx2, ed2⟩, _⟩ := D2.at
      walk_at "g"
      refine lcp_gen (walk_range (lo := 0) (n := (1 + (r2 : Int)).toNat)) [d] (fun i y _ => ∃ ch : Nat, y = .str ⟨#[ch]⟩ ∧ ch ∈ LTR.cps.toList) (fun i H' => Deck H' d c (n + 2 + i)) (by omega) (fun _ _ _ _ _ h => h) (fun D hD i H1' o z => z.mut (D2.ne1 hD).1 (D2.ne1 hD).2) (fun _ _ _ _ => trivial) D2 ?_ (by intro b hb; have e : b = d := (by simpa using hb); subst e; exact ⟨_, ed2⟩) ?_
      · rintro i x H3 H4 R hi k3 t3 D3 ⟨rfl, rfl⟩ hR
        refine w_name ⟨rfl, ?_⟩
        walk_at "g"
        refine w_draw D3 (by unfold MOSTD at *; omega) (by decide) (by decide) fun r4 H5 hr4 D5 o5 => ?_
        obtain ⟨⟨dx3, ed3⟩, _⟩ := D3.at
        have hl : r4 < LTR.cps.toList.length := by
          have : LTR.cps.toList.length = 26 := by decide +kernel
          omega
        have ech : atI LTR.cps.toList (r4 : Int) = some LTR.cps.toList[r4] := atI_nat (List.getElem?_eq_getElem hl)
        walk_at "g"
        refine w_ixS (by decide +kernel) ech ?_
        exact hR _ _ ⟨_, rfl, List.getElem_mem hl⟩ (o5.kp (by simp)) (KT.off o5 ed3) D5
      · intro L H3 ys hyl hyp hL k3 t3 D3 eL
        obtain ⟨zs, hzs, hzc⟩ := chs_of (S := LTR.cps.toList) (ys := ys) fun y hy => by
          obtain ⟨i, hi, e⟩ := List.getElem_of_mem hy
          exact hyp i y (by rw [List.getElem?_eq_getElem hi, e])
        have hzl : zs.length = (1 + (r2 : Int)).toNat := by rw [← hyl, hzs]; simp
        subst hzs
        walk_at "g"
        refine w_joinL (.of eL) ?_ ?_
        · rw [List.map_map, List.length_map]
          have := chs_sum zs
          show (zs.map fun ch => ((⟨#[ch]⟩ : Str)).length).sum + zs.length * 0 ≤ _
          omega
        · have ec := join_cps (zs.map fun ch => (⟨#[ch]⟩ : Str))
          rw [chs_flat] at ec
          have hlen : (Txt.join (Str.ofString "") (zs.map fun ch => (⟨#[ch]⟩ : Str))).length = zs.length := by
            show (Txt.join (Str.ofString "") (zs.map fun ch => (⟨#[ch]⟩ : Str))).cps.size = _
            rw [← Array.length_toList, ec]
          have k03 := ((o1.kp (M := [d]) (by simp)).trans ((o2.kp (by simp)).trans k3))
          refine q H3 _ (D3.mono (by omega)) k03 (D0.kxK D3 k03).t ⟨by omega, by omega, fun ch hch => ?_⟩
          rw [ec] at hch
          exact hzc ch hch
theorem ok_rows {f fM fD fT : Addr} {fd fdM fdD fdT : FuncData} (T : Txt K mg) (F : Fun K "_law_rows" "_law_rows" s_law_rows f fd) (D_law_mixed : Df K mg "_law_mixed" s_law_mixed ["_law_cell", "_law_turn"] fM fdM) (D_law_draw : Df K mg "_law_draw" s_law_draw ["_law_deck_here", "_law_many"] fD fdD) (D_law_text : Df K mg "_law_text" s_law_text ["_law_deck_here", "_law_size"] fT fdT) : FnOk P w K mg base CX0 4 f fd ["_law_deck_here", "_law_elder"] spRows := by
  have G_law_draw : FnOk P w K mg base CX0 2 fD fdD ["_law_deck_here", "_law_many"] spDraw := ok_draw T D_law_draw.fn D_law_mixed
  have G_law_text : FnOk P w K mg base CX0 3 fT fdT ["_law_deck_here", "_law_size"] spText := ok_text T D_law_text.fn D_law_mixed D_law_draw
  refine F.ok sc_law_rows (fun vs H Q E h => ?_) (fun cdv A outer s H vs Q E hr h => ?_)
  · obtain ⟨d, c, t, n, ls, rfl, _⟩ := h
    rfl
  · obtain ⟨d, c, t, n, ls, rfl, D0, hn, ht, hl7, hok, q⟩ := h
    refine ⟨_,
      (pss_cons
        (ps_set (i := 2) sc_law_rows.nd rfl (.inl rfl) (pe_callTy (r := rListOf K) c_listOf (by rfl) T.n_list (by decide +kernel) (pa_cons (pv 1) pa_nil)))
      (pss_cons
        (ps_if (pt_cmpR op_eq (pe_call G_law_draw (hr.mono (by omega)) (by rfl) D_law_draw.g D_law_draw.fn.kp D_law_draw.b .nil pass0 (pa_cons (pv 0) (pa_cons pe_int pa_nil))) pe_int (nomark _))
          (pss_one
            (ps_setLc (i := 2) (own := [("_law_k", 3)]) (g := (gName 3)) rfl sc_law_rows.nd rfl rfl (sw_true rfl rfl rfl (by decide +kernel)) (pi_range1 (by rfl) T.n_range (pa_cons (pe_call G_law_draw (hr.mono (by omega)) (by rfl) D_law_draw.g D_law_draw.fn.kp D_law_draw.b .nil pass0 (pa_cons (pv 0) (pa_cons pe_int pa_nil))) pa_nil)) (blkOk_by (own := [("_law_k", 3)]) (N := N_law_rows) (sc := defScope s_law_rows) (by decide +kernel)) (fun _ _ _ _ _ => (pg_name (i := 3) sc_law_rows.nd rfl (.inl rfl))) (fun _ _ _ _ _ => pts_nil) (fun _ _ _ _ _ => (pe_call G_law_text (hr.mono (by omega)) (by rfl) D_law_text.g D_law_text.fn.kp D_law_text.b .nil pass0 (pa_cons (pv 0) (pa_cons pe_int pa_nil))))))
          pss_nil)
      (pss_cons
        (ps_if (pt_cmpR op_eq (pe_call G_law_draw (hr.mono (by omega)) (by rfl) D_law_draw.g D_law_draw.fn.kp D_law_draw.b .nil pass0 (pa_cons (pv 0) (pa_cons pe_int pa_nil))) pe_int (nomark _))
          (pss_one
            (ps_expr (pe_bm PySem.F.plainAttrs_list PySem.F.slot_list_insert PySem.F.type_list_insert m_insert (pv 2) (pa_cons (pe_call G_law_draw (hr.mono (by omega)) (by rfl) D_law_draw.g D_law_draw.fn.kp D_law_draw.b .nil pass0 (pa_cons (pv 0) (pa_cons (pe_op op_add (pe_callB (r := rLen K) c_len (by rfl) T.n_len (by decide +kernel) (pa_cons (pv 2) pa_nil)) pe_int) pa_nil))) (pa_cons (pe_call G_law_text (hr.mono (by omega)) (by rfl) D_law_text.g D_law_text.fn.kp D_law_text.b .nil pass0 (pa_cons (pv 0) (pa_cons pe_int pa_nil))) pa_nil)))))
          pss_nil)
      (pss_cons
        (ps_if (pt_cmpR op_gt (pe_callB (r := rLen K) c_len (by rfl) T.n_len (by decide +kernel) (pa_cons (pv 2) pa_nil)) pe_int (nomark _))
          (pss_one
            (ps_expr (pe_bm PySem.F.plainAttrs_list PySem.F.slot_list_pop PySem.F.type_list_pop mt_popAt (pv 2) (pa_cons (pe_call G_law_draw (hr.mono (by omega)) (by rfl) D_law_draw.g D_law_draw.fn.kp D_law_draw.b .nil pass0 (pa_cons (pv 0) (pa_cons (pe_callB (r := rLen K) c_len (by rfl) T.n_len (by decide +kernel) (pa_cons (pv 2) pa_nil)) pa_nil))) pa_nil))))
          pss_nil)
      (pss_one
        (ps_ret (pe_callTy (r := rTupOf K) c_tupOf (by rfl) T.n_tuple (by decide +kernel) (pa_cons (pv 2) pa_nil))))))))
      , ?_⟩
    rw [show L2.start N_law_rows [V.ref d, V.ref t] = [some (.ref d), some (.ref t), none, none] from rfl]
    walk_at "x"
    refine w_listT (.of ht) fun L H1 hL e1 k1 => ?_
    have D1 : Deck H1 d c n := D0.kp (M := []) (Kp.of k1) (by simp) (by simp)
    walk_at "g"
    refine w_seqJ (fun σ' H' => ∃ (L : Addr) (y : Option V) (zs : List Str), σ' = [some (.ref d), some (.ref t), some (.ref L), y] ∧ Deck H' d c (n + 200) ∧ KX d H H' ∧ H L = none ∧ H' L = some (.lst (zs.map V.str)) ∧ zs.length ≤ 7 ∧ ∀ z ∈ zs, LineOk z) ?_ ?_
    · rintro σ' H2 ⟨L2', y, zs, rfl, D2, x2, hL2, e2, hz7, hzk⟩
      obtain ⟨Ld, Lc⟩ := D0.ne1 hL2
      refine w_seqJ (fun σ' H' => ∃ (zs : List Str), σ' = [some (.ref d), some (.ref t), some (.ref L2'), y] ∧ Deck H' d c (n + 250) ∧ KX d H H' ∧ H' L2' = some (.lst (zs.map V.str)) ∧ zs.length ≤ 8 ∧ ∀ z ∈ zs, LineOk z) ?_ ?_
      · rintro σ' H3 ⟨zs3, rfl, D3, x3, e3, hz8, hzk3⟩
        refine w_seqJ (fun σ' H' => ∃ (zs : List Str), σ' = [some (.ref d), some (.ref t), some (.ref L2'), y] ∧ Deck H' d c (n + 260) ∧ KX d H H' ∧ H' L2' = some (.lst (zs.map V.str)) ∧ zs.length ≤ 7 ∧ ∀ z ∈ zs, LineOk z) ?_ ?_
        · rintro σ' H4 ⟨zs4, rfl, D4, x4, e4, hz74, hzk4⟩
          walk_at "g"
          refine w_tupL (.of e4) fun r H5 hr5 e5 k5 => ?_
          exact q H5 r zs4 ((D4.kp (M := []) (Kp.of k5) (by simp) (by simp)).mono (by omega)) (x4.trans (KX.of k5)) e5 hz74 hzk4
        · intro U hU
          walk_at "g"
          refine w_ite (fun h => ?_) (fun h => ?_)
          · have hl8 : zs3.length = 8 := by rw [List.length_map] at h; omega
            walk_at "g"
            refine w_draw D3 (by omega) (by rw [List.length_map]; omega) (by rw [List.length_map]; omega) fun r H4 hr4 D4 o4 => ?_
            rw [List.length_map] at hr4
            have hr8 : r < zs3.length := by omega
            have e4 := o4.get Ld e3
            walk_at "g"
            refine w_popAt (k := r) (y := .str zs3[r]) e4 (by omega) (by omega) (seqIndex_nat (by rw [List.length_map]; omega)) (by rw [List.getElem?_map, List.getElem?_eq_getElem hr8]; rfl) fun H5 e5 o5 => ?_
            walk_at "g"
            refine hU _ _ ⟨zs3.eraseIdx r, rfl, (D4.kp (M := [L2']) (o5.kp (by simp)) (by simpa using Ld.symm) (by simpa using Lc.symm)).mono (by omega), (x3.trans (D3.kx D4 o4)).offN o5 hL2, by rw [e5, erase_map], by rw [List.length_eraseIdx]; split <;> omega, fun z hz => hzk3 z (List.mem_of_mem_eraseIdx hz)⟩
          · walk_at "g"
            exact hU _ _ ⟨zs3, rfl, D3.mono (by omega), x3, e3, by rw [List.length_map] at h; omega, hzk3⟩
      · intro U hU
        walk_at "g"
        refine w_draw D2 (by omega) (by decide) (by decide) fun r H3 hr3 D3 o3 => ?_
        have e3 := o3.get Ld e2
        have x3 := x2.trans (D2.kx D3 o3)
        walk_at "g"
        refine w_ite (fun h => ?_) (fun h => ?_)
        · walk_at "g"
          refine w_draw D3 (by omega) (by rw [List.length_map]; omega) (by rw [List.length_map]; omega) fun r2 H4 hr4 D4 o4 => ?_
          have e4 := o4.get Ld e3
          walk_at "g"
          refine ⟨d, c, _, 3, rfl, D4, by omega, by omega, fun H5 z D5 k5 t5 hz => ?_⟩
          have x5 := (x3.trans (D3.kx D4 o4)).trans (D4.kxK D5 k5)
          have e5 := k5 _ _ (by simpa using Ld) e4
          walk_at "g"
          refine w_insert e5 (by rw [List.length_map]; exact small1kl (by omega)) (by rw [List.length_map] at hr4; omega) fun H6 e6 o6 => ?_
          walk_at "g"
          refine hU _ _ ⟨zs.take r2 ++ [z] ++ zs.drop r2, rfl, (D5.kp (M := [L2']) (o6.kp (by simp)) (by simpa using Ld.symm) (by simpa using Lc.symm)).mono (by omega), x5.offN o6 hL2, by rw [e6, List.map_append, List.map_append, List.map_take, List.map_drop]; rfl, ?_, fun y hy => ?_⟩
          · rw [List.length_append, List.length_append, List.length_take, List.length_drop]
            simp only [List.length_cons, List.length_nil]
            omega
          · rcases List.mem_append.mp hy with hy | hy
            · rcases List.mem_append.mp hy with hy | hy
              · exact hzk y (List.mem_of_mem_take hy)
              · have : y = z := by simpa using hy
                rw [this]
                exact hz
            · exact hzk y (List.mem_of_mem_drop hy)
        · walk_at "g"
          exact hU _ _ ⟨zs, rfl, D3.mono (by omega), x3, e3, by omega, hzk⟩
    · intro U hU
      walk_at "g"
      refine w_draw D1 (by omega) (by decide) (by decide) fun r H2 hr2 D2 o2 => ?_
      obtain ⟨Ld, Lc⟩ := D0.ne1 hL
      have e2 := o2.get Ld e1
      have x2 : KX d H H2 := (KX.of k1).trans (D1.kx D2 o2)
      walk_at "g"
      refine w_ite (fun h => ?_) (fun h => ?_)
      · walk_at "g"
        refine w_draw D2 (by omega) (by decide) (by decide) fun r2 H3 hr3 D3 o3 => ?_
        obtain ⟨⟨dx3, ed3⟩, _⟩ := D3.at
        have x3 : KX d H H3 := x2.trans (D2.kx D3 o3)
        walk_at "g"
        refine lcp_gen (walk_range (lo := 0) (n := (r2 : Int).toNat)) [d] (fun i y _ => ∃ z : Str, y = .str z ∧ LineOk z) (fun i H' => Deck H' d c (n + 2 + 42 * i)) (by omega) (fun _ _ _ _ _ h => h) (fun D hD i H1' o z => z.mut (D3.ne1 hD).1 (D3.ne1 hD).2) (fun _ _ _ _ => trivial) D3 ?_ (by intro b hb; have e : b = d := (by simpa using hb); subst e; exact ⟨_, ed3⟩) ?_
        · rintro i x H4 H5 R hi k4 t4 D4 ⟨rfl, rfl⟩ hR
          refine w_name ⟨rfl, ?_⟩
          walk_at "g"
          refine ⟨d, c, _, 3, rfl, D4, by omega, by omega, fun H6 z D6 k6 t6 hz => ?_⟩
          exact hR _ _ ⟨z, rfl, hz⟩ k6 t6 (by rw [show n + 2 + 42 * (i + 1) = n + 2 + 42 * i + 42 by omega]; exact D6)
        · intro L2' H4 ys hyl hyp hL2 k4 t4 D4 eL
          obtain ⟨zs, rfl, hzk⟩ := strs_of (p := LineOk) (ys := ys) fun y hy => by
            obtain ⟨i, hi, e⟩ := List.getElem_of_mem hy
            exact hyp i y (by rw [List.getElem?_eq_getElem hi, e])
          have hL20 : H L2' = none := by
            cases e : H L2' with
            | none => rfl
            | some o =>
              by_cases hld : L2' = d
              · rw [hld, ed3] at hL2
                cases hL2
              · rw [x3.p _ _ (by simpa using hld) e] at hL2
                cases hL2
          rw [List.length_map] at hyl
          walk_at "g"
          exact hU _ _ ⟨L2', _, zs, rfl, D4.mono (by omega), x3.trans (D3.kxK D4 k4), hL20, eL, by omega, hzk⟩
      · walk_at "g"
        exact hU _ _ ⟨L, _, ls, rfl, D2.mono (by omega), x2, hL, e2, hl7, hok⟩
theorem ok_entries {f fM fD fL : Addr} {fd fdM fdD fdL : FuncData} (T : Txt K mg) (F : Fun K "_law_entries" "_law_entries" s_law_entries f fd) (D_law_mixed : Df K mg "_law_mixed" s_law_mixed ["_law_cell", "_law_turn"] fM fdM) (D_law_draw : Df K mg "_law_draw" s_law_draw ["_law_deck_here", "_law_many"] fD fdD) (D_law_label : Df K mg "_law_label" s_law_label ["_law_deck_here"] fL fdL) : FnOk P w K mg base CX0 4 f fd ["_law_deck_here", "_law_lows"] spEntries := by
  have G_law_draw : FnOk P w K mg base CX0 2 fD fdD ["_law_deck_here", "_law_many"] spDraw := ok_draw T D_law_draw.fn D_law_mixed
  have G_law_label : FnOk P w K mg base CX0 3 fL fdL ["_law_deck_here"] spLabel := ok_label T D_law_label.fn D_law_mixed D_law_draw
  refine F.ok sc_law_entries (fun vs H Q E h => ?_) (fun cdv A outer s H vs Q E hr h => ?_)
  · obtain ⟨d, c, l, n, lows, rfl, _⟩ := h
    rfl
  · obtain ⟨d, c, l, n, lows, rfl, D0, hn, hl, ld, hne, hll, q⟩ := h
    have hpos : 0 < lows.length := List.length_pos_iff.mpr hne
    have hu := hu_of hr
    refine ⟨_,
      (pss_cons
        (ps_set (i := 2) sc_law_entries.nd rfl (.inl rfl) pe_dnewK)
      (pss_cons
        (ps_for PassesOwn.never rfl (pi_range1 (by rfl) T.n_range (pa_cons (pe_call G_law_draw (hr.mono (by omega)) (by rfl) D_law_draw.g D_law_draw.fn.kp D_law_draw.b .nil pass0 (pa_cons (pv 0) (pa_cons pe_int pa_nil))) pa_nil)) (pg_name (i := 3) sc_law_entries.nd rfl (.inl rfl))
          (pss_one
            (ps_dput hu (pv 2) (pe_call G_law_label (hr.mono (by omega)) (by rfl) D_law_label.g D_law_label.fn.kp D_law_label.b .nil pass0 (pa_cons (pv 0) pa_nil)) (pe_ix (r := rIxL K) ix_list (pv 1) (pe_call G_law_draw (hr.mono (by omega)) (by rfl) D_law_draw.g D_law_draw.fn.kp D_law_draw.b .nil pass0 (pa_cons (pv 0) (pa_cons (pe_callB (r := rLen K) c_len (by rfl) T.n_len (by decide +kernel) (pa_cons (pv 1) pa_nil)) pa_nil))) (fun _ _ => rfl)) rfl)))
      (pss_one
        (ps_ret (pe_callTy (r := rTupOf K) c_tupOf (by rfl) T.n_tuple (by decide +kernel) (pa_cons (pe_callB (r := rSortI) (c_sortI rfl hr.units) (by rfl) T.n_sorted (by decide +kernel) (pa_cons (pe_bm0 PySem.F.plainAttrs_dict PySem.F.slot_dict_items PySem.F.type_dict_items mt_itemsK (pv 2)) pa_nil)) pa_nil))))))
      , ?_⟩
    rw [show L2.start N_law_entries [V.ref d, V.ref l] = [some (.ref d), some (.ref l), none, none] from rfl]
    walk_at "x"
    refine w_new fun e H1 he e1 k1 => ?_
    have D1 : Deck H1 d c n := D0.kp (M := []) (Kp.of k1) (by simp) (by simp)
    obtain ⟨ed, ec⟩ := D0.ne1 he
    have el : l ≠ e := ne_of_none hl he
    walk_at "g"
    refine w_draw D1 (by omega) (by decide) (by decide) fun many H2 hmany D2 o2 => ?_
    walk_at "g"
    try refine w_rng1' (by omega) (by omega) ?_
    refine lp_range (fun i σ H' => ∃ (y : Option V) (qs : List (Str × Int)), σ = [some (.ref d), some (.ref l), some (.ref e), y] ∧ Deck H' d c (n + 1 + 13 * i) ∧ KX d H H' ∧ H' e = some (.dK (kvTI qs)) ∧ qs.length ≤ i ∧ (qs.map (·.1)).Nodup ∧ ∀ q ∈ qs, LabOk q.1 ∧ ∃ m : Nat, q.2 = m ∧ m ∈ lows) ⟨_, [], rfl, D2, (KX.of k1).trans (D1.kx D2 o2), o2.get ed e1, by simp, by simp, by simp⟩ ?_ ?_
    · rintro i σ H3 hi ⟨y, qs, rfl, D3, x3, e3, hql, hnd, hqs⟩
      have hi3 : i < 3 := by omega
      have hl3 := x3.p _ _ (by simpa using ld) hl
      walk_at "g"
      refine w_draw D3 (by omega) (by rw [List.length_map]; omega) (by rw [List.length_map]; omega) fun r H4 hr4 D4 o4 => ?_
      rw [List.length_map] at hr4
      have hr5 : r < lows.length := by omega
      have hl4 := o4.get ld hl3
      have e4 := o4.get ed e3
      have at1 : atI (lows.map nV) (r : Int) = some (.int ((lows[r] : Nat) : Int)) := atI_nat (nV_at hr5)
      walk_at "g"
      refine ⟨d, c, _, rfl, D4, by omega, fun H5 z D5 k5 t5 hz => ?_⟩
      have e5 := k5 _ _ (by simpa using ed) e4
      have x5 := (x3.trans (D3.kx D4 o4)).trans (D4.kxK D5 k5)
      walk_at "g"
      refine w_dputS e5 (by unfold kvTI; rw [List.length_map]; exact small1kl (by omega)) fun H6 e6 o6 => ?_
      rw [putTI_kv] at e6
      walk_at "g"
      refine ⟨_, _, rfl, (D5.kp (M := [e]) (o6.kp (by simp)) (by simpa using ed.symm) (by simpa using ec.symm)).mono (by omega), x5.offN o6 he, e6, by have := putTI_len (qs := qs) (z := z) (v := ((lows[r] : Nat) : Int)); omega, putTI_nd hnd, fun q' hq' => ?_⟩
      rcases putTI_mem hq' with h | h
      · exact hqs q' h
      · rw [h]
        exact ⟨hz, lows[r], rfl, List.getElem_mem hr5⟩
    · rintro σ H3 ⟨y, qs, rfl, D3, x3, e3, hql, hnd, hqs⟩
      walk_at "g"
      refine w_bm0D ?_
      walk_at "g"
      refine w_tyDK e3 ?_
      refine w_itemsK e3 fun v H4 hv4 e4 k4 => ?_
      walk_at "g"
      refine w_sortI e4 (k4 _ _ e3) hnd fun H5 p ts k5 hp5 e5 hts hperm hsrt => ?_
      walk_at "g"
      refine w_tupL (.of e5) fun t H6 ht6 e6 k6 => ?_
      have k36 := Same.trans k4 (Same.trans k5 k6)
      have hval : ∀ b ∈ ts, LabOk b.2.1 ∧ ∃ m : Nat, b.2.2 = m ∧ m ∈ lows := fun b hb => hqs b.2 (hperm.mem_iff.mp (List.mem_map_of_mem hb))
      refine q H6 t (ts.map fun b => (b.1, b.2.1, b.2.2.toNat)) ((D3.kp (M := []) (Kp.of k36) (by simp) (by simp)).mono (by omega)) (x3.trans (KX.of k36)) (by rw [e6, List.map_map]; rfl) (fun q' hq' => ?_) ?_ ?_ (fun q' hq' => ?_)
      · obtain ⟨b, hb, rfl⟩ := List.mem_map.mp hq'
        obtain ⟨_, m, em, _⟩ := hval b hb
        have := k6 _ _ (hts b hb)
        show H6 b.1 = some (.tup [.str b.2.1, .int ((b.2.2.toNat : Nat) : Int)])
        rw [this, em]
        rfl
      · have h1 := hperm.length_eq
        rw [List.length_map] at h1
        rw [List.length_map]
        omega
      · rw [List.pairwise_map]
        exact hsrt
      · obtain ⟨b, hb, rfl⟩ := List.mem_map.mp hq'
        obtain ⟨g1, m, em, hm⟩ := hval b hb
        exact ⟨g1, by show b.2.2.toNat ∈ lows; rw [em]; exact hm⟩
end
/-! ### drawn families -/
theorem ScnOk.nil : ScnOk [] := fun i c h => by simp at h
theorem ScnOk.snoc {cs : List Ct} {c : Ct} (h : ScnOk cs) (hc : CtOk cs (dsOf cs) c) : ScnOk (cs ++ [c]) := by
  intro i x hx
  by_cases hi : i < cs.length
  · rw [List.getElem?_append_left hi] at hx
    have e : (cs ++ [c]).take i = cs.take i := List.take_append_of_le_length (by omega)
    rw [e]
    exact h i x hx
  · have hi2 : i = cs.length := by
      have := (List.getElem?_eq_some_iff.mp hx).1
      rw [List.length_append] at this
      simp only [List.length_cons, List.length_nil] at this
      omega
    subst hi2
    have e : (cs ++ [c]).take cs.length = cs := by simp
    rw [e]
    have : x = c := by simpa using hx.symm
    rw [this]
    exact hc
theorem fold_max_le {t : Nat} : ∀ (l : List Nat) (a : Nat), a ≤ t → (∀ x ∈ l, x ≤ t) → l.foldl max a ≤ t
  | [], a, h, _ => h
  | x :: l, a, h, h2 => fold_max_le l (max a x) (by have := h2 x (by simp); omega) fun y hy => h2 y (by simp [hy])
def DepLe (cs : List Ct) (t : Nat) : Prop := ∀ d ∈ dsOf cs, d ≤ t
theorem DepLe.tree {cs : List Ct} {t : Nat} (h : DepLe cs t) (es : List (Str × Nat)) : depOf (dsOf cs) (.tree es) ≤ t + 1 := by
  have := fold_max_le (t := t) (es.map fun e => (dsOf cs).getD e.2 0) 0 (Nat.zero_le _) fun x hx => by
    obtain ⟨e, _, rfl⟩ := List.mem_map.mp hx
    rw [List.getD_eq_getElem?_getD]
    cases g : (dsOf cs)[e.2]? with
    | none => exact Nat.zero_le _
    | some d => exact h d (List.mem_of_getElem? g)
  show 1 + _ ≤ _
  omega
theorem DepLe.snoc {cs : List Ct} {c : Ct} {t : Nat} (h : DepLe cs t) (hc : depOf (dsOf cs) c ≤ t) : DepLe (cs ++ [c]) t := by
  intro d hd
  rw [dsOf_snoc] at hd
  rcases List.mem_append.mp hd with g | g
  · exact h d g
  · have : d = depOf (dsOf cs) c := by simpa using g
    rw [this]
    exact hc
theorem sg_smallF : ∀ c ∈ SG.cps.toList, c < 0x110000 := by decide +kernel
theorem ltr_small : ∀ c ∈ LTR.cps.toList, c < 0x110000 := by decide +kernel
theorem line_strF {z : Str} (h : LineOk z) : PyData.strOk z = true := by
  unfold PyData.strOk
  rw [Array.all_eq_true_iff_forall_mem]
  intro c hc
  exact decide_eq_true (sg_smallF c (h.2 c (by simpa using hc)))
theorem lab_str {z : Str} (h : LabOk z) : PyData.strOk z = true := by
  unfold PyData.strOk
  rw [Array.all_eq_true_iff_forall_mem]
  intro c hc
  exact decide_eq_true (ltr_small c (h.2.2 c (by simpa using hc)))
theorem CtOk.txts {cs : List Ct} {ds : List Nat} {c : Ct} (h : CtOk cs ds c) : c.txts := by
  cases c with
  | leaf rows => exact fun z hz => line_strF (h.2 z hz)
  | tree es => exact fun e he => lab_str (h.2.1 e he).1
  | ver ps r s => trivial
structure Fam (cs : List (Addr × Ct)) (t : Nat) : Prop where
  ok : ScnOk (cs.map (·.2))
  nd : (cs.map (·.2)).Nodup
  dp : DepLe (cs.map (·.2)) t
theorem Fam.txts {cs : List (Addr × Ct)} {t : Nat} (h : Fam cs t) : ∀ q ∈ cs, q.2.txts := by
  intro q hq
  obtain ⟨i, hi, e⟩ := List.getElem_of_mem hq
  exact (h.ok i q.2 (by rw [List.getElem?_map, List.getElem?_eq_getElem hi, e]; rfl)).txts
theorem Fam.mono {cs : List (Addr × Ct)} {t u : Nat} (h : Fam cs t) (l : t ≤ u) : Fam cs u := ⟨h.ok, h.nd, fun d hd => Nat.le_trans (h.dp d hd) l⟩
theorem Fam.bk {cs : List (Addr × Ct)} {t : Nat} (h : Fam cs t) : BkOk cs := by
  have key : ∀ n, isV cs n → (pars cs n).length ≤ 4 ∧ ∀ p ∈ pars cs n, isV cs p ∧ p < n := fun n iv => by
    obtain ⟨a, r, s, e⟩ := iv.at
    obtain ⟨h1, h2, h3, _⟩ := h.ok n _ (by rw [List.getElem?_map, e]; rfl)
    refine ⟨h2, fun p hp => ?_⟩
    obtain ⟨c, hc, hw⟩ := h3 p hp
    have hpn : p < n := by
      have := (List.getElem?_eq_some_iff.mp hc).1
      rw [List.length_take] at this
      omega
    rw [List.getElem?_take, if_pos hpn, List.getElem?_map] at hc
    obtain ⟨q, hq, e2⟩ := Option.map_eq_some_iff.mp hc
    exact ⟨(word_isV hq).mp (by rw [e2]; exact hw), hpn⟩
  refine ⟨fun n p hp => (key n (isV.of hp)).2 p hp, fun n => ?_⟩
  by_cases iv : isV cs n
  · exact (key n iv).1
  · cases e : pars cs n with
    | nil => exact Nat.zero_le _
    | cons p r => exact absurd (isV.of (p := p) (by rw [e]; simp)) iv
def Grow (cs cs' : List (Addr × Ct)) : Prop := ∀ (i : Nat) (x : Addr × Ct), cs[i]? = some x → cs'[i]? = some x
theorem Grow.refl {cs : List (Addr × Ct)} : Grow cs cs := fun _ _ h => h
theorem Grow.snoc {cs : List (Addr × Ct)} {x : Addr × Ct} : Grow cs (cs ++ [x]) := fun i y h => by
  rw [List.getElem?_append_left (List.getElem?_eq_some_iff.mp h).1]
  exact h
theorem w_give {H : Hp} {Q : VK} {E : XK} {th a : Addr} {cs : List (Addr × Ct)} {c : Ct} {t : Nat} (ht : ThAt H th cs) (fm : Fam cs t) (hc : CtAt H a c) (ok : CtOk (cs.map (·.2)) (dsOf (cs.map (·.2))) c) (dp : depOf (dsOf (cs.map (·.2))) c ≤ t) (hl : cs.length < 900)
    (h : ∀ (H' : Hp) (cs' : List (Addr × Ct)) (j : Nat) (b : Addr), ThAt H' th cs' → Fam cs' t → Grow cs cs' → cs'[j]? = some (b, c) → cs'.length ≤ cs.length + 1 → Off th H H' → Q (nV j) H') : spGive ([V.ref th, V.ref a] ++ []) H Q E := by
  refine ⟨th, a, cs, c, rfl, ht, fm.nd, hc, by omega, fm.txts, ok.txts, fun j b hj => ?_, fun hno H' ht' o' => ?_⟩
  · exact h H cs j b ht fm .refl hj (by omega) fun _ _ => rfl
  · refine h H' _ cs.length a ht' ⟨?_, ?_, ?_⟩ .snoc (by simp) (by simp) o'
    · rw [List.map_append, List.map_cons, List.map_nil]
      exact fm.ok.snoc ok
    · rw [List.map_append, List.map_cons, List.map_nil, List.nodup_append]
      refine ⟨fm.nd, by simp, fun x hx y hy e => ?_⟩
      obtain ⟨z, hz, rfl⟩ := List.mem_map.mp hx
      have e' : y = c := by simpa using hy
      rw [e'] at e
      exact hno z hz e
    · rw [List.map_append, List.map_cons, List.map_nil]
      exact fm.dp.snoc dp
theorem cut_nats (ns : List Nat) (lo hi : Option Int) : ∃ ms : List Nat, cutV (ns.map nV) lo hi = ms.map nV ∧ (∀ x ∈ ms, x ∈ ns) ∧ ms.length ≤ ns.length := by
  refine ⟨(ns.drop (HT.sIx (ns.map nV).length 0 lo)).take (HT.sIx (ns.map nV).length (ns.map nV).length hi - HT.sIx (ns.map nV).length 0 lo), ?_, fun x hx => List.mem_of_mem_drop (List.mem_of_mem_take hx), ?_⟩
  · unfold cutV
    rw [List.map_take, List.map_drop]
  · rw [List.length_take, List.length_drop]
    omega
def isL (cs : List (Addr × Ct)) (n : Nat) : Prop := ∃ a rows, cs[n]? = some (a, Ct.leaf rows)
def isT (cs : List (Addr × Ct)) (n : Nat) : Prop := ∃ a es, cs[n]? = some (a, Ct.tree es)
theorem isL.grow {cs cs' : List (Addr × Ct)} {n : Nat} (h : isL cs n) (g : Grow cs cs') : isL cs' n := by
  obtain ⟨a, r, e⟩ := h
  exact ⟨a, r, g _ _ e⟩
theorem isT.grow {cs cs' : List (Addr × Ct)} {n : Nat} (h : isT cs n) (g : Grow cs cs') : isT cs' n := by
  obtain ⟨a, r, e⟩ := h
  exact ⟨a, r, g _ _ e⟩
theorem isV.grow {cs cs' : List (Addr × Ct)} {n : Nat} (h : isV cs n) (g : Grow cs cs') : isV cs' n := by
  obtain ⟨a, p, r, s, e⟩ := h
  exact ⟨a, p, r, s, g _ _ e⟩
theorem isV.word {cs : List (Addr × Ct)} {n : Nat} (h : isV cs n) : ∃ c, (cs.map (·.2))[n]? = some c ∧ c.word = "version" := by
  obtain ⟨a, p, r, s, e⟩ := h
  exact ⟨_, by rw [List.getElem?_map, e]; rfl, rfl⟩
theorem isT.word {cs : List (Addr × Ct)} {n : Nat} (h : isT cs n) : ∃ c, (cs.map (·.2))[n]? = some c ∧ c.word = "tree" := by
  obtain ⟨a, r, e⟩ := h
  exact ⟨_, by rw [List.getElem?_map, e]; rfl, rfl⟩
theorem low_word {cs : List (Addr × Ct)} {n : Nat} (h : isL cs n ∨ isT cs n) : ∃ c, (cs.map (·.2))[n]? = some c ∧ c.word ≠ "version" := by
  rcases h with ⟨a, r, e⟩ | ⟨a, r, e⟩
  · exact ⟨.leaf r, by rw [List.getElem?_map, e]; rfl, lit_ne2⟩
  · exact ⟨.tree r, by rw [List.getElem?_map, e]; rfl, lit_ne3⟩
/-! ### _law_same, of data that are the same, kind for kind -/
def Sc : V → Prop
  | .non => True
  | .bl _ => True
  | .int _ => True
  | .str _ => True
  | _ => False
def SD : Nat → Hp → V → V → Prop
  | 0, _, x, y => x = y ∧ Sc x
  | n + 1, H, x, y => (x = y ∧ Sc x) ∨ ∃ p q xs ys, x = .ref p ∧ y = .ref q ∧ ((H p = some (.tup xs) ∧ H q = some (.tup ys)) ∨ (H p = some (.lst xs) ∧ H q = some (.lst ys))) ∧ xs.length = ys.length ∧ xs.length ≤ 100000 ∧
      ∀ (i : Nat) (a b : V), xs[i]? = some a → ys[i]? = some b → SD n H a b
theorem SD.ints {H : Hp} {p q : Addr} {xs : List Int} (h1 : H p = some (.lst (xs.map V.int))) (h2 : H q = some (.lst (xs.map V.int))) (hl : xs.length ≤ 100000) : SD 1 H (.ref p) (.ref q) :=
  Or.inr ⟨p, q, _, _, rfl, rfl, .inr ⟨h1, h2⟩, rfl, by simpa using hl, fun i a b ha hb => by
    rw [ha] at hb
    cases hb
    rw [List.getElem?_map] at ha
    obtain ⟨z, _, rfl⟩ := Option.map_eq_some_iff.mp ha
    exact ⟨rfl, trivial⟩⟩
theorem SD.tups {H : Hp} {p q : Addr} {xs : List Int} (h1 : H p = some (.tup (xs.map V.int))) (h2 : H q = some (.tup (xs.map V.int))) (hl : xs.length ≤ 100000) : SD 1 H (.ref p) (.ref q) :=
  Or.inr ⟨p, q, _, _, rfl, rfl, .inl ⟨h1, h2⟩, rfl, by simpa using hl, fun i a b ha hb => by
    rw [ha] at hb
    cases hb
    rw [List.getElem?_map] at ha
    obtain ⟨z, _, rfl⟩ := Option.map_eq_some_iff.mp ha
    exact ⟨rfl, trivial⟩⟩
def spSame (n : Nat) : Sp := fun vs H Q _ => ∃ (x y : V), vs = [x, y] ∧ SD n H x y ∧ Q (.bl true) H
def spIntI : Sp := fun vs H Q _ => ∃ (x : Int), vs = [.int x] ∧ Q (.bl true) H
section
variable {P : Program} {w : World} {K : PySem.W.Frag} {mg : Str → Option Value} {base : Heap}
theorem ok_int {f : Addr} {fd : FuncData} (T : Txt K mg) (F : Fun K "_law_int" "_law_int" s_law_int f fd) : FnOk P w K mg base CX0 1 f fd ["_law_thing"] spIntI := by
  refine F.ok sc_law_int (fun vs H Q E h => ?_) (fun cdv A outer s H vs Q E hr h => ?_)
  · obtain ⟨x, rfl, _⟩ := h
    rfl
  · obtain ⟨x, rfl, q⟩ := h
    refine ⟨_,
      (pss_one
        (ps_ret (pe_and (pe_callB (r := rIsi K) call_isi (by rfl) T.n_isinstance (by decide +kernel) (pa_cons (pv 0) (pa_cons (pe_bltn (v := .ty "int") (u := .type "int") (by rfl) T.n_int (by decide +kernel) rfl) pa_nil))) (pe_one (pe_not (pe_callB (r := rIsi K) call_isi (by rfl) T.n_isinstance (by decide +kernel) (pa_cons (pv 0) (pa_cons (pe_bltn (v := .ty "bool") (u := .type "bool") (by rfl) T.n_bool (by decide +kernel) rfl) pa_nil))))))))
      , ?_⟩
    walk_at "x"
    exact q
theorem ok_same0 {f fI : Addr} {fd fdI : FuncData} (T : Txt K mg) (D_law_same : Df K mg "_law_same" s_law_same ["_law_found", "_law_due"] f fd) (D_law_int : Df K mg "_law_int" s_law_int ["_law_thing"] fI fdI) : FnOk P w K mg base CX0 2 f fd ["_law_found", "_law_due"] (spSame 0) := by
  have G_law_int : FnOk P w K mg base CX0 1 fI fdI ["_law_thing"] spIntI := ok_int T D_law_int.fn
  refine D_law_same.fn.ok sc_law_same (fun vs H Q E h => ?_) (fun cdv A outer s H vs Q E hr h => ?_)
  · obtain ⟨x, y, rfl, _⟩ := h
    rfl
  · obtain ⟨x, y, rfl, ⟨rfl, hx⟩, q⟩ := h
    refine ⟨_,
      (pss_cons
        (ps_if (PW.pt (pw_or (pt_val (pe_callB (r := rIsi K) call_isi (by rfl) T.n_isinstance (by decide +kernel) (pa_cons (pv 1) (pa_cons (pe_bltn (v := .ty "tuple") (u := .type "tuple") (by rfl) T.n_tuple (by decide +kernel) rfl) pa_nil)))) (pw_or1 (pt_val (pe_callB (r := rIsi K) call_isi (by rfl) T.n_isinstance (by decide +kernel) (pa_cons (pv 1) (pa_cons (pe_bltn (v := .ty "list") (u := .type "list") (by rfl) T.n_list (by decide +kernel) rfl) pa_nil)))))))
          pss_never
          pss_nil)
      (pss_cons
        (ps_if (pt_val (pe_callB (r := rIsi K) call_isi (by rfl) T.n_isinstance (by decide +kernel) (pa_cons (pv 1) (pa_cons (pe_bltn (v := .ty "bool") (u := .type "bool") (by rfl) T.n_bool (by decide +kernel) rfl) pa_nil))))
          (pss_one
            (ps_ret (pe_and (pe_callB (r := rIsi K) call_isi (by rfl) T.n_isinstance (by decide +kernel) (pa_cons (pv 0) (pa_cons (pe_bltn (v := .ty "bool") (u := .type "bool") (by rfl) T.n_bool (by decide +kernel) rfl) pa_nil))) (pe_one (pe_cmpR op_eq (pv 0) (pv 1) (nomark _))))))
          pss_nil)
      (pss_cons
        (ps_if (pt_val (pe_callB (r := rIsi K) call_isi (by rfl) T.n_isinstance (by decide +kernel) (pa_cons (pv 1) (pa_cons (pe_bltn (v := .ty "int") (u := .type "int") (by rfl) T.n_int (by decide +kernel) rfl) pa_nil))))
          (pss_one
            (ps_ret (pe_and (pe_call G_law_int (hr.mono (by omega)) (by rfl) D_law_int.g D_law_int.fn.kp D_law_int.b .nil pass0 (pa_cons (pv 0) pa_nil)) (pe_one (pe_cmpR op_eq (pv 0) (pv 1) (nomark _))))))
          pss_nil)
      (pss_cons
        (ps_if (pt_val (pe_callB (r := rIsi K) call_isi (by rfl) T.n_isinstance (by decide +kernel) (pa_cons (pv 1) (pa_cons (pe_bltn (v := .ty "str") (u := .type "str") (by rfl) T.n_str (by decide +kernel) rfl) pa_nil))))
          (pss_one
            (ps_ret (pe_and (pe_callB (r := rIsi K) call_isi (by rfl) T.n_isinstance (by decide +kernel) (pa_cons (pv 0) (pa_cons (pe_bltn (v := .ty "str") (u := .type "str") (by rfl) T.n_str (by decide +kernel) rfl) pa_nil))) (pe_one (pe_cmpR op_eq (pv 0) (pv 1) (nomark _))))))
          pss_nil)
      (pss_one
        (ps_ret (pe_and (pe_cmpR o_isN (pv 1) pe_non (nomark _)) (pe_one (pe_cmpR o_isN (pv 0) pe_non (nomark _))))))))))
      , ?_⟩
    rw [show L2.start N_law_same [x, x] = [some x, some x, none] from rfl]
    cases x with
    | non =>
      refine w_seq ?_
      walk_at "x"
      refine w_seq ?_
      walk_at "g"
      refine w_seq ?_
      walk_at "g"
      refine w_seq ?_
      walk_at "g"
      refine w_yes rfl ?_
      walk_at "g"
      exact q
    | bl b =>
      refine w_seq ?_
      walk_at "x"
      refine w_seq ?_
      walk_at "g"
      rw [decide_eq_true rfl]
      exact q
    | int i =>
      refine w_seq ?_
      walk_at "x"
      refine w_seq ?_
      walk_at "g"
      refine w_seq ?_
      walk_at "g"
      refine ⟨i, rfl, ?_⟩
      walk_at "g"
      rw [decide_eq_true rfl]
      exact q
    | str z =>
      refine w_seq ?_
      walk_at "x"
      refine w_seq ?_
      walk_at "g"
      refine w_seq ?_
      walk_at "g"
      refine w_seq ?_
      walk_at "g"
      rw [decide_eq_true rfl]
      exact q
    | byt _ => exact hx.elim
    | flt _ => exact hx.elim
    | ref _ => exact hx.elim
    | ty _ => exact hx.elim
theorem ok_same {f fI : Addr} {fd fdI : FuncData} (T : Txt K mg) (D_law_same : Df K mg "_law_same" s_law_same ["_law_found", "_law_due"] f fd) (D_law_int : Df K mg "_law_int" s_law_int ["_law_thing"] fI fdI) : ∀ n : Nat, FnOk P w K mg base CX0 (n + 2) f fd ["_law_found", "_law_due"] (spSame n)
  | 0 => ok_same0 T D_law_same D_law_int
  | n + 1 => by
    have G_law_int : FnOk P w K mg base CX0 1 fI fdI ["_law_thing"] spIntI := ok_int T D_law_int.fn
    have G_law_same : FnOk P w K mg base CX0 (n + 2) f fd ["_law_found", "_law_due"] (spSame n) := ok_same T D_law_same D_law_int n
    refine D_law_same.fn.ok sc_law_same (fun vs H Q E h => ?_) (fun cdv A outer s H vs Q E hr h => ?_)
    · obtain ⟨x, y, rfl, _⟩ := h
      rfl
    · obtain ⟨x, y, rfl, hd, q⟩ := h
      have hmono : 1 ≤ n + 1 + 1 := by omega
      refine ⟨_,
      (pss_cons
        (ps_if (PW.pt (pw_or (pt_val (pe_callB (r := rIsi K) call_isi (by rfl) T.n_isinstance (by decide +kernel) (pa_cons (pv 1) (pa_cons (pe_bltn (v := .ty "tuple") (u := .type "tuple") (by rfl) T.n_tuple (by decide +kernel) rfl) pa_nil)))) (pw_or1 (pt_val (pe_callB (r := rIsi K) call_isi (by rfl) T.n_isinstance (by decide +kernel) (pa_cons (pv 1) (pa_cons (pe_bltn (v := .ty "list") (u := .type "list") (by rfl) T.n_list (by decide +kernel) rfl) pa_nil)))))))
          (pss_cons
            (ps_if (PW.pt (pw_or (pt_cmpR op_ne (pe_callB (r := rIsi K) call_isi (by rfl) T.n_isinstance (by decide +kernel) (pa_cons (pv 1) (pa_cons (pe_bltn (v := .ty "tuple") (u := .type "tuple") (by rfl) T.n_tuple (by decide +kernel) rfl) pa_nil))) (pe_callB (r := rIsi K) call_isi (by rfl) T.n_isinstance (by decide +kernel) (pa_cons (pv 0) (pa_cons (pe_bltn (v := .ty "tuple") (u := .type "tuple") (by rfl) T.n_tuple (by decide +kernel) rfl) pa_nil))) (nomark _)) (pw_or1 (pt_cmpR op_ne (pe_callB (r := rIsi K) call_isi (by rfl) T.n_isinstance (by decide +kernel) (pa_cons (pv 1) (pa_cons (pe_bltn (v := .ty "list") (u := .type "list") (by rfl) T.n_list (by decide +kernel) rfl) pa_nil))) (pe_callB (r := rIsi K) call_isi (by rfl) T.n_isinstance (by decide +kernel) (pa_cons (pv 0) (pa_cons (pe_bltn (v := .ty "list") (u := .type "list") (by rfl) T.n_list (by decide +kernel) rfl) pa_nil))) (nomark _)))))
              (pss_one
                (ps_ret pe_bl))
              pss_nil)
          (pss_cons
            (ps_if (pt_cmpR op_ne (pe_callB (r := rLen K) c_len (by rfl) T.n_len (by decide +kernel) (pa_cons (pv 0) pa_nil)) (pe_callB (r := rLen K) c_len (by rfl) T.n_len (by decide +kernel) (pa_cons (pv 1) pa_nil)) (nomark _))
              (pss_one
                (ps_ret pe_bl))
              pss_nil)
          (pss_cons
            (ps_for PassesOwn.never rfl (pi_range1 (by rfl) T.n_range (pa_cons (pe_callB (r := rLen K) c_len (by rfl) T.n_len (by decide +kernel) (pa_cons (pv 1) pa_nil)) pa_nil)) (pg_name (i := 2) sc_law_same.nd rfl (.inl rfl))
              (pss_one
                (ps_if (pt_not (pt_val (pe_call G_law_same (hr.mono (by omega)) (by rfl) D_law_same.g D_law_same.fn.kp D_law_same.b .nil pass0 (pa_cons (pe_ix (r := rIx K) ix_seq (pv 0) (pv 2) (fun _ _ => rfl)) (pa_cons (pe_ix (r := rIx K) ix_seq (pv 1) (pv 2) (fun _ _ => rfl)) pa_nil)))))
                  (pss_one
                    (ps_ret pe_bl))
                  pss_nil)))
          (pss_one
            (ps_ret pe_bl)))))
          pss_nil)
      (pss_cons
        (ps_if (pt_val (pe_callB (r := rIsi K) call_isi (by rfl) T.n_isinstance (by decide +kernel) (pa_cons (pv 1) (pa_cons (pe_bltn (v := .ty "bool") (u := .type "bool") (by rfl) T.n_bool (by decide +kernel) rfl) pa_nil))))
          (pss_one
            (ps_ret (pe_and (pe_callB (r := rIsi K) call_isi (by rfl) T.n_isinstance (by decide +kernel) (pa_cons (pv 0) (pa_cons (pe_bltn (v := .ty "bool") (u := .type "bool") (by rfl) T.n_bool (by decide +kernel) rfl) pa_nil))) (pe_one (pe_cmpR op_eq (pv 0) (pv 1) (nomark _))))))
          pss_nil)
      (pss_cons
        (ps_if (pt_val (pe_callB (r := rIsi K) call_isi (by rfl) T.n_isinstance (by decide +kernel) (pa_cons (pv 1) (pa_cons (pe_bltn (v := .ty "int") (u := .type "int") (by rfl) T.n_int (by decide +kernel) rfl) pa_nil))))
          (pss_one
            (ps_ret (pe_and (pe_call G_law_int (hr.mono (by omega)) (by rfl) D_law_int.g D_law_int.fn.kp D_law_int.b .nil pass0 (pa_cons (pv 0) pa_nil)) (pe_one (pe_cmpR op_eq (pv 0) (pv 1) (nomark _))))))
          pss_nil)
      (pss_cons
        (ps_if (pt_val (pe_callB (r := rIsi K) call_isi (by rfl) T.n_isinstance (by decide +kernel) (pa_cons (pv 1) (pa_cons (pe_bltn (v := .ty "str") (u := .type "str") (by rfl) T.n_str (by decide +kernel) rfl) pa_nil))))
          (pss_one
            (ps_ret (pe_and (pe_callB (r := rIsi K) call_isi (by rfl) T.n_isinstance (by decide +kernel) (pa_cons (pv 0) (pa_cons (pe_bltn (v := .ty "str") (u := .type "str") (by rfl) T.n_str (by decide +kernel) rfl) pa_nil))) (pe_one (pe_cmpR op_eq (pv 0) (pv 1) (nomark _))))))
          pss_nil)
      (pss_one
        (ps_ret (pe_and (pe_cmpR o_isN (pv 1) pe_non (nomark _)) (pe_one (pe_cmpR o_isN (pv 0) pe_non (nomark _))))))))))
        , ?_⟩
      rw [show L2.start N_law_same [x, y] = [some x, some y, none] from rfl]
      rcases hd with ⟨rfl, hx⟩ | ⟨p, r, xs, ys, rfl, rfl, hk, hlen, hle, hd⟩
      · cases x with
        | non =>
          refine w_seq ?_
          walk_at "x"
          refine w_seq ?_
          walk_at "g"
          refine w_seq ?_
          walk_at "g"
          refine w_seq ?_
          walk_at "g"
          refine w_yes rfl ?_
          walk_at "g"
          exact q
        | bl b =>
          refine w_seq ?_
          walk_at "x"
          refine w_seq ?_
          walk_at "g"
          rw [decide_eq_true rfl]
          exact q
        | int i =>
          refine w_seq ?_
          walk_at "x"
          refine w_seq ?_
          walk_at "g"
          refine w_seq ?_
          walk_at "g"
          refine ⟨i, rfl, ?_⟩
          walk_at "g"
          rw [decide_eq_true rfl]
          exact q
        | str z =>
          refine w_seq ?_
          walk_at "x"
          refine w_seq ?_
          walk_at "g"
          refine w_seq ?_
          walk_at "g"
          refine w_seq ?_
          walk_at "g"
          rw [decide_eq_true rfl]
          exact q
        | byt _ => exact hx.elim
        | flt _ => exact hx.elim
        | ref _ => exact hx.elim
        | ty _ => exact hx.elim
      · have turn : ∀ (i : Nat), i < ys.length → ∃ a b, atI xs (0 + (i : Int)) = some a ∧ atI ys (0 + (i : Int)) = some b ∧ SD n H a b := fun i hi => by
          have h1 : xs[i]? = some xs[i] := List.getElem?_eq_getElem (by omega)
          have h2 : ys[i]? = some ys[i] := List.getElem?_eq_getElem hi
          rw [show 0 + (i : Int) = (i : Int) by omega]
          exact ⟨_, _, atI_nat h1, atI_nat h2, hd i _ _ h1 h2⟩
        rcases hk with ⟨h1, h2⟩ | ⟨h1, h2⟩
        all_goals
          refine w_seq ?_
          walk_at "x"
          refine w_seq ?_
          walk_at "g"
          walk_at "dg"
          walk_at "dg"
          refine w_seq ?_
          walk_at "g"
          walk_at "dg"
          refine lp_range (fun i σ H' => H' = H ∧ ∃ y2, σ = [some (.ref p), some (.ref r), y2]) ⟨rfl, _, rfl⟩ ?_ ?_
          · rintro i σ H' hi ⟨rfl, y2, rfl⟩
            obtain ⟨a, b, ha, hb, hab⟩ := turn i (by omega)
            walk_at "g"
            refine ⟨a, b, rfl, hab, ?_⟩
            walk_at "g"
            exact ⟨rfl, _, rfl⟩
          · rintro σ H' ⟨rfl, y2, rfl⟩
            walk_at "g"
            exact q
end
/-! ### prices of choices and rows -/
abbrev ChR := Addr × Nat × Option Nat × List (Addr × Pc)
def bV : Option Nat → V
  | none => .non
  | some b => nV b
def ChAt (H : Hp) (r : ChR) : Prop := ∃ s, H r.1 = some (.tup [nV r.2.1, bV r.2.2.1, .ref s]) ∧ ScAt H s r.2.2.2
theorem ChAt.kt {H H' : Hp} {r : ChR} (h : ChAt H r) (k : KT H H') : ChAt H' r := by
  obtain ⟨s, h1, h2⟩ := h
  exact ⟨s, k _ _ h1, h2.kt k⟩
def leafN (cs : List (Addr × Ct)) (n : Nat) : Nat := match cs[n]? with
  | some (_, .leaf rows) => rows.length
  | _ => 0
def ChOk (cs : List (Addr × Ct)) (r : ChR) : Prop := isL cs r.2.1 ∧ ScOk (r.2.2.2.map (·.2))
def chCost (cs : List (Addr × Ct)) (over : Int) (r : ChR) : Int := match r.2.2.1 with
  | none => 2 * (leafN cs r.2.1 : Int)
  | some _ => over + costs 3 2 (r.2.2.2.map (·.2))
def chSum (cs : List (Addr × Ct)) (over : Int) (rs : List ChR) : Int := (rs.map (chCost cs over)).sum
theorem chSum_snoc (cs : List (Addr × Ct)) (over : Int) (rs : List ChR) (r : ChR) : chSum cs over (rs ++ [r]) = chSum cs over rs + chCost cs over r := by unfold chSum; simp
theorem w_ifE {σ : L2.St} {H : Hp} {Q : VK} {c : TT} {ta tb : TE} (h : c σ H fun b H1 => if b = true then ta σ H1 Q else tb σ H1 Q) : tIf c ta tb σ H Q := by
  refine (show c σ H _ from ?_)
  exact h
local macro_rules | `(tactic| walk_at "s") => `(tactic| first
  | with_reducible refine w_ifE ?_
  )
def spRowsIn (P : Program) (w : World) (C : Addr) : Sp := fun vs H Q _ => ∃ (p dx lc ld lg : Addr) (cs : List (Addr × Ct)) (ds : List Nat) (n : Nat) (a : Addr) (rows : List Str), vs = [.ref p, nV n] ∧ BookAt P w C H p dx lc ld lg cs ds ∧ cs[n]? = some (a, .leaf rows) ∧ ∀ r, RwAt H r rows → Q (.ref r) H
def spPlainPrice (P : Program) (w : World) (C : Addr) : Sp := fun vs H Q _ => ∃ (p dx lc ld lg : Addr) (cs : List (Addr × Ct)) (ds : List Nat) (n : Nat), vs = [.ref p, nV n] ∧ BookAt P w C H p dx lc ld lg cs ds ∧ isL cs n ∧ Q (.int (2 * (leafN cs n : Int))) H
def spPriceOf (P : Program) (w : World) (C : Addr) : Sp := fun vs H Q _ => ∃ (p dx lc ld lg ch : Addr) (cs : List (Addr × Ct)) (ds : List Nat) (ov : Int) (rs : List ChR), vs = [.ref p, .ref ch, .int ov] ∧ BookAt P w C H p dx lc ld lg cs ds ∧ H ch = some (.tup (rs.map fun r => .ref r.1)) ∧ (∀ r ∈ rs, ChAt H r ∧ ChOk cs r) ∧ ∀ H', Same H H' → Q (.int (chSum cs ov rs)) H'
def ctPrice : Ct → Int
  | .leaf rows => 2 * (rows.length : Int)
  | .tree es => 2 * (es.length : Int)
  | .ver ps _ _ => 2 * ((ps.length : Int) + 1)
def spRowPrice : Sp := fun vs H Q _ => (∃ (x : V) (ro a : Addr) (n : Nat) (c : Ct), vs = [x, .ref ro] ∧ H ro = some (.tup [nV n, .str "plain", .ref a]) ∧ CtAt H a c ∧ Q (.int (ctPrice c)) H) ∨
  ∃ (x : V) (ro s : Addr) (n : Nat) (b : V) (ps : List (Addr × Pc)), vs = [x, .ref ro] ∧ H ro = some (.tup [nV n, .str "over", b, .ref s]) ∧ ScAt H s ps ∧ ScOk (ps.map (·.2)) ∧ ∀ H', Same H H' → Q (.int (2 + costs 3 2 (ps.map (·.2)))) H'
section
variable {P : Program} {w : World} {K : PySem.W.Frag} {mg : Str → Option Value} {base : Heap} {C : Addr}
theorem ok_rowsin {f fG fN fI : Addr} {fd fdG fdN fdI : FuncData} (T : Txt K mg) (F : Fun K "rows_in" "rows_in" s_rows_in f fd) (K_Book : Kl K mg "Book" C ["contents", "depths", "given"]) (D_Book_thing : DfM K C "thing" "Book.thing" s_Book_thing ["self", "name"] fG fdG) (D_is_name : Df K mg "is_name" s_is_name ["book", "thing"] fN fdN) (D_is_int : DfD K mg "is_int" s_is_int ["thing", "least"] [.int 0] fI fdI) : FnOk P w K mg base CX0 4 f fd ["book", "leaf"] (spRowsIn P w C) := by
  have G_Book_thing : FnOk P w K mg base CX0 3 fG fdG ["self", "name"] (spThing P w C) := ok_thing T D_Book_thing.fn K_Book D_is_name D_is_int
  refine F.ok sc_rows_in (fun vs H Q E h => ?_) (fun cdv A outer s H vs Q E hr h => ?_)
  · obtain ⟨p, dx, lc, ld, lg, cs, ds, n, a, rows, rfl, _⟩ := h
    rfl
  · obtain ⟨p, dx, lc, ld, lg, cs, ds, n, a, rows, rfl, B, hn, q⟩ := h
    have ob := B.ob
    obtain ⟨r, h1, h2⟩ := B.ct _ (List.mem_of_getElem? hn)
    have h1' : H a = some (.tup [.str "leaf", .ref r]) := h1
    refine ⟨_,
      (pss_one
        (ps_ret (pe_ix (r := rIxT K) ix_tup (pe_meth (pv 0) K_Book.cl D_Book_thing.m G_Book_thing (hr.mono (by omega)) D_Book_thing.b .nil pass0 (pa_cons (pv 1) pa_nil)) pe_int (fun _ _ => rfl))))
      , ?_⟩
    rw [show L2.start N_rows_in [V.ref p, nV n] = [some (.ref p), some (.int (n : Int))] from rfl]
    walk_at "x"
    refine ⟨p, dx, lc, ld, lg, cs, ds, n, _, rfl, B, hn, ?_⟩
    walk_at "g"
    exact q r h2
theorem ok_plainprice {f fR fG fN fI : Addr} {fd fdR fdG fdN fdI : FuncData} (T : Txt K mg) (F : Fun K "plain_price" "plain_price" s_plain_price f fd) (K_Book : Kl K mg "Book" C ["contents", "depths", "given"]) (D_rows_in : Df K mg "rows_in" s_rows_in ["book", "leaf"] fR fdR) (D_Book_thing : DfM K C "thing" "Book.thing" s_Book_thing ["self", "name"] fG fdG) (D_is_name : Df K mg "is_name" s_is_name ["book", "thing"] fN fdN) (D_is_int : DfD K mg "is_int" s_is_int ["thing", "least"] [.int 0] fI fdI) : FnOk P w K mg base CX0 5 f fd ["book", "leaf"] (spPlainPrice P w C) := by
  have G_rows_in : FnOk P w K mg base CX0 4 fR fdR ["book", "leaf"] (spRowsIn P w C) := ok_rowsin T D_rows_in.fn K_Book D_Book_thing D_is_name D_is_int
  obtain ⟨tk_PUT, g_PUT⟩ := T.g_PUT
  refine F.ok sc_plain_price (fun vs H Q E h => ?_) (fun cdv A outer s H vs Q E hr h => ?_)
  · obtain ⟨p, dx, lc, ld, lg, cs, ds, n, rfl, _⟩ := h
    rfl
  · obtain ⟨p, dx, lc, ld, lg, cs, ds, n, rfl, B, ⟨a, rows, hn⟩, q⟩ := h
    refine ⟨_,
      (pss_one
        (ps_ret (pe_op op_mul (pe_glob (v := .int 2) rfl g_PUT ⟨_, rfl⟩) (pe_callB (r := rLen K) c_len (by rfl) T.n_len (by decide +kernel) (pa_cons (pe_call G_rows_in (hr.mono (by omega)) (by rfl) D_rows_in.g D_rows_in.fn.kp D_rows_in.b .nil pass0 (pa_cons (pv 0) (pa_cons (pv 1) pa_nil))) pa_nil)))))
      , ?_⟩
    rw [show L2.start N_plain_price [V.ref p, nV n] = [some (.ref p), some (.int (n : Int))] from rfl]
    walk_at "x"
    refine ⟨p, dx, lc, ld, lg, cs, ds, n, a, rows, rfl, B, hn, fun r hr' => ?_⟩
    have hr2 : H r = some (.tup (rows.map V.str)) := hr'
    have e : leafN cs n = rows.length := by unfold leafN; rw [hn]
    rw [e] at q
    walk_at "g"
    rw [List.length_map]
    exact q
theorem ok_priceof {f fPP fPr fS fM fT fR fG fN fI : Addr} {fd fdPP fdPr fdS fdM fdT fdR fdG fdN fdI : FuncData} (T : Txt K mg) (F : FunD K "price_of" "price_of" (defArgs s_price_of) (defBody s_price_of) (defScope s_price_of) [] [("over", .int 2)] f fd) (K_Book : Kl K mg "Book" C ["contents", "depths", "given"]) (D_plain_price : Df K mg "plain_price" s_plain_price ["book", "leaf"] fPP fdPP) (D_price : DfKs K mg "price" s_price ["script", "take", "put"] [("take", .int 3), ("put", .int 2)] [.int 3, .int 2] fPr fdPr)
    (D_is_script : Df K mg "is_script" s_is_script ["thing"] fS fdS) (D_made_by : Df K mg "made_by" s_made_by ["thing"] fM fdM) (D_is_text : DfD K mg "is_text" s_is_text ["thing", "most"] [.int 40] fT fdT) (D_rows_in : Df K mg "rows_in" s_rows_in ["book", "leaf"] fR fdR) (D_Book_thing : DfM K C "thing" "Book.thing" s_Book_thing ["self", "name"] fG fdG) (D_is_name : Df K mg "is_name" s_is_name ["book", "thing"] fN fdN) (D_is_int : DfD K mg "is_int" s_is_int ["thing", "least"] [.int 0] fI fdI) : FnOk P w K mg base CX0 6 f fd ["book", "choice", "over"] (spPriceOf P w C) := by
  have G_plain_price : FnOk P w K mg base CX0 5 fPP fdPP ["book", "leaf"] (spPlainPrice P w C) := ok_plainprice T D_plain_price.fn K_Book D_rows_in D_Book_thing D_is_name D_is_int
  have G_price : FnOk P w K mg base CX0 4 fPr fdPr ["script", "take", "put"] spPrice := ok_price T D_price.fn D_is_script D_made_by D_is_int D_is_text
  obtain ⟨ds_price, V_price, B_price⟩ := D_price.b
  refine okD F sc_price_of (fun vs H Q E h => ?_) (fun cdv A outer s H vs Q E hr h => ?_)
  · obtain ⟨p, dx, lc, ld, lg, ch, cs, ds, ov, rs, rfl, _⟩ := h
    rfl
  · obtain ⟨p, dx, lc, ld, lg, ch, cs, ds, ov, rs, rfl, B, hch, hrs, q⟩ := h
    refine ⟨_,
      (pss_cons
        (ps_set (i := 3) sc_price_of.nd rfl (.inl rfl) pe_int)
      (pss_cons
        (ps_for PassesOwn.never rfl (pi_tup (pv 1)) (pg_tup rfl (pgs_cons (pg_name (i := 4) sc_price_of.nd rfl (.inl rfl)) (pgs_cons (pg_name (i := 5) sc_price_of.nd rfl (.inl rfl)) (pgs_cons (pg_name (i := 6) sc_price_of.nd rfl (.inl rfl)) pgs_nil))))
          (pss_one
            (ps_aug (i := 3) sc_price_of.nd rfl (.inl rfl) (pe_ifExp (pt_cmpR o_isN (pv 5) pe_non (nomark _)) (pe_call G_plain_price (hr.mono (by omega)) (by rfl) D_plain_price.g D_plain_price.fn.kp D_plain_price.b .nil pass0 (pa_cons (pv 0) (pa_cons (pv 4) pa_nil))) (pe_op op_add (pv 2) (pe_call G_price (hr.mono (by omega)) (by rfl) D_price.g D_price.kp B_price V_price pass0 (pa_cons (pv 6) pa_nil)))) ip_add)))
      (pss_one
        (ps_ret (pv 3)))))
      , ?_⟩
    rw [show L2.start N_price_of [V.ref p, V.ref ch, V.int ov] = [some (.ref p), some (.ref ch), some (.int ov), none, none, none, none] from rfl]
    walk_at "x"
    refine lp_tup (xs := rs.map fun r => V.ref r.1) (fun i σ H' => Same H H' ∧ ∃ y1 y2 y3 : Option V, σ = [some (.ref p), some (.ref ch), some (.int ov), some (.int (chSum cs ov (rs.take i))), y1, y2, y3]) ⟨fun _ _ e => e, _, _, _, rfl⟩ (fun i σ H' _ h => .of (h.1 _ _ hch)) ?_ ?_
    · rintro i x σ H1 hx ⟨k1, y1, y2, y3, rfl⟩
      obtain ⟨r, hr0, rfl⟩ := map_at hx
      obtain ⟨hc, hok⟩ := hrs r (List.mem_of_getElem? hr0)
      obtain ⟨sc, e1, hS⟩ := hc.kt (KT.of k1)
      have etk : rs.take (i + 1) = rs.take i ++ [r] := by rw [List.take_add_one, hr0]; rfl
      obtain ⟨ra, rn, rb, rp⟩ := r
      cases rb with
      | none =>
        have e1' : H1 ra = some (.tup [nV rn, .non, .ref sc]) := e1
        walk_at "g"
        refine w_yes rfl ?_
        walk_at "g"
        refine ⟨p, dx, lc, ld, lg, cs, ds, rn, rfl, B.same k1, hok.1, ?_⟩
        walk_at "g"
        refine ⟨k1, some (nV rn), some .non, some (.ref sc), ?_⟩
        rw [etk, chSum_snoc]
        rfl
      | some b =>
        have e1' : H1 ra = some (.tup [nV rn, nV b, .ref sc]) := e1
        walk_at "g"
        refine w_no (fun z => nomatch z) ?_
        walk_at "g"
        refine ⟨sc, 3, 2, rp, rfl, by omega, by omega, hS, hok.2, fun H2 k2 => ?_⟩
        walk_at "g"
        refine ⟨Same.trans k1 k2, some (nV rn), some (nV b), some (.ref sc), ?_⟩
        rw [etk, chSum_snoc]
        rfl
    · rintro σ H1 ⟨k1, y1, y2, y3, rfl⟩
      rw [List.length_map, List.take_length]
      walk_at "g"
      exact q _ k1
theorem ok_rowprice {f fPr fS fM fT fI : Addr} {fd fdPr fdS fdM fdT fdI : FuncData} (T : Txt K mg) (F : Fun K "row_price" "row_price" s_row_price f fd) (D_price : DfKs K mg "price" s_price ["script", "take", "put"] [("take", .int 3), ("put", .int 2)] [.int 3, .int 2] fPr fdPr)
    (D_is_script : Df K mg "is_script" s_is_script ["thing"] fS fdS) (D_made_by : Df K mg "made_by" s_made_by ["thing"] fM fdM) (D_is_text : DfD K mg "is_text" s_is_text ["thing", "most"] [.int 40] fT fdT) (D_is_int : DfD K mg "is_int" s_is_int ["thing", "least"] [.int 0] fI fdI) : FnOk P w K mg base CX0 5 f fd ["book", "row"] spRowPrice := by
  have G_price : FnOk P w K mg base CX0 4 fPr fdPr ["script", "take", "put"] spPrice := ok_price T D_price.fn D_is_script D_made_by D_is_int D_is_text
  obtain ⟨ds_price, V_price, B_price⟩ := D_price.b
  obtain ⟨tk_PUT, g_PUT⟩ := T.g_PUT
  obtain ⟨tk_OVER, g_OVER⟩ := T.g_OVER
  have lpo : ¬ ((Str.ofString "plain") = "over") := by decide +kernel
  refine F.ok sc_row_price (fun vs H Q E h => ?_) (fun cdv A outer s H vs Q E hr h => ?_)
  · rcases h with ⟨x, ro, a, n, c, rfl, _⟩ | ⟨x, ro, sc, n, b, ps, rfl, _⟩
    · rfl
    · rfl
  · rcases h with ⟨x, ro, a, n, c, rfl, hro, hc, q⟩ | ⟨x, ro, sc, n, b, ps, rfl, hro, hS, hO, q⟩
    · refine ⟨_,
      (pss_cons
        (ps_if (pt_cmpR op_eq (pe_ix (r := rIxT K) ix_tup (pv 1) pe_int (fun _ _ => rfl)) pe_str (nomark _))
          (pss_one
            (ps_ret (pe_op op_add (pe_glob (v := .int 2) rfl g_OVER ⟨_, rfl⟩) (pe_call G_price (hr.mono (by omega)) (by rfl) D_price.g D_price.kp B_price V_price pass0 (pa_cons (pe_ix (r := rIxT K) ix_tup (pv 1) pe_int (fun _ _ => rfl)) pa_nil)))))
          pss_nil)
      (pss_cons
        (ps_set (i := 2) sc_row_price.nd rfl (.inl rfl) (pe_ix (r := rIxT K) ix_tup (pv 1) pe_int (fun _ _ => rfl)))
      (pss_cons
        (ps_if (pt_cmpR op_eq (pe_ix (r := rIxT K) ix_tup (pv 2) pe_int (fun _ _ => rfl)) pe_str (nomark _))
          (pss_one
            (ps_ret (pe_op op_mul (pe_glob (v := .int 2) rfl g_PUT ⟨_, rfl⟩) (pe_op op_add (pe_callB (r := rLen K) c_len (by rfl) T.n_len (by decide +kernel) (pa_cons (pe_ix (r := rIxT K) ix_tup (pv 2) pe_int (fun _ _ => rfl)) pa_nil)) pe_int))))
          pss_nil)
      (pss_one
        (ps_ret (pe_op op_mul (pe_glob (v := .int 2) rfl g_PUT ⟨_, rfl⟩) (pe_callB (r := rLen K) c_len (by rfl) T.n_len (by decide +kernel) (pa_cons (pe_ix (r := rIxT K) ix_tup (pv 2) pe_int (fun _ _ => rfl)) pa_nil))))))))
        , ?_⟩
      rw [show L2.start N_row_price [x, V.ref ro] = [some x, some (.ref ro), none] from rfl]
      refine w_seq ?_
      walk_at "x"
      refine w_no lpo ?_
      walk_at "g"
      refine w_seq ?_
      cases c with
      | leaf rows =>
        obtain ⟨r, h1, h2⟩ := hc
        have h2' : H r = some (.tup (rows.map V.str)) := h2
        walk_at "g"
        refine w_no lit_ne2 ?_
        walk_at "g"
        rw [List.length_map]
        exact q
      | tree es =>
        obtain ⟨r, qs, h1, h2, h3, h4⟩ := hc
        walk_at "g"
        refine w_no lit_ne3 ?_
        walk_at "g"
        have e : es.length = qs.length := by rw [← h3, List.length_map]
        rw [List.length_map, ← e]
        exact q
      | ver vp root stamp =>
        obtain ⟨r, h1, h2⟩ := hc
        walk_at "g"
        refine w_yes rfl ?_
        walk_at "g"
        rw [List.length_map]
        exact q
    · refine ⟨_,
      (pss_cons
        (ps_if (pt_cmpR op_eq (pe_ix (r := rIxT K) ix_tup (pv 1) pe_int (fun _ _ => rfl)) pe_str (nomark _))
          (pss_one
            (ps_ret (pe_op op_add (pe_glob (v := .int 2) rfl g_OVER ⟨_, rfl⟩) (pe_call G_price (hr.mono (by omega)) (by rfl) D_price.g D_price.kp B_price V_price pass0 (pa_cons (pe_ix (r := rIxT K) ix_tup (pv 1) pe_int (fun _ _ => rfl)) pa_nil)))))
          pss_nil)
      (pss_cons
        (ps_set (i := 2) sc_row_price.nd rfl (.inl rfl) (pe_ix (r := rIxT K) ix_tup (pv 1) pe_int (fun _ _ => rfl)))
      (pss_cons
        (ps_if (pt_cmpR op_eq (pe_ix (r := rIxT K) ix_tup (pv 2) pe_int (fun _ _ => rfl)) pe_str (nomark _))
          (pss_one
            (ps_ret (pe_op op_mul (pe_glob (v := .int 2) rfl g_PUT ⟨_, rfl⟩) (pe_op op_add (pe_callB (r := rLen K) c_len (by rfl) T.n_len (by decide +kernel) (pa_cons (pe_ix (r := rIxT K) ix_tup (pv 2) pe_int (fun _ _ => rfl)) pa_nil)) pe_int))))
          pss_nil)
      (pss_one
        (ps_ret (pe_op op_mul (pe_glob (v := .int 2) rfl g_PUT ⟨_, rfl⟩) (pe_callB (r := rLen K) c_len (by rfl) T.n_len (by decide +kernel) (pa_cons (pe_ix (r := rIxT K) ix_tup (pv 2) pe_int (fun _ _ => rfl)) pa_nil))))))))
        , ?_⟩
      rw [show L2.start N_row_price [x, V.ref ro] = [some x, some (.ref ro), none] from rfl]
      refine w_seq ?_
      walk_at "x"
      refine w_yes rfl ?_
      walk_at "g"
      refine ⟨sc, 3, 2, ps, rfl, by omega, by omega, hS, hO, fun H2 k2 => ?_⟩
      walk_at "g"
      exact q _ k2
end
/-! ### the laws' own choices and prices -/
def spScPrice : Sp := fun vs H Q _ => ∃ (s : Addr) (ps : List (Addr × Pc)), vs = [.ref s] ∧ ScAt H s ps ∧ Q (.int (costs 3 2 (ps.map (·.2)))) H
def spChPrice : Sp := fun vs H Q _ => ∃ (th ch : Addr) (cs : List (Addr × Ct)) (ov : Int) (rs : List ChR), vs = [.ref th, .ref ch, .int ov] ∧ ThAt H th cs ∧ H ch = some (.tup (rs.map fun r => .ref r.1)) ∧ (∀ r ∈ rs, ChAt H r ∧ ChOk cs r) ∧ Q (.int (chSum cs ov rs)) H
def spLeaves : Sp := fun vs H Q _ => ∃ (d c : Addr) (n m : Nat), vs = [.ref d, nV m] ∧ Deck H d c n ∧ m ≤ 100 ∧ n + 300 * m + 1 ≤ MOSTD ∧
  ∀ (H' : Hp) (th : Addr) (cs : List (Addr × Ct)), Deck H' d c (n + 300 * m + 1) → KX d H H' → H th = none → ThAt H' th cs → Fam cs 0 → cs.length ≤ m → (∀ i, i < cs.length → isL cs i) → Q (.ref th) H'
def spParted : Sp := fun vs H Q _ => ∃ (d c th : Addr) (n : Nat) (cs : List (Addr × Ct)), vs = [.ref d, .ref th] ∧ Deck H d c n ∧ ThAt H th cs ∧ th ≠ d ∧ cs.length ≤ 400 ∧ n + cs.length ≤ MOSTD ∧
  ∀ (H' : Hp) (t a b : Addr) (lv bs : List Nat), Deck H' d c (n + cs.length) → KX d H H' → H' t = some (.tup [.ref a, .ref b]) → H' a = some (.tup (lv.map nV)) → H' b = some (.tup (bs.map nV)) → (∀ x ∈ lv, x < cs.length) → (∀ x ∈ bs, x < cs.length) → lv.length ≤ cs.length → bs.length ≤ cs.length → Q (.ref t) H'
def spOwnScript : Sp := fun vs H Q _ => ∃ (d c b r : Addr) (n : Nat) (bs ls : List Str), vs = [.ref d, .ref b, .ref r] ∧ Deck H d c n ∧ n + 2 * ls.length ≤ MOSTD ∧ RwAt H b bs ∧ RwAt H r ls ∧ bs.length ≤ 40 ∧ ls.length ≤ 40 ∧ (∀ z ∈ bs, LineOk z) ∧ (∀ z ∈ ls, LineOk z) ∧
  ∀ (H' : Hp) (s : Addr) (ps : List (Addr × Pc)), Deck H' d c (n + 2 * ls.length) → KX d H H' → ScAt H' s ps → ScOk (ps.map (·.2)) → Q (.ref s) H'
def spOwnChoice : Sp := fun vs H Q _ => ∃ (d c th a b : Addr) (n : Nat) (cs : List (Addr × Ct)) (lv bs : List Nat), vs = [.ref d, .ref th, .ref a, .ref b] ∧ Deck H d c n ∧ ThAt H th cs ∧ th ≠ d ∧ Fam cs 0 ∧ H a = some (.tup (lv.map nV)) ∧ H b = some (.tup (bs.map nV)) ∧ (∀ x ∈ lv, isL cs x) ∧ (∀ x ∈ bs, isL cs x) ∧ lv.length ≤ 400 ∧ bs.length ≤ 400 ∧ n + 100 * lv.length ≤ MOSTD ∧
  ∀ (H' : Hp) (ch : Addr) (rs : List ChR), Deck H' d c (n + 100 * lv.length) → KX d H H' → H' ch = some (.tup (rs.map fun r => .ref r.1)) → (∀ r ∈ rs, ChAt H' r ∧ ChOk cs r) → rs.length ≤ lv.length → Q (.ref ch) H'
theorem w_giveE {H : Hp} {Q : VK} {E : XK} {th a : Addr} {cs : List (Addr × Ct)} {c : Ct} {t : Nat} (ht : ThAt H th cs) (fm : Fam cs t) (hc : CtAt H a c) (ok : CtOk (cs.map (·.2)) (dsOf (cs.map (·.2))) c) (dp : depOf (dsOf (cs.map (·.2))) c ≤ t) (hl : cs.length < 900)
    (h : ∀ (H' : Hp) (cs' : List (Addr × Ct)) (j : Nat) (b : Addr), ThAt H' th cs' → Fam cs' t → (cs' = cs ∨ cs' = cs ++ [(a, c)]) → cs'[j]? = some (b, c) → Off th H H' → Q (nV j) H') : spGive ([V.ref th, V.ref a] ++ []) H Q E := by
  refine ⟨th, a, cs, c, rfl, ht, fm.nd, hc, by omega, fm.txts, ok.txts, fun j b hj => ?_, fun hno H' ht' o' => ?_⟩
  · exact h H cs j b ht fm (.inl rfl) hj fun _ _ => rfl
  · refine h H' _ cs.length a ht' ⟨?_, ?_, ?_⟩ (.inr rfl) (by simp) o'
    · rw [List.map_append, List.map_cons, List.map_nil]
      exact fm.ok.snoc ok
    · rw [List.map_append, List.map_cons, List.map_nil, List.nodup_append]
      refine ⟨fm.nd, by simp, fun x hx y hy e => ?_⟩
      obtain ⟨z, hz, rfl⟩ := List.mem_map.mp hx
      have e' : y = c := by simpa using hy
      rw [e'] at e
      exact hno z hz e
    · rw [List.map_append, List.map_cons, List.map_nil]
      exact fm.dp.snoc dp
theorem cut_strs (ls : List Str) (lo hi : Option Int) : ∃ ms : List Str, cutV (ls.map V.str) lo hi = ms.map V.str ∧ (∀ z ∈ ms, z ∈ ls) ∧ ms.length ≤ ls.length := by
  refine ⟨(ls.drop (HT.sIx (ls.map V.str).length 0 lo)).take (HT.sIx (ls.map V.str).length (ls.map V.str).length hi - HT.sIx (ls.map V.str).length 0 lo), ?_, fun x hx => List.mem_of_mem_drop (List.mem_of_mem_take hx), ?_⟩
  · unfold cutV
    rw [List.map_take, List.map_drop]
  · rw [List.length_take, List.length_drop]
    omega
theorem sIx_nat {n d k : Nat} (h : k ≤ n) : HT.sIx n d (some (k : Int)) = k := by
  unfold HT.sIx
  simp
  rw [if_neg (by omega)]
  omega
theorem cut_mid (ls : List Str) (k m : Nat) (h : k + m ≤ ls.length) : cutV (ls.map V.str) (some (k : Int)) (some ((k : Int) + (m : Int))) = (((ls.drop k).take m)).map V.str := by
  have a1 := sIx_nat (n := (ls.map V.str).length) (d := 0) (k := k) (by rw [List.length_map]; omega)
  have a2 := sIx_nat (n := (ls.map V.str).length) (d := (ls.map V.str).length) (k := k + m) (by rw [List.length_map]; exact h)
  unfold cutV
  rw [show ((k : Int) + (m : Int)) = ((k + m : Nat) : Int) by omega, a2, a1, List.map_take, List.map_drop, show k + m - k = m by omega]
theorem dp_strsF {K : PySem.W.Frag} {H : Hp} : ∀ ls : List Str, DpAll K H (ls.map V.str) (ls.map .str)
  | [] => .nil
  | z :: r => .cons (.str z) (dp_strsF r)
theorem strs_shaped {ls : List Str} (h : ∀ z ∈ ls, LineOk z) : SeqAt.shaped (.tuple (ls.map .str)) = true := by
  obtain ⟨h1, h2⟩ := lay_txts (ls := ls) fun z hz => line_strF (h z hz)
  unfold SeqAt.shaped
  rw [Bool.and_eq_true_iff]
  refine ⟨by rw [PyData.canLay0]; exact h1, decide_eq_true ?_⟩
  rw [PyData.depth]
  omega
section
variable {P : Program} {w : World} {K : PySem.W.Frag} {mg : Str → Option Value} {base : Heap} {C : Addr}
theorem ok_scprice {f : Addr} {fd : FuncData} (T : Txt K mg) (F : Fun K "_law_script_price" "_law_script_price" s_law_script_price f fd) : FnOk P w K mg base CX0 1 f fd ["_law_script"] spScPrice := by
  refine F.ok sc_law_script_price (fun vs H Q E h => ?_) (fun cdv A outer s H vs Q E hr h => ?_)
  · obtain ⟨s, ps, rfl, _⟩ := h
    rfl
  · obtain ⟨s', ps, rfl, hS, q⟩ := h
    have st := hS.at'
    refine ⟨_,
      (pss_cons
        (ps_set (i := 1) sc_law_script_price.nd rfl (.inl rfl) pe_int)
      (pss_cons
        (ps_for PassesOwn.never rfl (pi_tup (pv 0)) (pg_name (i := 2) sc_law_script_price.nd rfl (.inl rfl))
          (pss_one
            (ps_if (pt_cmpR op_eq (pe_ix (r := rIxT K) ix_tup (pv 2) pe_int (fun _ _ => rfl)) pe_str (nomark _))
              (pss_one
                (ps_set (i := 1) sc_law_script_price.nd rfl (.inl rfl) (pe_op op_add (pv 1) pe_int)))
              (pss_one
                (ps_set (i := 1) sc_law_script_price.nd rfl (.inl rfl) (pe_op op_add (pv 1) (pe_op op_mul pe_int (pe_callB (r := rLen K) c_len (by rfl) T.n_len (by decide +kernel) (pa_cons (pe_ix (r := rIxT K) ix_tup (pv 2) pe_int (fun _ _ => rfl)) pa_nil)))))))))
      (pss_one
        (ps_ret (pv 1)))))
      , ?_⟩
    rw [show L2.start N_law_script_price [V.ref s'] = [some (.ref s'), none, none] from rfl]
    walk_at "x"
    refine lp_tup (xs := ps.map fun q => .ref q.1) (fun i σ H' => H' = H ∧ ∃ y : Option V, σ = [some (.ref s'), some (.int (costs 3 2 ((ps.take i).map (·.2)))), y]) ⟨rfl, _, rfl⟩ (fun i σ H' _ h => by rw [h.1]; exact .of st) ?_ ?_
    · rintro i x σ H1 hx ⟨rfl, y, rfl⟩
      obtain ⟨z, hz, rfl⟩ := map_at hx
      have hpc := hS.pc z (List.mem_of_getElem? hz)
      have tk : (ps.take (i + 1)).map (·.2) = (ps.take i).map (·.2) ++ [z.2] := by rw [List.take_add_one, hz, List.map_append]; rfl
      obtain ⟨za, zp⟩ := z
      cases zp with
      | take u m =>
        have hpc' : H1 za = some (.tup [.str "take", .int (u : Int), .int (m : Int)]) := hpc
        walk_at "g"
        refine w_yes rfl ?_
        walk_at "g"
        refine ⟨rfl, some (.ref za), ?_⟩
        rw [tk, costs_snoc]
        rfl
      | put ls =>
        obtain ⟨r, hpc1, hpc2⟩ := hpc
        have hpc2' : H1 r = some (.tup (ls.map V.str)) := hpc2
        walk_at "g"
        refine w_no (by decide) ?_
        walk_at "g"
        refine ⟨rfl, some (.ref za), ?_⟩
        rw [tk, costs_snoc, List.length_map]
        rfl
    · rintro σ H1 ⟨rfl, y, rfl⟩
      rw [List.length_map, List.take_length]
      walk_at "g"
      exact q
theorem ok_chprice {f fS : Addr} {fd fdS : FuncData} (T : Txt K mg) (F : Fun K "_law_choice_price" "_law_choice_price" s_law_choice_price f fd) (D_law_script_price : Df K mg "_law_script_price" s_law_script_price ["_law_script"] fS fdS) : FnOk P w K mg base CX0 2 f fd ["_law_things", "_law_choice", "_law_extra"] spChPrice := by
  have G_law_script_price : FnOk P w K mg base CX0 1 fS fdS ["_law_script"] spScPrice := ok_scprice T D_law_script_price.fn
  refine F.ok sc_law_choice_price (fun vs H Q E h => ?_) (fun cdv A outer s H vs Q E hr h => ?_)
  · obtain ⟨th, ch, cs, ov, rs, rfl, _⟩ := h
    rfl
  · obtain ⟨th, ch, cs, ov, rs, rfl, T0, hch, hrs, q⟩ := h
    have hth := T0.at'
    refine ⟨_,
      (pss_cons
        (ps_set (i := 3) sc_law_choice_price.nd rfl (.inl rfl) pe_int)
      (pss_cons
        (ps_for PassesOwn.never rfl (pi_tup (pv 1)) (pg_name (i := 4) sc_law_choice_price.nd rfl (.inl rfl))
          (pss_one
            (ps_if (pt_cmpR o_isN (pe_ix (r := rIxT K) ix_tup (pv 4) pe_int (fun _ _ => rfl)) pe_non (nomark _))
              (pss_one
                (ps_set (i := 3) sc_law_choice_price.nd rfl (.inl rfl) (pe_op op_add (pv 3) (pe_op op_mul pe_int (pe_callB (r := rLen K) c_len (by rfl) T.n_len (by decide +kernel) (pa_cons (pe_ix (r := rIxT K) ix_tup (pe_ix (r := rIxL K) ix_list (pv 0) (pe_ix (r := rIxT K) ix_tup (pv 4) pe_int (fun _ _ => rfl)) (fun _ _ => rfl)) pe_int (fun _ _ => rfl)) pa_nil))))))
              (pss_one
                (ps_set (i := 3) sc_law_choice_price.nd rfl (.inl rfl) (pe_op op_add (pe_op op_add (pv 3) (pv 2)) (pe_call G_law_script_price (hr.mono (by omega)) (by rfl) D_law_script_price.g D_law_script_price.fn.kp D_law_script_price.b .nil pass0 (pa_cons (pe_ix (r := rIxT K) ix_tup (pv 4) pe_int (fun _ _ => rfl)) pa_nil))))))))
      (pss_one
        (ps_ret (pv 3)))))
      , ?_⟩
    rw [show L2.start N_law_choice_price [V.ref th, V.ref ch, V.int ov] = [some (.ref th), some (.ref ch), some (.int ov), none, none] from rfl]
    walk_at "x"
    refine lp_tup (xs := rs.map fun r => V.ref r.1) (fun i σ H' => H' = H ∧ ∃ y : Option V, σ = [some (.ref th), some (.ref ch), some (.int ov), some (.int (chSum cs ov (rs.take i))), y]) ⟨rfl, _, rfl⟩ (fun i σ H' _ h => by rw [h.1]; exact .of hch) ?_ ?_
    · rintro i x σ H1 hx ⟨rfl, y, rfl⟩
      obtain ⟨r, hr0, rfl⟩ := map_at hx
      obtain ⟨⟨sc, e1, hS⟩, hok⟩ := hrs r (List.mem_of_getElem? hr0)
      have etk : rs.take (i + 1) = rs.take i ++ [r] := by rw [List.take_add_one, hr0]; rfl
      obtain ⟨ra, rn, rb, rp⟩ := r
      obtain ⟨⟨a, rows, hn⟩, hso⟩ := hok
      cases rb with
      | none =>
        have e1' : H1 ra = some (.tup [nV rn, .non, .ref sc]) := e1
        have at1 : atI (cs.map fun q => V.ref q.1) (rn : Int) = some (.ref a) := atI_nat (by rw [List.getElem?_map, hn]; rfl)
        obtain ⟨r', g1, g2⟩ := T0.ct _ (List.mem_of_getElem? hn)
        have g1' : H1 a = some (.tup [.str "leaf", .ref r']) := g1
        have g2' : H1 r' = some (.tup (rows.map V.str)) := g2
        walk_at "g"
        refine w_yes rfl ?_
        walk_at "g"
        refine ⟨rfl, some (.ref ra), ?_⟩
        have e : leafN cs rn = rows.length := by unfold leafN; rw [hn]
        rw [etk, chSum_snoc, List.length_map]
        show _ = [_, _, _, some (V.int (_ + 2 * (leafN cs rn : Int))), _]
        rw [e]
      | some b =>
        have e1' : H1 ra = some (.tup [nV rn, nV b, .ref sc]) := e1
        walk_at "g"
        refine w_no (fun z => nomatch z) ?_
        walk_at "g"
        refine ⟨sc, rp, rfl, hS, ?_⟩
        walk_at "g"
        refine ⟨rfl, some (.ref ra), ?_⟩
        rw [etk, chSum_snoc]
        show _ = [_, _, _, some (V.int (_ + (ov + costs 3 2 (rp.map (·.2))))), _]
        rw [← Int.add_assoc]
    · rintro σ H1 ⟨rfl, y, rfl⟩
      rw [List.length_map, List.take_length]
      walk_at "g"
      exact q
theorem ok_leaves {f fM fD fT fR fG : Addr} {fd fdM fdD fdT fdR fdG : FuncData} (T : Txt K mg) (F : Fun K "_law_leaves" "_law_leaves" s_law_leaves f fd) (D_law_mixed : Df K mg "_law_mixed" s_law_mixed ["_law_cell", "_law_turn"] fM fdM) (D_law_draw : Df K mg "_law_draw" s_law_draw ["_law_deck_here", "_law_many"] fD fdD) (D_law_text : Df K mg "_law_text" s_law_text ["_law_deck_here", "_law_size"] fT fdT) (D_law_rows : Df K mg "_law_rows" s_law_rows ["_law_deck_here", "_law_elder"] fR fdR) (D_law_give : Df K mg "_law_give" s_law_give ["_law_things", "_law_content"] fG fdG) : FnOk P w K mg base CX0 5 f fd ["_law_deck_here", "_law_most"] spLeaves := by
  have G_law_draw : FnOk P w K mg base CX0 2 fD fdD ["_law_deck_here", "_law_many"] spDraw := ok_draw T D_law_draw.fn D_law_mixed
  have G_law_rows : FnOk P w K mg base CX0 4 fR fdR ["_law_deck_here", "_law_elder"] spRows := ok_rows T D_law_rows.fn D_law_mixed D_law_draw D_law_text
  have G_law_give : FnOk P w K mg base CX0 1 fG fdG ["_law_things", "_law_content"] spGive := ok_give T D_law_give.fn
  refine F.ok sc_law_leaves (fun vs H Q E h => ?_) (fun cdv A outer s H vs Q E hr h => ?_)
  · obtain ⟨d, c, n, m, rfl, _⟩ := h
    rfl
  · obtain ⟨d, c, n, m, rfl, D0, hm, hn, q⟩ := h
    refine ⟨_,
      (pss_cons
        (ps_set (i := 2) sc_law_leaves.nd rfl (.inl rfl) (pe_lst pa_nil))
      (pss_cons
        (ps_set (i := 3) sc_law_leaves.nd rfl (.inl rfl) (pe_tup pa_nil))
      (pss_cons
        (ps_for PassesOwn.never rfl (pi_range1 (by rfl) T.n_range (pa_cons (pe_call G_law_draw (hr.mono (by omega)) (by rfl) D_law_draw.g D_law_draw.fn.kp D_law_draw.b .nil pass0 (pa_cons (pv 0) (pa_cons (pe_op op_add (pv 1) pe_int) pa_nil))) pa_nil)) (pg_name (i := 4) sc_law_leaves.nd rfl (.inl rfl))
          (pss_cons
            (ps_set (i := 3) sc_law_leaves.nd rfl (.inl rfl) (pe_call G_law_rows (hr.mono (by omega)) (by rfl) D_law_rows.g D_law_rows.fn.kp D_law_rows.b .nil pass0 (pa_cons (pv 0) (pa_cons (pv 3) pa_nil))))
          (pss_one
            (ps_expr (pe_call G_law_give (hr.mono (by omega)) (by rfl) D_law_give.g D_law_give.fn.kp D_law_give.b .nil pass0 (pa_cons (pv 2) (pa_cons (pe_tup (pa_cons pe_str (pa_cons (pv 3) pa_nil))) pa_nil)))))))
      (pss_one
        (ps_ret (pv 2))))))
      , ?_⟩
    rw [show L2.start N_law_leaves [V.ref d, nV m] = [some (.ref d), some (.int (m : Int)), none, none, none] from rfl]
    walk_at "x"
    refine w_new fun th H1 hth e1 k1 => ?_
    walk_at "g"
    refine w_new fun r0 H2 hr0 e2 k2 => ?_
    have k12 := Same.trans k1 k2
    obtain ⟨thd, thc⟩ := D0.ne1 hth
    have D2 : Deck H2 d c n := D0.kp (M := []) (Kp.of k12) (by simp) (by simp)
    walk_at "g"
    refine w_draw D2 (by omega) (by omega) (by omega) fun many H3 hmany D3 o3 => ?_
    have x3 : KX d H H3 := (KX.of k12).trans (D2.kx D3 o3)
    have hmm : many ≤ m := by omega
    walk_at "g"
    try refine w_rng1' (by omega) (by omega) ?_
    refine lp_range (fun i σ H' => ∃ (r : Addr) (y : Option V) (cs : List (Addr × Ct)) (ls : List Str), σ = [some (.ref d), some (.int (m : Int)), some (.ref th), some (.ref r), y] ∧ Deck H' d c (n + 1 + 300 * i) ∧ KX d H H' ∧ ThAt H' th cs ∧ Fam cs 0 ∧ RwAt H' r ls ∧ ls.length ≤ 7 ∧ (∀ z ∈ ls, LineOk z) ∧ cs.length ≤ i ∧ (∀ x, x < cs.length → isL cs x)) ⟨r0, _, [], [], rfl, D3, x3, ⟨o3.get thd (k2 _ _ e1), by simp⟩, ⟨.nil, by simp, fun d hd => by cases hd⟩, (D2.kx D3 o3).t _ _ e2, by simp, by simp, by simp, by simp⟩ ?_ ?_
    · rintro i σ H4 hi ⟨r, y, cs, ls, rfl, D4, x4, T4, F4, hr4, hl7, hok, hcl, hisl⟩
      have hil : i < m := by omega
      walk_at "g"
      refine ⟨d, c, r, _, ls, rfl, D4, by omega, hr4, hl7, hok, fun H5 r5 ls5 D5 x5 er5 hl5 hok5 => ?_⟩
      have T5 := T4.kp x5.p x5.t (by simpa using thd)
      walk_at "g"
      refine w_new fun a H6 ha e6 k6 => ?_
      have T6 := T5.same k6
      have okc : CtOk (cs.map (·.2)) (dsOf (cs.map (·.2))) (.leaf ls5) := ⟨by omega, hok5⟩
      walk_at "g"
      refine w_giveE (c := .leaf ls5) T6 F4 ⟨r5, e6, k6 _ _ er5⟩ okc (Nat.zero_le _) (by omega) fun H7 cs7 j b T7 F7 hc7 hj o7 => ?_
      walk_at "g"
      have x6 := (x4.trans x5).trans (KX.of k6)
      refine ⟨r5, _, cs7, ls5, rfl, ?_, x6.offN o7 hth, T7, F7, KT.off o7 T6.at' _ _ (k6 _ _ er5), hl5, hok5, ?_, fun x hx => ?_⟩
      · exact ((D5.kp (M := []) (Kp.of k6) (by simp) (by simp)).kp (M := [th]) (o7.kp (by simp)) (by simpa using thd.symm) (by simpa using thc.symm)).mono (by omega)
      · rcases hc7 with rfl | rfl
        · omega
        · rw [List.length_append]
          simp only [List.length_cons, List.length_nil]
          omega
      · rcases hc7 with rfl | rfl
        · exact hisl x hx
        · rw [List.length_append] at hx
          simp only [List.length_cons, List.length_nil] at hx
          by_cases hxc : x < cs.length
          · exact (hisl x hxc).grow .snoc
          · have : x = cs.length := by omega
            subst this
            exact ⟨a, ls5, by simp⟩
    · rintro σ H4 ⟨r, y, cs, ls, rfl, D4, x4, T4, F4, hr4, hl7, hok, hcl, hisl⟩
      walk_at "g"
      exact q H4 th cs (D4.mono (by omega)) x4 hth T4 F4 (by omega) hisl
end
section
variable {P : Program} {w : World} {K : PySem.W.Frag} {mg : Str → Option Value} {base : Heap} {C : Addr}
theorem ok_parted {f fM fD : Addr} {fd fdM fdD : FuncData} (T : Txt K mg) (F : Fun K "_law_parted" "_law_parted" s_law_parted f fd) (D_law_mixed : Df K mg "_law_mixed" s_law_mixed ["_law_cell", "_law_turn"] fM fdM) (D_law_draw : Df K mg "_law_draw" s_law_draw ["_law_deck_here", "_law_many"] fD fdD) : FnOk P w K mg base CX0 3 f fd ["_law_deck_here", "_law_things"] spParted := by
  have G_law_draw : FnOk P w K mg base CX0 2 fD fdD ["_law_deck_here", "_law_many"] spDraw := ok_draw T D_law_draw.fn D_law_mixed
  refine F.ok sc_law_parted (fun vs H Q E h => ?_) (fun cdv A outer s H vs Q E hr h => ?_)
  · obtain ⟨d, c, th, n, cs, rfl, _⟩ := h
    rfl
  · obtain ⟨d, c, th, n, cs, rfl, D0, T0, thd, hcl, hn, q⟩ := h
    refine ⟨_,
      (pss_cons
        (ps_set (i := 2) sc_law_parted.nd rfl (.inl rfl) (pe_lst pa_nil))
      (pss_cons
        (ps_set (i := 3) sc_law_parted.nd rfl (.inl rfl) (pe_lst pa_nil))
      (pss_cons
        (ps_for PassesOwn.never rfl (pi_range1 (by rfl) T.n_range (pa_cons (pe_callB (r := rLen K) c_len (by rfl) T.n_len (by decide +kernel) (pa_cons (pv 1) pa_nil)) pa_nil)) (pg_name (i := 4) sc_law_parted.nd rfl (.inl rfl))
          (pss_cons
            (ps_set (i := 5) sc_law_parted.nd rfl (.inl rfl) (pe_call G_law_draw (hr.mono (by omega)) (by rfl) D_law_draw.g D_law_draw.fn.kp D_law_draw.b .nil pass0 (pa_cons (pv 0) (pa_cons pe_int pa_nil))))
          (pss_one
            (ps_if (pt_cmpR op_gt (pv 5) pe_int (nomark _))
              (pss_one
                (ps_expr (pe_bm PySem.F.plainAttrs_list PySem.F.slot_list_append PySem.F.type_list_append mt_append (pv 2) (pa_cons (pv 4) pa_nil))))
              (pss_one
                (ps_if (pt_cmpR op_eq (pv 5) pe_int (nomark _))
                  (pss_one
                    (ps_expr (pe_bm PySem.F.plainAttrs_list PySem.F.slot_list_append PySem.F.type_list_append mt_append (pv 3) (pa_cons (pv 4) pa_nil))))
                  pss_nil))))))
      (pss_one
        (ps_ret (pe_tup (pa_cons (pe_callTy (r := rTupOf K) c_tupOf (by rfl) T.n_tuple (by decide +kernel) (pa_cons (pv 2) pa_nil)) (pa_cons (pe_callTy (r := rTupOf K) c_tupOf (by rfl) T.n_tuple (by decide +kernel) (pa_cons (pv 3) pa_nil)) pa_nil))))))))
      , ?_⟩
    rw [show L2.start N_law_parted [V.ref d, V.ref th] = [some (.ref d), some (.ref th), none, none, none, none] from rfl]
    walk_at "x"
    refine w_new fun la H1 hla e1 k1 => ?_
    walk_at "g"
    refine w_new fun lb H2 hlb e2 k2 => ?_
    have k12 := Same.trans k1 k2
    have hlb0 := k1.free hlb
    have nba : lb ≠ la := (ne_of_none e1 hlb).symm
    obtain ⟨lad, lac⟩ := D0.ne1 hla
    obtain ⟨lbd, lbc⟩ := D0.ne1 hlb0
    have D2 : Deck H2 d c n := D0.kp (M := []) (Kp.of k12) (by simp) (by simp)
    have hth2 := k12 _ _ T0.at'
    walk_at "g"
    try refine w_rng1' (by rw [List.length_map]; omega) (by rw [List.length_map]; omega) ?_
    refine lp_range (fun i σ H' => ∃ (y1 y2 : Option V) (lv bs : List Nat), σ = [some (.ref d), some (.ref th), some (.ref la), some (.ref lb), y1, y2] ∧ Deck H' d c (n + i) ∧ KX d H H' ∧ H' la = some (.lst (lv.map nV)) ∧ H' lb = some (.lst (bs.map nV)) ∧ (∀ x ∈ lv, x < cs.length) ∧ (∀ x ∈ bs, x < cs.length) ∧ lv.length ≤ i ∧ bs.length ≤ i) ⟨_, _, [], [], rfl, D2, KX.of k12, k2 _ _ e1, e2, by simp, by simp, by simp, by simp⟩ ?_ ?_
    · rintro i σ H3 hi ⟨y1, y2, lv, bs, rfl, D3, x3, ea, eb, hlv, hbs, hll, hbl⟩
      rw [List.length_map] at hi
      have hi2 : i < cs.length := by omega
      walk_at "g"
      refine w_draw D3 (by omega) (by decide) (by decide) fun u H4 hu4 D4 o4 => ?_
      have ea4 := o4.get lad ea
      have eb4 := o4.get lbd eb
      have x4 := x3.trans (D3.kx D4 o4)
      walk_at "g"
      refine w_ite (fun h => ?_) (fun h => ?_)
      · walk_at "g"
        refine w_app ea4 (by rw [List.length_map]; exact small1kl (by omega)) fun H5 e5 o5 => ?_
        walk_at "g"
        refine ⟨_, _, lv ++ [i], bs, rfl, (D4.kp (M := [la]) (o5.kp (by simp)) (by simpa using lad.symm) (by simpa using lac.symm)).mono (by omega), x4.offN o5 hla, ?_, o5.get nba eb4, fun x hx => ?_, hbs, by rw [List.length_append]; simp only [List.length_cons, List.length_nil]; omega, by omega⟩
        · rw [e5, List.map_append, show (0 : Int) + (i : Int) = (i : Int) by omega]
          rfl
        · rcases List.mem_append.mp hx with h | h
          · exact hlv x h
          · have : x = i := by simpa using h
            omega
      · walk_at "g"
        refine w_ite (fun h => ?_) (fun h => ?_)
        · walk_at "g"
          refine w_app eb4 (by rw [List.length_map]; exact small1kl (by omega)) fun H5 e5 o5 => ?_
          walk_at "g"
          refine ⟨_, _, lv, bs ++ [i], rfl, (D4.kp (M := [lb]) (o5.kp (by simp)) (by simpa using lbd.symm) (by simpa using lbc.symm)).mono (by omega), x4.offN o5 hlb0, o5.get nba.symm ea4, ?_, hlv, fun x hx => ?_, by omega, by rw [List.length_append]; simp only [List.length_cons, List.length_nil]; omega⟩
          · rw [e5, List.map_append, show (0 : Int) + (i : Int) = (i : Int) by omega]
            rfl
          · rcases List.mem_append.mp hx with h | h
            · exact hbs x h
            · have : x = i := by simpa using h
              omega
        · walk_at "g"
          exact ⟨_, _, lv, bs, rfl, D4.mono (by omega), x4, ea4, eb4, hlv, hbs, by omega, by omega⟩
    · rintro σ H3 ⟨y1, y2, lv, bs, rfl, D3, x3, ea, eb, hlv, hbs, hll, hbl⟩
      have hct : (((cs.map fun q => V.ref q.1).length : Int)).toNat = cs.length := by rw [List.length_map]; omega
      rw [hct] at D3 hll hbl
      walk_at "g"
      refine w_tupL (.of ea) fun a H4 ha e4 k4 => ?_
      have eb4 := k4 _ _ eb
      walk_at "g"
      refine w_tupL (.of eb4) fun b H5 hb e5 k5 => ?_
      walk_at "g"
      refine w_new fun t H6 ht e6 k6 => ?_
      have k46 := Same.trans k5 k6
      have k36 := Same.trans k4 k46
      exact q H6 t a b lv bs (D3.kp (M := []) (Kp.of k36) (by simp) (by simp)) (x3.trans (KX.of k36)) e6 (k46 _ _ e4) (k6 _ _ e5) hlv hbs hll hbl
theorem ok_ownscript {f fM fD : Addr} {fd fdM fdD : FuncData} (T : Txt K mg) (F : Fun K "_law_own_script" "_law_own_script" s_law_own_script f fd) (D_law_mixed : Df K mg "_law_mixed" s_law_mixed ["_law_cell", "_law_turn"] fM fdM) (D_law_draw : Df K mg "_law_draw" s_law_draw ["_law_deck_here", "_law_many"] fD fdD) : FnOk P w K mg base CX0 3 f fd ["_law_deck_here", "_law_base", "_law_rows_here"] spOwnScript := by
  have G_law_draw : FnOk P w K mg base CX0 2 fD fdD ["_law_deck_here", "_law_many"] spDraw := ok_draw T D_law_draw.fn D_law_mixed
  refine F.ok sc_law_own_script (fun vs H Q E h => ?_) (fun cdv A outer s H vs Q E hr h => ?_)
  · obtain ⟨d, c, b, r, n, bs, ls, rfl, _⟩ := h
    rfl
  · obtain ⟨d, c, b, r, n, bs, ls, rfl, D0, hn, hb, hr0, hbl, hll, hbo, hlo, q⟩ := h
    have hb' : H b = some (.tup (bs.map V.str)) := hb
    have hr' : H r = some (.tup (ls.map V.str)) := hr0
    refine ⟨_,
      (pss_cons
        (ps_set (i := 3) sc_law_own_script.nd rfl (.inl rfl) (pe_tup pa_nil))
      (pss_cons
        (ps_set (i := 4) sc_law_own_script.nd rfl (.inl rfl) pe_int)
      (pss_cons
        (ps_while PassesOwn.never (pt_cmpR op_lt (pv 4) (pe_callB (r := rLen K) c_len (by rfl) T.n_len (by decide +kernel) (pa_cons (pv 2) pa_nil)) (nomark _))
          (pss_cons
            (ps_set (i := 5) sc_law_own_script.nd rfl (.inl rfl) (pe_op op_add pe_int (pe_call G_law_draw (hr.mono (by omega)) (by rfl) D_law_draw.g D_law_draw.fn.kp D_law_draw.b .nil pass0 (pa_cons (pv 0) (pa_cons (pe_op op_sub (pe_callB (r := rLen K) c_len (by rfl) T.n_len (by decide +kernel) (pa_cons (pv 2) pa_nil)) (pv 4)) pa_nil)))))
          (pss_cons
            (ps_set (i := 6) sc_law_own_script.nd rfl (.inl rfl) (pe_un un_neg pe_int))
          (pss_cons
            (ps_for PassesOwn.never rfl (pi_range1 (by rfl) T.n_range (pa_cons (pe_op op_add (pe_op op_sub (pe_callB (r := rLen K) c_len (by rfl) T.n_len (by decide +kernel) (pa_cons (pv 1) pa_nil)) (pv 5)) pe_int) pa_nil)) (pg_name (i := 7) sc_law_own_script.nd rfl (.inl rfl))
              (pss_one
                (ps_if (pt_cmpR (r := rEqD K) (op_eqD hr.units) (pe_slice sl_tupA (pv 1) (po_some (pv 7)) (po_some (pe_op op_add (pv 7) (pv 5)))) (pe_slice sl_tupA (pv 2) (po_some (pv 4)) (po_some (pe_op op_add (pv 4) (pv 5)))) (nomark _))
                  (pss_one
                    (ps_set (i := 6) sc_law_own_script.nd rfl (.inl rfl) (pv 7)))
                  pss_nil)))
          (pss_cons
            (ps_if (PW.pt (pw_and (pt_cmpR op_ge (pv 6) pe_int (nomark _)) (pw_and1 (pt_cmpR op_gt (pe_call G_law_draw (hr.mono (by omega)) (by rfl) D_law_draw.g D_law_draw.fn.kp D_law_draw.b .nil pass0 (pa_cons (pv 0) (pa_cons pe_int pa_nil))) pe_int (nomark _)))))
              (pss_one
                (ps_set (i := 3) sc_law_own_script.nd rfl (.inl rfl) (pe_op op_catA (pv 3) (pe_tup (pa_cons (pe_tup (pa_cons pe_str (pa_cons (pv 6) (pa_cons (pv 5) pa_nil)))) pa_nil)))))
              (pss_one
                (ps_set (i := 3) sc_law_own_script.nd rfl (.inl rfl) (pe_op op_catA (pv 3) (pe_tup (pa_cons (pe_tup (pa_cons pe_str (pa_cons (pe_callTy call_tupleT (by rfl) T.n_tuple (by decide +kernel) (pa_cons (pe_slice sl_tupA (pv 2) (po_some (pv 4)) (po_some (pe_op op_add (pv 4) (pv 5)))) pa_nil)) pa_nil))) pa_nil))))))
          (pss_one
            (ps_set (i := 4) sc_law_own_script.nd rfl (.inl rfl) (pe_op op_add (pv 4) (pv 5)))))))))
      (pss_one
        (ps_ret (pv 3))))))
      , ?_⟩
    rw [show L2.start N_law_own_script [V.ref d, V.ref b, V.ref r] = [some (.ref d), some (.ref b), some (.ref r), none, none, none, none, none] from rfl]
    walk_at "x"
    refine w_new fun s0 H1 hs0 e1 k1 => ?_
    have D1 : Deck H1 d c n := D0.kp (M := []) (Kp.of k1) (by simp) (by simp)
    walk_at "g"
    refine w_whileN (fun m σ H' => ∃ (sc : Addr) (k : Nat) (ps : List (Addr × Pc)) (y1 y2 y3 : Option V), σ = [some (.ref d), some (.ref b), some (.ref r), some (.ref sc), some (.int (k : Int)), y1, y2, y3] ∧ m = ls.length - k ∧ k ≤ ls.length ∧ Deck H' d c (n + 2 * k) ∧ KX d H H' ∧ ScAt H' sc ps ∧ (∀ p ∈ ps.map (·.2), p.ok) ∧ sizes (ps.map (·.2)) = k) _ ⟨s0, 0, [], _, _, _, rfl, rfl, Nat.zero_le _, D1, KX.of k1, ⟨e1, by simp⟩, by simp, rfl⟩ ?_
    rintro m σ H2 ⟨sc, k, ps, y1, y2, y3, rfl, rfl, hk, D2, x2, S2, hok2, hsz2⟩
    have hr2 := x2.t _ _ hr'
    have hb2 := x2.t _ _ hb'
    walk_at "g"
    by_cases hkl : k < ls.length
    · refine w_yes (by rw [List.length_map]; omega) ?_
      refine w_turn ?_
      walk_at "g"
      refine w_draw D2 (by omega) (by rw [List.length_map]; omega) (by rw [List.length_map]; omega) fun u H3 hu3 D3 o3 => ?_
      rw [List.length_map] at hu3
      have hmk : k + (1 + u) ≤ ls.length := by omega
      have x3 := x2.trans (D2.kx D3 o3)
      have hr3 := x3.t _ _ hr'
      have hb3 := x3.t _ _ hb'
      have ecast : (1 + (u : Int)) = ((1 + u : Nat) : Int) := by omega
      walk_at "g"
      try refine w_rng1' (by rw [List.length_map]; omega) (by rw [List.length_map]; omega) ?_
      refine lp_range (fun i σ H' => ∃ (fo : Int) (y3 : Option V), σ = [some (.ref d), some (.ref b), some (.ref r), some (.ref sc), some (.int (k : Int)), some (.int (1 + (u : Int))), some (.int fo), y3] ∧ -1 ≤ fo ∧ Same H3 H') ⟨-1, _, rfl, by omega, fun _ _ e => e⟩ ?_ ?_
      · rintro i σ H4 hi ⟨fo, y3, rfl, hfo, k4⟩
        have hb4 := k4 _ _ hb3
        have hr4 := k4 _ _ hr3
        walk_at "g"
        refine w_slAt hb4 fun p5 H5 e5 k5 => ?_
        obtain ⟨bz, ebz, hbz, _⟩ := cut_strs bs (some (0 + (i : Int))) (some (0 + (i : Int) + (1 + (u : Int))))
        rw [ebz] at e5
        have hr5 := k5 _ _ hr4
        walk_at "g"
        refine w_slAt hr5 fun p6 H6 e6 k6 => ?_
        obtain ⟨lz, elz, hlz, _⟩ := cut_strs ls (some (k : Int)) (some ((k : Int) + (1 + (u : Int))))
        rw [elz] at e6
        have k46 := Same.trans k5 k6
        refine ⟨.tuple (bz.map .str), .tuple (lz.map .str), .tup (.of (k6 _ _ e5)) (dp_strsF bz), .tup (.of e6) (dp_strsF lz), strs_shaped fun z hz => hbo z (hbz z hz), strs_shaped fun z hz => hlo z (hlz z hz), ?_⟩
        walk_at "g"
        refine w_itB (fun _ => ?_) (fun _ => ?_)
        · walk_at "g"
          exact ⟨_, _, rfl, by omega, Same.trans k4 k46⟩
        · walk_at "g"
          exact ⟨fo, _, rfl, hfo, Same.trans k4 k46⟩
      · rintro σ H4 ⟨fo, y3, rfl, hfo, k4⟩
        have D4 : Deck H4 d c (n + 2 * k + 1) := D3.kp (M := []) (Kp.of k4) (by simp) (by simp)
        have x4 : KX d H H4 := x3.trans (KX.of k4)
        have S4 := S2.kt ((D2.kx D3 o3).t.trans (KT.of k4))
        have hsl : ps.length ≤ 40 := by
          have h1 : (ps.map (·.2)).length ≤ sizes (ps.map (·.2)) := sizes_ge hok2
          rw [List.length_map] at h1
          omega
        refine w_seqJ (fun σ' H' => ∃ (sc' : Addr) (ps' : List (Addr × Pc)), σ' = [some (.ref d), some (.ref b), some (.ref r), some (.ref sc'), some (.int (k : Int)), some (.int (1 + (u : Int))), some (.int fo), y3] ∧ Deck H' d c (n + 2 * k + 2) ∧ KX d H H' ∧ ScAt H' sc' ps' ∧ (∀ p ∈ ps'.map (·.2), p.ok) ∧ sizes (ps'.map (·.2)) = k + (1 + u)) ?_ ?_
        · rintro σ' H5 ⟨sc', ps', rfl, D5, x5, S5, hok5, hsz5⟩
          walk_at "g"
          refine ⟨_, ?_, sc', k + (1 + u), ps', some (.int (1 + (u : Int))), some (.int fo), y3, ?_, rfl, hmk, D5.mono (by omega), x5, S5, hok5, hsz5⟩
          · omega
          · rw [show ((k : Int) + (1 + (u : Int))) = ((k + (1 + u) : Nat) : Int) by omega]
        · intro U hU
          have hr4 := k4 _ _ hr3
          walk_at "g"
          refine w_ite (fun h => ?_) (fun h => ?_)
          · walk_at "g"
            refine w_draw D4 (by omega) (by decide) (by decide) fun v H5 hv5 D5 o5 => ?_
            have x5 : KX d H4 H5 := D4.kx D5 o5
            walk_at "g"
            refine w_ite (fun h2 => ?_) (fun h2 => ?_)
            · have S5 := S4.kt x5.t
              walk_at "g"
              refine w_new fun t1 H7 ht1 e7 k7 => ?_
              walk_at "g"
              refine w_new fun t2 H8 ht2 e8 k8 => ?_
              have k58 := Same.trans k7 k8
              have S8 := S5.kt (KT.of k58)
              walk_at "g"
              refine w_catAt S8.at' e8 (by rw [List.length_map]; simp only [List.length_cons, List.length_nil]; exact Nat.le_trans (show ps.length + 1 ≤ 41 by omega) (by decide)) fun sc' H9 e9 k9 => ?_
              walk_at "g"
              have k59 := Same.trans k58 k9
              refine hU _ _ ⟨sc', ps ++ [(t1, .take fo.toNat (1 + u))], rfl, (D5.kp (M := []) (Kp.of k59) (by simp) (by simp)).mono (by omega), (x4.trans x5).trans (KX.of k59), ⟨by rw [e9, List.map_append]; rfl, fun z hz => ?_⟩, fun z hz => ?_, ?_⟩
              · rcases List.mem_append.mp hz with g | g
                · exact (S8.kt (KT.of k9)).pc z g
                · have : z = (t1, Pc.take fo.toNat (1 + u)) := by simpa using g
                  rw [this]
                  show H9 t1 = some (.tup [.str "take", .int ((fo.toNat : Nat) : Int), .int ((1 + u : Nat) : Int)])
                  rw [k9 _ _ (k8 _ _ e7), ← ecast, show ((fo.toNat : Nat) : Int) = fo by omega]
              · rw [List.map_append] at hz
                rcases List.mem_append.mp hz with g | g
                · exact hok2 z g
                · have : z = Pc.take fo.toNat (1 + u) := by simpa using g
                  rw [this]
                  show 1 ≤ 1 + u
                  omega
              · rw [List.map_append, List.map_cons, List.map_nil, sizes_snoc, hsz2]
                rfl
            · have SP := S4.kt x5.t
              have hrP := x5.t _ _ hr4
              have DP := D5
              have xP := x4.trans x5
              have ecut : cutV (ls.map V.str) (some (k : Int)) (some ((k : Int) + (1 + (u : Int)))) = (((ls.drop k).take (1 + u))).map V.str := by rw [ecast]; exact cut_mid ls k (1 + u) hmk
              walk_at "g"
              refine w_slAt hrP fun p6 H6 e6 k6 => ?_
              rw [ecut] at e6
              refine ⟨_, _, rfl, .of e6, ?_⟩
              walk_at "g"
              refine w_new fun t1 H7 ht1 e7 k7 => ?_
              walk_at "g"
              refine w_new fun t2 H8 ht2 e8 k8 => ?_
              have k58 := Same.trans k6 (Same.trans k7 k8)
              have S8 := SP.kt (KT.of k58)
              walk_at "g"
              refine w_catAt S8.at' e8 (by rw [List.length_map]; simp only [List.length_cons, List.length_nil]; exact Nat.le_trans (show ps.length + 1 ≤ 41 by omega) (by decide)) fun sc' H9 e9 k9 => ?_
              walk_at "g"
              have k59 := Same.trans k58 k9
              have hlen : ((ls.drop k).take (1 + u)).length = 1 + u := by rw [List.length_take, List.length_drop]; omega
              refine hU _ _ ⟨sc', ps ++ [(t1, .put ((ls.drop k).take (1 + u)))], rfl, (DP.kp (M := []) (Kp.of k59) (by simp) (by simp)).mono (by omega), xP.trans (KX.of k59), ⟨by rw [e9, List.map_append]; rfl, fun z hz => ?_⟩, fun z hz => ?_, ?_⟩
              · rcases List.mem_append.mp hz with g | g
                · exact (S8.kt (KT.of k9)).pc z g
                · have : z = (t1, Pc.put ((ls.drop k).take (1 + u))) := by simpa using g
                  rw [this]
                  exact ⟨_, k9 _ _ (k8 _ _ e7), k9 _ _ (k8 _ _ (k7 _ _ e6))⟩
              · rw [List.map_append] at hz
                rcases List.mem_append.mp hz with g | g
                · exact hok2 z g
                · have : z = Pc.put ((ls.drop k).take (1 + u)) := by simpa using g
                  rw [this]
                  refine ⟨fun e => ?_, fun y hy => hlo y (List.mem_of_mem_drop (List.mem_of_mem_take hy))⟩
                  rw [e] at hlen
                  simp only [List.length_nil] at hlen
                  omega
              · rw [List.map_append, List.map_cons, List.map_nil, sizes_snoc, hsz2]
                show k + ((ls.drop k).take (1 + u)).length = _
                rw [hlen]
          · have SP := S4
            have hrP := hr4
            have DP := D4
            have xP := x4
            have ecut : cutV (ls.map V.str) (some (k : Int)) (some ((k : Int) + (1 + (u : Int)))) = (((ls.drop k).take (1 + u))).map V.str := by rw [ecast]; exact cut_mid ls k (1 + u) hmk
            walk_at "g"
            refine w_slAt hrP fun p6 H6 e6 k6 => ?_
            rw [ecut] at e6
            refine ⟨_, _, rfl, .of e6, ?_⟩
            walk_at "g"
            refine w_new fun t1 H7 ht1 e7 k7 => ?_
            walk_at "g"
            refine w_new fun t2 H8 ht2 e8 k8 => ?_
            have k58 := Same.trans k6 (Same.trans k7 k8)
            have S8 := SP.kt (KT.of k58)
            walk_at "g"
            refine w_catAt S8.at' e8 (by rw [List.length_map]; simp only [List.length_cons, List.length_nil]; exact Nat.le_trans (show ps.length + 1 ≤ 41 by omega) (by decide)) fun sc' H9 e9 k9 => ?_
            walk_at "g"
            have k59 := Same.trans k58 k9
            have hlen : ((ls.drop k).take (1 + u)).length = 1 + u := by rw [List.length_take, List.length_drop]; omega
            refine hU _ _ ⟨sc', ps ++ [(t1, .put ((ls.drop k).take (1 + u)))], rfl, (DP.kp (M := []) (Kp.of k59) (by simp) (by simp)).mono (by omega), xP.trans (KX.of k59), ⟨by rw [e9, List.map_append]; rfl, fun z hz => ?_⟩, fun z hz => ?_, ?_⟩
            · rcases List.mem_append.mp hz with g | g
              · exact (S8.kt (KT.of k9)).pc z g
              · have : z = (t1, Pc.put ((ls.drop k).take (1 + u))) := by simpa using g
                rw [this]
                exact ⟨_, k9 _ _ (k8 _ _ e7), k9 _ _ (k8 _ _ (k7 _ _ e6))⟩
            · rw [List.map_append] at hz
              rcases List.mem_append.mp hz with g | g
              · exact hok2 z g
              · have : z = Pc.put ((ls.drop k).take (1 + u)) := by simpa using g
                rw [this]
                refine ⟨fun e => ?_, fun y hy => hlo y (List.mem_of_mem_drop (List.mem_of_mem_take hy))⟩
                rw [e] at hlen
                simp only [List.length_nil] at hlen
                omega
            · rw [List.map_append, List.map_cons, List.map_nil, sizes_snoc, hsz2]
              show k + ((ls.drop k).take (1 + u)).length = _
              rw [hlen]
    · refine w_no (by rw [List.length_map]; omega) ?_
      walk_at "g"
      have hke : k = ls.length := by omega
      subst hke
      exact q H2 sc ps D2 x2 S2 ⟨hok2, by omega⟩
theorem ok_ownchoice {f fM fD fO : Addr} {fd fdM fdD fdO : FuncData} (T : Txt K mg) (F : Fun K "_law_own_choice" "_law_own_choice" s_law_own_choice f fd) (D_law_mixed : Df K mg "_law_mixed" s_law_mixed ["_law_cell", "_law_turn"] fM fdM) (D_law_draw : Df K mg "_law_draw" s_law_draw ["_law_deck_here", "_law_many"] fD fdD) (D_law_own_script : Df K mg "_law_own_script" s_law_own_script ["_law_deck_here", "_law_base", "_law_rows_here"] fO fdO) : FnOk P w K mg base CX0 4 f fd ["_law_deck_here", "_law_things", "_law_leaves_here", "_law_bases"] spOwnChoice := by
  have G_law_draw : FnOk P w K mg base CX0 2 fD fdD ["_law_deck_here", "_law_many"] spDraw := ok_draw T D_law_draw.fn D_law_mixed
  have G_law_own_script : FnOk P w K mg base CX0 3 fO fdO ["_law_deck_here", "_law_base", "_law_rows_here"] spOwnScript := ok_ownscript T D_law_own_script.fn D_law_mixed D_law_draw
  refine F.ok sc_law_own_choice (fun vs H Q E h => ?_) (fun cdv A outer s H vs Q E hr h => ?_)
  · obtain ⟨d, c, th, a, b, n, cs, lv, bs, rfl, _⟩ := h
    rfl
  · obtain ⟨d, c, th, a, b, n, cs, lv, bs, rfl, D0, T0, thd, fm, ha, hb, hlv, hbs, hll, hbl, hn, q⟩ := h
    have leafOk : ∀ {x : Nat} {ax : Addr} {rows : List Str}, cs[x]? = some (ax, .leaf rows) → rows.length ≤ 40 ∧ ∀ z ∈ rows, LineOk z := fun {x ax rows} e => fm.ok x (.leaf rows) (by rw [List.getElem?_map, e]; rfl)
    refine ⟨_,
      (pss_cons
        (ps_set (i := 4) sc_law_own_choice.nd rfl (.inl rfl) (pe_lst pa_nil))
      (pss_cons
        (ps_for PassesOwn.never rfl (pi_range1 (by rfl) T.n_range (pa_cons (pe_callB (r := rLen K) c_len (by rfl) T.n_len (by decide +kernel) (pa_cons (pv 2) pa_nil)) pa_nil)) (pg_name (i := 5) sc_law_own_choice.nd rfl (.inl rfl))
          (pss_cons
            (ps_set (i := 6) sc_law_own_choice.nd rfl (.inl rfl) (pe_op op_catA (pv 3) (pe_slice sl_tupA (pv 2) po_none (po_some (pv 5)))))
          (pss_cons
            (ps_set (i := 7) sc_law_own_choice.nd rfl (.inl rfl) pe_non)
          (pss_cons
            (ps_if (PW.pt (pw_and (pt_cmpR op_gt (pe_callB (r := rLen K) c_len (by rfl) T.n_len (by decide +kernel) (pa_cons (pv 6) pa_nil)) pe_int (nomark _)) (pw_and1 (pt_cmpR op_gt (pe_call G_law_draw (hr.mono (by omega)) (by rfl) D_law_draw.g D_law_draw.fn.kp D_law_draw.b .nil pass0 (pa_cons (pv 0) (pa_cons pe_int pa_nil))) pe_int (nomark _)))))
              (pss_one
                (ps_set (i := 7) sc_law_own_choice.nd rfl (.inl rfl) (pe_ix (r := rIxT K) ix_tup (pv 6) (pe_call G_law_draw (hr.mono (by omega)) (by rfl) D_law_draw.g D_law_draw.fn.kp D_law_draw.b .nil pass0 (pa_cons (pv 0) (pa_cons (pe_callB (r := rLen K) c_len (by rfl) T.n_len (by decide +kernel) (pa_cons (pv 6) pa_nil)) pa_nil))) (fun _ _ => rfl))))
              pss_nil)
          (pss_cons
            (ps_set (i := 8) sc_law_own_choice.nd rfl (.inl rfl) (pe_tup pa_nil))
          (pss_cons
            (ps_if (pt_cmpR o_notN (pv 7) pe_non (nomark _))
              (pss_one
                (ps_set (i := 8) sc_law_own_choice.nd rfl (.inl rfl) (pe_call G_law_own_script (hr.mono (by omega)) (by rfl) D_law_own_script.g D_law_own_script.fn.kp D_law_own_script.b .nil pass0 (pa_cons (pv 0) (pa_cons (pe_ix (r := rIxT K) ix_tup (pe_ix (r := rIxL K) ix_list (pv 1) (pv 7) (fun _ _ => rfl)) pe_int (fun _ _ => rfl)) (pa_cons (pe_ix (r := rIxT K) ix_tup (pe_ix (r := rIxL K) ix_list (pv 1) (pe_ix (r := rIxT K) ix_tup (pv 2) (pv 5) (fun _ _ => rfl)) (fun _ _ => rfl)) pe_int (fun _ _ => rfl)) pa_nil))))))
              pss_nil)
          (pss_one
            (ps_expr (pe_bm PySem.F.plainAttrs_list PySem.F.slot_list_append PySem.F.type_list_append mt_append (pv 4) (pa_cons (pe_tup (pa_cons (pe_ix (r := rIxT K) ix_tup (pv 2) (pv 5) (fun _ _ => rfl)) (pa_cons (pv 7) (pa_cons (pv 8) pa_nil)))) pa_nil))))))))))
      (pss_one
        (ps_ret (pe_callTy (r := rTupOf K) c_tupOf (by rfl) T.n_tuple (by decide +kernel) (pa_cons (pv 4) pa_nil))))))
      , ?_⟩
    rw [show L2.start N_law_own_choice [V.ref d, V.ref th, V.ref a, V.ref b] = [some (.ref d), some (.ref th), some (.ref a), some (.ref b), none, none, none, none, none] from rfl]
    walk_at "x"
    refine w_new fun ch H1 hch e1 k1 => ?_
    obtain ⟨chd, chc⟩ := D0.ne1 hch
    have D1 : Deck H1 d c n := D0.kp (M := []) (Kp.of k1) (by simp) (by simp)
    have ha1 := k1 _ _ ha
    walk_at "g"
    try refine w_rng1' (by rw [List.length_map]; omega) (by rw [List.length_map]; omega) ?_
    refine lp_range (fun i σ H' => ∃ (y1 y2 y3 y4 : Option V) (rs : List ChR), σ = [some (.ref d), some (.ref th), some (.ref a), some (.ref b), some (.ref ch), y1, y2, y3, y4] ∧ Deck H' d c (n + 100 * i) ∧ KX d H H' ∧ H' ch = some (.lst (rs.map fun r => .ref r.1)) ∧ (∀ r ∈ rs, ChAt H' r ∧ ChOk cs r) ∧ rs.length ≤ i) ⟨_, _, _, _, [], rfl, D1, KX.of k1, e1, by simp, by simp⟩ ?_ ?_
    · rintro i σ H2 hi ⟨y1, y2, y3, y4, rs, rfl, D2, x2, ec2, hrs, hrl⟩
      rw [List.length_map] at hi
      have hil : i < lv.length := by omega
      have ha2 := x2.t _ _ ha
      have hb2 := x2.t _ _ hb
      walk_at "g"
      refine w_slAt ha2 fun p3 H3 e3 k3 => ?_
      obtain ⟨ms, ecut, hms, hml⟩ := cut_nats lv none (some (0 + (i : Int)))
      rw [ecut] at e3
      walk_at "g"
      refine w_catAt (k3 _ _ hb2) e3 (by rw [List.length_map, List.length_map]; exact Nat.le_trans (show bs.length + ms.length ≤ 800 by omega) (by decide)) fun so H4 e4 k4 => ?_
      rw [← List.map_append] at e4
      have k24 := Same.trans k3 k4
      have D4 : Deck H4 d c (n + 100 * i) := D2.kp (M := []) (Kp.of k24) (by simp) (by simp)
      have x4 := x2.trans (KX.of k24)
      have ec4 := k24 _ _ ec2
      have hsome : ∀ x ∈ bs ++ ms, isL cs x := fun x hx => by
        rcases List.mem_append.mp hx with g | g
        · exact hbs x g
        · exact hlv x (hms x g)
      have hrs4 : ∀ r ∈ rs, ChAt H4 r ∧ ChOk cs r := fun r hr => ⟨(hrs r hr).1.kt (KT.of k24), (hrs r hr).2⟩
      walk_at "g"
      refine w_seqJ (fun σ' H' => ∃ ob : Option Nat, σ' = [some (.ref d), some (.ref th), some (.ref a), some (.ref b), some (.ref ch), some (.int (0 + (i : Int))), some (.ref so), some (bV ob), y4] ∧ Deck H' d c (n + 100 * i + 2) ∧ KX d H4 H' ∧ ∀ bb, ob = some bb → isL cs bb) ?_ ?_
      · rintro σ' H5 ⟨ob, rfl, D5, x5, hob⟩
        have ec5 := x5.p _ _ (by simpa using chd) ec4
        have x25 := x4.trans x5
        have hrs5 : ∀ r ∈ rs, ChAt H5 r ∧ ChOk cs r := fun r hr => ⟨(hrs4 r hr).1.kt x5.t, (hrs4 r hr).2⟩
        have at1 : atI (lv.map nV) (0 + (i : Int)) = some (.int ((lv[i] : Nat) : Int)) := by rw [show (0 : Int) + (i : Int) = (i : Int) by omega]; exact atI_nat (nV_at hil)
        obtain ⟨al, rowl, hl⟩ := hlv lv[i] (List.getElem_mem hil)
        walk_at "g"
        refine w_new fun s0 H6 hs0 e6 k6 => ?_
        have D6 : Deck H6 d c (n + 100 * i + 2) := D5.kp (M := []) (Kp.of k6) (by simp) (by simp)
        have x6 := x25.trans (KX.of k6)
        have ec6 := k6 _ _ ec5
        have ha6 := x6.t _ _ ha
        walk_at "g"
        refine w_seqJ (fun σ' H' => ∃ (sc : Addr) (ps : List (Addr × Pc)), σ' = [some (.ref d), some (.ref th), some (.ref a), some (.ref b), some (.ref ch), some (.int (0 + (i : Int))), some (.ref so), some (bV ob), some (.ref sc)] ∧ Deck H' d c (n + 100 * i + 90) ∧ KX d H6 H' ∧ ScAt H' sc ps ∧ ScOk (ps.map (·.2))) ?_ ?_
        · rintro σ' H7 ⟨sc, ps, rfl, D7, x7, S7, O7⟩
          have ec7 := x7.p _ _ (by simpa using chd) ec6
          have x27 := x6.trans x7
          have ha7 := x27.t _ _ ha
          walk_at "g"
          refine w_new fun t H8 ht e8 k8 => ?_
          have ec8 := k8 _ _ ec7
          walk_at "g"
          refine w_app ec8 (by rw [List.length_map]; exact small1kl (by omega)) fun H9 e9 o9 => ?_
          walk_at "g"
          have t9 : KT H8 H9 := KT.off o9 ec8
          have t69 : KT H5 H9 := ((KT.of k6).trans x7.t).trans ((KT.of k8).trans t9)
          refine ⟨_, _, _, _, rs ++ [(t, lv[i], ob, ps)], rfl, ((D7.kp (M := []) (Kp.of k8) (by simp) (by simp)).kp (M := [ch]) (o9.kp (by simp)) (by simpa using chd.symm) (by simpa using chc.symm)).mono (by omega), (x27.trans (KX.of k8)).offN o9 hch, by rw [e9, List.map_append]; rfl, fun r hr => ?_, by rw [List.length_append]; simp only [List.length_cons, List.length_nil]; omega⟩
          rcases List.mem_append.mp hr with g | g
          · exact ⟨(hrs5 r g).1.kt t69, (hrs5 r g).2⟩
          · have : r = (t, lv[i], ob, ps) := by simpa using g
            subst this
            exact ⟨⟨sc, t9 _ _ e8, S7.kt ((KT.of k8).trans t9)⟩, hlv _ (List.getElem_mem hil), O7⟩
        · intro U hU
          walk_at "g"
          cases ob with
          | none =>
            refine w_nyes rfl ?_
            walk_at "g"
            exact hU _ _ ⟨s0, [], rfl, D6.mono (by omega), KX.refl, ⟨e6, by simp⟩, ⟨by simp, by decide⟩⟩
          | some bb =>
            refine w_nno (fun z => nomatch z) ?_
            obtain ⟨ab, rowb, hbb⟩ := hob bb rfl
            have T6 := T0.kp x6.p x6.t (by simpa using thd)
            have hth6 := T6.at'
            obtain ⟨rb, g1, g2⟩ := T6.ct _ (List.mem_of_getElem? hbb)
            obtain ⟨rl, g3, g4⟩ := T6.ct _ (List.mem_of_getElem? hl)
            have g1' : H6 ab = some (.tup [.str "leaf", .ref rb]) := g1
            have g3' : H6 al = some (.tup [.str "leaf", .ref rl]) := g3
            have at2 : atI (cs.map fun q => V.ref q.1) (bb : Int) = some (.ref ab) := atI_nat (by rw [List.getElem?_map, hbb]; rfl)
            have at3 : atI (cs.map fun q => V.ref q.1) ((lv[i] : Nat) : Int) = some (.ref al) := atI_nat (by rw [List.getElem?_map, hl]; rfl)
            obtain ⟨lb1, lb2⟩ := leafOk hbb
            obtain ⟨ll1, ll2⟩ := leafOk hl
            show tAsg _ _ ⟨U, Q, _, _⟩ [some (.ref d), some (.ref th), some (.ref a), some (.ref b), some (.ref ch), some (.int (0 + (i : Int))), some (.ref so), some (.int (bb : Int)), some (.ref s0)] H6
            walk_at "g"
            refine ⟨d, c, rb, rl, _, rowb, rowl, rfl, D6, by omega, g2, g4, lb1, ll1, lb2, ll2, fun H7 s7 ps7 D7 x7 S7 O7 => ?_⟩
            walk_at "g"
            exact hU _ _ ⟨s7, ps7, rfl, D7.mono (by omega), x7, S7, O7⟩
      · intro U hU
        walk_at "g"
        refine w_ite (fun h => ?_) (fun h => ?_)
        · walk_at "g"
          refine w_draw D4 (by omega) (by decide) (by decide) fun v H5 hv5 D5 o5 => ?_
          have x5 : KX d H4 H5 := D4.kx D5 o5
          have e5 := x5.t _ _ e4
          walk_at "g"
          refine w_ite (fun h2 => ?_) (fun h2 => ?_)
          · walk_at "g"
            refine w_draw D5 (by omega) (by rw [List.length_map] at h ⊢; omega) (by rw [List.length_map, List.length_append]; omega) fun j H6 hj6 D6 o6 => ?_
            rw [List.length_map] at hj6
            have hj : j < (bs ++ ms).length := by omega
            have e6 := (D5.kx D6 o6).t _ _ e5
            have at1 : atI ((bs ++ ms).map nV) (j : Int) = some (.int (((bs ++ ms)[j] : Nat) : Int)) := atI_nat (nV_at hj)
            walk_at "g"
            exact hU _ _ ⟨some (bs ++ ms)[j], rfl, D6.mono (by omega), x5.trans (D5.kx D6 o6), fun bb e => by cases e; exact hsome _ (List.getElem_mem hj)⟩
          · walk_at "g"
            exact hU _ _ ⟨none, rfl, D5.mono (by omega), x5, fun bb e => by cases e⟩
        · walk_at "g"
          exact hU _ _ ⟨none, rfl, D4.mono (by omega), KX.refl, fun bb e => by cases e⟩
    · rintro σ H2 ⟨y1, y2, y3, y4, rs, rfl, D2, x2, ec2, hrs, hrl⟩
      have hct : (((lv.map nV).length : Int)).toNat = lv.length := by rw [List.length_map]; omega
      rw [hct] at D2 hrl
      walk_at "g"
      refine w_tupL (.of ec2) fun t H3 ht e3 k3 => ?_
      exact q H3 t rs (D2.kp (M := []) (Kp.of k3) (by simp) (by simp)) (x2.trans (KX.of k3)) e3 (fun r hr => ⟨(hrs r hr).1.kt (KT.of k3), (hrs r hr).2⟩) hrl
end
def spLaw (K : PySem.W.Frag) : Sp := fun vs H Q _ => ∃ (a : Addr) (ns : List Int), vs = [.ref a] ∧ SqL K H a (ns.map V.int) ∧ ns.length ≤ 63 ∧ ∀ H', Q (.bl true) H'
theorem w_lstRg4 {σ : L2.St} {H : Hp} {Q : VK} {te : L2.St → Hp → (Int → Int → Hp → Prop) → Prop} (h : te σ H fun a b H1 => RgOk a b ∧ Nw (.lst (rgV a b)) H1 Q) : tLstRg te σ H Q := h
def rRg14 (x : V) (H : Hp) (R : Int → Int → Hp → Prop) : Prop := ∃ n, x = .int n ∧ R 0 n H
theorem w_rg14 {σ : L2.St} {H : Hp} {ta : TE} {R : Int → Int → Hp → Prop} (h : ta σ H fun x H1 => rRg14 x H1 R) : tRg1 ta σ H R := h
theorem w_rg14' {H : Hp} {j : Int} {R : Int → Int → Hp → Prop} (h : R 0 j H) : rRg14 (.int j) H R := ⟨j, rfl, h⟩
theorem rgV_all4 {j : Int} (b : Nat) (hj : j = b) : rgV 0 j = (List.range b).map nV := by
  unfold rgV
  rw [show (j - 0).toNat = b by omega]
  refine List.map_congr_left fun k _ => ?_
  show V.int (0 + (k : Nat)) = V.int ((k : Nat) : Int)
  rw [Int.zero_add]
local macro_rules | `(tactic| walk_at "s") => `(tactic| first
  | with_reducible refine w_lstRg4 ?_
  | with_reducible refine w_rg14 ?_
  | with_reducible refine w_rg14' ?_
  )
/-- cs' is cs and, behind it, i versions over root r that stand for nothing but their stamps -/
structure Vsn (cs cs' : List (Addr × Ct)) (r i : Nat) : Prop where
  g : Grow cs cs'
  n : cs'.length = cs.length + i
  v : ∀ j, j < i → ∃ a, cs'[cs.length + j]? = some (a, .ver [] r (r + 1 + j))
theorem Vsn.new {cs cs' : List (Addr × Ct)} {r i : Nat} (h : Vsn cs cs' r i) (hc : ∀ (j : Nat) (a : Addr) (c : Ct), cs[j]? = some (a, c) → c.word ≠ "version") (q : Addr × Ct) (hq : q ∈ cs') : q.2 ≠ .ver [] r (r + 1 + i) := by
  intro e
  obtain ⟨j, hj, ej⟩ := List.getElem_of_mem hq
  have ej' := List.getElem?_eq_getElem hj
  rw [ej] at ej'
  by_cases hl : j < cs.length
  · have e0 := h.g j cs[j] (List.getElem?_eq_getElem hl)
    rw [ej'] at e0
    have e1 : cs[j] = q := (Option.some.inj e0).symm
    exact hc j q.1 q.2 (by rw [List.getElem?_eq_getElem hl, e1]) (by rw [e]; rfl)
  · obtain ⟨a, ea⟩ := h.v (j - cs.length) (by have := h.n; omega)
    rw [show cs.length + (j - cs.length) = j by omega, ej'] at ea
    have := congrArg Prod.snd (Option.some.inj ea)
    rw [e] at this
    injection this with _ _ h3
    have := h.n
    omega
theorem Vsn.snoc {cs cs' : List (Addr × Ct)} {r i : Nat} {a : Addr} (h : Vsn cs cs' r i) : Vsn cs (cs' ++ [(a, .ver [] r (r + 1 + i))]) r (i + 1) := by
  refine ⟨fun j x hx => Grow.snoc _ _ (h.g j x hx), by rw [List.length_append, h.n]; rfl, fun j hj => ?_⟩
  by_cases hji : j < i
  · obtain ⟨b, eb⟩ := h.v j hji
    exact ⟨b, Grow.snoc _ _ eb⟩
  · have : j = i := by omega
    subst this
    refine ⟨a, ?_⟩
    rw [← h.n]
    simp
theorem Fam.snoc {cs : List (Addr × Ct)} {a : Addr} {c : Ct} {t : Nat} (fm : Fam cs t) (ok : CtOk (cs.map (·.2)) (dsOf (cs.map (·.2))) c) (dp : depOf (dsOf (cs.map (·.2))) c ≤ t) (hno : ∀ q ∈ cs, q.2 ≠ c) : Fam (cs ++ [(a, c)]) t := by
  refine ⟨?_, ?_, ?_⟩
  · rw [List.map_append, List.map_cons, List.map_nil]
    exact fm.ok.snoc ok
  · rw [List.map_append, List.map_cons, List.map_nil, List.nodup_append]
    refine ⟨fm.nd, by simp, fun x hx y hy e => ?_⟩
    obtain ⟨z, hz, rfl⟩ := List.mem_map.mp hx
    have e' : y = c := by simpa using hy
    rw [e'] at e
    exact hno z hz e
  · rw [List.map_append, List.map_cons, List.map_nil]
    exact fm.dp.snoc dp
theorem leafN_grow {cs cs' : List (Addr × Ct)} {n : Nat} (h : isL cs n) (g : Grow cs cs') : leafN cs' n = leafN cs n := by
  obtain ⟨a, r, e⟩ := h
  unfold leafN
  rw [e, g _ _ e]
theorem ChOk.grow {cs cs' : List (Addr × Ct)} {r : ChR} (h : ChOk cs r) (g : Grow cs cs') : ChOk cs' r := ⟨h.1.grow g, h.2⟩
section
variable {P : Program} {w : World} {K : PySem.W.Frag} {mg : Str → Option Value} {base : Heap}
theorem ok_law {f_is_int f_is_text f_is_label f_rise f_are_ints f_rising_ints f_is_pair f_are_rows f_made_by f_is_script f_price f_rows_in f_plain_price f_price_of f_Book___init__ f_Book_named f_Book_thing f_Book_kind f_is_name f_is_kind f_is_entry f_is_tree f_depth_of f_is_version f_is_content f_row_price f_law_deck f_law_mixed f_law_draw f_law_text f_law_label f_law_give f_law_rows f_law_entries f_law_book f_law_int f_law_same f_law_script_price f_law_leaves f_law_choice_price f_law_parted f_law_own_script f_law_own_choice f C_Book : Addr} {fd_is_int fd_is_text fd_is_label fd_rise fd_are_ints fd_rising_ints fd_is_pair fd_are_rows fd_made_by fd_is_script fd_price fd_rows_in fd_plain_price fd_price_of fd_Book___init__ fd_Book_named fd_Book_thing fd_Book_kind fd_is_name fd_is_kind fd_is_entry fd_is_tree fd_depth_of fd_is_version fd_is_content fd_row_price fd_law_deck fd_law_mixed fd_law_draw fd_law_text fd_law_label fd_law_give fd_law_rows fd_law_entries fd_law_book fd_law_int fd_law_same fd_law_script_price fd_law_leaves fd_law_choice_price fd_law_parted fd_law_own_script fd_law_own_choice fd : FuncData} (T : Txt K mg)
    (D_is_int : DfD K mg "is_int" s_is_int ["thing", "least"] [.int 0] f_is_int fd_is_int)
    (D_is_text : DfD K mg "is_text" s_is_text ["thing", "most"] [.int 40] f_is_text fd_is_text)
    (D_is_label : Df K mg "is_label" s_is_label ["thing"] f_is_label fd_is_label)
    (D_rise : Df K mg "rise" s_rise ["row"] f_rise fd_rise)
    (D_are_ints : Df K mg "are_ints" s_are_ints ["thing"] f_are_ints fd_are_ints)
    (D_rising_ints : Df K mg "rising_ints" s_rising_ints ["thing"] f_rising_ints fd_rising_ints)
    (D_is_pair : Df K mg "is_pair" s_is_pair ["thing"] f_is_pair fd_is_pair)
    (D_are_rows : Df K mg "are_rows" s_are_rows ["thing"] f_are_rows fd_are_rows)
    (D_made_by : Df K mg "made_by" s_made_by ["thing"] f_made_by fd_made_by)
    (D_is_script : Df K mg "is_script" s_is_script ["thing"] f_is_script fd_is_script)
    (D_price : DfKs K mg "price" s_price ["script", "take", "put"] [("take", .int 3), ("put", .int 2)] [.int 3, .int 2] f_price fd_price)
    (D_rows_in : Df K mg "rows_in" s_rows_in ["book", "leaf"] f_rows_in fd_rows_in)
    (D_plain_price : Df K mg "plain_price" s_plain_price ["book", "leaf"] f_plain_price fd_plain_price)
    (D_price_of : DfK K mg "price_of" s_price_of ["book", "choice", "over"] [("over", .int 2)] [.int 2] f_price_of fd_price_of)
    (D_Book___init__ : DfM K C_Book "__init__" "Book.__init__" s_Book___init__ ["self"] f_Book___init__ fd_Book___init__)
    (D_Book_named : DfM K C_Book "named" "Book.named" s_Book_named ["self", "content"] f_Book_named fd_Book_named)
    (D_Book_thing : DfM K C_Book "thing" "Book.thing" s_Book_thing ["self", "name"] f_Book_thing fd_Book_thing)
    (D_Book_kind : DfM K C_Book "kind" "Book.kind" s_Book_kind ["self", "name"] f_Book_kind fd_Book_kind)
    (D_is_name : Df K mg "is_name" s_is_name ["book", "thing"] f_is_name fd_is_name)
    (D_is_kind : Df K mg "is_kind" s_is_kind ["book", "thing", "kind"] f_is_kind fd_is_kind)
    (D_is_entry : Df K mg "is_entry" s_is_entry ["book", "thing"] f_is_entry fd_is_entry)
    (D_is_tree : Df K mg "is_tree" s_is_tree ["book", "entries"] f_is_tree fd_is_tree)
    (D_depth_of : Df K mg "depth_of" s_depth_of ["book", "content"] f_depth_of fd_depth_of)
    (D_is_version : Df K mg "is_version" s_is_version ["book", "content"] f_is_version fd_is_version)
    (D_is_content : Df K mg "is_content" s_is_content ["book", "thing"] f_is_content fd_is_content)
    (D_row_price : Df K mg "row_price" s_row_price ["book", "row"] f_row_price fd_row_price)
    (D_law_deck : Df K mg "_law_deck" s_law_deck ["_law_script"] f_law_deck fd_law_deck)
    (D_law_mixed : Df K mg "_law_mixed" s_law_mixed ["_law_cell", "_law_turn"] f_law_mixed fd_law_mixed)
    (D_law_draw : Df K mg "_law_draw" s_law_draw ["_law_deck_here", "_law_many"] f_law_draw fd_law_draw)
    (D_law_text : Df K mg "_law_text" s_law_text ["_law_deck_here", "_law_size"] f_law_text fd_law_text)
    (D_law_label : Df K mg "_law_label" s_law_label ["_law_deck_here"] f_law_label fd_law_label)
    (D_law_give : Df K mg "_law_give" s_law_give ["_law_things", "_law_content"] f_law_give fd_law_give)
    (D_law_rows : Df K mg "_law_rows" s_law_rows ["_law_deck_here", "_law_elder"] f_law_rows fd_law_rows)
    (D_law_entries : Df K mg "_law_entries" s_law_entries ["_law_deck_here", "_law_lows"] f_law_entries fd_law_entries)
    (D_law_book : Df K mg "_law_book" s_law_book ["_law_things"] f_law_book fd_law_book)
    (D_law_int : Df K mg "_law_int" s_law_int ["_law_thing"] f_law_int fd_law_int)
    (D_law_same : Df K mg "_law_same" s_law_same ["_law_found", "_law_due"] f_law_same fd_law_same)
    (D_law_script_price : Df K mg "_law_script_price" s_law_script_price ["_law_script"] f_law_script_price fd_law_script_price)
    (D_law_leaves : Df K mg "_law_leaves" s_law_leaves ["_law_deck_here", "_law_most"] f_law_leaves fd_law_leaves)
    (D_law_choice_price : Df K mg "_law_choice_price" s_law_choice_price ["_law_things", "_law_choice", "_law_extra"] f_law_choice_price fd_law_choice_price)
    (D_law_parted : Df K mg "_law_parted" s_law_parted ["_law_deck_here", "_law_things"] f_law_parted fd_law_parted)
    (D_law_own_script : Df K mg "_law_own_script" s_law_own_script ["_law_deck_here", "_law_base", "_law_rows_here"] f_law_own_script fd_law_own_script)
    (D_law_own_choice : Df K mg "_law_own_choice" s_law_own_choice ["_law_deck_here", "_law_things", "_law_leaves_here", "_law_bases"] f_law_own_choice fd_law_own_choice)
    (D_law : Df K mg "law" s_law ["_law_script"] f fd)
    (K_Book : Kl K mg "Book" C_Book ["contents", "depths", "given"]) (M_Book : Mk K C_Book f_Book___init__)
    : FnOk P w K mg base CX0 10 f fd ["_law_script"] (spLaw K) := by
  obtain ⟨ds_is_int, V_is_int, B_is_int⟩ := D_is_int.b
  obtain ⟨ds_is_text, V_is_text, B_is_text⟩ := D_is_text.b
  obtain ⟨ds_price, V_price, B_price⟩ := D_price.b
  obtain ⟨ds_price_of, V_price_of, B_price_of⟩ := D_price_of.b
  obtain ⟨tk_SIGNS, g_SIGNS⟩ := T.g_SIGNS
  obtain ⟨tk_LETTERS, g_LETTERS⟩ := T.g_LETTERS
  obtain ⟨tk_MOST, g_MOST⟩ := T.g_MOST
  obtain ⟨tk_DEEP, g_DEEP⟩ := T.g_DEEP
  obtain ⟨tk_TAKE, g_TAKE⟩ := T.g_TAKE
  obtain ⟨tk_PUT, g_PUT⟩ := T.g_PUT
  obtain ⟨tk_ROWS, g_ROWS⟩ := T.g_ROWS
  obtain ⟨tk_OVER, g_OVER⟩ := T.g_OVER
  obtain ⟨tk_PACK, g_PACK⟩ := T.g_PACK
  have G_law_deck : FnOk P w K mg base CX0 1 f_law_deck fd_law_deck ["_law_script"] (spDeck K) := ok_deck T D_law_deck.fn
  have G_law_draw : FnOk P w K mg base CX0 2 f_law_draw fd_law_draw ["_law_deck_here", "_law_many"] spDraw := ok_draw T D_law_draw.fn D_law_mixed
  have G_law_leaves : FnOk P w K mg base CX0 5 f_law_leaves fd_law_leaves ["_law_deck_here", "_law_most"] spLeaves := ok_leaves T D_law_leaves.fn D_law_mixed D_law_draw D_law_text D_law_rows D_law_give
  have G_law_parted : FnOk P w K mg base CX0 3 f_law_parted fd_law_parted ["_law_deck_here", "_law_things"] spParted := ok_parted T D_law_parted.fn D_law_mixed D_law_draw
  have G_law_own_choice : FnOk P w K mg base CX0 4 f_law_own_choice fd_law_own_choice ["_law_deck_here", "_law_things", "_law_leaves_here", "_law_bases"] spOwnChoice := ok_ownchoice T D_law_own_choice.fn D_law_mixed D_law_draw D_law_own_script
  have G_law_entries : FnOk P w K mg base CX0 4 f_law_entries fd_law_entries ["_law_deck_here", "_law_lows"] spEntries := ok_entries T D_law_entries.fn D_law_mixed D_law_draw D_law_label
  have G_law_give : FnOk P w K mg base CX0 1 f_law_give fd_law_give ["_law_things", "_law_content"] spGive := ok_give T D_law_give.fn
  have G_is_content : FnOk P w K mg base CX0 5 f_is_content fd_is_content ["book", "thing"] (spIsContent P w C_Book) := ok_iscontent T D_is_content.fn K_Book D_is_tree D_is_version D_depth_of D_are_rows D_is_entry D_rise D_is_pair D_is_label D_rising_ints D_are_ints D_is_kind D_is_name D_is_int D_is_text
  have G_Book_named : FnOk P w K mg base CX0 6 f_Book_named fd_Book_named ["self", "content"] (spNamed P w C_Book) := ok_named T D_Book_named.fn K_Book D_is_content D_depth_of G_is_content
  have G_law_book : FnOk P w K mg base CX0 7 f_law_book fd_law_book ["_law_things"] (spLBook P w C_Book) := ok_lbook T D_law_book.fn K_Book M_Book D_Book___init__ D_Book_named G_Book_named
  have G_price_of : FnOk P w K mg base CX0 6 f_price_of fd_price_of ["book", "choice", "over"] (spPriceOf P w C_Book) := ok_priceof T D_price_of.fn K_Book D_plain_price D_price D_is_script D_made_by D_is_text D_rows_in D_Book_thing D_is_name D_is_int
  have G_row_price : FnOk P w K mg base CX0 5 f_row_price fd_row_price ["book", "row"] spRowPrice := ok_rowprice T D_row_price.fn D_price D_is_script D_made_by D_is_text D_is_int
  have G_law_choice_price : FnOk P w K mg base CX0 2 f_law_choice_price fd_law_choice_price ["_law_things", "_law_choice", "_law_extra"] spChPrice := ok_chprice T D_law_choice_price.fn D_law_script_price
  have G_law_same : FnOk P w K mg base CX0 3 f_law_same fd_law_same ["_law_found", "_law_due"] (spSame 1) := ok_same T D_law_same D_law_int 1
  obtain ⟨kg_price_of, KB_price_of⟩ := D_price_of.kb
  obtain ⟨tk_PUT, g_PUT⟩ := T.g_PUT
  obtain ⟨tk_OVER, g_OVER⟩ := T.g_OVER
  obtain ⟨tk_TAKE, g_TAKE⟩ := T.g_TAKE
  obtain ⟨tk_PACK, g_PACK⟩ := T.g_PACK
  refine D_law.fn.ok sc_law (fun vs H Q E h => ?_) (fun cdv A outer s H vs Q E hr h => ?_)
  · obtain ⟨a, ns, rfl, _⟩ := h
    rfl
  · obtain ⟨a0, ns0, rfl, hS0, hl0, q⟩ := h
    refine ⟨_,
      (pss_cons
        (ps_set (i := 1) sc_law.nd rfl (.inl rfl) (pe_call G_law_deck (hr.mono (by omega)) (by rfl) D_law_deck.g D_law_deck.fn.kp D_law_deck.b .nil pass0 (pa_cons (pv 0) pa_nil)))
      (pss_cons
        (ps_set (i := 2) sc_law.nd rfl (.inl rfl) (pe_call G_law_draw (hr.mono (by omega)) (by rfl) D_law_draw.g D_law_draw.fn.kp D_law_draw.b .nil pass0 (pa_cons (pv 1) (pa_cons pe_int pa_nil))))
      (pss_cons
        (ps_set (i := 3) sc_law.nd rfl (.inl rfl) (pe_call G_law_leaves (hr.mono (by omega)) (by rfl) D_law_leaves.g D_law_leaves.fn.kp D_law_leaves.b .nil pass0 (pa_cons (pv 1) (pa_cons pe_int pa_nil))))
      (pss_cons
        (ps_set (i := 4) sc_law.nd rfl (.inl rfl) (pe_call G_law_parted (hr.mono (by omega)) (by rfl) D_law_parted.g D_law_parted.fn.kp D_law_parted.b .nil pass0 (pa_cons (pv 1) (pa_cons (pv 3) pa_nil))))
      (pss_cons
        (ps_set (i := 5) sc_law.nd rfl (.inl rfl) (pe_call G_law_own_choice (hr.mono (by omega)) (by rfl) D_law_own_choice.g D_law_own_choice.fn.kp D_law_own_choice.b .nil pass0 (pa_cons (pv 1) (pa_cons (pv 3) (pa_cons (pe_ix (r := rIxT K) ix_tup (pv 4) pe_int (fun _ _ => rfl)) (pa_cons (pe_ix (r := rIxT K) ix_tup (pv 4) pe_int (fun _ _ => rfl)) pa_nil))))))
      (pss_cons
        (ps_set (i := 6) sc_law.nd rfl (.inl rfl) (pe_tup (pa_cons pe_str (pa_cons (pe_call G_law_entries (hr.mono (by omega)) (by rfl) D_law_entries.g D_law_entries.fn.kp D_law_entries.b .nil pass0 (pa_cons (pv 1) (pa_cons (pe_op op_cat (pe_listRg rfl (by rfl) T.n_list (prg_1 (by rfl) T.n_range (pe_callB (r := rLen K) c_len (by rfl) T.n_len (by decide +kernel) (pa_cons (pv 3) pa_nil)))) (pe_lst (pa_cons pe_int pa_nil))) pa_nil))) pa_nil))))
      (pss_cons
        (ps_if (pt_cmpR op_eq (pe_callB (r := rLen K) c_len (by rfl) T.n_len (by decide +kernel) (pa_cons (pv 3) pa_nil)) pe_int (nomark _))
          (pss_one
            (ps_set (i := 6) sc_law.nd rfl (.inl rfl) (pe_tup (pa_cons pe_str (pa_cons (pe_tup pa_nil) pa_nil)))))
          pss_nil)
      (pss_cons
        (ps_set (i := 7) sc_law.nd rfl (.inr rfl) (pe_call G_law_give (hr.mono (by omega)) (by rfl) D_law_give.g D_law_give.fn.kp D_law_give.b .nil pass0 (pa_cons (pv 3) (pa_cons (pv 6) pa_nil))))
      (pss_cons
        (ps_setLc (i := 8) (own := [("_law_k", 15)]) (g := (gName 15)) rfl sc_law.nd rfl rfl (sw_true rfl rfl rfl (by decide +kernel)) (pi_range1 (by rfl) T.n_range (pa_cons (pe_call G_law_draw (hr.mono (by omega)) (by rfl) D_law_draw.g D_law_draw.fn.kp D_law_draw.b .nil pass0 (pa_cons (pv 1) (pa_cons pe_int pa_nil))) pa_nil)) (blkOk_by (own := [("_law_k", 15)]) (N := N_law) (sc := defScope s_law) (by decide +kernel)) (fun _ _ _ _ _ => (pg_name (i := 15) sc_law.nd rfl (.inl rfl))) (fun _ _ _ _ _ => pts_nil) (fun _ _ _ _ _ => (pe_op op_add (pe_op op_add (pv 7) pe_int) (pv 15))))
      (pss_cons
        (ps_for PassesOwn.never rfl (pi_list (pv 8)) (pg_name (i := 9) sc_law.nd rfl (.inl rfl))
          (pss_one
            (ps_expr (pe_call G_law_give (hr.mono (by omega)) (by rfl) D_law_give.g D_law_give.fn.kp D_law_give.b .nil pass0 (pa_cons (pv 3) (pa_cons (pe_tup (pa_cons pe_str (pa_cons (pe_tup pa_nil) (pa_cons (pv 7) (pa_cons (pv 9) pa_nil))))) pa_nil))))))
      (pss_cons
        (ps_set (i := 10) sc_law.nd rfl (.inl rfl) (pe_call G_law_give (hr.mono (by omega)) (by rfl) D_law_give.g D_law_give.fn.kp D_law_give.b .nil pass0 (pa_cons (pv 3) (pa_cons (pe_tup (pa_cons pe_str (pa_cons (pe_callTy (r := rTupOf K) c_tupOf (by rfl) T.n_tuple (by decide +kernel) (pa_cons (pv 8) pa_nil)) (pa_cons (pv 7) (pa_cons (pe_call G_law_draw (hr.mono (by omega)) (by rfl) D_law_draw.g D_law_draw.fn.kp D_law_draw.b .nil pass0 (pa_cons (pv 1) (pa_cons (pe_op op_add (pe_op op_pow pe_int pe_int) pe_int) pa_nil))) pa_nil))))) pa_nil))))
      (pss_cons
        (ps_set (i := 11) sc_law.nd rfl (.inl rfl) (pe_call G_law_book (hr.mono (by omega)) (by rfl) D_law_book.g D_law_book.fn.kp D_law_book.b .nil pass0 (pa_cons (pv 3) pa_nil)))
      (pss_cons
        (ps_if (pt_not (pt_val (pe_call G_law_same (hr.mono (by omega)) (by rfl) D_law_same.g D_law_same.fn.kp D_law_same.b .nil pass0 (pa_cons (pe_callN G_price_of (hr.mono (by omega)) (by rfl) D_price_of.g D_price_of.kp KB_price_of pass0 (pa_cons (pv 11) (pa_cons (pv 5) pa_nil)) (pk_cons (pv 2) pk_nil)) (pa_cons (pe_call G_law_choice_price (hr.mono (by omega)) (by rfl) D_law_choice_price.g D_law_choice_price.fn.kp D_law_choice_price.b .nil pass0 (pa_cons (pv 3) (pa_cons (pv 5) (pa_cons (pv 2) pa_nil)))) pa_nil)))))
          (pss_one
            (ps_ret pe_bl))
          pss_nil)
      (pss_cons
        (ps_if (pt_not (pt_val (pe_call G_law_same (hr.mono (by omega)) (by rfl) D_law_same.g D_law_same.fn.kp D_law_same.b .nil pass0 (pa_cons (pe_call G_price_of (hr.mono (by omega)) (by rfl) D_price_of.g D_price_of.kp B_price_of V_price_of pass0 (pa_cons (pv 11) (pa_cons (pv 5) pa_nil))) (pa_cons (pe_call G_law_choice_price (hr.mono (by omega)) (by rfl) D_law_choice_price.g D_law_choice_price.fn.kp D_law_choice_price.b .nil pass0 (pa_cons (pv 3) (pa_cons (pv 5) (pa_cons pe_int pa_nil)))) pa_nil)))))
          (pss_one
            (ps_ret pe_bl))
          pss_nil)
      (pss_cons
        (ps_for PassesOwn.never rfl (pi_tup (pv 5)) (pg_name (i := 12) sc_law.nd rfl (.inl rfl))
          (pss_cons
            (ps_if (pt_cmpR o_isN (pe_ix (r := rIxT K) ix_tup (pv 12) pe_int (fun _ _ => rfl)) pe_non (nomark _))
              (pss_one
                (ps_set (i := 13) sc_law.nd rfl (.inl rfl) (pe_call G_row_price (hr.mono (by omega)) (by rfl) D_row_price.g D_row_price.fn.kp D_row_price.b .nil pass0 (pa_cons (pv 11) (pa_cons (pe_tup (pa_cons (pe_ix (r := rIxT K) ix_tup (pv 12) pe_int (fun _ _ => rfl)) (pa_cons pe_str (pa_cons (pe_ix (r := rIxL K) ix_list (pv 3) (pe_ix (r := rIxT K) ix_tup (pv 12) pe_int (fun _ _ => rfl)) (fun _ _ => rfl)) pa_nil)))) pa_nil)))))
              (pss_one
                (ps_set (i := 13) sc_law.nd rfl (.inl rfl) (pe_call G_row_price (hr.mono (by omega)) (by rfl) D_row_price.g D_row_price.fn.kp D_row_price.b .nil pass0 (pa_cons (pv 11) (pa_cons (pe_tup (pa_cons (pe_ix (r := rIxT K) ix_tup (pv 12) pe_int (fun _ _ => rfl)) (pa_cons pe_str (pa_cons (pe_ix (r := rIxT K) ix_tup (pv 12) pe_int (fun _ _ => rfl)) (pa_cons (pe_ix (r := rIxT K) ix_tup (pv 12) pe_int (fun _ _ => rfl)) pa_nil))))) pa_nil))))))
          (pss_one
            (ps_if (pt_not (pt_val (pe_call G_law_same (hr.mono (by omega)) (by rfl) D_law_same.g D_law_same.fn.kp D_law_same.b .nil pass0 (pa_cons (pv 13) (pa_cons (pe_call G_law_choice_price (hr.mono (by omega)) (by rfl) D_law_choice_price.g D_law_choice_price.fn.kp D_law_choice_price.b .nil pass0 (pa_cons (pv 3) (pa_cons (pe_tup (pa_cons (pv 12) pa_nil)) (pa_cons pe_int pa_nil)))) pa_nil)))))
              (pss_one
                (ps_ret pe_bl))
              pss_nil))))
      (pss_cons
        (ps_if (pt_not (pt_val (pe_call G_law_same (hr.mono (by omega)) (by rfl) D_law_same.g D_law_same.fn.kp D_law_same.b .nil pass0 (pa_cons (pe_call G_row_price (hr.mono (by omega)) (by rfl) D_row_price.g D_row_price.fn.kp D_row_price.b .nil pass0 (pa_cons (pv 11) (pa_cons (pe_tup (pa_cons (pv 7) (pa_cons pe_str (pa_cons (pe_ix (r := rIxL K) ix_list (pv 3) (pv 7) (fun _ _ => rfl)) pa_nil)))) pa_nil))) (pa_cons (pe_op op_mul pe_int (pe_callB (r := rLen K) c_len (by rfl) T.n_len (by decide +kernel) (pa_cons (pe_ix (r := rIxT K) ix_tup (pv 6) pe_int (fun _ _ => rfl)) pa_nil))) pa_nil)))))
          (pss_one
            (ps_ret pe_bl))
          pss_nil)
      (pss_cons
        (ps_set (i := 14) sc_law.nd rfl (.inl rfl) (pe_op op_add (pe_op op_mul pe_int (pe_callB (r := rLen K) c_len (by rfl) T.n_len (by decide +kernel) (pa_cons (pe_ix (r := rIxT K) ix_tup (pe_ix (r := rIxL K) ix_list (pv 3) (pv 10) (fun _ _ => rfl)) pe_int (fun _ _ => rfl)) pa_nil))) pe_int))
      (pss_cons
        (ps_if (pt_not (pt_val (pe_call G_law_same (hr.mono (by omega)) (by rfl) D_law_same.g D_law_same.fn.kp D_law_same.b .nil pass0 (pa_cons (pe_call G_row_price (hr.mono (by omega)) (by rfl) D_row_price.g D_row_price.fn.kp D_row_price.b .nil pass0 (pa_cons (pv 11) (pa_cons (pe_tup (pa_cons (pv 10) (pa_cons pe_str (pa_cons (pe_ix (r := rIxL K) ix_list (pv 3) (pv 10) (fun _ _ => rfl)) pa_nil)))) pa_nil))) (pa_cons (pv 14) pa_nil)))))
          (pss_one
            (ps_ret pe_bl))
          pss_nil)
      (pss_one
        (ps_ret (pe_call G_law_same (hr.mono (by omega)) (by rfl) D_law_same.g D_law_same.fn.kp D_law_same.b .nil pass0 (pa_cons (pe_tup (pa_cons (pe_glob (v := .int 2) rfl g_OVER ⟨_, rfl⟩) (pa_cons (pe_glob (v := .int 3) rfl g_TAKE ⟨_, rfl⟩) (pa_cons (pe_glob (v := .int 2) rfl g_PUT ⟨_, rfl⟩) (pa_cons (pe_glob (v := .int 24) rfl g_PACK ⟨_, rfl⟩) pa_nil))))) (pa_cons (pe_tup (pa_cons pe_int (pa_cons pe_int (pa_cons pe_int (pa_cons pe_int pa_nil))))) pa_nil)))))))))))))))))))))))
      , ?_⟩
    rw [show L2.start N_law [V.ref a0] = [some (.ref a0), none, none, none, none, none, none, none, none, none, none, none, none, none, none, none] from rfl]
    walk_at "x"
    refine w_deck hS0 fun H1 d c k1 hd0 hc0 D1 => ?_
    walk_at "g"
    refine w_draw D1 (by decide) (by decide) (by decide) fun ov H2 hov D2 o2 => ?_
    walk_at "g"
    refine ⟨d, c, _, 6, rfl, D2, by decide, by decide, fun H3 th cs D3 x3 hth T3 F3 hcl hL => ?_⟩
    have nthd : th ≠ d := (D2.ne1 hth).1
    walk_at "g"
    refine ⟨d, c, th, _, cs, rfl, D3, T3, nthd, by omega, by unfold MOSTD; omega, fun H4 t a b lv bs D4 x4 et ea eb hlv hbs hll hbl => ?_⟩
    have T4 := T3.kp x4.p x4.t (by simpa using nthd)
    walk_at "g"
    refine ⟨d, c, th, a, b, _, cs, lv, bs, rfl, D4.mono (show _ ≤ 2000 by omega), T4, nthd, F3, ea, eb, fun x hx => hL x (hlv x hx), fun x hx => hL x (hbs x hx), by omega, by omega, by unfold MOSTD; omega, fun H5 ch rs D5 x5 hch hrs hrl => ?_⟩
    have T5 := T4.kp x5.p x5.t (by simpa using nthd)
    have D5' := D5.mono (show _ ≤ 3000 by omega)
    have hth5 := T5.at'
    walk_at "g"
    refine ⟨⟨by omega, by omega, by omega, by rw [List.length_map]; omega, by rw [List.length_map]; omega⟩, ?_⟩
    refine w_new fun l1 H6 hl1 e6 k6 => ?_
    rw [rgV_all4 cs.length (by rw [List.length_map])] at e6
    walk_at "g"
    refine w_new fun l2 H7 hl2 e7 k7 => ?_
    walk_at "g"
    refine w_cat (k7 _ _ e6) e7 (by rw [List.length_map, List.length_range]; simp only [List.length_cons, List.length_nil]; exact Nat.le_trans (show cs.length + 1 ≤ 7 by omega) (by decide)) fun l3 H8 hl3 e8 k8 => ?_
    have k58 := Same.trans k6 (Same.trans k7 k8)
    have e8' : H8 l3 = some (.lst ((List.range cs.length ++ [0]).map nV)) := by rw [e8, List.map_append]; rfl
    have D8 : Deck H8 d c 3000 := D5'.kp (M := []) (Kp.of k58) (by simp) (by simp)
    have nl3d : l3 ≠ d := ((D5'.kp (M := []) (Kp.of (Same.trans k6 k7)) (by simp) (by simp)).ne1 hl3).1
    walk_at "g"
    refine ⟨d, c, l3, 3000, _, rfl, D8, by decide, e8', nl3d, by simp, by rw [List.length_append, List.length_range]; simp only [List.length_cons, List.length_nil]; omega, fun H9 tt qs D9 x9 ett hqs hql hqp hqo => ?_⟩
    walk_at "g"
    refine w_new fun tr0 H10 htr0 e10 k10 => ?_
    have x5_10 : KX d H5 H10 := ((KX.of k58).trans x9).trans (KX.of k10)
    have D10 : Deck H10 d c (3000 + 60) := D9.kp (M := []) (Kp.of k10) (by simp) (by simp)
    have T10 := T5.kp x5_10.p x5_10.t (by simpa using nthd)
    have hth10 := T10.at'
    refine w_seqJ (fun σ' H' => ∃ (tr r : Addr) (es : List (Addr × Str × Nat)), σ' = [some (.ref a0), some (.ref d), some (.int (ov : Int)), some (.ref th), some (.ref t), some (.ref ch), some (.ref tr), none, none, none, none, none, none, none, none, none] ∧ Same H10 H' ∧ H' tr = some (.tup [.str "tree", .ref r]) ∧ H' r = some (.tup (es.map fun q => .ref q.1)) ∧ (∀ q ∈ es, H' q.1 = some (.tup [.str q.2.1, nV q.2.2])) ∧ CtOk (cs.map (·.2)) (dsOf (cs.map (·.2))) (.tree (es.map (·.2))) ∧ depOf (dsOf (cs.map (·.2))) (.tree (es.map (·.2))) ≤ 1) ?_ ?_
    · rintro σ' H11 ⟨tr, rt', es, rfl, k11, etr, ert, hes, okt, dpt⟩
      have D11 : Deck H11 d c 3100 := (D10.kp (M := []) (Kp.of k11) (by simp) (by simp)).mono (by omega)
      have T11 := T10.same k11
      have x5_11 := x5_10.trans (KX.of k11)
      walk_at "g"
      refine w_giveE (t := 1) (c := .tree (es.map (·.2))) T11 (F3.mono (by omega)) ⟨rt', es, etr, ert, rfl, hes⟩ okt dpt (by omega) fun H12 cs1 j b1 T12 F12 hcs1 hj o12 => ?_
      have D12 : Deck H12 d c 3100 := D11.kp (M := [th]) (o12.kp (by simp)) (by simpa using nthd.symm) (by simpa using (D2.ne1 hth).2.symm)
      have leafW : ∀ (i : Nat) (a : Addr) (c : Ct), cs[i]? = some (a, c) → c.word = "leaf" := fun i a c e => by
        obtain ⟨a', rows, e'⟩ := hL i (List.getElem?_eq_some_iff.mp e).1
        rw [e] at e'
        have := congrArg Prod.snd (Option.some.inj e')
        rw [show c = Ct.leaf rows from this]
        rfl
      have hlj : cs1 = cs ++ [(tr, Ct.tree (es.map (·.2)))] ∧ j = cs.length := by
        rcases hcs1 with e | e
        · rw [e] at hj
          exact absurd (leafW j _ _ hj) (lit_ne4)
        · refine ⟨e, ?_⟩
          have hlt := (List.getElem?_eq_some_iff.mp hj).1
          rw [e, List.length_append] at hlt
          simp only [List.length_cons, List.length_nil] at hlt
          refine Classical.byContradiction fun hn => ?_
          rw [e, List.getElem?_append_left (by omega)] at hj
          exact absurd (leafW j _ _ hj) (lit_ne4)
      obtain ⟨ecs1, ej⟩ := hlj
      subst ej
      have nthc : th ≠ c := (D2.ne1 hth).2
      have rootAt : cs1[cs.length]? = some (tr, Ct.tree (es.map (·.2))) := by rw [ecs1]; simp
      have hw : ∀ (j : Nat) (a : Addr) (c : Ct), cs1[j]? = some (a, c) → c.word ≠ "version" := fun j a c e => by
        have hlt := (List.getElem?_eq_some_iff.mp e).1
        rw [ecs1] at e hlt
        rw [List.length_append] at hlt
        simp only [List.length_cons, List.length_nil] at hlt
        by_cases h : j < cs.length
        · rw [List.getElem?_append_left h] at e
          rw [leafW j _ _ e]
          exact lit_ne2
        · have : j = cs.length := by omega
          subst this
          have : c = Ct.tree (es.map (·.2)) := by simpa using (congrArg (Option.map Prod.snd) e).symm
          rw [this]
          exact lit_ne3
      have hl1 : cs1.length = cs.length + 1 := by rw [ecs1, List.length_append]; rfl
      have g01 : Grow cs cs1 := by rw [ecs1]; exact .snoc
      walk_at "g"
      refine w_draw D12 (by decide) (by decide) (by decide) fun m H13 hm D13 o13 => ?_
      have x12_13 : KX d H12 H13 := D12.kx D13 o13
      have T13 := T12.kp x12_13.p x12_13.t (by simpa using nthd)
      walk_at "g"
      try refine w_rng1' (by omega) (by omega) ?_
      refine lcp_map (walk_range (lo := 0) (n := ((m : Int)).toNat)) [] ((List.range m).map fun k => nV (cs.length + 1 + k)) (by simp) (by omega) (fun _ _ => trivial) ?_ (by simp) ?_
      · rintro i x Ha Hb R hi k ⟨rfl, rfl⟩ hR
        refine w_name ⟨rfl, ?_⟩
        walk_at "g"
        refine hR _ _ ?_ Kp.refl
        rw [List.getElem?_map, List.getElem?_range (by omega)]
        show some (V.int ((cs.length + 1 + i : Nat) : Int)) = _
        rw [show ((cs.length + 1 + i : Nat) : Int) = (cs.length : Int) + 1 + (0 + (i : Int)) by omega]
      · intro nl H14 hnl k14 e14
        have D14 : Deck H14 d c 3101 := D13.kp k14 (by simp) (by simp)
        have nnld : nl ≠ d := (D13.ne1 hnl).1
        have nnlc : nl ≠ c := (D13.ne1 hnl).2
        have T14 := T13.same k14.same
        have nth : nl ≠ th := (ne_of_none T13.at' hnl).symm
        have t5_14 : KT H5 H14 := ((x5_11.t.trans (KT.off o12 T11.at')).trans x12_13.t).trans (KT.of k14.same)
        walk_at "g"
        refine lp_list (xs := (List.range m).map fun k => nV (cs.length + 1 + k)) (fun i σ H' => (∃ y : Option V, σ = [some (.ref a0), some (.ref d), some (.int (ov : Int)), some (.ref th), some (.ref t), some (.ref ch), some (.ref tr), some (nV cs.length), some (.ref nl), y, none, none, none, none, none, none]) ∧ Deck H' d c 3101 ∧ KT H14 H' ∧ H' nl = some (.lst ((List.range m).map fun k => nV (cs.length + 1 + k))) ∧ ∃ csi, ThAt H' th csi ∧ Fam csi 1 ∧ Vsn cs1 csi cs.length i) ⟨⟨_, rfl⟩, D14, KT.refl, e14, cs1, T14, F12, fun _ _ h => h, rfl, fun j hj => absurd hj (Nat.not_lt_zero _)⟩ (fun i σ H' _ h => .of h.2.2.2.1) ?_ ?_
        · rintro i x σ H15 hx ⟨⟨y, rfl⟩, D15, t15, en15, csi, T15, F15, V15⟩
          obtain ⟨k0, hk0, rfl⟩ := map_at hx
          have hi : i < m := by
            have := (List.getElem?_eq_some_iff.mp hx).1
            rw [List.length_map, List.length_range] at this
            exact this
          have ek : k0 = i := by
            rw [List.getElem?_range hi] at hk0
            exact (Option.some.inj hk0).symm
          subst ek
          walk_at "g"
          refine w_new fun pt H16 hpt e16 k16 => ?_
          walk_at "g"
          refine w_new fun vt H17 hvt e17 k17 => ?_
          have k15 := Same.trans k16 k17
          have D17 : Deck H17 d c 3101 := D15.kp (M := []) (Kp.of k15) (by simp) (by simp)
          have okc : CtOk (csi.map (·.2)) (dsOf (csi.map (·.2))) (.ver [] cs.length (cs.length + 1 + k0)) := ⟨.nil, by simp, by simp, (isT.word (cs := csi) ⟨tr, _, V15.g _ _ rootAt⟩), by omega⟩
          have lni := V15.n
          walk_at "g"
          refine ⟨th, vt, csi, .ver [] cs.length (cs.length + 1 + k0), rfl, T15.same k15, F15.nd, ⟨pt, e17, k17 _ _ e16⟩, by omega, F15.txts, trivial, fun j b hj => absurd rfl (V15.new hw _ (List.mem_of_getElem? hj)), fun hno H18 T18 o18 => ?_⟩
          walk_at "g"
          exact ⟨⟨_, rfl⟩, D17.kp (M := [th]) (o18.kp (by simp)) (by simpa using nthd.symm) (by simpa using nthc.symm), (t15.trans (KT.of k15)).trans (KT.off o18 (T15.same k15).at'), o18.get nth (k15 _ _ en15), _, T18, F15.snoc okc (Nat.zero_le _) hno, V15.snoc⟩
        · rintro σ H15 ⟨⟨y, rfl⟩, D15, t15, en15, cs2, T15, F15, V15⟩
          rw [List.length_map, List.length_range] at V15
          walk_at "g"
          refine w_tupL (.of en15) fun pt H16 hpt e16 k16 => ?_
          have D16 : Deck H16 d c 3101 := D15.kp (M := []) (Kp.of k16) (by simp) (by simp)
          walk_at "g"
          refine w_draw D16 (by decide) (by decide) (by decide) fun st H17 hst D17 o17 => ?_
          have x16_17 : KX d H16 H17 := D16.kx D17 o17
          walk_at "g"
          refine w_new fun vt H18 hvt e18 k18 => ?_
          have e16' : H18 pt = some (.tup (((List.range m).map fun k => cs.length + 1 + k).map nV)) := by rw [k18 _ _ (x16_17.t _ _ e16), List.map_map]; rfl
          have T18 : ThAt H18 th cs2 := ((T15.same k16).kp x16_17.p x16_17.t (by simpa using nthd)).same k18
          have D18 : Deck H18 d c 3200 := (D17.kp (M := []) (Kp.of k18) (by simp) (by simp)).mono (by omega)
          have h18 : (10 : Int) ^ Int.toNat 18 = 1000000000000000000 := by decide
          have okc : CtOk (cs2.map (·.2)) (dsOf (cs2.map (·.2))) (.ver ((List.range m).map fun k => cs.length + 1 + k) cs.length st) := by
            refine ⟨?_, by rw [List.length_map, List.length_range]; omega, fun p hp => ?_, isT.word (cs := cs2) ⟨tr, _, V15.g _ _ rootAt⟩, by omega⟩
            · rw [List.pairwise_map]
              exact List.pairwise_lt_range.imp fun {a b} h => by omega
            · obtain ⟨k, hk, rfl⟩ := List.mem_map.mp hp
              obtain ⟨a, ea⟩ := V15.v k (List.mem_range.mp hk)
              rw [hl1] at ea
              exact isV.word (cs := cs2) ⟨a, _, _, _, ea⟩
          have ln2 := V15.n
          walk_at "g"
          refine w_give (c := .ver ((List.range m).map fun k => cs.length + 1 + k) cs.length st) T18 F15 ⟨pt, e18, e16'⟩ okc (Nat.zero_le _) (by omega) fun H19 cs3 jl bl T19 F19 g19 hjl hcl19 o19 => ?_
          have D19 : Deck H19 d c 3200 := D18.kp (M := [th]) (o19.kp (by simp)) (by simpa using nthd.symm) (by simpa using nthc.symm)
          have t5_19 : KT H5 H19 := ((((t5_14.trans t15).trans (KT.of k16)).trans x16_17.t).trans (KT.of k18)).trans (KT.off o19 T18.at')
          have g3 : Grow cs cs3 := fun j x h => g19 _ _ (V15.g _ _ (g01 _ _ h))
          have rootAt3 := g19 _ _ (V15.g _ _ rootAt)
          walk_at "g"
          refine ⟨th, cs3, rfl, T19, F19.ok, F19.nd, by omega, fun H20 p dx lc ld lg ds hp hlc hld hlg B20 k20 => ?_⟩
          have T20 := T19.same k20
          have t5_e : KT H11 H19 := ((((((((KT.off o12 T11.at').trans x12_13.t).trans (KT.of k14.same)).trans t15).trans (KT.of k16)).trans x16_17.t).trans (KT.of k18)).trans (KT.off o19 T18.at'))
          have t5_20 := t5_19.trans (KT.of k20)
          have hch20 := t5_20 _ _ hch
          have hrs20 : ∀ r ∈ rs, ChAt H20 r ∧ ChOk cs3 r := fun r hr => ⟨(hrs r hr).1.kt t5_20, (hrs r hr).2.grow g3⟩
          walk_at "g"
          refine w_seq ?_
          walk_at "g"
          refine ⟨rfl, rfl, p, dx, lc, ld, lg, ch, cs3, ds, (ov : Int), rs, rfl, B20, hch20, hrs20, fun H21 k21 => ?_⟩
          walk_at "g"
          refine ⟨th, ch, cs3, (ov : Int), rs, rfl, T20.same k21, k21 _ _ hch20, fun r hr => ⟨(hrs20 r hr).1.kt (KT.of k21), (hrs20 r hr).2⟩, ?_⟩
          walk_at "g"
          refine ⟨_, _, rfl, .inl ⟨rfl, trivial⟩, ?_⟩
          walk_at "g"
          refine w_seq ?_
          walk_at "g"
          refine ⟨p, dx, lc, ld, lg, ch, cs3, ds, 2, rs, rfl, B20.same k21, k21 _ _ hch20, fun r hr => ⟨(hrs20 r hr).1.kt (KT.of k21), (hrs20 r hr).2⟩, fun H22 k22 => ?_⟩
          have k20_22 := Same.trans k21 k22
          have hrs22 : ∀ r ∈ rs, ChAt H22 r ∧ ChOk cs3 r := fun r hr => ⟨(hrs20 r hr).1.kt (KT.of k20_22), (hrs20 r hr).2⟩
          walk_at "g"
          refine ⟨th, ch, cs3, 2, rs, rfl, T20.same k20_22, k20_22 _ _ hch20, hrs22, ?_⟩
          walk_at "g"
          refine ⟨_, _, rfl, .inl ⟨rfl, trivial⟩, ?_⟩
          have hch22 := k20_22 _ _ hch20
          walk_at "g"
          refine lp_tup (xs := rs.map fun r => V.ref r.1) (fun i σ H' => (∃ y1 y2 y3 : Option V, σ = [some (.ref a0), some (.ref d), some (.int (ov : Int)), some (.ref th), some (.ref t), some (.ref ch), some (.ref tr), some (nV cs.length), some (.ref nl), y1, some (nV jl), some (.ref p), y2, y3, none, none]) ∧ Same H22 H') ⟨⟨_, _, _, rfl⟩, fun _ _ e => e⟩ (fun i σ H' _ h => .of (h.2 _ _ hch22)) ?_ ?_
          · rintro i x σ H23 hx ⟨⟨y1, y2, y3, rfl⟩, k23⟩
            obtain ⟨r, hr0, rfl⟩ := map_at hx
            have hrm := List.mem_of_getElem? hr0
            have T23 : ThAt H23 th cs3 := (T20.same k20_22).same k23
            have B23 := (B20.same k20_22).same k23
            have hth23 := T23.at'
            obtain ⟨hc, hok⟩ := hrs22 r hrm
            obtain ⟨sc, e1, hS⟩ := hc.kt (KT.of k23)
            obtain ⟨⟨al, rows, hnl'⟩, hso⟩ := hok
            have atl : atI (cs3.map fun q => V.ref q.1) (r.2.1 : Int) = some (.ref al) := atI_nat (by rw [List.getElem?_map, hnl']; rfl)
            have cl := T23.ct _ (List.mem_of_getElem? hnl')
            have eleaf : leafN cs3 r.2.1 = rows.length := by unfold leafN; rw [hnl']
            obtain ⟨ra, rn, rb, rp⟩ := r
            refine w_seqJ (fun σ' H' => σ' = [some (.ref a0), some (.ref d), some (.int (ov : Int)), some (.ref th), some (.ref t), some (.ref ch), some (.ref tr), some (nV cs.length), some (.ref nl), y1, some (nV jl), some (.ref p), some (.ref ra), some (.int (chCost cs3 2 (ra, rn, rb, rp))), none, none] ∧ Same H23 H') ?_ ?_
            · rintro σ' H24 ⟨rfl, k24⟩
              walk_at "g"
              refine w_new fun one H25 h25 e25 k25 => ?_
              have k25' := Same.trans k24 k25
              walk_at "g"
              refine ⟨th, one, cs3, 2, [(ra, rn, rb, rp)], rfl, T23.same k25', e25, fun r' hr' => ?_, ?_⟩
              · have : r' = (ra, rn, rb, rp) := by simpa using hr'
                rw [this]
                exact ⟨(hc.kt (KT.of k23)).kt (KT.of k25'), ⟨al, rows, hnl'⟩, hso⟩
              · walk_at "g"
                refine ⟨_, _, rfl, .inl ⟨?_, trivial⟩, ?_⟩
                · unfold chSum
                  simp
                · walk_at "g"
                  exact ⟨⟨_, _, _, rfl⟩, Same.trans k23 k25'⟩
            · intro U hU
              cases rb with
              | none =>
                have e1' : H23 ra = some (.tup [nV rn, .non, .ref sc]) := e1
                walk_at "g"
                refine w_yes rfl ?_
                walk_at "g"
                refine w_new fun row H24 hrow e24 k24 => ?_
                walk_at "g"
                refine .inl ⟨.ref p, row, al, rn, .leaf rows, rfl, e24, cl.kt (KT.of k24), ?_⟩
                walk_at "g"
                refine hU _ _ ⟨?_, k24⟩
                show _ = [_, _, _, _, _, _, _, _, _, _, _, _, _, some (V.int (2 * (leafN cs3 rn : Int))), _, _]
                rw [eleaf]
                rfl
              | some b =>
                have e1' : H23 ra = some (.tup [nV rn, nV b, .ref sc]) := e1
                walk_at "g"
                refine w_no (fun z => nomatch z) ?_
                walk_at "g"
                refine w_new fun row H24 hrow e24 k24 => ?_
                walk_at "g"
                refine .inr ⟨.ref p, row, sc, rn, nV b, rp, rfl, e24, hS.kt (KT.of k24), hso, fun H25 k25 => ?_⟩
                walk_at "g"
                exact hU _ _ ⟨rfl, Same.trans k24 k25⟩
          · rintro σ H23 ⟨⟨y1, y2, y3, rfl⟩, k23⟩
            have T23 : ThAt H23 th cs3 := (T20.same k20_22).same k23
            have hth23 := T23.at'
            have etr23 : H23 tr = some (.tup [.str "tree", .ref rt']) := k23 _ _ (k20_22 _ _ (k20 _ _ (t5_e _ _ etr)))
            have ert23 : H23 rt' = some (.tup (es.map fun q => .ref q.1)) := k23 _ _ (k20_22 _ _ (k20 _ _ (t5_e _ _ ert)))
            have at1 : atI (cs3.map fun q => V.ref q.1) (cs.length : Int) = some (.ref tr) := atI_nat (by rw [List.getElem?_map, rootAt3]; rfl)
            have at2 : atI (cs3.map fun q => V.ref q.1) (jl : Int) = some (.ref bl) := atI_nat (by rw [List.getElem?_map, hjl]; rfl)
            have c1 := T23.ct _ (List.mem_of_getElem? rootAt3)
            have c2 := T23.ct _ (List.mem_of_getElem? hjl)
            walk_at "g"
            refine w_seq ?_
            walk_at "g"
            refine w_new fun row H24 hrow e24 k24 => ?_
            walk_at "g"
            refine .inl ⟨.ref p, row, tr, cs.length, _, rfl, e24, c1.kt (KT.of k24), ?_⟩
            have etr24 := k24 _ _ etr23
            have ert24 := k24 _ _ ert23
            walk_at "g"
            refine ⟨_, _, rfl, .inl ⟨?_, trivial⟩, ?_⟩
            · simp [ctPrice]
            have c2' := c2.kt (KT.of k24)
            have hth24 := k24 _ _ hth23
            obtain ⟨pr, g1, g2⟩ := c2'
            walk_at "g"
            refine w_seq ?_
            walk_at "g"
            refine w_new fun row2 H25 hrow2 e25 k25 => ?_
            walk_at "g"
            refine .inl ⟨.ref p, row2, bl, jl, _, rfl, e25, (c2.kt (KT.of k24)).kt (KT.of k25), ?_⟩
            walk_at "g"
            refine ⟨_, _, rfl, .inl ⟨?_, trivial⟩, ?_⟩
            · simp [ctPrice]
              omega
            walk_at "g"
            refine w_new fun q1 H26 hq1 e26 k26 => ?_
            walk_at "g"
            refine w_new fun q2 H27 hq2 e27 k27 => ?_
            walk_at "g"
            refine ⟨_, _, rfl, SD.tups (xs := [2, 3, 2, 24]) (k27 _ _ e26) e27 (by simp), ?_⟩
            walk_at "g"
            exact q _
    · intro U hU
      walk_at "g"
      refine w_ite (fun h => ?_) (fun h => ?_)
      · walk_at "g"
        refine w_new fun tu H11 htu e11 k11 => ?_
        walk_at "g"
        refine w_new fun tv H12 htv e12 k12 => ?_
        walk_at "g"
        refine hU _ _ ⟨tv, tu, [], rfl, Same.trans k11 k12, e12, k12 _ _ e11, by simp, ⟨by simp, by simp, .nil, ?_⟩, ?_⟩
        · show 1 + 0 ≤ 8
          omega
        · show 1 + 0 ≤ 1
          omega
      · have hdep := F3.dp.tree (qs.map (·.2))
        have hcs0 : 0 < cs.length := by
          rw [List.length_map] at h
          omega
        refine hU _ _ ⟨tr0, tt, qs, rfl, fun _ _ e => e, e10, k10 _ _ ett, fun q' hq' => k10 _ _ (hqs q' hq'), ⟨by rw [List.length_map]; omega, fun e he => ?_, by rw [List.pairwise_map]; exact hqp, by omega⟩, by omega⟩
        obtain ⟨q', hq', rfl⟩ := List.mem_map.mp he
        obtain ⟨g1, g2⟩ := hqo q' hq'
        refine ⟨g1, low_word (.inl (hL _ ?_))⟩
        rcases List.mem_append.mp g2 with h' | h'
        · exact List.mem_range.mp h'
        · have : q'.2.2 = 0 := by simpa using h'
          omega
end
theorem all_mk {l : PySem.W.OpenLaw} {w : World} {K : PySem.W.Frag} {h : Heap} {mg : Str → Option Value} {fa f_is_int f_is_text f_is_label f_rise f_are_ints f_rising_ints f_is_pair f_are_rows f_made_by f_is_script f_price f_rows_in f_plain_price f_price_of f_Book___init__ f_Book_named f_Book_thing f_Book_kind f_is_name f_is_kind f_is_entry f_is_tree f_depth_of f_is_version f_is_content f_row_price f_law_deck f_law_mixed f_law_draw f_law_text f_law_label f_law_give f_law_rows f_law_entries f_law_book f_law_int f_law_same f_law_script_price f_law_leaves f_law_choice_price f_law_parted f_law_own_script f_law_own_choice f_law C_Book : Addr} (X : K.In h) (G : h.Ns mainGlobals mg) (hfa : mg "law" = some (.ref fa))
    {od_is_int an_is_int : Option Addr} {sl_is_int : Array (Option Value)} {oc_is_int kV_is_int dc_is_int pm_is_int cd_is_int ct_is_int : Value}
    (a_is_int : PySem.W.nsIn K mainGlobals "is_int" = some (some (.ref f_is_int)))
    {dt_is_int : Addr} {do_is_int : Value} {dd_is_int : Option Addr} {dn_is_int : Nat} {ds_is_int : Array (Option Value)} {dk_is_int_least : Tok}
    (l_is_int : K.lookup f_is_int = some ⟨oc_is_int, od_is_int, .func (PySem.W.fnOf "is_int" "is_int" (defArgs s_is_int) (defBody s_is_int) (defScope s_is_int) (.ref dt_is_int) kV_is_int dc_is_int pm_is_int an_is_int cd_is_int ct_is_int), sl_is_int⟩) (c_is_int : PySem.W.codeIn K cd_is_int "is_int" = true) (k_is_int : PySem.W.keepIn K (.ref f_is_int) = true)
    (dl_is_int : K.lookup dt_is_int = some ⟨do_is_int, dd_is_int, .seq #[.int 0 dk_is_int_least] dn_is_int, ds_is_int⟩)
    {od_is_text an_is_text : Option Addr} {sl_is_text : Array (Option Value)} {oc_is_text kV_is_text dc_is_text pm_is_text cd_is_text ct_is_text : Value}
    (a_is_text : PySem.W.nsIn K mainGlobals "is_text" = some (some (.ref f_is_text)))
    {dt_is_text : Addr} {do_is_text : Value} {dd_is_text : Option Addr} {dn_is_text : Nat} {ds_is_text : Array (Option Value)} {dk_is_text_most : Tok}
    (l_is_text : K.lookup f_is_text = some ⟨oc_is_text, od_is_text, .func (PySem.W.fnOf "is_text" "is_text" (defArgs s_is_text) (defBody s_is_text) (defScope s_is_text) (.ref dt_is_text) kV_is_text dc_is_text pm_is_text an_is_text cd_is_text ct_is_text), sl_is_text⟩) (c_is_text : PySem.W.codeIn K cd_is_text "is_text" = true) (k_is_text : PySem.W.keepIn K (.ref f_is_text) = true)
    (dl_is_text : K.lookup dt_is_text = some ⟨do_is_text, dd_is_text, .seq #[.int 40 dk_is_text_most] dn_is_text, ds_is_text⟩)
    {od_is_label an_is_label : Option Addr} {sl_is_label : Array (Option Value)} {oc_is_label kV_is_label dc_is_label pm_is_label cd_is_label ct_is_label : Value}
    (a_is_label : PySem.W.nsIn K mainGlobals "is_label" = some (some (.ref f_is_label)))
    (l_is_label : K.lookup f_is_label = some ⟨oc_is_label, od_is_label, .func (PySem.W.fnOf "is_label" "is_label" (defArgs s_is_label) (defBody s_is_label) (defScope s_is_label) .none kV_is_label dc_is_label pm_is_label an_is_label cd_is_label ct_is_label), sl_is_label⟩) (c_is_label : PySem.W.codeIn K cd_is_label "is_label" = true) (k_is_label : PySem.W.keepIn K (.ref f_is_label) = true)
    {od_rise an_rise : Option Addr} {sl_rise : Array (Option Value)} {oc_rise kV_rise dc_rise pm_rise cd_rise ct_rise : Value}
    (a_rise : PySem.W.nsIn K mainGlobals "rise" = some (some (.ref f_rise)))
    (l_rise : K.lookup f_rise = some ⟨oc_rise, od_rise, .func (PySem.W.fnOf "rise" "rise" (defArgs s_rise) (defBody s_rise) (defScope s_rise) .none kV_rise dc_rise pm_rise an_rise cd_rise ct_rise), sl_rise⟩) (c_rise : PySem.W.codeIn K cd_rise "rise" = true) (k_rise : PySem.W.keepIn K (.ref f_rise) = true)
    {od_are_ints an_are_ints : Option Addr} {sl_are_ints : Array (Option Value)} {oc_are_ints kV_are_ints dc_are_ints pm_are_ints cd_are_ints ct_are_ints : Value}
    (a_are_ints : PySem.W.nsIn K mainGlobals "are_ints" = some (some (.ref f_are_ints)))
    (l_are_ints : K.lookup f_are_ints = some ⟨oc_are_ints, od_are_ints, .func (PySem.W.fnOf "are_ints" "are_ints" (defArgs s_are_ints) (defBody s_are_ints) (defScope s_are_ints) .none kV_are_ints dc_are_ints pm_are_ints an_are_ints cd_are_ints ct_are_ints), sl_are_ints⟩) (c_are_ints : PySem.W.codeIn K cd_are_ints "are_ints" = true) (k_are_ints : PySem.W.keepIn K (.ref f_are_ints) = true)
    {od_rising_ints an_rising_ints : Option Addr} {sl_rising_ints : Array (Option Value)} {oc_rising_ints kV_rising_ints dc_rising_ints pm_rising_ints cd_rising_ints ct_rising_ints : Value}
    (a_rising_ints : PySem.W.nsIn K mainGlobals "rising_ints" = some (some (.ref f_rising_ints)))
    (l_rising_ints : K.lookup f_rising_ints = some ⟨oc_rising_ints, od_rising_ints, .func (PySem.W.fnOf "rising_ints" "rising_ints" (defArgs s_rising_ints) (defBody s_rising_ints) (defScope s_rising_ints) .none kV_rising_ints dc_rising_ints pm_rising_ints an_rising_ints cd_rising_ints ct_rising_ints), sl_rising_ints⟩) (c_rising_ints : PySem.W.codeIn K cd_rising_ints "rising_ints" = true) (k_rising_ints : PySem.W.keepIn K (.ref f_rising_ints) = true)
    {od_is_pair an_is_pair : Option Addr} {sl_is_pair : Array (Option Value)} {oc_is_pair kV_is_pair dc_is_pair pm_is_pair cd_is_pair ct_is_pair : Value}
    (a_is_pair : PySem.W.nsIn K mainGlobals "is_pair" = some (some (.ref f_is_pair)))
    (l_is_pair : K.lookup f_is_pair = some ⟨oc_is_pair, od_is_pair, .func (PySem.W.fnOf "is_pair" "is_pair" (defArgs s_is_pair) (defBody s_is_pair) (defScope s_is_pair) .none kV_is_pair dc_is_pair pm_is_pair an_is_pair cd_is_pair ct_is_pair), sl_is_pair⟩) (c_is_pair : PySem.W.codeIn K cd_is_pair "is_pair" = true) (k_is_pair : PySem.W.keepIn K (.ref f_is_pair) = true)
    {od_are_rows an_are_rows : Option Addr} {sl_are_rows : Array (Option Value)} {oc_are_rows kV_are_rows dc_are_rows pm_are_rows cd_are_rows ct_are_rows : Value}
    (a_are_rows : PySem.W.nsIn K mainGlobals "are_rows" = some (some (.ref f_are_rows)))
    (l_are_rows : K.lookup f_are_rows = some ⟨oc_are_rows, od_are_rows, .func (PySem.W.fnOf "are_rows" "are_rows" (defArgs s_are_rows) (defBody s_are_rows) (defScope s_are_rows) .none kV_are_rows dc_are_rows pm_are_rows an_are_rows cd_are_rows ct_are_rows), sl_are_rows⟩) (c_are_rows : PySem.W.codeIn K cd_are_rows "are_rows" = true) (k_are_rows : PySem.W.keepIn K (.ref f_are_rows) = true)
    {od_made_by an_made_by : Option Addr} {sl_made_by : Array (Option Value)} {oc_made_by kV_made_by dc_made_by pm_made_by cd_made_by ct_made_by : Value}
    (a_made_by : PySem.W.nsIn K mainGlobals "made_by" = some (some (.ref f_made_by)))
    (l_made_by : K.lookup f_made_by = some ⟨oc_made_by, od_made_by, .func (PySem.W.fnOf "made_by" "made_by" (defArgs s_made_by) (defBody s_made_by) (defScope s_made_by) .none kV_made_by dc_made_by pm_made_by an_made_by cd_made_by ct_made_by), sl_made_by⟩) (c_made_by : PySem.W.codeIn K cd_made_by "made_by" = true) (k_made_by : PySem.W.keepIn K (.ref f_made_by) = true)
    {od_is_script an_is_script : Option Addr} {sl_is_script : Array (Option Value)} {oc_is_script kV_is_script dc_is_script pm_is_script cd_is_script ct_is_script : Value}
    (a_is_script : PySem.W.nsIn K mainGlobals "is_script" = some (some (.ref f_is_script)))
    (l_is_script : K.lookup f_is_script = some ⟨oc_is_script, od_is_script, .func (PySem.W.fnOf "is_script" "is_script" (defArgs s_is_script) (defBody s_is_script) (defScope s_is_script) .none kV_is_script dc_is_script pm_is_script an_is_script cd_is_script ct_is_script), sl_is_script⟩) (c_is_script : PySem.W.codeIn K cd_is_script "is_script" = true) (k_is_script : PySem.W.keepIn K (.ref f_is_script) = true)
    {od_price an_price : Option Addr} {sl_price : Array (Option Value)} {oc_price  dc_price pm_price cd_price ct_price : Value} {kd_price : Addr}
    (a_price : PySem.W.nsIn K mainGlobals "price" = some (some (.ref f_price)))
    (l_price : K.lookup f_price = some ⟨oc_price, od_price, .func (PySem.W.fnOf "price" "price" (defArgs s_price) (defBody s_price) (defScope s_price) .none (.ref kd_price) dc_price pm_price an_price cd_price ct_price), sl_price⟩) (c_price : PySem.W.codeIn K cd_price "price" = true) (k_price : PySem.W.keepIn K (.ref f_price) = true)
    {tk_price_take : Tok} (kw_price_take : PySem.W.nsIn K kd_price "take" = some (some (.int 3 tk_price_take)))
    {tk_price_put : Tok} (kw_price_put : PySem.W.nsIn K kd_price "put" = some (some (.int 2 tk_price_put)))
    {od_rows_in an_rows_in : Option Addr} {sl_rows_in : Array (Option Value)} {oc_rows_in kV_rows_in dc_rows_in pm_rows_in cd_rows_in ct_rows_in : Value}
    (a_rows_in : PySem.W.nsIn K mainGlobals "rows_in" = some (some (.ref f_rows_in)))
    (l_rows_in : K.lookup f_rows_in = some ⟨oc_rows_in, od_rows_in, .func (PySem.W.fnOf "rows_in" "rows_in" (defArgs s_rows_in) (defBody s_rows_in) (defScope s_rows_in) .none kV_rows_in dc_rows_in pm_rows_in an_rows_in cd_rows_in ct_rows_in), sl_rows_in⟩) (c_rows_in : PySem.W.codeIn K cd_rows_in "rows_in" = true) (k_rows_in : PySem.W.keepIn K (.ref f_rows_in) = true)
    {od_plain_price an_plain_price : Option Addr} {sl_plain_price : Array (Option Value)} {oc_plain_price kV_plain_price dc_plain_price pm_plain_price cd_plain_price ct_plain_price : Value}
    (a_plain_price : PySem.W.nsIn K mainGlobals "plain_price" = some (some (.ref f_plain_price)))
    (l_plain_price : K.lookup f_plain_price = some ⟨oc_plain_price, od_plain_price, .func (PySem.W.fnOf "plain_price" "plain_price" (defArgs s_plain_price) (defBody s_plain_price) (defScope s_plain_price) .none kV_plain_price dc_plain_price pm_plain_price an_plain_price cd_plain_price ct_plain_price), sl_plain_price⟩) (c_plain_price : PySem.W.codeIn K cd_plain_price "plain_price" = true) (k_plain_price : PySem.W.keepIn K (.ref f_plain_price) = true)
    {od_price_of an_price_of : Option Addr} {sl_price_of : Array (Option Value)} {oc_price_of  dc_price_of pm_price_of cd_price_of ct_price_of : Value} {kd_price_of : Addr}
    (a_price_of : PySem.W.nsIn K mainGlobals "price_of" = some (some (.ref f_price_of)))
    (l_price_of : K.lookup f_price_of = some ⟨oc_price_of, od_price_of, .func (PySem.W.fnOf "price_of" "price_of" (defArgs s_price_of) (defBody s_price_of) (defScope s_price_of) .none (.ref kd_price_of) dc_price_of pm_price_of an_price_of cd_price_of ct_price_of), sl_price_of⟩) (c_price_of : PySem.W.codeIn K cd_price_of "price_of" = true) (k_price_of : PySem.W.keepIn K (.ref f_price_of) = true)
    {tk_price_of_over : Tok} (kw_price_of_over : PySem.W.nsIn K kd_price_of "over" = some (some (.int 2 tk_price_of_over)))
    {od_Book___init__ an_Book___init__ : Option Addr} {sl_Book___init__ : Array (Option Value)} {oc_Book___init__ kV_Book___init__ dc_Book___init__ pm_Book___init__ cd_Book___init__ ct_Book___init__ : Value}
    (a_Book___init__ : PySem.W.findIn K (.ref C_Book) "__init__" = some (some (.ref f_Book___init__))) (i_Book___init__ : PySem.W.isFn K (.ref f_Book___init__) = true)
    (l_Book___init__ : K.lookup f_Book___init__ = some ⟨oc_Book___init__, od_Book___init__, .func (PySem.W.fnOf "__init__" "Book.__init__" (defArgs s_Book___init__) (defBody s_Book___init__) (defScope s_Book___init__) .none kV_Book___init__ dc_Book___init__ pm_Book___init__ an_Book___init__ cd_Book___init__ ct_Book___init__), sl_Book___init__⟩) (c_Book___init__ : PySem.W.codeIn K cd_Book___init__ "Book.__init__" = true) (k_Book___init__ : PySem.W.keepIn K (.ref f_Book___init__) = true)
    {od_Book_named an_Book_named : Option Addr} {sl_Book_named : Array (Option Value)} {oc_Book_named kV_Book_named dc_Book_named pm_Book_named cd_Book_named ct_Book_named : Value}
    (a_Book_named : PySem.W.findIn K (.ref C_Book) "named" = some (some (.ref f_Book_named))) (i_Book_named : PySem.W.isFn K (.ref f_Book_named) = true)
    (l_Book_named : K.lookup f_Book_named = some ⟨oc_Book_named, od_Book_named, .func (PySem.W.fnOf "named" "Book.named" (defArgs s_Book_named) (defBody s_Book_named) (defScope s_Book_named) .none kV_Book_named dc_Book_named pm_Book_named an_Book_named cd_Book_named ct_Book_named), sl_Book_named⟩) (c_Book_named : PySem.W.codeIn K cd_Book_named "Book.named" = true) (k_Book_named : PySem.W.keepIn K (.ref f_Book_named) = true)
    {od_Book_thing an_Book_thing : Option Addr} {sl_Book_thing : Array (Option Value)} {oc_Book_thing kV_Book_thing dc_Book_thing pm_Book_thing cd_Book_thing ct_Book_thing : Value}
    (a_Book_thing : PySem.W.findIn K (.ref C_Book) "thing" = some (some (.ref f_Book_thing))) (i_Book_thing : PySem.W.isFn K (.ref f_Book_thing) = true)
    (l_Book_thing : K.lookup f_Book_thing = some ⟨oc_Book_thing, od_Book_thing, .func (PySem.W.fnOf "thing" "Book.thing" (defArgs s_Book_thing) (defBody s_Book_thing) (defScope s_Book_thing) .none kV_Book_thing dc_Book_thing pm_Book_thing an_Book_thing cd_Book_thing ct_Book_thing), sl_Book_thing⟩) (c_Book_thing : PySem.W.codeIn K cd_Book_thing "Book.thing" = true) (k_Book_thing : PySem.W.keepIn K (.ref f_Book_thing) = true)
    {od_Book_kind an_Book_kind : Option Addr} {sl_Book_kind : Array (Option Value)} {oc_Book_kind kV_Book_kind dc_Book_kind pm_Book_kind cd_Book_kind ct_Book_kind : Value}
    (a_Book_kind : PySem.W.findIn K (.ref C_Book) "kind" = some (some (.ref f_Book_kind))) (i_Book_kind : PySem.W.isFn K (.ref f_Book_kind) = true)
    (l_Book_kind : K.lookup f_Book_kind = some ⟨oc_Book_kind, od_Book_kind, .func (PySem.W.fnOf "kind" "Book.kind" (defArgs s_Book_kind) (defBody s_Book_kind) (defScope s_Book_kind) .none kV_Book_kind dc_Book_kind pm_Book_kind an_Book_kind cd_Book_kind ct_Book_kind), sl_Book_kind⟩) (c_Book_kind : PySem.W.codeIn K cd_Book_kind "Book.kind" = true) (k_Book_kind : PySem.W.keepIn K (.ref f_Book_kind) = true)
    {od_is_name an_is_name : Option Addr} {sl_is_name : Array (Option Value)} {oc_is_name kV_is_name dc_is_name pm_is_name cd_is_name ct_is_name : Value}
    (a_is_name : PySem.W.nsIn K mainGlobals "is_name" = some (some (.ref f_is_name)))
    (l_is_name : K.lookup f_is_name = some ⟨oc_is_name, od_is_name, .func (PySem.W.fnOf "is_name" "is_name" (defArgs s_is_name) (defBody s_is_name) (defScope s_is_name) .none kV_is_name dc_is_name pm_is_name an_is_name cd_is_name ct_is_name), sl_is_name⟩) (c_is_name : PySem.W.codeIn K cd_is_name "is_name" = true) (k_is_name : PySem.W.keepIn K (.ref f_is_name) = true)
    {od_is_kind an_is_kind : Option Addr} {sl_is_kind : Array (Option Value)} {oc_is_kind kV_is_kind dc_is_kind pm_is_kind cd_is_kind ct_is_kind : Value}
    (a_is_kind : PySem.W.nsIn K mainGlobals "is_kind" = some (some (.ref f_is_kind)))
    (l_is_kind : K.lookup f_is_kind = some ⟨oc_is_kind, od_is_kind, .func (PySem.W.fnOf "is_kind" "is_kind" (defArgs s_is_kind) (defBody s_is_kind) (defScope s_is_kind) .none kV_is_kind dc_is_kind pm_is_kind an_is_kind cd_is_kind ct_is_kind), sl_is_kind⟩) (c_is_kind : PySem.W.codeIn K cd_is_kind "is_kind" = true) (k_is_kind : PySem.W.keepIn K (.ref f_is_kind) = true)
    {od_is_entry an_is_entry : Option Addr} {sl_is_entry : Array (Option Value)} {oc_is_entry kV_is_entry dc_is_entry pm_is_entry cd_is_entry ct_is_entry : Value}
    (a_is_entry : PySem.W.nsIn K mainGlobals "is_entry" = some (some (.ref f_is_entry)))
    (l_is_entry : K.lookup f_is_entry = some ⟨oc_is_entry, od_is_entry, .func (PySem.W.fnOf "is_entry" "is_entry" (defArgs s_is_entry) (defBody s_is_entry) (defScope s_is_entry) .none kV_is_entry dc_is_entry pm_is_entry an_is_entry cd_is_entry ct_is_entry), sl_is_entry⟩) (c_is_entry : PySem.W.codeIn K cd_is_entry "is_entry" = true) (k_is_entry : PySem.W.keepIn K (.ref f_is_entry) = true)
    {od_is_tree an_is_tree : Option Addr} {sl_is_tree : Array (Option Value)} {oc_is_tree kV_is_tree dc_is_tree pm_is_tree cd_is_tree ct_is_tree : Value}
    (a_is_tree : PySem.W.nsIn K mainGlobals "is_tree" = some (some (.ref f_is_tree)))
    (l_is_tree : K.lookup f_is_tree = some ⟨oc_is_tree, od_is_tree, .func (PySem.W.fnOf "is_tree" "is_tree" (defArgs s_is_tree) (defBody s_is_tree) (defScope s_is_tree) .none kV_is_tree dc_is_tree pm_is_tree an_is_tree cd_is_tree ct_is_tree), sl_is_tree⟩) (c_is_tree : PySem.W.codeIn K cd_is_tree "is_tree" = true) (k_is_tree : PySem.W.keepIn K (.ref f_is_tree) = true)
    {od_depth_of an_depth_of : Option Addr} {sl_depth_of : Array (Option Value)} {oc_depth_of kV_depth_of dc_depth_of pm_depth_of cd_depth_of ct_depth_of : Value}
    (a_depth_of : PySem.W.nsIn K mainGlobals "depth_of" = some (some (.ref f_depth_of)))
    (l_depth_of : K.lookup f_depth_of = some ⟨oc_depth_of, od_depth_of, .func (PySem.W.fnOf "depth_of" "depth_of" (defArgs s_depth_of) (defBody s_depth_of) (defScope s_depth_of) .none kV_depth_of dc_depth_of pm_depth_of an_depth_of cd_depth_of ct_depth_of), sl_depth_of⟩) (c_depth_of : PySem.W.codeIn K cd_depth_of "depth_of" = true) (k_depth_of : PySem.W.keepIn K (.ref f_depth_of) = true)
    {od_is_version an_is_version : Option Addr} {sl_is_version : Array (Option Value)} {oc_is_version kV_is_version dc_is_version pm_is_version cd_is_version ct_is_version : Value}
    (a_is_version : PySem.W.nsIn K mainGlobals "is_version" = some (some (.ref f_is_version)))
    (l_is_version : K.lookup f_is_version = some ⟨oc_is_version, od_is_version, .func (PySem.W.fnOf "is_version" "is_version" (defArgs s_is_version) (defBody s_is_version) (defScope s_is_version) .none kV_is_version dc_is_version pm_is_version an_is_version cd_is_version ct_is_version), sl_is_version⟩) (c_is_version : PySem.W.codeIn K cd_is_version "is_version" = true) (k_is_version : PySem.W.keepIn K (.ref f_is_version) = true)
    {od_is_content an_is_content : Option Addr} {sl_is_content : Array (Option Value)} {oc_is_content kV_is_content dc_is_content pm_is_content cd_is_content ct_is_content : Value}
    (a_is_content : PySem.W.nsIn K mainGlobals "is_content" = some (some (.ref f_is_content)))
    (l_is_content : K.lookup f_is_content = some ⟨oc_is_content, od_is_content, .func (PySem.W.fnOf "is_content" "is_content" (defArgs s_is_content) (defBody s_is_content) (defScope s_is_content) .none kV_is_content dc_is_content pm_is_content an_is_content cd_is_content ct_is_content), sl_is_content⟩) (c_is_content : PySem.W.codeIn K cd_is_content "is_content" = true) (k_is_content : PySem.W.keepIn K (.ref f_is_content) = true)
    {od_row_price an_row_price : Option Addr} {sl_row_price : Array (Option Value)} {oc_row_price kV_row_price dc_row_price pm_row_price cd_row_price ct_row_price : Value}
    (a_row_price : PySem.W.nsIn K mainGlobals "row_price" = some (some (.ref f_row_price)))
    (l_row_price : K.lookup f_row_price = some ⟨oc_row_price, od_row_price, .func (PySem.W.fnOf "row_price" "row_price" (defArgs s_row_price) (defBody s_row_price) (defScope s_row_price) .none kV_row_price dc_row_price pm_row_price an_row_price cd_row_price ct_row_price), sl_row_price⟩) (c_row_price : PySem.W.codeIn K cd_row_price "row_price" = true) (k_row_price : PySem.W.keepIn K (.ref f_row_price) = true)
    {od_law_deck an_law_deck : Option Addr} {sl_law_deck : Array (Option Value)} {oc_law_deck kV_law_deck dc_law_deck pm_law_deck cd_law_deck ct_law_deck : Value}
    (a_law_deck : PySem.W.nsIn K mainGlobals "_law_deck" = some (some (.ref f_law_deck)))
    (l_law_deck : K.lookup f_law_deck = some ⟨oc_law_deck, od_law_deck, .func (PySem.W.fnOf "_law_deck" "_law_deck" (defArgs s_law_deck) (defBody s_law_deck) (defScope s_law_deck) .none kV_law_deck dc_law_deck pm_law_deck an_law_deck cd_law_deck ct_law_deck), sl_law_deck⟩) (c_law_deck : PySem.W.codeIn K cd_law_deck "_law_deck" = true) (k_law_deck : PySem.W.keepIn K (.ref f_law_deck) = true)
    {od_law_mixed an_law_mixed : Option Addr} {sl_law_mixed : Array (Option Value)} {oc_law_mixed kV_law_mixed dc_law_mixed pm_law_mixed cd_law_mixed ct_law_mixed : Value}
    (a_law_mixed : PySem.W.nsIn K mainGlobals "_law_mixed" = some (some (.ref f_law_mixed)))
    (l_law_mixed : K.lookup f_law_mixed = some ⟨oc_law_mixed, od_law_mixed, .func (PySem.W.fnOf "_law_mixed" "_law_mixed" (defArgs s_law_mixed) (defBody s_law_mixed) (defScope s_law_mixed) .none kV_law_mixed dc_law_mixed pm_law_mixed an_law_mixed cd_law_mixed ct_law_mixed), sl_law_mixed⟩) (c_law_mixed : PySem.W.codeIn K cd_law_mixed "_law_mixed" = true) (k_law_mixed : PySem.W.keepIn K (.ref f_law_mixed) = true)
    {od_law_draw an_law_draw : Option Addr} {sl_law_draw : Array (Option Value)} {oc_law_draw kV_law_draw dc_law_draw pm_law_draw cd_law_draw ct_law_draw : Value}
    (a_law_draw : PySem.W.nsIn K mainGlobals "_law_draw" = some (some (.ref f_law_draw)))
    (l_law_draw : K.lookup f_law_draw = some ⟨oc_law_draw, od_law_draw, .func (PySem.W.fnOf "_law_draw" "_law_draw" (defArgs s_law_draw) (defBody s_law_draw) (defScope s_law_draw) .none kV_law_draw dc_law_draw pm_law_draw an_law_draw cd_law_draw ct_law_draw), sl_law_draw⟩) (c_law_draw : PySem.W.codeIn K cd_law_draw "_law_draw" = true) (k_law_draw : PySem.W.keepIn K (.ref f_law_draw) = true)
    {od_law_text an_law_text : Option Addr} {sl_law_text : Array (Option Value)} {oc_law_text kV_law_text dc_law_text pm_law_text cd_law_text ct_law_text : Value}
    (a_law_text : PySem.W.nsIn K mainGlobals "_law_text" = some (some (.ref f_law_text)))
    (l_law_text : K.lookup f_law_text = some ⟨oc_law_text, od_law_text, .func (PySem.W.fnOf "_law_text" "_law_text" (defArgs s_law_text) (defBody s_law_text) (defScope s_law_text) .none kV_law_text dc_law_text pm_law_text an_law_text cd_law_text ct_law_text), sl_law_text⟩) (c_law_text : PySem.W.codeIn K cd_law_text "_law_text" = true) (k_law_text : PySem.W.keepIn K (.ref f_law_text) = true)
    {od_law_label an_law_label : Option Addr} {sl_law_label : Array (Option Value)} {oc_law_label kV_law_label dc_law_label pm_law_label cd_law_label ct_law_label : Value}
    (a_law_label : PySem.W.nsIn K mainGlobals "_law_label" = some (some (.ref f_law_label)))
    (l_law_label : K.lookup f_law_label = some ⟨oc_law_label, od_law_label, .func (PySem.W.fnOf "_law_label" "_law_label" (defArgs s_law_label) (defBody s_law_label) (defScope s_law_label) .none kV_law_label dc_law_label pm_law_label an_law_label cd_law_label ct_law_label), sl_law_label⟩) (c_law_label : PySem.W.codeIn K cd_law_label "_law_label" = true) (k_law_label : PySem.W.keepIn K (.ref f_law_label) = true)
    {od_law_give an_law_give : Option Addr} {sl_law_give : Array (Option Value)} {oc_law_give kV_law_give dc_law_give pm_law_give cd_law_give ct_law_give : Value}
    (a_law_give : PySem.W.nsIn K mainGlobals "_law_give" = some (some (.ref f_law_give)))
    (l_law_give : K.lookup f_law_give = some ⟨oc_law_give, od_law_give, .func (PySem.W.fnOf "_law_give" "_law_give" (defArgs s_law_give) (defBody s_law_give) (defScope s_law_give) .none kV_law_give dc_law_give pm_law_give an_law_give cd_law_give ct_law_give), sl_law_give⟩) (c_law_give : PySem.W.codeIn K cd_law_give "_law_give" = true) (k_law_give : PySem.W.keepIn K (.ref f_law_give) = true)
    {od_law_rows an_law_rows : Option Addr} {sl_law_rows : Array (Option Value)} {oc_law_rows kV_law_rows dc_law_rows pm_law_rows cd_law_rows ct_law_rows : Value}
    (a_law_rows : PySem.W.nsIn K mainGlobals "_law_rows" = some (some (.ref f_law_rows)))
    (l_law_rows : K.lookup f_law_rows = some ⟨oc_law_rows, od_law_rows, .func (PySem.W.fnOf "_law_rows" "_law_rows" (defArgs s_law_rows) (defBody s_law_rows) (defScope s_law_rows) .none kV_law_rows dc_law_rows pm_law_rows an_law_rows cd_law_rows ct_law_rows), sl_law_rows⟩) (c_law_rows : PySem.W.codeIn K cd_law_rows "_law_rows" = true) (k_law_rows : PySem.W.keepIn K (.ref f_law_rows) = true)
    {od_law_entries an_law_entries : Option Addr} {sl_law_entries : Array (Option Value)} {oc_law_entries kV_law_entries dc_law_entries pm_law_entries cd_law_entries ct_law_entries : Value}
    (a_law_entries : PySem.W.nsIn K mainGlobals "_law_entries" = some (some (.ref f_law_entries)))
    (l_law_entries : K.lookup f_law_entries = some ⟨oc_law_entries, od_law_entries, .func (PySem.W.fnOf "_law_entries" "_law_entries" (defArgs s_law_entries) (defBody s_law_entries) (defScope s_law_entries) .none kV_law_entries dc_law_entries pm_law_entries an_law_entries cd_law_entries ct_law_entries), sl_law_entries⟩) (c_law_entries : PySem.W.codeIn K cd_law_entries "_law_entries" = true) (k_law_entries : PySem.W.keepIn K (.ref f_law_entries) = true)
    {od_law_book an_law_book : Option Addr} {sl_law_book : Array (Option Value)} {oc_law_book kV_law_book dc_law_book pm_law_book cd_law_book ct_law_book : Value}
    (a_law_book : PySem.W.nsIn K mainGlobals "_law_book" = some (some (.ref f_law_book)))
    (l_law_book : K.lookup f_law_book = some ⟨oc_law_book, od_law_book, .func (PySem.W.fnOf "_law_book" "_law_book" (defArgs s_law_book) (defBody s_law_book) (defScope s_law_book) .none kV_law_book dc_law_book pm_law_book an_law_book cd_law_book ct_law_book), sl_law_book⟩) (c_law_book : PySem.W.codeIn K cd_law_book "_law_book" = true) (k_law_book : PySem.W.keepIn K (.ref f_law_book) = true)
    {od_law_int an_law_int : Option Addr} {sl_law_int : Array (Option Value)} {oc_law_int kV_law_int dc_law_int pm_law_int cd_law_int ct_law_int : Value}
    (a_law_int : PySem.W.nsIn K mainGlobals "_law_int" = some (some (.ref f_law_int)))
    (l_law_int : K.lookup f_law_int = some ⟨oc_law_int, od_law_int, .func (PySem.W.fnOf "_law_int" "_law_int" (defArgs s_law_int) (defBody s_law_int) (defScope s_law_int) .none kV_law_int dc_law_int pm_law_int an_law_int cd_law_int ct_law_int), sl_law_int⟩) (c_law_int : PySem.W.codeIn K cd_law_int "_law_int" = true) (k_law_int : PySem.W.keepIn K (.ref f_law_int) = true)
    {od_law_same an_law_same : Option Addr} {sl_law_same : Array (Option Value)} {oc_law_same kV_law_same dc_law_same pm_law_same cd_law_same ct_law_same : Value}
    (a_law_same : PySem.W.nsIn K mainGlobals "_law_same" = some (some (.ref f_law_same)))
    (l_law_same : K.lookup f_law_same = some ⟨oc_law_same, od_law_same, .func (PySem.W.fnOf "_law_same" "_law_same" (defArgs s_law_same) (defBody s_law_same) (defScope s_law_same) .none kV_law_same dc_law_same pm_law_same an_law_same cd_law_same ct_law_same), sl_law_same⟩) (c_law_same : PySem.W.codeIn K cd_law_same "_law_same" = true) (k_law_same : PySem.W.keepIn K (.ref f_law_same) = true)
    {od_law_script_price an_law_script_price : Option Addr} {sl_law_script_price : Array (Option Value)} {oc_law_script_price kV_law_script_price dc_law_script_price pm_law_script_price cd_law_script_price ct_law_script_price : Value}
    (a_law_script_price : PySem.W.nsIn K mainGlobals "_law_script_price" = some (some (.ref f_law_script_price)))
    (l_law_script_price : K.lookup f_law_script_price = some ⟨oc_law_script_price, od_law_script_price, .func (PySem.W.fnOf "_law_script_price" "_law_script_price" (defArgs s_law_script_price) (defBody s_law_script_price) (defScope s_law_script_price) .none kV_law_script_price dc_law_script_price pm_law_script_price an_law_script_price cd_law_script_price ct_law_script_price), sl_law_script_price⟩) (c_law_script_price : PySem.W.codeIn K cd_law_script_price "_law_script_price" = true) (k_law_script_price : PySem.W.keepIn K (.ref f_law_script_price) = true)
    {od_law_leaves an_law_leaves : Option Addr} {sl_law_leaves : Array (Option Value)} {oc_law_leaves kV_law_leaves dc_law_leaves pm_law_leaves cd_law_leaves ct_law_leaves : Value}
    (a_law_leaves : PySem.W.nsIn K mainGlobals "_law_leaves" = some (some (.ref f_law_leaves)))
    (l_law_leaves : K.lookup f_law_leaves = some ⟨oc_law_leaves, od_law_leaves, .func (PySem.W.fnOf "_law_leaves" "_law_leaves" (defArgs s_law_leaves) (defBody s_law_leaves) (defScope s_law_leaves) .none kV_law_leaves dc_law_leaves pm_law_leaves an_law_leaves cd_law_leaves ct_law_leaves), sl_law_leaves⟩) (c_law_leaves : PySem.W.codeIn K cd_law_leaves "_law_leaves" = true) (k_law_leaves : PySem.W.keepIn K (.ref f_law_leaves) = true)
    {od_law_choice_price an_law_choice_price : Option Addr} {sl_law_choice_price : Array (Option Value)} {oc_law_choice_price kV_law_choice_price dc_law_choice_price pm_law_choice_price cd_law_choice_price ct_law_choice_price : Value}
    (a_law_choice_price : PySem.W.nsIn K mainGlobals "_law_choice_price" = some (some (.ref f_law_choice_price)))
    (l_law_choice_price : K.lookup f_law_choice_price = some ⟨oc_law_choice_price, od_law_choice_price, .func (PySem.W.fnOf "_law_choice_price" "_law_choice_price" (defArgs s_law_choice_price) (defBody s_law_choice_price) (defScope s_law_choice_price) .none kV_law_choice_price dc_law_choice_price pm_law_choice_price an_law_choice_price cd_law_choice_price ct_law_choice_price), sl_law_choice_price⟩) (c_law_choice_price : PySem.W.codeIn K cd_law_choice_price "_law_choice_price" = true) (k_law_choice_price : PySem.W.keepIn K (.ref f_law_choice_price) = true)
    {od_law_parted an_law_parted : Option Addr} {sl_law_parted : Array (Option Value)} {oc_law_parted kV_law_parted dc_law_parted pm_law_parted cd_law_parted ct_law_parted : Value}
    (a_law_parted : PySem.W.nsIn K mainGlobals "_law_parted" = some (some (.ref f_law_parted)))
    (l_law_parted : K.lookup f_law_parted = some ⟨oc_law_parted, od_law_parted, .func (PySem.W.fnOf "_law_parted" "_law_parted" (defArgs s_law_parted) (defBody s_law_parted) (defScope s_law_parted) .none kV_law_parted dc_law_parted pm_law_parted an_law_parted cd_law_parted ct_law_parted), sl_law_parted⟩) (c_law_parted : PySem.W.codeIn K cd_law_parted "_law_parted" = true) (k_law_parted : PySem.W.keepIn K (.ref f_law_parted) = true)
    {od_law_own_script an_law_own_script : Option Addr} {sl_law_own_script : Array (Option Value)} {oc_law_own_script kV_law_own_script dc_law_own_script pm_law_own_script cd_law_own_script ct_law_own_script : Value}
    (a_law_own_script : PySem.W.nsIn K mainGlobals "_law_own_script" = some (some (.ref f_law_own_script)))
    (l_law_own_script : K.lookup f_law_own_script = some ⟨oc_law_own_script, od_law_own_script, .func (PySem.W.fnOf "_law_own_script" "_law_own_script" (defArgs s_law_own_script) (defBody s_law_own_script) (defScope s_law_own_script) .none kV_law_own_script dc_law_own_script pm_law_own_script an_law_own_script cd_law_own_script ct_law_own_script), sl_law_own_script⟩) (c_law_own_script : PySem.W.codeIn K cd_law_own_script "_law_own_script" = true) (k_law_own_script : PySem.W.keepIn K (.ref f_law_own_script) = true)
    {od_law_own_choice an_law_own_choice : Option Addr} {sl_law_own_choice : Array (Option Value)} {oc_law_own_choice kV_law_own_choice dc_law_own_choice pm_law_own_choice cd_law_own_choice ct_law_own_choice : Value}
    (a_law_own_choice : PySem.W.nsIn K mainGlobals "_law_own_choice" = some (some (.ref f_law_own_choice)))
    (l_law_own_choice : K.lookup f_law_own_choice = some ⟨oc_law_own_choice, od_law_own_choice, .func (PySem.W.fnOf "_law_own_choice" "_law_own_choice" (defArgs s_law_own_choice) (defBody s_law_own_choice) (defScope s_law_own_choice) .none kV_law_own_choice dc_law_own_choice pm_law_own_choice an_law_own_choice cd_law_own_choice ct_law_own_choice), sl_law_own_choice⟩) (c_law_own_choice : PySem.W.codeIn K cd_law_own_choice "_law_own_choice" = true) (k_law_own_choice : PySem.W.keepIn K (.ref f_law_own_choice) = true)
    {od_law an_law : Option Addr} {sl_law : Array (Option Value)} {oc_law kV_law dc_law pm_law cd_law ct_law : Value}
    (a_law : PySem.W.nsIn K mainGlobals "law" = some (some (.ref f_law)))
    (l_law : K.lookup f_law = some ⟨oc_law, od_law, .func (PySem.W.fnOf "law" "law" (defArgs s_law) (defBody s_law) (defScope s_law) .none kV_law dc_law pm_law an_law cd_law ct_law), sl_law⟩) (c_law : PySem.W.codeIn K cd_law "law" = true) (k_law : PySem.W.keepIn K (.ref f_law) = true)
    (kga_Book : PySem.W.nsIn K mainGlobals "Book" = some (some (.ref C_Book))) (kpg_Book : PySem.W.plainGet K C_Book Str.empty = true) (khd_Book : PySem.W.hasDictIn K C_Book = true) (kpo_Book : PySem.W.plainOver K C_Book = true) (ksa_Book : PySem.W.findIn K (.ref C_Book) "__setattr__" = some (some (.builtin "object.__setattr__"))) (kmk_Book : PySem.W.makesIn K C_Book = true) (kkc_Book : PySem.W.keepIn K (.ref C_Book) = true)
    (kna_Book_contents : PySem.W.findIn K (.ref C_Book) "contents" = some none)
    (kna_Book_depths : PySem.W.findIn K (.ref C_Book) "depths" = some none)
    (kna_Book_given : PySem.W.findIn K (.ref C_Book) "given" = some none)
    (z_len : PySem.W.nsIn K mainGlobals "len" = some none)
    (z_list : PySem.W.nsIn K mainGlobals "list" = some none)
    (z_isinstance : PySem.W.nsIn K mainGlobals "isinstance" = some none)
    (z_int : PySem.W.nsIn K mainGlobals "int" = some none)
    (z_bool : PySem.W.nsIn K mainGlobals "bool" = some none)
    (z_str : PySem.W.nsIn K mainGlobals "str" = some none)
    (z_tuple : PySem.W.nsIn K mainGlobals "tuple" = some none)
    (z_dict : PySem.W.nsIn K mainGlobals "dict" = some none)
    (z_range : PySem.W.nsIn K mainGlobals "range" = some none)
    (z_all : PySem.W.nsIn K mainGlobals "all" = some none)
    (z_min : PySem.W.nsIn K mainGlobals "min" = some none)
    (z_max : PySem.W.nsIn K mainGlobals "max" = some none)
    (z_sorted : PySem.W.nsIn K mainGlobals "sorted" = some none)
    {t_SIGNS : Tok} (y_SIGNS : PySem.W.nsIn K mainGlobals "SIGNS" = some (some (.str " !\"#$&'()*+,-./0123456789:;<=>?@ABCDEFGHIJKLMNOPQRSTUVWXYZ[\\]^_`abcdefghijklmnopqrstuvwxyz{|}~" t_SIGNS)))
    {t_LETTERS : Tok} (y_LETTERS : PySem.W.nsIn K mainGlobals "LETTERS" = some (some (.str "abcdefghijklmnopqrstuvwxyz" t_LETTERS)))
    {t_MOST : Tok} (y_MOST : PySem.W.nsIn K mainGlobals "MOST" = some (some (.int 400 t_MOST)))
    {t_DEEP : Tok} (y_DEEP : PySem.W.nsIn K mainGlobals "DEEP" = some (some (.int 8 t_DEEP)))
    {t_TAKE : Tok} (y_TAKE : PySem.W.nsIn K mainGlobals "TAKE" = some (some (.int 3 t_TAKE)))
    {t_PUT : Tok} (y_PUT : PySem.W.nsIn K mainGlobals "PUT" = some (some (.int 2 t_PUT)))
    {t_ROWS : Tok} (y_ROWS : PySem.W.nsIn K mainGlobals "ROWS" = some (some (.int 40 t_ROWS)))
    {t_OVER : Tok} (y_OVER : PySem.W.nsIn K mainGlobals "OVER" = some (some (.int 2 t_OVER)))
    {t_PACK : Tok} (y_PACK : PySem.W.nsIn K mainGlobals "PACK" = some (some (.int 24 t_PACK)))
    : ∃ fd : FuncData, (∀ (s : Shared) (v : Value), BindsTo s fd ⟨[v], []⟩ [("_law_script", v)]) ∧ ∀ base : Heap, K.In base → base.Ns mainGlobals mg → FnOk l.prog w K mg base CX0 10 fa fd ["_law_script"] (spLaw K) := by
  have e := hfa.symm.trans (PySem.W.mg_of X G a_law)
  cases e
  have F_is_int : FunD K "is_int" "is_int" (defArgs s_is_int) (defBody s_is_int) (defScope s_is_int) [V.int 0] [] f_is_int _ := ⟨⟨_, _, _, _, _, _, _, _, _, _, rfl, l_is_int, c_is_int, .inr ⟨by simp, _, _, [.int 0 dk_is_int_least], _, rfl, dl_is_int, rfl, .cons ⟨_, rfl⟩ (.nil)⟩, .inl rfl⟩, k_is_int⟩
  have D_is_int : DfD K mg "is_int" s_is_int ["thing", "least"] [V.int 0] _ _ := ⟨F_is_int, PySem.W.mg_of X G a_is_int, k_is_int, F_is_int.binds1 (ps := ["thing", "least"]) 1 0 (by simp) rfl fun _ _ _ _ _ _ _ us its hu hi => match us, its, hu, hi with | [_], [_], _, _ => ⟨_, rfl, rfl⟩⟩
  have F_is_text : FunD K "is_text" "is_text" (defArgs s_is_text) (defBody s_is_text) (defScope s_is_text) [V.int 40] [] f_is_text _ := ⟨⟨_, _, _, _, _, _, _, _, _, _, rfl, l_is_text, c_is_text, .inr ⟨by simp, _, _, [.int 40 dk_is_text_most], _, rfl, dl_is_text, rfl, .cons ⟨_, rfl⟩ (.nil)⟩, .inl rfl⟩, k_is_text⟩
  have D_is_text : DfD K mg "is_text" s_is_text ["thing", "most"] [V.int 40] _ _ := ⟨F_is_text, PySem.W.mg_of X G a_is_text, k_is_text, F_is_text.binds1 (ps := ["thing", "most"]) 1 0 (by simp) rfl fun _ _ _ _ _ _ _ us its hu hi => match us, its, hu, hi with | [_], [_], _, _ => ⟨_, rfl, rfl⟩⟩
  have F_is_label := fun_mk (st := s_is_label) l_is_label c_is_label k_is_label
  have D_is_label : Df K mg "is_label" s_is_label ["thing"] _ _ := ⟨F_is_label, F_is_label.binds (ps := ["thing"]) fun _ _ _ _ _ _ us hl => match us, hl with | [_], _ => rfl, PySem.W.mg_of X G a_is_label⟩
  have F_rise := fun_mk (st := s_rise) l_rise c_rise k_rise
  have D_rise : Df K mg "rise" s_rise ["row"] _ _ := ⟨F_rise, F_rise.binds (ps := ["row"]) fun _ _ _ _ _ _ us hl => match us, hl with | [_], _ => rfl, PySem.W.mg_of X G a_rise⟩
  have F_are_ints := fun_mk (st := s_are_ints) l_are_ints c_are_ints k_are_ints
  have D_are_ints : Df K mg "are_ints" s_are_ints ["thing"] _ _ := ⟨F_are_ints, F_are_ints.binds (ps := ["thing"]) fun _ _ _ _ _ _ us hl => match us, hl with | [_], _ => rfl, PySem.W.mg_of X G a_are_ints⟩
  have F_rising_ints := fun_mk (st := s_rising_ints) l_rising_ints c_rising_ints k_rising_ints
  have D_rising_ints : Df K mg "rising_ints" s_rising_ints ["thing"] _ _ := ⟨F_rising_ints, F_rising_ints.binds (ps := ["thing"]) fun _ _ _ _ _ _ us hl => match us, hl with | [_], _ => rfl, PySem.W.mg_of X G a_rising_ints⟩
  have F_is_pair := fun_mk (st := s_is_pair) l_is_pair c_is_pair k_is_pair
  have D_is_pair : Df K mg "is_pair" s_is_pair ["thing"] _ _ := ⟨F_is_pair, F_is_pair.binds (ps := ["thing"]) fun _ _ _ _ _ _ us hl => match us, hl with | [_], _ => rfl, PySem.W.mg_of X G a_is_pair⟩
  have F_are_rows := fun_mk (st := s_are_rows) l_are_rows c_are_rows k_are_rows
  have D_are_rows : Df K mg "are_rows" s_are_rows ["thing"] _ _ := ⟨F_are_rows, F_are_rows.binds (ps := ["thing"]) fun _ _ _ _ _ _ us hl => match us, hl with | [_], _ => rfl, PySem.W.mg_of X G a_are_rows⟩
  have F_made_by := fun_mk (st := s_made_by) l_made_by c_made_by k_made_by
  have D_made_by : Df K mg "made_by" s_made_by ["thing"] _ _ := ⟨F_made_by, F_made_by.binds (ps := ["thing"]) fun _ _ _ _ _ _ us hl => match us, hl with | [_], _ => rfl, PySem.W.mg_of X G a_made_by⟩
  have F_is_script := fun_mk (st := s_is_script) l_is_script c_is_script k_is_script
  have D_is_script : Df K mg "is_script" s_is_script ["thing"] _ _ := ⟨F_is_script, F_is_script.binds (ps := ["thing"]) fun _ _ _ _ _ _ us hl => match us, hl with | [_], _ => rfl, PySem.W.mg_of X G a_is_script⟩
  have F_price : FunD K "price" "price" (defArgs s_price) (defBody s_price) (defScope s_price) [] [(("take" : Str), V.int 3), (("put" : Str), V.int 2)] f_price _ := ⟨⟨_, _, _, _, _, _, _, _, _, _, rfl, l_price, c_price, .inl ⟨rfl, rfl⟩, .inr ⟨_, rfl, fun q hq => by
    rcases (by simpa using hq : q = (("take" : Str), V.int 3) ∨ q = (("put" : Str), V.int 2)) with rfl | rfl
    · exact ⟨_, kw_price_take, ⟨_, rfl⟩⟩
    · exact ⟨_, kw_price_put, ⟨_, rfl⟩⟩⟩⟩, k_price⟩
  have D_price : DfKs K mg "price" s_price ["script", "take", "put"] [(("take" : Str), V.int 3), (("put" : Str), V.int 2)] [V.int 3, V.int 2] _ _ := ⟨F_price, PySem.W.mg_of X G a_price, k_price, F_price.binds0 (ps := ["script", "take", "put"]) 1 (by simp) rfl fun _ _ _ _ _ _ us ks hu hk => match us, ks, hu, hk with | [_], [_, _], _, _ => ⟨_, _, _, _, _, _, rfl, rfl, ⟨_, _, _, _, _, _, rfl, rfl, rfl⟩⟩⟩
  have F_rows_in := fun_mk (st := s_rows_in) l_rows_in c_rows_in k_rows_in
  have D_rows_in : Df K mg "rows_in" s_rows_in ["book", "leaf"] _ _ := ⟨F_rows_in, F_rows_in.binds (ps := ["book", "leaf"]) fun _ _ _ _ _ _ us hl => match us, hl with | [_, _], _ => rfl, PySem.W.mg_of X G a_rows_in⟩
  have F_plain_price := fun_mk (st := s_plain_price) l_plain_price c_plain_price k_plain_price
  have D_plain_price : Df K mg "plain_price" s_plain_price ["book", "leaf"] _ _ := ⟨F_plain_price, F_plain_price.binds (ps := ["book", "leaf"]) fun _ _ _ _ _ _ us hl => match us, hl with | [_, _], _ => rfl, PySem.W.mg_of X G a_plain_price⟩
  have F_price_of : FunD K "price_of" "price_of" (defArgs s_price_of) (defBody s_price_of) (defScope s_price_of) [] [(("over" : Str), V.int 2)] f_price_of _ := ⟨⟨_, _, _, _, _, _, _, _, _, _, rfl, l_price_of, c_price_of, .inl ⟨rfl, rfl⟩, .inr ⟨_, rfl, fun q hq => by
    have e : q = (("over" : Str), V.int 2) := by simpa using hq
    subst e
    exact ⟨_, kw_price_of_over, ⟨_, rfl⟩⟩⟩⟩, k_price_of⟩
  have D_price_of : DfK K mg "price_of" s_price_of ["book", "choice", "over"] [(("over" : Str), V.int 2)] [V.int 2] _ _ := ⟨F_price_of, PySem.W.mg_of X G a_price_of, k_price_of, F_price_of.binds0 (ps := ["book", "choice", "over"]) 2 (by simp) rfl fun _ _ _ _ _ _ us ks hu hk => match us, ks, hu, hk with | [_, _], [_], _, _ => ⟨_, _, _, _, _, _, rfl, rfl, rfl⟩, by
    obtain ⟨mv, h⟩ := F_price_of.kbinds0 (ps := ["book", "choice", "over"]) 2 ["over"] [] (fun us _ ws => us ++ ws) (by simp) (by simp) (fun r1 _ r3 => r1.append r3) (fun _ _ _ _ _ _ us mv ws hu hm hw => match us, mv, ws, hu, hm, hw with | [_, _], [], [_], _, _, _ => rfl)
    exact ⟨_, h⟩⟩
  have F_Book___init__ := fun_mk (st := s_Book___init__) l_Book___init__ c_Book___init__ k_Book___init__
  have D_Book___init__ : DfM K C_Book "__init__" "Book.__init__" s_Book___init__ ["self"] _ _ := ⟨F_Book___init__, F_Book___init__.binds (ps := ["self"]) fun _ _ _ _ _ _ us hl => match us, hl with | [_], _ => rfl, ⟨a_Book___init__, i_Book___init__, k_Book___init__⟩⟩
  have F_Book_named := fun_mk (st := s_Book_named) l_Book_named c_Book_named k_Book_named
  have D_Book_named : DfM K C_Book "named" "Book.named" s_Book_named ["self", "content"] _ _ := ⟨F_Book_named, F_Book_named.binds (ps := ["self", "content"]) fun _ _ _ _ _ _ us hl => match us, hl with | [_, _], _ => rfl, ⟨a_Book_named, i_Book_named, k_Book_named⟩⟩
  have F_Book_thing := fun_mk (st := s_Book_thing) l_Book_thing c_Book_thing k_Book_thing
  have D_Book_thing : DfM K C_Book "thing" "Book.thing" s_Book_thing ["self", "name"] _ _ := ⟨F_Book_thing, F_Book_thing.binds (ps := ["self", "name"]) fun _ _ _ _ _ _ us hl => match us, hl with | [_, _], _ => rfl, ⟨a_Book_thing, i_Book_thing, k_Book_thing⟩⟩
  have F_Book_kind := fun_mk (st := s_Book_kind) l_Book_kind c_Book_kind k_Book_kind
  have D_Book_kind : DfM K C_Book "kind" "Book.kind" s_Book_kind ["self", "name"] _ _ := ⟨F_Book_kind, F_Book_kind.binds (ps := ["self", "name"]) fun _ _ _ _ _ _ us hl => match us, hl with | [_, _], _ => rfl, ⟨a_Book_kind, i_Book_kind, k_Book_kind⟩⟩
  have F_is_name := fun_mk (st := s_is_name) l_is_name c_is_name k_is_name
  have D_is_name : Df K mg "is_name" s_is_name ["book", "thing"] _ _ := ⟨F_is_name, F_is_name.binds (ps := ["book", "thing"]) fun _ _ _ _ _ _ us hl => match us, hl with | [_, _], _ => rfl, PySem.W.mg_of X G a_is_name⟩
  have F_is_kind := fun_mk (st := s_is_kind) l_is_kind c_is_kind k_is_kind
  have D_is_kind : Df K mg "is_kind" s_is_kind ["book", "thing", "kind"] _ _ := ⟨F_is_kind, F_is_kind.binds (ps := ["book", "thing", "kind"]) fun _ _ _ _ _ _ us hl => match us, hl with | [_, _, _], _ => rfl, PySem.W.mg_of X G a_is_kind⟩
  have F_is_entry := fun_mk (st := s_is_entry) l_is_entry c_is_entry k_is_entry
  have D_is_entry : Df K mg "is_entry" s_is_entry ["book", "thing"] _ _ := ⟨F_is_entry, F_is_entry.binds (ps := ["book", "thing"]) fun _ _ _ _ _ _ us hl => match us, hl with | [_, _], _ => rfl, PySem.W.mg_of X G a_is_entry⟩
  have F_is_tree := fun_mk (st := s_is_tree) l_is_tree c_is_tree k_is_tree
  have D_is_tree : Df K mg "is_tree" s_is_tree ["book", "entries"] _ _ := ⟨F_is_tree, F_is_tree.binds (ps := ["book", "entries"]) fun _ _ _ _ _ _ us hl => match us, hl with | [_, _], _ => rfl, PySem.W.mg_of X G a_is_tree⟩
  have F_depth_of := fun_mk (st := s_depth_of) l_depth_of c_depth_of k_depth_of
  have D_depth_of : Df K mg "depth_of" s_depth_of ["book", "content"] _ _ := ⟨F_depth_of, F_depth_of.binds (ps := ["book", "content"]) fun _ _ _ _ _ _ us hl => match us, hl with | [_, _], _ => rfl, PySem.W.mg_of X G a_depth_of⟩
  have F_is_version := fun_mk (st := s_is_version) l_is_version c_is_version k_is_version
  have D_is_version : Df K mg "is_version" s_is_version ["book", "content"] _ _ := ⟨F_is_version, F_is_version.binds (ps := ["book", "content"]) fun _ _ _ _ _ _ us hl => match us, hl with | [_, _], _ => rfl, PySem.W.mg_of X G a_is_version⟩
  have F_is_content := fun_mk (st := s_is_content) l_is_content c_is_content k_is_content
  have D_is_content : Df K mg "is_content" s_is_content ["book", "thing"] _ _ := ⟨F_is_content, F_is_content.binds (ps := ["book", "thing"]) fun _ _ _ _ _ _ us hl => match us, hl with | [_, _], _ => rfl, PySem.W.mg_of X G a_is_content⟩
  have F_row_price := fun_mk (st := s_row_price) l_row_price c_row_price k_row_price
  have D_row_price : Df K mg "row_price" s_row_price ["book", "row"] _ _ := ⟨F_row_price, F_row_price.binds (ps := ["book", "row"]) fun _ _ _ _ _ _ us hl => match us, hl with | [_, _], _ => rfl, PySem.W.mg_of X G a_row_price⟩
  have F_law_deck := fun_mk (st := s_law_deck) l_law_deck c_law_deck k_law_deck
  have D_law_deck : Df K mg "_law_deck" s_law_deck ["_law_script"] _ _ := ⟨F_law_deck, F_law_deck.binds (ps := ["_law_script"]) fun _ _ _ _ _ _ us hl => match us, hl with | [_], _ => rfl, PySem.W.mg_of X G a_law_deck⟩
  have F_law_mixed := fun_mk (st := s_law_mixed) l_law_mixed c_law_mixed k_law_mixed
  have D_law_mixed : Df K mg "_law_mixed" s_law_mixed ["_law_cell", "_law_turn"] _ _ := ⟨F_law_mixed, F_law_mixed.binds (ps := ["_law_cell", "_law_turn"]) fun _ _ _ _ _ _ us hl => match us, hl with | [_, _], _ => rfl, PySem.W.mg_of X G a_law_mixed⟩
  have F_law_draw := fun_mk (st := s_law_draw) l_law_draw c_law_draw k_law_draw
  have D_law_draw : Df K mg "_law_draw" s_law_draw ["_law_deck_here", "_law_many"] _ _ := ⟨F_law_draw, F_law_draw.binds (ps := ["_law_deck_here", "_law_many"]) fun _ _ _ _ _ _ us hl => match us, hl with | [_, _], _ => rfl, PySem.W.mg_of X G a_law_draw⟩
  have F_law_text := fun_mk (st := s_law_text) l_law_text c_law_text k_law_text
  have D_law_text : Df K mg "_law_text" s_law_text ["_law_deck_here", "_law_size"] _ _ := ⟨F_law_text, F_law_text.binds (ps := ["_law_deck_here", "_law_size"]) fun _ _ _ _ _ _ us hl => match us, hl with | [_, _], _ => rfl, PySem.W.mg_of X G a_law_text⟩
  have F_law_label := fun_mk (st := s_law_label) l_law_label c_law_label k_law_label
  have D_law_label : Df K mg "_law_label" s_law_label ["_law_deck_here"] _ _ := ⟨F_law_label, F_law_label.binds (ps := ["_law_deck_here"]) fun _ _ _ _ _ _ us hl => match us, hl with | [_], _ => rfl, PySem.W.mg_of X G a_law_label⟩
  have F_law_give := fun_mk (st := s_law_give) l_law_give c_law_give k_law_give
  have D_law_give : Df K mg "_law_give" s_law_give ["_law_things", "_law_content"] _ _ := ⟨F_law_give, F_law_give.binds (ps := ["_law_things", "_law_content"]) fun _ _ _ _ _ _ us hl => match us, hl with | [_, _], _ => rfl, PySem.W.mg_of X G a_law_give⟩
  have F_law_rows := fun_mk (st := s_law_rows) l_law_rows c_law_rows k_law_rows
  have D_law_rows : Df K mg "_law_rows" s_law_rows ["_law_deck_here", "_law_elder"] _ _ := ⟨F_law_rows, F_law_rows.binds (ps := ["_law_deck_here", "_law_elder"]) fun _ _ _ _ _ _ us hl => match us, hl with | [_, _], _ => rfl, PySem.W.mg_of X G a_law_rows⟩
  have F_law_entries := fun_mk (st := s_law_entries) l_law_entries c_law_entries k_law_entries
  have D_law_entries : Df K mg "_law_entries" s_law_entries ["_law_deck_here", "_law_lows"] _ _ := ⟨F_law_entries, F_law_entries.binds (ps := ["_law_deck_here", "_law_lows"]) fun _ _ _ _ _ _ us hl => match us, hl with | [_, _], _ => rfl, PySem.W.mg_of X G a_law_entries⟩
  have F_law_book := fun_mk (st := s_law_book) l_law_book c_law_book k_law_book
  have D_law_book : Df K mg "_law_book" s_law_book ["_law_things"] _ _ := ⟨F_law_book, F_law_book.binds (ps := ["_law_things"]) fun _ _ _ _ _ _ us hl => match us, hl with | [_], _ => rfl, PySem.W.mg_of X G a_law_book⟩
  have F_law_int := fun_mk (st := s_law_int) l_law_int c_law_int k_law_int
  have D_law_int : Df K mg "_law_int" s_law_int ["_law_thing"] _ _ := ⟨F_law_int, F_law_int.binds (ps := ["_law_thing"]) fun _ _ _ _ _ _ us hl => match us, hl with | [_], _ => rfl, PySem.W.mg_of X G a_law_int⟩
  have F_law_same := fun_mk (st := s_law_same) l_law_same c_law_same k_law_same
  have D_law_same : Df K mg "_law_same" s_law_same ["_law_found", "_law_due"] _ _ := ⟨F_law_same, F_law_same.binds (ps := ["_law_found", "_law_due"]) fun _ _ _ _ _ _ us hl => match us, hl with | [_, _], _ => rfl, PySem.W.mg_of X G a_law_same⟩
  have F_law_script_price := fun_mk (st := s_law_script_price) l_law_script_price c_law_script_price k_law_script_price
  have D_law_script_price : Df K mg "_law_script_price" s_law_script_price ["_law_script"] _ _ := ⟨F_law_script_price, F_law_script_price.binds (ps := ["_law_script"]) fun _ _ _ _ _ _ us hl => match us, hl with | [_], _ => rfl, PySem.W.mg_of X G a_law_script_price⟩
  have F_law_leaves := fun_mk (st := s_law_leaves) l_law_leaves c_law_leaves k_law_leaves
  have D_law_leaves : Df K mg "_law_leaves" s_law_leaves ["_law_deck_here", "_law_most"] _ _ := ⟨F_law_leaves, F_law_leaves.binds (ps := ["_law_deck_here", "_law_most"]) fun _ _ _ _ _ _ us hl => match us, hl with | [_, _], _ => rfl, PySem.W.mg_of X G a_law_leaves⟩
  have F_law_choice_price := fun_mk (st := s_law_choice_price) l_law_choice_price c_law_choice_price k_law_choice_price
  have D_law_choice_price : Df K mg "_law_choice_price" s_law_choice_price ["_law_things", "_law_choice", "_law_extra"] _ _ := ⟨F_law_choice_price, F_law_choice_price.binds (ps := ["_law_things", "_law_choice", "_law_extra"]) fun _ _ _ _ _ _ us hl => match us, hl with | [_, _, _], _ => rfl, PySem.W.mg_of X G a_law_choice_price⟩
  have F_law_parted := fun_mk (st := s_law_parted) l_law_parted c_law_parted k_law_parted
  have D_law_parted : Df K mg "_law_parted" s_law_parted ["_law_deck_here", "_law_things"] _ _ := ⟨F_law_parted, F_law_parted.binds (ps := ["_law_deck_here", "_law_things"]) fun _ _ _ _ _ _ us hl => match us, hl with | [_, _], _ => rfl, PySem.W.mg_of X G a_law_parted⟩
  have F_law_own_script := fun_mk (st := s_law_own_script) l_law_own_script c_law_own_script k_law_own_script
  have D_law_own_script : Df K mg "_law_own_script" s_law_own_script ["_law_deck_here", "_law_base", "_law_rows_here"] _ _ := ⟨F_law_own_script, F_law_own_script.binds (ps := ["_law_deck_here", "_law_base", "_law_rows_here"]) fun _ _ _ _ _ _ us hl => match us, hl with | [_, _, _], _ => rfl, PySem.W.mg_of X G a_law_own_script⟩
  have F_law_own_choice := fun_mk (st := s_law_own_choice) l_law_own_choice c_law_own_choice k_law_own_choice
  have D_law_own_choice : Df K mg "_law_own_choice" s_law_own_choice ["_law_deck_here", "_law_things", "_law_leaves_here", "_law_bases"] _ _ := ⟨F_law_own_choice, F_law_own_choice.binds (ps := ["_law_deck_here", "_law_things", "_law_leaves_here", "_law_bases"]) fun _ _ _ _ _ _ us hl => match us, hl with | [_, _, _, _], _ => rfl, PySem.W.mg_of X G a_law_own_choice⟩
  have F_law := fun_mk (st := s_law) l_law c_law k_law
  have D_law : Df K mg "law" s_law ["_law_script"] _ _ := ⟨F_law, F_law.binds (ps := ["_law_script"]) fun _ _ _ _ _ _ us hl => match us, hl with | [_], _ => rfl, PySem.W.mg_of X G a_law⟩
  have K_Book : Kl K mg "Book" C_Book ["contents", "depths", "given"] := ⟨PySem.W.mg_of X G kga_Book, ⟨kpg_Book, khd_Book, kpo_Book, ksa_Book⟩, fun y hy => by
    rcases (by simpa using hy : y = "contents" ∨ y = "depths" ∨ y = "given") with rfl | rfl | rfl
    · exact kna_Book_contents
    · exact kna_Book_depths
    · exact kna_Book_given⟩
  have M_Book : Mk K C_Book f_Book___init__ := ⟨kmk_Book, a_Book___init__, i_Book___init__, kkc_Book⟩
  have T : Txt K mg := ⟨PySem.W.mg_none_of X G z_len, PySem.W.mg_none_of X G z_list, PySem.W.mg_none_of X G z_isinstance, PySem.W.mg_none_of X G z_int, PySem.W.mg_none_of X G z_bool, PySem.W.mg_none_of X G z_str, PySem.W.mg_none_of X G z_tuple, PySem.W.mg_none_of X G z_dict, PySem.W.mg_none_of X G z_range, PySem.W.mg_none_of X G z_all, PySem.W.mg_none_of X G z_min, PySem.W.mg_none_of X G z_max, PySem.W.mg_none_of X G z_sorted, ⟨_, PySem.W.mg_of X G y_SIGNS⟩, ⟨_, PySem.W.mg_of X G y_LETTERS⟩, ⟨_, PySem.W.mg_of X G y_MOST⟩, ⟨_, PySem.W.mg_of X G y_DEEP⟩, ⟨_, PySem.W.mg_of X G y_TAKE⟩, ⟨_, PySem.W.mg_of X G y_PUT⟩, ⟨_, PySem.W.mg_of X G y_ROWS⟩, ⟨_, PySem.W.mg_of X G y_OVER⟩, ⟨_, PySem.W.mg_of X G y_PACK⟩⟩
  exact ⟨PySem.W.fnOf "law" "law" (defArgs s_law) (defBody s_law) (defScope s_law) .none kV_law dc_law pm_law an_law cd_law ct_law, fun s v => .of_eq rfl, fun base _ _ => ok_law T D_is_int D_is_text D_is_label D_rise D_are_ints D_rising_ints D_is_pair D_are_rows D_made_by D_is_script D_price D_rows_in D_plain_price D_price_of D_Book___init__ D_Book_named D_Book_thing D_Book_kind D_is_name D_is_kind D_is_entry D_is_tree D_depth_of D_is_version D_is_content D_row_price D_law_deck D_law_mixed D_law_draw D_law_text D_law_label D_law_give D_law_rows D_law_entries D_law_book D_law_int D_law_same D_law_script_price D_law_leaves D_law_choice_price D_law_parted D_law_own_script D_law_own_choice D_law K_Book M_Book⟩
end FW
open PySem PySem.W PyProof.Rows
set_option maxRecDepth 100000 in
set_option maxHeartbeats 0 in
theorem PySem.Challenge.cw_fewasks_k44_prices_holds : PySem.Challenge.rw_fewasks_k44_prices.Holds := by
  w_on; o_law; k_head; (case hw => w_witness2)
  k_fill
  refine L2.walk_of (l := PySem.Challenge.rw_fewasks_k44_prices) (n := 63) (k := 10) (x := "_law_script") (CX := fun _ => L2.CX0) (sp := fun w => FW.spLaw _) rfl (by decide) rfl ⟨rfl, by decide, by decide⟩ (fun w h Y => PySem.W.kIn_of Y) ?F (fun _ _ a ns hl _ hS => ⟨a, ns, rfl, hS, hl, fun _ => rfl⟩) (fun _ _ _ _ _ h => h)
  case F =>
    intro w mg fa h KX G hmg
    refine' FW.all_mk KX G hmg ?a_is_int ?l_is_int ?c_is_int ?k_is_int ?dl_is_int ?a_is_text ?l_is_text ?c_is_text ?k_is_text ?dl_is_text ?a_is_label ?l_is_label ?c_is_label ?k_is_label ?a_rise ?l_rise ?c_rise ?k_rise ?a_are_ints ?l_are_ints ?c_are_ints ?k_are_ints ?a_rising_ints ?l_rising_ints ?c_rising_ints ?k_rising_ints ?a_is_pair ?l_is_pair ?c_is_pair ?k_is_pair ?a_are_rows ?l_are_rows ?c_are_rows ?k_are_rows ?a_made_by ?l_made_by ?c_made_by ?k_made_by ?a_is_script ?l_is_script ?c_is_script ?k_is_script ?a_price ?l_price ?c_price ?k_price ?kw_price_take ?kw_price_put ?a_rows_in ?l_rows_in ?c_rows_in ?k_rows_in ?a_plain_price ?l_plain_price ?c_plain_price ?k_plain_price ?a_price_of ?l_price_of ?c_price_of ?k_price_of ?kw_price_of_over ?a_Book___init__ ?i_Book___init__ ?l_Book___init__ ?c_Book___init__ ?k_Book___init__ ?a_Book_named ?i_Book_named ?l_Book_named ?c_Book_named ?k_Book_named ?a_Book_thing ?i_Book_thing ?l_Book_thing ?c_Book_thing ?k_Book_thing ?a_Book_kind ?i_Book_kind ?l_Book_kind ?c_Book_kind ?k_Book_kind ?a_is_name ?l_is_name ?c_is_name ?k_is_name ?a_is_kind ?l_is_kind ?c_is_kind ?k_is_kind ?a_is_entry ?l_is_entry ?c_is_entry ?k_is_entry ?a_is_tree ?l_is_tree ?c_is_tree ?k_is_tree ?a_depth_of ?l_depth_of ?c_depth_of ?k_depth_of ?a_is_version ?l_is_version ?c_is_version ?k_is_version ?a_is_content ?l_is_content ?c_is_content ?k_is_content ?a_row_price ?l_row_price ?c_row_price ?k_row_price ?a_law_deck ?l_law_deck ?c_law_deck ?k_law_deck ?a_law_mixed ?l_law_mixed ?c_law_mixed ?k_law_mixed ?a_law_draw ?l_law_draw ?c_law_draw ?k_law_draw ?a_law_text ?l_law_text ?c_law_text ?k_law_text ?a_law_label ?l_law_label ?c_law_label ?k_law_label ?a_law_give ?l_law_give ?c_law_give ?k_law_give ?a_law_rows ?l_law_rows ?c_law_rows ?k_law_rows ?a_law_entries ?l_law_entries ?c_law_entries ?k_law_entries ?a_law_book ?l_law_book ?c_law_book ?k_law_book ?a_law_int ?l_law_int ?c_law_int ?k_law_int ?a_law_same ?l_law_same ?c_law_same ?k_law_same ?a_law_script_price ?l_law_script_price ?c_law_script_price ?k_law_script_price ?a_law_leaves ?l_law_leaves ?c_law_leaves ?k_law_leaves ?a_law_choice_price ?l_law_choice_price ?c_law_choice_price ?k_law_choice_price ?a_law_parted ?l_law_parted ?c_law_parted ?k_law_parted ?a_law_own_script ?l_law_own_script ?c_law_own_script ?k_law_own_script ?a_law_own_choice ?l_law_own_choice ?c_law_own_choice ?k_law_own_choice ?a_law ?l_law ?c_law ?k_law ?kga_Book ?kpg_Book ?khd_Book ?kpo_Book ?ksa_Book ?kmk_Book ?kkc_Book ?kna_Book_contents ?kna_Book_depths ?kna_Book_given ?z_len ?z_list ?z_isinstance ?z_int ?z_bool ?z_str ?z_tuple ?z_dict ?z_range ?z_all ?z_min ?z_max ?z_sorted ?y_SIGNS ?y_LETTERS ?y_MOST ?y_DEEP ?y_TAKE ?y_PUT ?y_ROWS ?y_OVER ?y_PACK
    (case kga_Book => k_is); (case a_Book___init__ => k_is); (case a_Book_named => k_is); (case a_Book_thing => k_is); (case a_Book_kind => k_is); (case a_is_int => k_is); (case l_is_int => k_is); (case c_is_int => k_is); (case k_is_int => k_is); (case dl_is_int => k_is); (case a_is_text => k_is); (case l_is_text => k_is); (case c_is_text => k_is); (case k_is_text => k_is); (case dl_is_text => k_is); (case a_is_label => k_is); (case l_is_label => k_is); (case c_is_label => k_is); (case k_is_label => k_is); (case a_rise => k_is); (case l_rise => k_is); (case c_rise => k_is); (case k_rise => k_is); (case a_are_ints => k_is); (case l_are_ints => k_is); (case c_are_ints => k_is); (case k_are_ints => k_is); (case a_rising_ints => k_is); (case l_rising_ints => k_is); (case c_rising_ints => k_is); (case k_rising_ints => k_is); (case a_is_pair => k_is); (case l_is_pair => k_is); (case c_is_pair => k_is); (case k_is_pair => k_is); (case a_are_rows => k_is); (case l_are_rows => k_is); (case c_are_rows => k_is); (case k_are_rows => k_is); (case a_made_by => k_is); (case l_made_by => k_is); (case c_made_by => k_is); (case k_made_by => k_is); (case a_is_script => k_is); (case l_is_script => k_is); (case c_is_script => k_is); (case k_is_script => k_is); (case a_price => k_is); (case l_price => k_is); (case c_price => k_is); (case k_price => k_is); (case kw_price_take => k_is); (case kw_price_put => k_is); (case a_rows_in => k_is); (case l_rows_in => k_is); (case c_rows_in => k_is); (case k_rows_in => k_is); (case a_plain_price => k_is); (case l_plain_price => k_is); (case c_plain_price => k_is); (case k_plain_price => k_is); (case a_price_of => k_is); (case l_price_of => k_is); (case c_price_of => k_is); (case k_price_of => k_is); (case kw_price_of_over => k_is); (case i_Book___init__ => k_is); (case l_Book___init__ => k_is); (case c_Book___init__ => k_is); (case k_Book___init__ => k_is); (case i_Book_named => k_is); (case l_Book_named => k_is); (case c_Book_named => k_is); (case k_Book_named => k_is); (case i_Book_thing => k_is); (case l_Book_thing => k_is); (case c_Book_thing => k_is); (case k_Book_thing => k_is); (case i_Book_kind => k_is); (case l_Book_kind => k_is); (case c_Book_kind => k_is); (case k_Book_kind => k_is); (case a_is_name => k_is); (case l_is_name => k_is); (case c_is_name => k_is); (case k_is_name => k_is); (case a_is_kind => k_is); (case l_is_kind => k_is); (case c_is_kind => k_is); (case k_is_kind => k_is); (case a_is_entry => k_is); (case l_is_entry => k_is); (case c_is_entry => k_is); (case k_is_entry => k_is); (case a_is_tree => k_is); (case l_is_tree => k_is); (case c_is_tree => k_is); (case k_is_tree => k_is); (case a_depth_of => k_is); (case l_depth_of => k_is); (case c_depth_of => k_is); (case k_depth_of => k_is); (case a_is_version => k_is); (case l_is_version => k_is); (case c_is_version => k_is); (case k_is_version => k_is); (case a_is_content => k_is); (case l_is_content => k_is); (case c_is_content => k_is); (case k_is_content => k_is); (case a_row_price => k_is); (case l_row_price => k_is); (case c_row_price => k_is); (case k_row_price => k_is); (case a_law_deck => k_is); (case l_law_deck => k_is); (case c_law_deck => k_is); (case k_law_deck => k_is); (case a_law_mixed => k_is); (case l_law_mixed => k_is); (case c_law_mixed => k_is); (case k_law_mixed => k_is); (case a_law_draw => k_is); (case l_law_draw => k_is); (case c_law_draw => k_is); (case k_law_draw => k_is); (case a_law_text => k_is); (case l_law_text => k_is); (case c_law_text => k_is); (case k_law_text => k_is); (case a_law_label => k_is); (case l_law_label => k_is); (case c_law_label => k_is); (case k_law_label => k_is); (case a_law_give => k_is); (case l_law_give => k_is); (case c_law_give => k_is); (case k_law_give => k_is); (case a_law_rows => k_is); (case l_law_rows => k_is); (case c_law_rows => k_is); (case k_law_rows => k_is); (case a_law_entries => k_is); (case l_law_entries => k_is); (case c_law_entries => k_is); (case k_law_entries => k_is); (case a_law_book => k_is); (case l_law_book => k_is); (case c_law_book => k_is); (case k_law_book => k_is); (case a_law_int => k_is); (case l_law_int => k_is); (case c_law_int => k_is); (case k_law_int => k_is); (case a_law_same => k_is); (case l_law_same => k_is); (case c_law_same => k_is); (case k_law_same => k_is); (case a_law_script_price => k_is); (case l_law_script_price => k_is); (case c_law_script_price => k_is); (case k_law_script_price => k_is); (case a_law_leaves => k_is); (case l_law_leaves => k_is); (case c_law_leaves => k_is); (case k_law_leaves => k_is); (case a_law_choice_price => k_is); (case l_law_choice_price => k_is); (case c_law_choice_price => k_is); (case k_law_choice_price => k_is); (case a_law_parted => k_is); (case l_law_parted => k_is); (case c_law_parted => k_is); (case k_law_parted => k_is); (case a_law_own_script => k_is); (case l_law_own_script => k_is); (case c_law_own_script => k_is); (case k_law_own_script => k_is); (case a_law_own_choice => k_is); (case l_law_own_choice => k_is); (case c_law_own_choice => k_is); (case k_law_own_choice => k_is); (case a_law => k_is); (case l_law => k_is); (case c_law => k_is); (case k_law => k_is); (case kpg_Book => k_is); (case khd_Book => k_is); (case kpo_Book => k_is); (case ksa_Book => k_is); (case kmk_Book => k_is); (case kkc_Book => k_is); (case kna_Book_contents => k_is); (case kna_Book_depths => k_is); (case kna_Book_given => k_is); (case z_len => k_is); (case z_list => k_is); (case z_isinstance => k_is); (case z_int => k_is); (case z_bool => k_is); (case z_str => k_is); (case z_tuple => k_is); (case z_dict => k_is); (case z_range => k_is); (case z_all => k_is); (case z_min => k_is); (case z_max => k_is); (case z_sorted => k_is); (case y_SIGNS => k_is); (case y_LETTERS => k_is); (case y_MOST => k_is); (case y_DEEP => k_is); (case y_TAKE => k_is); (case y_PUT => k_is); (case y_ROWS => k_is); (case y_OVER => k_is); (case y_PACK => k_is)

